import PyProof.Rows.All
import Wide.All
import OpenK.AllK
import Wide.FinOn
import HandS.ForMost
import HandS.Evl
import HandS.IsInst
import HandS.Defaults
import HandS.HeadHook2
import HandS.ExcInit
import HandS.Walk
import HandS.ForExc
import HandS.Style
import HandS.SortKw
import HandS.Strs
import HandS.Wide
import KE.SortData
import HandS.SetBool
import KE.KExcIs
import HandS.ExcField
import HandS.ExcIs
import HandS.HotCalls
import HandS.ExcInitHot
import HandS.SetFor
import KE.KStateDown
import Lean
import HandS.HeadHook4
import HandS.Head0
import HandS.Head1
import HandS.Head2
import HandS.HeadEnd
import PySem.Challenge.RW_holdtogether_k43_numbers_or_a_ring
import HandS.Set
import HandS.SetKeys
import HandS.Conv
import KE.KDictSum
import KE.KDictList
import HandS.DictComp
import PySem.PyData
import KE.SortLaws
import HandS.Deep
import HandS.Text
import HandS.NoneIn
import KE.KRevSl
import KE.DataEq
import HandS.TupLe
import HandS.ExcOwn
import HandS.WordsExc
set_option Elab.async false
set_option linter.all false
set_option maxRecDepth 100000
set_option maxHeartbeats 4000000
namespace Hx
open PySem PySem.Spec PyProof.Rows L2
abbrev Ex := Evl.Ex
/-! ### what a called def gives -/
structure Cal (P : Program) (w : World) (K : PySem.W.Frag) (mg : Str → Option Value) (base : Heap) (CX : CXT) (k : Nat) (x : Str) (ps : List Str) (sp : Sp) : Prop where
  g : mg x = some (.ref (He.ga K x))
  ex : ∃ fd, PySem.W.keepIn K (.ref (He.ga K x)) = true ∧ FnOk P w K mg base CX k (He.ga K x) fd ps sp ∧ Binds K fd ps []
section
variable {X : Cx}
theorem pe_cal {CX : CXT} {k : Nat} {x : Str} {ps : List Str} {sp : Sp} {E : XK} {p pos : Pos} {e : Expr} {es : List Expr} {t : TA} (C : Cal X.prog X.w X.K X.mg X.base CX k x ps sp) (hr : Room k X.A) (hx : Passes CX X E)
    (ha : PA X (e :: es) t) (hg : Gl X x := by rfl) (hdb : (x == ("__debug__" : Str)) = false := by decide) (he : starEach (e :: es) X.env = (false, eval e X.env) :: starEach es X.env := by rfl) (hpl : (backTo pos (starEach es X.env)).any (·.1) = false := by rfl) :
    PE X (.Call (.Name x p) (e :: es) [] pos) (tCall sp [] E t) := by
  obtain ⟨fd, kp, F, b⟩ := C.ex
  exact pe_call F hr hg C.g kp b .nil hx ha hdb he hpl
end
/-! ### heaps -/
theorem ex_dp {K : PySem.W.Frag} {H H' : Hp} (e : Ex H H') : ∀ (d : PyData) (v : V), Dp K H v d → Dp K H' v d := by
  intro d
  refine PyData.rec (motive_1 := fun d => ∀ v, Dp K H v d → Dp K H' v d) (motive_2 := fun ds => ∀ vs, DpAll K H vs ds → DpAll K H' vs ds) (motive_3 := fun _ => True) (motive_4 := fun _ => True) ?_ ?_ ?_ ?_ ?_ ?_ ?_ ?_ ?_ ?_ ?_ ?_ d
  · intro v h; cases h; exact .non
  · intro b v h; cases h; exact .bl b
  · intro i v h; cases h; exact .int i
  · intro x v h; cases h; exact .str x
  · intro xs ih v h
    cases h with
    | lst hs ha => exact .lst (Evl.ex_l e hs) (ih _ ha)
  · intro xs ih v h
    cases h with
    | tup hs ha => exact .tup (Evl.ex_t e hs) (ih _ ha)
  · intro kvs _ v h; cases h
  · intro vs h; cases h; exact .nil
  · intro d ds ih ihs vs h
    cases h with
    | cons h1 h2 => exact .cons (ih _ h1) (ihs _ h2)
  · trivial
  · intros; trivial
  · intros; trivial
theorem ex_dpa {K : PySem.W.Frag} {H H' : Hp} (e : Ex H H') : ∀ {ds : List PyData} {vs : List V}, DpAll K H vs ds → DpAll K H' vs ds
  | [], _, h => by cases h; exact .nil
  | d :: ds, _, h => by
    cases h with
    | cons h1 h2 => exact .cons (ex_dp e d _ h1) (ex_dpa e h2)
section
variable {K : PySem.W.Frag} {H H' : Hp}
theorem dpa_len : ∀ {ds : List PyData} {vs : List V}, DpAll K H vs ds → vs.length = ds.length
  | [], _, h => by cases h; rfl
  | d :: ds, _, h => by
    cases h with
    | cons h1 h2 => exact congrArg Nat.succ (dpa_len h2)
theorem dpa_get : ∀ {ds : List PyData} {vs : List V}, DpAll K H vs ds → ∀ {i : Nat} {v : V}, vs[i]? = some v → ∃ d, ds[i]? = some d ∧ Dp K H v d
  | [], _, h, i, v, e => by cases h; simp at e
  | d :: ds, _, h, i, v, e => by
    cases h with
    | cons h1 h2 =>
      cases i with
      | zero =>
        have e' := Option.some.inj (show some _ = some v from by simpa using e)
        subst e'
        exact ⟨d, by simp, h1⟩
      | succ i =>
        obtain ⟨d', a, b⟩ := dpa_get h2 (i := i) (v := v) (by simpa using e)
        exact ⟨d', by simpa using a, b⟩
theorem dpa_get' : ∀ {ds : List PyData} {vs : List V}, DpAll K H vs ds → ∀ {i : Nat} {d : PyData}, ds[i]? = some d → ∃ v, vs[i]? = some v ∧ Dp K H v d := by
  intro ds vs h i d e
  have hl := dpa_len h
  have hi : i < ds.length := (List.getElem?_eq_some_iff.mp e).1
  obtain ⟨d', a, b⟩ := dpa_get h (i := i) (v := vs[i]'(by omega)) (by simp)
  rw [e] at a; cases a
  exact ⟨_, by simp, b⟩
theorem dpa_app : ∀ {ds es : List PyData} {vs us : List V}, DpAll K H vs ds → DpAll K H us es → DpAll K H (vs ++ us) (ds ++ es)
  | [], _, _, _, h, k => by cases h; exact k
  | d :: ds, _, _, _, h, k => by
    cases h with
    | cons h1 h2 => exact .cons h1 (dpa_app h2 k)
theorem dpa_of {ds : List PyData} {vs : List V} (hl : vs.length = ds.length) (h : ∀ (i : Nat) (v : V) (d : PyData), vs[i]? = some v → ds[i]? = some d → Dp K H v d) : DpAll K H vs ds := by
  induction vs generalizing ds with
  | nil => cases ds with
    | nil => exact .nil
    | cons _ _ => cases hl
  | cons v vs ih => cases ds with
    | nil => cases hl
    | cons d ds => exact .cons (h 0 v d rfl rfl) (ih (Nat.succ.inj hl) fun i v d a b => h (i + 1) v d (by simpa using a) (by simpa using b))
theorem dp_list {v : V} {ds : List PyData} (h : Dp K H v (.list ds)) : ∃ a xs, v = .ref a ∧ SqL K H a xs ∧ DpAll K H xs ds := by
  cases h with
  | lst hs ha => exact ⟨_, _, rfl, hs, ha⟩
theorem dp_tup {v : V} {ds : List PyData} (h : Dp K H v (.tuple ds)) : ∃ a xs, v = .ref a ∧ SqT K H a xs ∧ DpAll K H xs ds := by
  cases h with
  | tup hs ha => exact ⟨_, _, rfl, hs, ha⟩
theorem dpa_ints : ∀ (ns : List Int), DpAll K H (ns.map V.int) (ns.map PyData.int)
  | [] => .nil
  | n :: ns => .cons (.int n) (dpa_ints ns)
theorem dpa_ints' : ∀ {ns : List Int} {vs : List V}, DpAll K H vs (ns.map PyData.int) → vs = ns.map V.int
  | [], _, h => by cases h; rfl
  | n :: ns, _, h => by
    cases h with
    | cons h1 h2 => cases h1; rw [dpa_ints' h2]; rfl
end
/-! ### types -/
def tyN : PyData → String
  | .none => "NoneType"
  | .bool _ => "bool"
  | .int _ => "int"
  | .str _ => "str"
  | .list _ => "list"
  | .tuple _ => "tuple"
  | .dict _ => "dict"
theorem ty_l {K : PySem.W.Frag} {H : Hp} {a : Addr} {xs : List V} (h : SqL K H a xs) : TyX K H (.ref a) (.type "list") := by
  rcases h with (h | ⟨o, h⟩) | ⟨o, its, n, hk, hc, _⟩
  · exact .base (.lst h)
  · exact .base (.frz h)
  · exact .kList hk hc
theorem ty_t {K : PySem.W.Frag} {H : Hp} {a : Addr} {xs : List V} (h : SqT K H a xs) : TyX K H (.ref a) (.type "tuple") := by
  rcases h with (h | ⟨o, h⟩) | ⟨o, its, n, hk, hc, _⟩
  · exact .base (.tup h)
  · exact .fTuple h
  · exact .kTuple hk hc
theorem ty_dp {K : PySem.W.Frag} {H : Hp} {v : V} {d : PyData} (h : Dp K H v d) : TyX K H v (.type (tyN d)) := by
  cases h with
  | non => exact .base .non
  | bl b => exact .base (.bl b)
  | int i => exact .base (.int i)
  | str x => exact .base (.str x)
  | lst hs _ => exact ty_l hs
  | tup hs _ => exact ty_t hs
def isT (T : String) (d : PyData) : Bool := match d with
  | .none => false
  | .bool _ => T == "bool" || T == "int"
  | .int _ => T == "int"
  | .str _ => T == "str"
  | .list _ => T == "list"
  | .tuple _ => T == "tuple"
  | .dict _ => T == "dict"
theorem kit_int (d : PyData) : kitB (tyN d) "int" = some (isT "int" d) := by cases d <;> (dsimp only [tyN, isT]; decide +kernel)
theorem kit_bool (d : PyData) : kitB (tyN d) "bool" = some (isT "bool" d) := by cases d <;> (dsimp only [tyN, isT]; decide +kernel)
theorem kit_str (d : PyData) : kitB (tyN d) "str" = some (isT "str" d) := by cases d <;> (dsimp only [tyN, isT]; decide +kernel)
theorem kit_list (d : PyData) : kitB (tyN d) "list" = some (isT "list" d) := by cases d <;> (dsimp only [tyN, isT]; decide +kernel)
theorem kit_tup (d : PyData) : kitB (tyN d) "tuple" = some (isT "tuple" d) := by cases d <;> (dsimp only [tyN, isT]; decide +kernel)
theorem kit_dict (d : PyData) : kitB (tyN d) "dict" = some (isT "dict" d) := by cases d <;> (dsimp only [tyN, isT]; decide +kernel)
/-- isinstance(x, T) of a datum, T a built-in class -/
theorem isi_dp {K : PySem.W.Frag} {H : Hp} {v : V} {d : PyData} {T : String} {Q : VK} (h : Dp K H v d) (k : kitB (tyN d) T = some (isT T d)) (q : Q (.bl (isT T d)) H) : rIsi K [v, .ty T] H Q :=
  ⟨v, .ty T, .type (tyN d), .type T, _, rfl, .ty T, ty_dp h, kit_ty k, q⟩
/-! ### steps: G the part of the heap that stands still, M what may change besides what is new -/
structure Stp (M : Addr → Prop) (G H G' H' : Hp) : Prop where
  hh : ∀ a o, ¬ M a → H a = some o → H' a = some o
  dm : ∀ a, H' a = none → H a = none
  gg : Ex G G'
  gh : Ex G' H'
  fr : ∀ a, H a ≠ none → G a = none → G' a = none
abbrev NoM : Addr → Prop := fun _ => False
section
variable {M M' : Addr → Prop} {G H G' H' G'' H'' : Hp} {p : Addr} {o : HO} {K : PySem.W.Frag}
theorem Stp.refl (e : Ex G H) : Stp M G H G H := ⟨fun _ _ _ h => h, fun _ h => h, Evl.Ex.refl _, e, fun _ _ h => h⟩
theorem Stp.trans (a : Stp M G H G' H') (b : Stp M G' H' G'' H'') : Stp M G H G'' H'' :=
  ⟨fun x u m h => b.hh x u m (a.hh x u m h), fun x h => a.dm x (b.dm x h), a.gg.trans b.gg, b.gh, fun x h n => b.fr x (fun z => h (a.dm x z)) (a.fr x h n)⟩
theorem Stp.imp (a : Stp M G H G' H') (h : ∀ x, M x → M' x) : Stp M' G H G' H' := ⟨fun x u m => a.hh x u fun z => m (h x z), a.dm, a.gg, a.gh, a.fr⟩
theorem Stp.ex (a : Stp NoM G H G' H') : Ex H H' := fun x u h => a.hh x u (fun z => z) h
theorem Stp.unk (a : Stp M G H G' H') (h : H' p = none) : H p = none := a.dm p h
/-- nothing of G is touched -/
theorem Stp.of (e : Ex G H) (h : Ex H H') : Stp M G H G H' := ⟨fun x u _ => h x u, fun x n => Evl.fresh_back h n, Evl.Ex.refl _, e.trans h, fun _ _ n => n⟩
/-- a new object that will not change -/
theorem Stp.new (e : Ex G H) (h : H p = none) : Stp M G H (upd G p o) (upd H p o) := by
  have hg : G p = none := Evl.fresh_back e h
  refine ⟨fun x u _ q => ?_, fun x n => ?_, Evl.Ex.new hg, fun x u q => ?_, fun x q n => ?_⟩
  · rw [upd_ne (ne_of_none q h)]; exact q
  · by_cases hx : x = p
    · rw [hx, upd_same] at n; cases n
    · rw [upd_ne hx] at n; exact n
  · by_cases hx : x = p
    · rw [hx, upd_same] at q ⊢; exact q
    · rw [upd_ne hx] at q ⊢; exact e x u q
  · have hx : x ≠ p := fun z => q (by rw [z]; exact h)
    rw [upd_ne hx]; exact n
/-- a new object that may change -/
theorem Stp.lay (e : Ex G H) (h : H p = none) : Stp M G H G (upd H p o) := Stp.of e (Evl.Ex.new h)
/-- what is new since the start, or may change, changes -/
theorem Stp.mut (a : Stp M G H G' H') (h : H p = none ∨ M p) (g : G' p = none) : Stp M G H G' (upd H' p o) := by
  refine ⟨fun x u m q => ?_, fun x n => ?_, a.gg, fun x u q => ?_, a.fr⟩
  · have hx : x ≠ p := by
      rintro rfl
      rcases h with h | h
      · rw [h] at q; cases q
      · exact m h
    rw [upd_ne hx]; exact a.hh x u m q
  · by_cases hx : x = p
    · rw [hx, upd_same] at n; cases n
    · rw [upd_ne hx] at n; exact a.dm x n
  · have hx : x ≠ p := fun z => by rw [z, g] at q; cases q
    rw [upd_ne hx]; exact a.gh x u q
/-- what is new stands still from now on -/
theorem Stp.fix (a : Stp M G H G' H') (h : H p = none) (e : H' p = some o) : Stp M G H (upd G' p o) H' := by
  refine ⟨a.hh, a.dm, a.gg.trans fun x u q => ?_, fun x u q => ?_, fun x q n => ?_⟩
  · by_cases hx : x = p
    · have := a.gh x u q
      rw [hx, e] at this; rw [hx, upd_same]; exact this
    · rw [upd_ne hx]; exact q
  · by_cases hx : x = p
    · rw [hx, upd_same] at q; rw [hx, e]; exact q
    · rw [upd_ne hx] at q; exact a.gh x u q
  · have hx : x ≠ p := fun z => q (by rw [z]; exact h)
    rw [upd_ne hx]; exact a.fr x q n
theorem Stp.gn (a : Stp M G H G' H') (h : H p ≠ none) (g : G p = none) : G' p = none := a.fr p h g
theorem some_ne {H : Hp} {p : Addr} {o : HO} (h : H p = some o) : H p ≠ none := by rw [h]; exact fun z => nomatch z
end
/-! ### what an expression gives -/
abbrev Good (M : Addr → Prop) (G H : Hp) (R : V → Hp → Prop) (Q : VK) : Prop := ∀ v G2 H2, Stp M G H G2 H2 → R v G2 → Q v H2
/-- the places of a comprehension whose tests hold, each with what was made for it -/
abbrev Sel (R : Nat → V → Hp → Prop) (f : Nat → Bool) (n : Nat) (ys : List V) (G : Hp) : Prop := Paired (fun i y => R i y G) ((List.range n).filter f) ys
theorem sel_mono {R : Nat → V → Hp → Prop} (mono : ∀ i v G G', Ex G G' → R i v G → R i v G') {f : Nat → Bool} {n : Nat} {ys : List V} {G G' : Hp} (e : Ex G G') (h : Sel R f n ys G) : Sel R f n ys G' :=
  Paired.mapP h fun i y r => mono i y G G' e r
theorem paired_app {α β : Type} {F : α → β → Prop} : ∀ {as as' : List α} {bs bs' : List β}, Paired F as bs → Paired F as' bs' → Paired F (as ++ as') (bs ++ bs')
  | _, _, _, _, .nil, h => h
  | _, _, _, _, .cons r t, h => .cons r (paired_app t h)
theorem sel_yes {R : Nat → V → Hp → Prop} {f : Nat → Bool} {n : Nat} {ys : List V} {G : Hp} {y : V} (h : Sel R f n ys G) (hf : f n = true) (r : R n y G) : Sel R f (n + 1) (ys ++ [y]) G := by
  show Paired _ _ _
  rw [List.range_succ, List.filter_append, List.filter_cons, if_pos hf]
  exact paired_app h (.cons r .nil)
theorem sel_no {R : Nat → V → Hp → Prop} {f : Nat → Bool} {n : Nat} {ys : List V} {G : Hp} (h : Sel R f n ys G) (hf : f n = false) : Sel R f (n + 1) ys G := by
  show Paired _ _ _
  rw [List.range_succ, List.filter_append, List.filter_cons, if_neg (by rw [hf]; decide)]
  show Paired _ (_ ++ []) _
  rw [List.append_nil]
  exact h
theorem sel_len {R : Nat → V → Hp → Prop} {f : Nat → Bool} {n : Nat} {ys : List V} {G : Hp} (h : Sel R f n ys G) : ys.length ≤ n := by
  have := h.length
  have l := List.length_filter_le f (List.range n)
  rw [List.length_range] at l
  omega
section
variable {K : PySem.W.Frag} {M : Addr → Prop} {G H : Hp} {σ : L2.St} {g : TG} {tt : TT} {te : TE} {vs : List Nat} {Q : VK}
/-- one turn of a comprehension: what is known before it gives what is known behind it -/
structure CW (M : Addr → Prop) (G H : Hp) (R : Nat → V → Hp → Prop) (f : Nat → Bool) (D : Addr) (i : Nat) (H' : Hp) : Prop where
  ex : ∃ G' ys, Stp M G H G' H' ∧ H D = none ∧ G' D = none ∧ H' D = some (.lst ys) ∧ Sel R f i ys G'
theorem cw_0 {R : Nat → V → Hp → Prop} {f : Nat → Bool} {D : Addr} {H1 : Hp} {G1 : Hp} (a : Stp M G H G1 H1) (h : H1 D = none) : CW M G H R f D 0 (upd H1 D (.lst [])) :=
  ⟨G1, [], a.trans (Stp.lay a.gh h), a.dm _ h, Evl.fresh_back a.gh h, upd_same, .nil⟩
theorem cw_turn {R : Nat → V → Hp → Prop} (mono : ∀ i v G G', Ex G G' → R i v G → R i v G') {f : Nat → Bool} {D : Addr} {i n : Nat} {H' : Hp} {σ2 : L2.St} (c : CW M G H R f D i H') (hi : i < n) (hn : n ≤ 1000000)
    (ht : ∀ G' H', Stp M G H G' H' → ∀ Q : Bool → Hp → Prop, (∀ G2 H2, Stp M G' H' G2 H2 → Q (f i) H2) → tt σ2 H' Q)
    (he : f i = true → ∀ G' H', Stp M G H G' H' → ∀ Q : VK, Good M G' H' (R i) Q → te σ2 H' Q) (hM : ∀ D, H D = none → ¬ M D) :
    tt σ2 H' fun b H3 => if b = true then te σ2 H3 fun y H4 => ∃ acc, H4 D = some (.lst acc) ∧ acc.length < sizeLine ∧ CW M G H R f D (i + 1) (upd H4 D (.lst (acc ++ [y]))) else CW M G H R f D (i + 1) H3 := by
  obtain ⟨G', ys, a, hD, gD, hl, hs⟩ := c.ex
  refine ht G' H' a _ fun G2 H2 b => ?_
  have ab := a.trans b
  have gD2 : G2 D = none := b.fr D (some_ne hl) gD
  have hl2 : H2 D = some (.lst ys) := b.hh D _ (hM D hD) hl
  have hs2 := sel_mono mono b.gg hs
  cases hf : f i with
  | false =>
    rw [if_neg Bool.false_ne_true]
    exact ⟨G2, ys, ab, hD, gD2, hl2, sel_no hs2 hf⟩
  | true =>
    rw [if_pos rfl]
    refine he hf G2 H2 ab _ fun y G3 H3 d r => ?_
    have hl3 : H3 D = some (.lst ys) := d.hh D _ (hM D hD) hl2
    have gD3 : G3 D = none := d.fr D (some_ne hl2) gD2
    have hz := sel_len hs
    refine ⟨ys, hl3, Nat.lt_of_lt_of_le (show ys.length < 1000000 + 1 by omega) (by decide), G3, ys ++ [y], (ab.trans d).mut (.inl hD) gD3, hD, gD3, upd_same, sel_yes (sel_mono mono d.gg hs2) hf r⟩
theorem lcW {J : It} {n : Nat} {Wg : Hp → Prop} {Y : Nat → Hp → V → Hp → Prop} (w : Walk J n Wg Y) (e : Ex G H) (hWg : ∀ H', Ex G H' → Wg H') (hn : n ≤ 1000000) (R : Nat → V → Hp → Prop) (mono : ∀ i v G G', Ex G G' → R i v G → R i v G') (f : Nat → Bool) (σt : Nat → L2.St)
    (hg : ∀ i x G' H' H'', i < n → Stp M G H G' H' → Y i H' x H'' → ∀ Q : L2.St → Hp → Prop, (∀ G2 H2, Stp M G' H' G2 H2 → Q (σt i) H2) → g x (wipe σ vs) H'' Q) (hw : ∀ i, i < n → wipe (σt i) vs = wipe σ vs)
    (ht : ∀ i G' H', i < n → Stp M G H G' H' → ∀ Q : Bool → Hp → Prop, (∀ G2 H2, Stp M G' H' G2 H2 → Q (f i) H2) → tt (σt i) H' Q)
    (he : ∀ i G' H', i < n → f i = true → Stp M G H G' H' → ∀ Q : VK, Good M G' H' (R i) Q → te (σt i) H' Q) (hM : ∀ D, H D = none → ¬ M D) {D : Addr} (hD : H D = none) {Qd : Hp → Prop}
    (hd : ∀ ys G' H', Stp M G H G' H' → G' D = none → H' D = some (.lst ys) → Sel R f n ys G' → Qd H') :
    ∃ W : Nat → Nat → Hp → Prop, (∃ m, W 0 m (upd H D (.lst []))) ∧ ∀ i m H, W i m H →
      (J.stop i H ∧ Qd H) ∨ (J.go i H ∧ ∃ Nx : Hp → Prop, (∀ H', Nx H' → ∃ m', m' < m ∧ W (i + 1) m' H') ∧ ∀ x H', J.yld i H x H' → g x (wipe σ vs) H' fun σ2 H2 => wipe σ2 vs = wipe σ vs ∧ tt σ2 H2 fun b H3 =>
        if b = true then te σ2 H3 fun y H4 => ∃ acc, H4 D = some (.lst acc) ∧ acc.length < sizeLine ∧ Nx (upd H4 D (.lst (acc ++ [y]))) else Nx H3) := by
  refine lc_it w (CW M G H R f D) (cw_0 (Stp.refl e) hD) (fun i H' _ c => ?_) (fun i x H' H'' hi c y => ?_) (fun H' c => ?_)
  · obtain ⟨G', ys, a, _⟩ := c.ex
    exact hWg _ (a.gg.trans a.gh)
  · obtain ⟨G', ys, a, hD', gD, hl, hs⟩ := c.ex
    refine hg i x G' H' H'' hi a y _ fun G2 H2 b => ⟨hw i hi, ?_⟩
    refine cw_turn mono ⟨G2, ys, a.trans b, hD', b.fr D (some_ne hl) gD, b.hh D _ (hM D hD') hl, sel_mono mono b.gg hs⟩ hi hn (fun G3 H3 c => ht i G3 H3 hi c) (fun hf G3 H3 c => he i G3 H3 hi hf c) hM
  · obtain ⟨G', ys, a, hD', gD, hl, hs⟩ := c.ex
    exact hd ys G' H' a gD hl hs
/-- the target is a name -/
theorem turn_name {xs : List V} {j i : Nat} {x v : V} {G' H' H'' : Hp} {σ0 : L2.St} {Q : L2.St → Hp → Prop} (a : Stp M G H G' H') (y : YAt xs i H' x H'') (hv : xs[i]? = some v) (q : ∀ G2 H2, Stp M G' H' G2 H2 → Q (σ0.set j (some v)) H2) : gName j x σ0 H'' Q := by
  obtain ⟨rfl, e⟩ := y
  rw [hv] at e; cases e
  exact q G' H'' (Stp.refl a.gh)
theorem turn_range {f : Nat → V} {j i : Nat} {x : V} {G' H' H'' : Hp} {σ0 : L2.St} {Q : L2.St → Hp → Prop} (a : Stp M G H G' H') (y : YFn f i H' x H'') (q : ∀ G2 H2, Stp M G' H' G2 H2 → Q (σ0.set j (some (f i))) H2) : gName j x σ0 H'' Q := by
  obtain ⟨rfl, rfl⟩ := y
  exact q G' H'' (Stp.refl a.gh)
end
/-- no test -/
theorem yes_t {M : Addr → Prop} {G H : Hp} {σ : L2.St} (e : Ex G H) {Q : Bool → Hp → Prop} (q : ∀ G2 H2, Stp M G H G2 H2 → Q true H2) : tYes σ H Q := q G H (Stp.refl e)
theorem sel_all {R : Nat → V → Hp → Prop} {n : Nat} {ys : List V} {G : Hp} (h : Sel R (fun _ => true) n ys G) : ys.length = n ∧ ∀ i, i < n → ∃ y, ys[i]? = some y ∧ R i y G := by
  have e : (List.range n).filter (fun _ => true) = List.range n := List.filter_eq_self.mpr fun _ _ => rfl
  have h' : Paired (fun i y => R i y G) (List.range n) ys := by
    have := h
    unfold Sel at this
    rw [e] at this
    exact this
  have hl := h'.length
  rw [List.length_range] at hl
  refine ⟨hl.symm, fun i hi => ?_⟩
  have gen : ∀ {as : List Nat} {bs : List V}, Paired (fun i y => R i y G) as bs → ∀ {j a : Nat}, as[j]? = some a → ∃ y, bs[j]? = some y ∧ R a y G := by
    intro as bs p
    induction p with
    | nil => intro j a e; simp at e
    | cons r t ih =>
      intro j a e
      cases j with
      | zero => simp at e; subst e; exact ⟨_, by simp, r⟩
      | succ j => simpa using ih (j := j) (a := a) (by simpa using e)
  exact gen h' (by simp [hi])
end Hx
namespace Hx
open PySem PySem.Spec PyProof.Rows L2
/-! ### the layer's rules with the written part by its own letter -/
section
variable {X : Cx} {K : PySem.W.Frag}
theorem ixL (h : X.K = K := by rfl) : IxR X (rIxL K) := by subst h; exact ix_list
theorem ixT (h : X.K = K := by rfl) : IxR X (rIxT K) := by subst h; exact ix_tup
theorem ixS (h : X.K = K := by rfl) : IxR X (fun x y H Q => rIxL K x y H Q ∨ rIxT K x y H Q) := (ixL h).or (ixT h)
theorem slL (h : X.K = K := by rfl) : SlR X (rSlL K) := by subst h; exact sl_list
theorem slT (h : X.K = K := by rfl) : SlR X (rSlT K) := by subst h; exact sl_tup
theorem inL (h : X.K = K := by rfl) : OpR X (compareOp .In) (rIn K false) := by subst h; exact op_in_seq
theorem ninL (h : X.K = K := by rfl) : OpR X (compareOp .NotIn) (rIn K true) := by subst h; exact op_notIn_seq
theorem catT (h : X.K = K := by rfl) : OpR X (binaryOp .Add) (rCatT K) := by subst h; exact op_catT
abbrev rLenQ (K : PySem.W.Frag) : List V → Hp → VK → Prop := fun xs H Q => ∃ p ys, xs = [.ref p] ∧ (SqL K H p ys ∨ SqT K H p ys) ∧ Q (.int ys.length) H
theorem lenL (h : X.K = K := by rfl) : CallR X (.builtin "len") (rLenQ K) := by subst h; exact call_len_seq
abbrev rListQ (K : PySem.W.Frag) : List V → Hp → VK → Prop := fun xs H Q => ∃ p ys, xs = [.ref p] ∧ (SqL K H p ys ∨ SqT K H p ys) ∧ ∀ l, H l = none → Q (.ref l) (upd H l (.lst ys))
theorem listOf (h : X.K = K := by rfl) : CallR X (.type "list") (rListQ K) := by subst h; exact call_list_of
abbrev rTupQ (K : PySem.W.Frag) : List V → Hp → VK → Prop := fun xs H Q => ∃ p ys, xs = [.ref p] ∧ ((SqL K H p ys ∧ ∀ l, H l = none → Q (.ref l) (upd H l (.tup ys))) ∨ (SqT K H p ys ∧ Q (.ref p) H))
theorem tupOf (h : X.K = K := by rfl) : CallR X (.type "tuple") (rTupQ K) := by subst h; exact call_tuple_of
theorem isiR (h : X.K = K := by rfl) : CallR X (.builtin "isinstance") (rIsi K) := by subst h; exact call_isi
theorem allR (hc : X.calm = true) (h : X.K = K := by rfl) : CallR X (.builtin "all") (rAll K) := by subst h; exact cr_all hc
theorem anyR (hc : X.calm = true) (h : X.K = K := by rfl) : CallR X (.builtin "any") (rAny K) := by subst h; exact cr_any hc
theorem sumR (hc : X.calm = true) (h : X.K = K := by rfl) : CallR X (.builtin "sum") (rSum K) := by subst h; exact cr_sum hc
theorem sortRev (h : X.K = K := by rfl) : CallRK X (.builtin "sorted") [Str.ofString "reverse"] (rSortedKw K true [.bl true]) := by subst h; exact cr_sortedRev
theorem idxL (h : X.K = K := by rfl) : MtR X "list.index" (rIndex K) := by subst h; exact mt_index
theorem piL {tg l : Expr} {tl : TE} (hl : PE X l tl) (h : X.K = K := by rfl) : PI X tg l (iList K tl) := by subst h; exact pi_list hl
theorem piT {tg l : Expr} {tl : TE} (hl : PE X l tl) (h : X.K = K := by rfl) : PI X tg l (iTup K tl) := by subst h; exact pi_tup hl
theorem piEnum {e : Expr} {ta : TA} {p pos tpos : Pos} {elts : List Expr} {kk : Nat} (hg : Gl X "enumerate") (hm : X.mg "enumerate" = none) (ha : PA X [e] ta) (hs : starEach [e] X.env = [(false, eval e X.env)] := by rfl) (h : X.K = K := by rfl) :
    PI X (.Tuple elts kk tpos) (.Call (.Name "enumerate" p) [e] [] pos) (iEnum K ta) := by subst h; exact pi_enum hg hm ha hs
theorem pgTup {es : List Expr} {k : Nat} {t : TGs} {n : Nat} {pos : Pos} (hc : X.calm = true) (h : PGs X es t) (hn : (assignEach es X.env).length = n := by rfl) (hst : (assignEach es X.env).findIdx? (·.1) = none := by rfl) (hk : X.K = K := by rfl) :
    PG X (.Tuple es k pos) (gTup K n t) := by subst hk; exact pg_tup hc h hn hst
theorem eqD (hu : X.A.units + 64 < cLine) (h : X.K = K := by rfl) : OpR X (compareOp .Eq) (rEqD K) := by subst h; exact op_eqD hu
theorem neD (hu : X.A.units + 64 < cLine) (h : X.K = K := by rfl) : OpR X (compareOp .NotEq) (rNeD K) := by subst h; exact op_neD hu
theorem revL {e : Expr} {te : TE} {k : Nat} {p1 p2 p3 pos : Pos} (he : PE X e te) (h : X.K = K := by rfl) : PE X (.Subscript e (.Slice none none (some (.UnaryOp .USub (.Constant (.int 1) k p1) p2)) p3) pos) (tRevL K te) := by subst h; exact pe_revL he
end
/-! ### sorted(xs) of data of one shape, any number -/
def rSortedB (K : PySem.W.Frag) {β : Type} (enc : β → PyData) (n : Nat) : List V → Hp → VK → Prop := fun vs H Q => ∃ (a : Addr) (xs : List V) (bs : List β) (G : Hp), vs = [V.ref a] ∧ SqL K H a xs ∧ Ex G H ∧ DpAll K G xs (bs.map enc) ∧
  ∀ ys p, H p = none → ys.length = bs.length → DpAll K G ys ((bs.mergeSort (PySem.W.dataLe false enc)).map enc) → Q (.ref p) (upd H p (.lst ys))
section
variable {X : Cx} {β : Type}
theorem dpa_zip {K : PySem.W.Frag} {H : Hp} {enc : β → PyData} : ∀ {xs : List V} {bs : List β} {us : List Value}, DpAll K H xs (bs.map enc) → Vals xs us → PySem.W.EachIs (fun u (b : V × β) => RelV b.1 u ∧ Dp K H b.1 (enc b.2)) us (xs.zip bs)
  | [], [], _, h, r => by cases r; exact .nil
  | x :: xs, b :: bs, _, h, r => by
    cases r with
    | cons r1 r2 =>
      cases h with
      | cons h1 h2 => exact .cons ⟨r1, h1⟩ (dpa_zip h2 r2)
  | [], b :: bs, _, h, _ => by cases h
  | x :: xs, [], _, h, _ => by cases h
theorem each_out {K : PySem.W.Frag} {H : Hp} {enc : β → PyData} : ∀ {us : List Value} {bs : List (V × β)}, PySem.W.EachIs (fun u (b : V × β) => RelV b.1 u ∧ Dp K H b.1 (enc b.2)) us bs → Vals (bs.map (·.1)) us ∧ DpAll K H (bs.map (·.1)) ((bs.map (·.2)).map enc)
  | _, _, .nil => ⟨.nil, .nil⟩
  | _, _, .cons h1 t => ⟨.cons h1.1 (each_out t).1, .cons h1.2 (each_out t).2⟩
theorem cr_sortedB {K : PySem.W.Frag} (enc : β → PyData) {n : Nat} (hal : ∀ b b', PySem.W.alike (enc b) (enc b') = true) (hk : (∀ b, ∃ x r, enc b = .tuple (x :: r)) ∨ ∀ b, enc b ≠ .none ∧ ∀ xs, enc b ≠ .tuple xs) (hd : ∀ b, (enc b).depth ≤ n) (hn : n ≤ 60)
    (hu : X.A.units + 64 < cLine) (hK : X.K = K := by rfl) : CallR X (.builtin "sorted") (rSortedB K enc n) := by
  subst hK
  intro pins s σ H vs us Q I r h
  obtain ⟨a, xs, bs, G, rfl, hs, eG, hx, q⟩ := h
  obtain ⟨its, rv, hl, hz⟩ := I.list hs
  obtain ⟨u, rfl, ru⟩ := vals1 r
  obtain rfl : u = Value.ref a := ru
  have e := dpa_zip hx rv
  have hlen : xs.length = bs.length := by rw [dpa_len hx, List.length_map]
  refine PySem.W.sorted_data (enc := fun b : V × β => enc b.2) hl.isList e (e.mono fun u b hb => ?_) (PySem.W.AllAlike.of fun b b' => hal _ _) ?_ (by rw [← e.length, ← rv.length]; exact hz) (fun b _ => by have := hd b.2; omega) fun out ho eo => ?_
  · obtain ⟨as, hr⟩ := Dp.reads I _ _ _ (ex_dp eG _ _ hb.2) hb.1
    exact ⟨as, hr⟩
  · rcases hk with hk | hk
    · exact PySem.W.Sortable.tuples fun b => hk b.2
    · exact PySem.W.Sortable.others fun b => hk b.2
  · obtain ⟨v1, v2⟩ := each_out eo
    obtain ⟨c, hc⟩ := sortedAll_at s.heap its out.toArray
    have em : ((xs.zip bs).mergeSort (PySem.W.dataLe false fun b : V × β => enc b.2)).map (·.2) = bs.mergeSort (PySem.W.dataLe false enc) := by
      have z := PySem.W.sort_maps (r := PySem.W.dataLe false fun b : V × β => enc b.2) (s := PySem.W.dataLe false enc) (fun b : V × β => b.2) (l := xs.zip bs) (fun _ _ _ _ => rfl)
      have z2 : (xs.zip bs).map (fun b : V × β => b.2) = bs := List.map_snd_zip (by omega)
      rw [z2] at z
      exact z
    rw [em] at v2
    have hy : (((xs.zip bs).mergeSort (PySem.W.dataLe false fun b : V × β => enc b.2)).map (·.1)).length = bs.length := by
      rw [List.length_map, List.length_mergeSort, List.length_zip]; omega
    refine ⟨.ref (s.heap.objs.size + 1), _, I.laid (a := s.heap.objs.size + 1) (o := .lst (((xs.zip bs).mergeSort (PySem.W.dataLe false fun b : V × β => enc b.2)).map (·.1))) (t' := s.toks) (fun b o z => sortedAll_old z) (Nat.le_succ _) ⟨by rw [hy, ← hlen]; exact hz, out, c, v1, hc⟩, rfl,
      q _ _ (I.hok.fresh (Nat.le_succ _)) hy v2⟩
end
/-- pairs, triples of ints; ints -/
abbrev encQ (p : Int × Int) : PyData := .tuple [.int p.1, .int p.2]
abbrev encT (p : Int × Int × Int) : PyData := .tuple [.int p.1, .int p.2.1, .int p.2.2]
section
variable {X : Cx} {K : PySem.W.Frag}
theorem sortP (hu : X.A.units + 64 < cLine) (hK : X.K = K := by rfl) : CallR X (.builtin "sorted") (rSortedB K encQ 5) :=
  cr_sortedB encQ (fun _ _ => by simp [PySem.W.alike, PySem.W.alikeAll]) (.inl fun b => ⟨_, _, rfl⟩) (fun b => by simp [PyData.depth, PyData.depthAll]) (by decide) hu hK
theorem sortT (hu : X.A.units + 64 < cLine) (hK : X.K = K := by rfl) : CallR X (.builtin "sorted") (rSortedB K encT 5) :=
  cr_sortedB encT (fun _ _ => by simp [PySem.W.alike, PySem.W.alikeAll]) (.inl fun b => ⟨_, _, rfl⟩) (fun b => by simp [PyData.depth, PyData.depthAll]) (by decide) hu hK
theorem sortI (hu : X.A.units + 64 < cLine) (hK : X.K = K := by rfl) : CallR X (.builtin "sorted") (rSortedB K PyData.int 5) :=
  cr_sortedB PyData.int (fun _ _ => by simp [PySem.W.alike]) (.inr fun b => ⟨(fun z => nomatch z), fun _ z => nomatch z⟩) (fun b => by simp [PyData.depth]) (by decide) hu hK
end
end Hx
namespace Hx
open PySem PySem.Spec PyProof.Rows L2
section
variable {P : Program} {w : World} {K : PySem.W.Frag} {mg : Str → Option Value} {base : Heap}
/-- a def that lets no exception out keeps its promise -/
theorem mkCal {x : Str} {st : Stmt} {N ps : List Str} {k : Nat} {sp : Sp} (g : mg x = some (.ref (He.ga K x))) (d : ∃ fd, FunD K x x (defArgs st) (defBody st) (defScope st) [] [] (He.ga K x) fd) (sc : FnScope N ps (defScope st))
    (hb : ∀ (kV doc pm : Value) (an : Option Addr) (cdv ct : Value) (us : List Value), us.length = ps.length → bindArgs (PySem.W.fnOf x x (defArgs st) (defBody st) (defScope st) .none kV doc pm an cdv ct) ⟨us, []⟩ = pure (ps.zip us))
    (len : ∀ vs H Q E, sp vs H Q E → vs.length = ps.length)
    (body : ∀ (cdv : Value) (A : Around) (outer : List Env) (s : Shared) (H : Hp) (vs : List V) (Q : VK) (E : XK), Room k (A.deeper (envOfC x (defScope st) s.heap.objs.size (He.ga K x) cdv)) → sp vs H Q E →
      ∃ t, PSs (cxOf CX0 P w K mg base N x (defScope st) (He.ga K x) cdv A outer s H E).nox (defBody st) t ∧ t { nx := fun _ H' => Q .non H', rt := Q } (start N vs) H) : Cal P w K mg base CX0 (k + 1) x ps sp := by
  obtain ⟨fd, F⟩ := d
  refine ⟨g, fd, F.kp, F.ok sc len fun cdv A outer s H vs Q E hr h => ?_, F.bindsN hb⟩
  obtain ⟨t, a, b⟩ := body cdv A outer s H vs Q E hr h
  exact ⟨t, a.nox, b⟩
/-- one that may -/
theorem mkCalX {x : Str} {st : Stmt} {N ps : List Str} {k : Nat} {sp : Sp} (g : mg x = some (.ref (He.ga K x))) (d : ∃ fd, FunD K x x (defArgs st) (defBody st) (defScope st) [] [] (He.ga K x) fd) (sc : FnScope N ps (defScope st))
    (hb : ∀ (kV doc pm : Value) (an : Option Addr) (cdv ct : Value) (us : List Value), us.length = ps.length → bindArgs (PySem.W.fnOf x x (defArgs st) (defBody st) (defScope st) .none kV doc pm an cdv ct) ⟨us, []⟩ = pure (ps.zip us))
    (len : ∀ vs H Q E, sp vs H Q E → vs.length = ps.length)
    (body : ∀ (cdv : Value) (A : Around) (outer : List Env) (s : Shared) (H : Hp) (vs : List V) (Q : VK) (E : XK), Room k (A.deeper (envOfC x (defScope st) s.heap.objs.size (He.ga K x) cdv)) → sp vs H Q E →
      ∃ t, PSs (cxOf (L2.CX P w) P w K mg base N x (defScope st) (He.ga K x) cdv A outer s H E) (defBody st) t ∧ t { nx := fun _ H' => Q .non H', rt := Q } (start N vs) H) : Cal P w K mg base (L2.CX P w) (k + 1) x ps sp := by
  obtain ⟨fd, F⟩ := d
  exact ⟨g, fd, F.kp, F.ok sc len body, F.bindsN hb⟩
end
end Hx
/-! sets of whole numbers made by a comprehension; len, sorted of them -/
namespace Hx
open PySem PySem.Spec PyProof.Rows L2
section
variable {X : Cx}
theorem addI_ok {pq : List (Addr × Obj)} {σ : L2.St} {H : Hp} {s : Shared} {E : Value → Shared → Prop} {D : Addr} {S : Int → Bool} {n : Nat} {y : Int} {t : Tok} {Q : Value → Shared → Prop} (Iv : Inv X pq σ H s) (hD : H D = some (SetO X.w D S n)) (room : n + 1 < scanBound)
    (h : ∀ s', Inv X pq σ (upd H D (SetO X.w D (fun j => S j || decide (j = y)) (if S y = true then n else n + 1))) s' → Q .none s') : wpAny (model X.prog X.w) X.A (call (.builtin "set.add") [.ref D, .int y t]) Q E s := by
  refine setR_add (setO_get Iv hD) room fun h' sb new => ?_
  obtain ⟨o, _, _, _, ho, _⟩ := id new
  exact h _ (Iv.write (e := D) (t' := s.toks + 1) (by rw [hD]; trivial) (.inl rfl) (fun b u hb hu => (sb.2 b hb).trans hu) ⟨o, ho⟩ (setO_new new))
def tScI (w : World) (wi : TI) (g : TG) (tt : TT) (te : TE) (vs : List Nat) : TE := fun σ H Q => wi σ H fun J B1 => ∀ D, B1 D = none → ∃ W : Nat → Nat → Hp → Prop, (∃ m, W 0 m (upd B1 D (SetO w D (fun _ => false) 0))) ∧ ∀ i m H, W i m H →
  (J.stop i H ∧ Q (.ref D) H) ∨ (J.go i H ∧ ∃ Nx : Hp → Prop, (∀ H', Nx H' → ∃ m', m' < m ∧ W (i + 1) m' H') ∧ ∀ x H', J.yld i H x H' → g x (wipe σ vs) H' fun σ2 B2 => wipe σ2 vs = wipe σ vs ∧ tt σ2 B2 fun b B3 =>
    if b = true then te σ2 B3 fun y B4 => ∃ (c : Int) (S : Int → Bool) (n : Nat), y = .int c ∧ B4 D = some (SetO w D S n) ∧ n + 1 < scanBound ∧ Nx (upd B4 D (SetO w D (fun j => S j || decide (j = c)) (if S c = true then n else n + 1))) else Nx B3)
theorem scI_core {pq : List (Addr × Obj)} {s : Shared} {σ : L2.St} {H : Hp} {Q : VK} {elt tg iter : Expr} {ifs : List Expr} {scope : Scope} {own : List (PySem.Str × Nat)} {pos pos' : Pos} {wi : TI} {g : TG} {tt : TT} {te : TE} {use : Option (Value → Sem Unit)} {Qf : Value → Shared → Prop}
    (hc : X.calm = true) (hN : X.N.Nodup) (Iv : Inv X pq σ H s) (hi : PI X tg iter wi) (ok : BlkOk X.N X.env.scope scope own)
    (hg : ∀ (s : Shared) (H : Hp) (C : Addr) (cl : List (PySem.Str × Addr)) (fq : List Addr), PG (X.blk s H scope (compEnvC scope cl C X.env) fq) tg g) (ht : ∀ (s : Shared) (H : Hp) (C : Addr) (cl : List (PySem.Str × Addr)) (fq : List Addr), PTs (X.blk s H scope (compEnvC scope cl C X.env) fq) ifs tt)
    (he : ∀ (s : Shared) (H : Hp) (C : Addr) (cl : List (PySem.Str × Addr)) (fq : List Addr), PE (X.blk s H scope (compEnvC scope cl C X.env) fq) elt te) (hs : ∀ x, foldedSetIterable iter X.env x = pure x)
    (h : tScI X.w wi g tt te (own.map (·.2)) σ H Q)
    (hRR : ∀ D C s' m H', Inv X pq σ H' s' → Q (.ref D) H' → s'.heap.Ns C m → FpOk X pq H' C → compPost (model X.prog X.w) X.A X.xe use Qf (.ref D) C (.ok .next) s') :
    wpAny (model X.prog X.w) X.A (comprehension (.SetComp elt [⟨tg, iter, ifs, 0⟩] scope pos) scope X.env pos' (newSet (.type "set")) false (eval iter X.env) use) Qf X.xe s := by
  have hfree : ∀ y ∈ scope.names, y.2 = .free → ∃ c, X.env.cells.lookup y.1 = some c := fun y hy e => by
    rcases ok.free y hy e with k | k
    · exact Iv.ok.has _ (.inl k)
    · exact Iv.ok.has _ (.inr k)
  refine wpAny_comprehension_free (use := use) rfl hs (closure_ok hfree) ok.kind (fun y hy e => by rw [ok.uniq y hy, e])
    (thn (hi.run pq s σ H _ Iv h) fun xv z1s hx => thn hx fun itv z2s h2 => ?_)
  obtain ⟨it, fq, tn, J, B2, e, Iv2, T, st2, f2, q⟩ := h2
  subst e
  refine PpSet.newSet_ok (newEnv_comp ?_)
  generalize hD : z2s.heap.objs.size = D
  have hDn : B2 D = none := Iv2.hok.fresh (Nat.le_of_eq hD)
  obtain ⟨W, ⟨m0, w0⟩, turn⟩ := q D hDn
  generalize hs3 : ({ z2s with heap := z2s.heap.push { cls := .type "set", dict := none, data := .set #[] 0 (.fresh 0 0 (!X.w.params.followText "set-order")) } } : Shared) = z3s
  have Iv3 : Inv X pq σ (upd B2 D (SetO X.w D (fun _ => false) 0)) z3s := by
    rw [← hs3]
    refine Iv2.laid (t' := z2s.toks) (fun b o e => Heap.get?_push_of_some _ e) (Nat.le_of_eq hD) ?_
    rw [← hD]
    exact setO_new (setR_fresh X.w)
  have h3 : z3s.heap = z2s.heap.push { cls := .type "set", dict := none, data := .set #[] 0 (.fresh 0 0 (!X.w.params.followText "set-order")) } := by rw [← hs3]
  have sz : ∀ b ∈ fq, b < z2s.heap.objs.size := fun b hb => by
    obtain ⟨o, e, _⟩ := T.obj _ _ st2 b hb
    exact Heap.lt_size e
  have f3 : ∀ b ∈ fq, FpOk X pq (upd B2 D (SetO X.w D (fun _ => false) 0)) b ∧ b < z3s.heap.objs.size := fun b hb => by
    have hlt := sz b hb
    refine ⟨⟨?_, (f2 b hb).2⟩, by rw [h3, Heap.size_push]; exact Nat.lt_succ_of_lt hlt⟩
    rw [upd_ne (by rw [← hD]; exact Nat.ne_of_lt hlt)]
    exact (f2 b hb).1
  have st3 : tn 0 z3s.heap := T.keep _ _ _ st2 fun b _ o e => by rw [h3]; exact Heap.get?_push_of_some _ e
  have Iv4 := block_start Iv3 ok hN f3
  have pg := hg z3s (upd B2 D (SetO X.w D (fun _ => false) 0)) z3s.heap.objs.size (cellsFrom (z3s.heap.objs.size + 1) scope.names (cloFrom X.env.cells scope.names [])) fq
  have pt := ht z3s (upd B2 D (SetO X.w D (fun _ => false) 0)) z3s.heap.objs.size (cellsFrom (z3s.heap.objs.size + 1) scope.names (cloFrom X.env.cells scope.names [])) fq
  have pe := he z3s (upd B2 D (SetO X.w D (fun _ => false) 0)) z3s.heap.objs.size (cellsFrom (z3s.heap.objs.size + 1) scope.names (cloFrom X.env.cells scope.names [])) fq
  show codeAny _ _ (.compStart (.SetComp elt [⟨tg, iter, ifs, 0⟩] scope pos) 0 (.ref it) (.ref D) (compEnvC scope (cellsFrom (z3s.heap.objs.size + 1) scope.names (cloFrom X.env.cells scope.names [])) z3s.heap.objs.size X.env)) (compPost (model X.prog X.w) X.A X.xe use Qf (.ref D) z3s.heap.objs.size) { z3s with heap := pushCells (z3s.heap.push { cls := .type "dict", data := .dict #[] }) scope.names }
  have nfp : ∀ b ∈ fq, (upd B2 D (SetO X.w D (fun _ => false) 0)) b = none := fun b hb => (f3 b hb).1.1
  generalize hce : compEnvC scope (cellsFrom (z3s.heap.objs.size + 1) scope.names (cloFrom X.env.cells scope.names [])) z3s.heap.objs.size X.env = ce at Iv4 pg pt pe ⊢
  have cL : ce.locals = z3s.heap.objs.size := by subst hce; rfl
  generalize hH3 : upd B2 D (SetO X.w D (fun _ => false) 0) = B3 at Iv3 Iv4 pg pt pe w0 nfp f3
  generalize hs4 : ({ z3s with heap := pushCells (z3s.heap.push { cls := .type "dict", data := .dict #[] }) scope.names } : Shared) = z4s at Iv4 ⊢
  have st4 : tn 0 z4s.heap := T.keep _ _ _ st3 fun b _ o e => by rw [← hs4]; exact pushCells_keeps _ _ _ _ (Heap.get?_push_of_some _ e)
  have stat : ∀ {σ' : L2.St} {H' : Hp} {s' : Shared}, Inv (X.blk z3s B3 scope ce fq) [] σ' H' s' → (∀ b ∈ fq, H' b = none) → ∀ b ∈ fq, FpOk (X.blk z3s B3 scope ce fq) [] H' b := fun {σ' H' s'} Iv' hn b hb =>
    ⟨hn b hb, (Iv'.ok.exf b hb).1, Iv'.ok.exfs b hb, .inl hb, fun x c e => (Iv'.ok.exf b hb).2 x c e, fun p hp => absurd (show p ∈ ([] : List (Addr × Obj)) ++ [] from hp) (by simp)⟩
  have loop : codeAny (model X.prog X.w) X.A (.compLoop (.SetComp elt [⟨tg, iter, ifs, 0⟩] scope pos) 0 (.ref it) (.ref D) ce) (compPost (model X.prog X.w) X.A X.xe use Qf (.ref D) z3s.heap.objs.size) z4s := by
    refine PpSet.compLoopS_any (fun n s' => ∃ i H', Inv (X.blk z3s B3 scope ce fq) [] (wipe σ (own.map (·.2))) H' s' ∧ tn i s'.heap ∧ (∀ b ∈ fq, H' b = none) ∧ W i n H') ?_ m0 ⟨0, B3, Iv4, st4, nfp, w0⟩
    rintro n z5s ⟨i, B5, Iv5, st5, n5, w5⟩
    rcases turn i n B5 w5 with ⟨stop, qq⟩ | ⟨go, Nx, hNx, step⟩
    · have td := T.done (X.blk z3s B3 scope ce fq) rfl rfl rfl hc i [] z5s _ B5 (fun _ _ => False) Iv5 (stat Iv5 n5) st5 stop
      refine thnF td fun r z6s ⟨hr, Iv6⟩ => ?_
      subst hr
      have Iv7 : Inv X pq σ B5 z6s := Iv3.call' (ch := fq) Iv6.os Iv6.base Iv6.hok Iv6.bare fun b hb => ⟨(f3 b hb).1.2.2.2.1, (f3 b hb).1.2.1, (f3 b hb).1.2.2.2.2.1, (f3 b hb).1.2.2.2.2.2⟩
      have nC : B5 z3s.heap.objs.size = none := by
        have z : B5 ce.locals = none := Iv6.free
        rw [cL] at z
        exact z
      obtain ⟨m, hn, _⟩ := Iv6.loc
      have hn : z6s.heap.Ns ce.locals m := hn
      rw [cL] at hn
      exact hRR D z3s.heap.objs.size z6s m B5 Iv7 qq hn (Iv3.fpOk (Nat.le_refl _) nC)
    · have ti := T.item (X.blk z3s B3 scope ce fq) rfl rfl rfl hc i [] z5s _ B5 (fun _ _ => False) Iv5 (stat Iv5 n5) st5 go
      refine thnF ti fun r z6s ⟨u, hr, h6⟩ => ?_
      subst hr
      refine thnF h6 fun _ z7s ⟨x, B7, Iv7, r7, y7, st7, n7⟩ => ?_
      have Iv7' := Iv7.pinned (stat Iv7 n7) (T.obj _ _ st7)
      refine thnF (pg.run _ z7s _ B7 x u _ Iv7' r7 (step x B7 y7)) fun _ z8s ⟨σ8, B8, Iv8, hw8, q8⟩ => ?_
      refine thnF (pt.run _ z8s σ8 B8 _ Iv8 q8) fun b z9s ⟨B9, Iv9, q9⟩ => ?_
      have fin : ∀ {s' : Shared} {H' : Hp}, Inv (X.blk z3s B3 scope ce fq) ([] ++ pinsAt fq z7s.heap) σ8 H' s' → Nx H' → ∃ m, m < n ∧ ∃ i H', Inv (X.blk z3s B3 scope ce fq) [] (wipe σ (own.map (·.2))) H' s' ∧ tn i s'.heap ∧ (∀ b ∈ fq, H' b = none) ∧ W i m H' := fun {s' H'} Iv' nx => by
        obtain ⟨m', hm, w'⟩ := hNx H' nx
        have pin' : ∀ b ∈ fq, ∀ o, z7s.heap.get? b = some o → s'.heap.get? b = some o ∧ H' b = none := fun b hb o e =>
          let z := Iv'.pin (b, o) (List.mem_append_right _ (List.mem_append_right _ (mem_pinsAt hb e)))
          ⟨z.1, z.2.1⟩
        have hl : (wipe σ (own.map (·.2))).length = σ8.length := by rw [← hw8, wipe_length]
        refine ⟨m', hm, i + 1, H', (Iv'.unpinned (pins := [])).weak hl (fun j v e => ?_), T.keep _ _ _ st7 fun b hb o e => (pin' b hb o e).1, fun b hb => ?_, w'⟩
        · rw [← hw8] at e
          exact (wipe_some e).1
        · obtain ⟨o, e, _⟩ := T.obj _ _ st7 b hb
          exact (pin' b hb o e).2
      cases b with
      | false =>
        simp only [Bool.false_eq_true, if_false] at q9 ⊢
        exact fin Iv9 q9
      | true =>
        simp only [if_true] at q9 ⊢
        refine thnF (pe.run _ z9s σ8 B9 _ Iv9 q9) fun z z10s ⟨yv, B10, I10, r10, cb, S0, n0, ey, hD10, hz10, nx⟩ => ?_
        subst ey
        obtain ⟨tk10, rfl⟩ := (show ∃ t, z = Value.int cb t from r10)
        exact addI_ok (X := X.blk z3s B3 scope ce fq) I10 hD10 hz10 fun z11s I11 => fin I11 nx
  exact PpSet.codeAny_compStart_set loop (T.self X.A 0 _ _ _ st4 loop)
theorem pe_scI {elt tg iter : Expr} {ifs : List Expr} {scope : Scope} {own : List (PySem.Str × Nat)} {pos : Pos} {wi : TI} {g : TG} {tt : TT} {te : TE} (hc : X.calm = true) (hN : X.N.Nodup) (hi : PI X tg iter wi) (ok : BlkOk X.N X.env.scope scope own)
    (hg : ∀ (s : Shared) (H : Hp) (C : Addr) (cl : List (PySem.Str × Addr)) (fq : List Addr), PG (X.blk s H scope (compEnvC scope cl C X.env) fq) tg g) (ht : ∀ (s : Shared) (H : Hp) (C : Addr) (cl : List (PySem.Str × Addr)) (fq : List Addr), PTs (X.blk s H scope (compEnvC scope cl C X.env) fq) ifs tt)
    (he : ∀ (s : Shared) (H : Hp) (C : Addr) (cl : List (PySem.Str × Addr)) (fq : List Addr), PE (X.blk s H scope (compEnvC scope cl C X.env) fq) elt te) (hs : ∀ x, foldedSetIterable iter X.env x = pure x := by intro _; rfl) :
    PE X (.SetComp elt [⟨tg, iter, ifs, 0⟩] scope pos) (tScI X.w wi g tt te (own.map (·.2))) := by
  refine ⟨fun pq s σ H Q Iv h => ?_⟩
  rw [PpSet.eval_SetComp]
  refine scI_core hc hN Iv hi ok hg ht he hs h fun D C s' m H' Iv' q hn f => ⟨m, hn, fun h'' sb => ?_⟩
  obtain ⟨f0, f1, f2, f3, f4, f5⟩ := f
  exact ⟨.ref D, H', Iv'.turned (t' := s'.toks) (fun b o hb e => (sb.2 b hb).trans e) f0 f1 f3 f4 f5, rfl, q⟩
end
theorem tYes_if {σ : L2.St} {H : Hp} {A B : Hp → Prop} (h : A H) : tYes σ H (fun b H3 => if b = true then A H3 else B H3) := by
  show (if true = true then A H else B H)
  rw [if_pos rfl]
  exact h
section
variable {M : Addr → Prop} {G H : Hp} {σ : L2.St} {g : TG} {tt : TT} {te : TE} {vs : List Nat}
/-- what such a comprehension leaves: the set of what was made (v i, where f i) -/
theorem scW {w : World} {J : It} {n : Nat} {Wg : Hp → Prop} {Y : Nat → Hp → V → Hp → Prop} (W : Walk J n Wg Y) (e : Ex G H) (hWg : ∀ H', Ex G H' → Wg H') (hn : n ≤ 4000) (v : Nat → Int) (σt : Nat → L2.St)
    (hg : ∀ i x G' H' H'', i < n → Stp M G H G' H' → Y i H' x H'' → ∀ Q : L2.St → Hp → Prop, (∀ G2 H2, Stp M G' H' G2 H2 → Q (σt i) H2) → g x (wipe σ vs) H'' Q) (hw : ∀ i, i < n → wipe (σt i) vs = wipe σ vs)
    (he : ∀ i G' H', i < n → Stp M G H G' H' → ∀ Q : VK, (∀ G2 H2, Stp M G' H' G2 H2 → Q (.int (v i)) H2) → te (σt i) H' Q) (hM : ∀ D, H D = none → ¬ M D) {D : Addr} (hD : H D = none) {Qd : Hp → Prop}
    (hd : ∀ S m G' H', Stp M G H G' H' → G' D = none → H' D = some (SetO w D S m) → (∀ k, S k = true ↔ k ∈ (List.range n).map v) → m = ((List.range n).map v).eraseDups.length → Qd H') :
    ∃ W : Nat → Nat → Hp → Prop, (∃ m, W 0 m (upd H D (SetO w D (fun _ => false) 0))) ∧ ∀ i m H, W i m H →
      (J.stop i H ∧ Qd H) ∨ (J.go i H ∧ ∃ Nx : Hp → Prop, (∀ H', Nx H' → ∃ m', m' < m ∧ W (i + 1) m' H') ∧ ∀ x H', J.yld i H x H' → g x (wipe σ vs) H' fun σ2 H2 => wipe σ2 vs = wipe σ vs ∧ tYes σ2 H2 fun b H3 =>
        if b = true then te σ2 H3 fun y H4 => ∃ (c : Int) (S : Int → Bool) (n : Nat), y = .int c ∧ H4 D = some (SetO w D S n) ∧ n + 1 < scanBound ∧ Nx (upd H4 D (SetO w D (fun j => S j || decide (j = c)) (if S c = true then n else n + 1))) else Nx H3) := by
  refine ⟨fun i m H' => m = n - i ∧ i ≤ n ∧ ∃ S k G', Stp M G H G' H' ∧ G' D = none ∧ H' D = some (SetO w D S k) ∧ (∀ j, S j = true ↔ j ∈ (List.range i).map v) ∧ k = ((List.range i).map v).eraseDups.length ∧ k ≤ i,
    ⟨n, by simp, Nat.zero_le _, fun _ => false, 0, G, Stp.lay e hD, Evl.fresh_back e hD, upd_same, fun j => by simp, rfl, Nat.zero_le _⟩, ?_⟩
  rintro i m H' ⟨rfl, hi, S, k, G', a, gD, hS, hm, hk, hki⟩
  by_cases hlt : i < n
  · refine .inr ⟨W.goes i H' hlt (hWg H' (a.gg.trans a.gh)), fun H2 => i + 1 ≤ n ∧ ∃ S k G', Stp M G H G' H2 ∧ G' D = none ∧ H2 D = some (SetO w D S k) ∧ (∀ j, S j = true ↔ j ∈ (List.range (i + 1)).map v) ∧ k = ((List.range (i + 1)).map v).eraseDups.length ∧ k ≤ i + 1, fun H2 q => ⟨n - (i + 1), by omega, rfl, q⟩, fun x H2 y => ?_⟩
    refine hg i x G' H' H2 hlt a (W.yields i H' x H2 hlt (hWg _ (a.gg.trans a.gh)) y) _ fun G3 H3 b => ⟨hw i hlt, ?_⟩
    refine tYes_if ?_
    refine he i G3 H3 hlt (a.trans b) _ fun G4 H4 c => ?_
    have hS3 : H3 D = some (SetO w D S k) := b.hh D _ (hM D hD) hS
    have hS4 : H4 D = some (SetO w D S k) := c.hh D _ (hM D hD) hS3
    have g4 : G4 D = none := c.fr D (some_ne hS3) (b.fr D (some_ne hS) gD)
    have er : (List.range (i + 1)).map v = (List.range i).map v ++ [v i] := by rw [List.range_succ, List.map_append]; rfl
    refine ⟨v i, S, k, rfl, hS4, Nat.lt_of_lt_of_le (show k + 1 < 4095 by omega) (by decide), hlt, _, _, G4, ((a.trans b).trans c).mut (.inl hD) g4, g4, upd_same, fun j => ?_, ?_, ?_⟩
    · show (S j || decide (j = v i)) = true ↔ _
      rw [Bool.or_eq_true, decide_eq_true_iff, hm j, er, List.mem_append, List.mem_singleton]
    · rw [er]
      by_cases hv : S (v i) = true
      · rw [if_pos hv, hk, List.eraseDups_append]
        have : List.removeAll [v i] ((List.range i).map v) = [] := by
          unfold List.removeAll
          rw [List.filter_cons, if_neg (by simp [List.elem_iff]; exact List.mem_map.mp ((hm _).mp hv) |>.imp fun _ h => ⟨List.mem_range.mp h.1, h.2⟩)]
          rfl
        rw [this]; simp
      · rw [if_neg hv, hk, List.eraseDups_append]
        have : List.removeAll [v i] ((List.range i).map v) = [v i] := by
          unfold List.removeAll
          rw [List.filter_cons, if_pos]
          · rfl
          · have hn : ¬ v i ∈ (List.range i).map v := fun z => hv ((hm _).mpr z)
            simpa [List.elem_iff] using hn
        rw [this, List.length_append]
        rfl
    · split <;> omega
  · have en : i = n := by omega
    subst en
    exact .inl ⟨W.stops H' (hWg _ (a.gg.trans a.gh)), hd S k G' H' a gD hS hm hk⟩
end
section
variable {X : Cx}
/-- len of a set of whole numbers -/
def rLenSet (w : World) : List V → Hp → VK → Prop := fun vs H Q => ∃ (a : Addr) (S : Int → Bool) (n : Nat), vs = [V.ref a] ∧ H a = some (SetO w a S n) ∧ Q (.int n) H
theorem lenSet : CallR X (.builtin "len") (rLenSet X.w) := by
  intro pq s σ H vs us Q Iv r h
  obtain ⟨a, S, n, rfl, ha, q⟩ := h
  rw [Vals.ref1 r]
  obtain ⟨o, es, ep, t, ho, hex, hd, g, nd, hm, hb, hf, hn, hr, hl⟩ := setO_get Iv ha
  exact call_len_set ho hex hd hf (by have z := hb; unfold scanBound at z; omega) ⟨.int n, H, Iv.tok _, ⟨_, by rw [hn]⟩, q⟩
/-- sorted of a set of whole numbers, any number -/
def rSortSet (w : World) : List V → Hp → VK → Prop := fun vs H Q => ∃ (a : Addr) (S : Int → Bool) (n : Nat), vs = [V.ref a] ∧ H a = some (SetO w a S n) ∧
  ∀ (ns : List Int) (p : Addr), ns.Pairwise (· < ·) → (∀ k : Int, k ∈ ns ↔ S k = true) → ns.length = n → H p = none → Q (.ref p) (upd H p (.lst (ns.map V.int)))
theorem ints_each {vs : List Value} {ns : List Int} {h : Heap} {a : Addr} (x : IntsAre vs ns) : PySem.W.EachIs (fun v b => ∃ as, Reads h v (PyData.int b) as ∧ a ∉ as) vs ns :=
  (PySem.W.readsAll_each PyData.int (IntsAre.reads h x)).mono fun v b ⟨as, r⟩ => by
    cases r
    exact ⟨[], Reads.int _ _, by simp⟩
theorem each_ints {h : Heap} : ∀ {vs : List Value} {ns : List Int}, PySem.W.EachIs (fun v b => ∃ as, Reads h v (PyData.int b) as) vs ns → ∃ as, ReadsAll h vs (ns.map PyData.int) as
  | _, _, e => PySem.W.each_readsAll PyData.int e
theorem ints_of_each {h : Heap} : ∀ {vs : List Value} {ns : List Int}, PySem.W.EachIs (fun v b => ∃ as, Reads h v (PyData.int b) as) vs ns → Vals (ns.map V.int) vs
  | _, _, .nil => .nil
  | _, _, .cons h1 t => by
    obtain ⟨as, r⟩ := h1
    cases r
    exact .cons ⟨_, rfl⟩ (ints_of_each t)
theorem lt_of_le_nd : ∀ (l : List Int), l.Pairwise (· ≤ ·) → l.Nodup → l.Pairwise (· < ·)
  | [], _, _ => .nil
  | x :: l, h, n => by
    obtain ⟨h1, h2⟩ := List.pairwise_cons.mp h
    obtain ⟨n1, n2⟩ := List.nodup_cons.mp n
    exact List.pairwise_cons.mpr ⟨fun y hy => by
      have a := h1 y hy
      have b : x ≠ y := fun z => n1 (by rw [z]; exact hy)
      omega, lt_of_le_nd l h2 n2⟩
theorem sortSet (hc : X.calm = true) (hu : X.A.units + 64 < cLine) : CallR X (.builtin "sorted") (rSortSet X.w) := by
  intro pq s σ H vs us Q Iv r h
  obtain ⟨a, S, n, rfl, ha, q⟩ := h
  have hh := Iv.ok.hd hc
  rw [Vals.ref1 r]
  obtain ⟨o, es, ep, t, ho, hex, hd, g, nd, hm, hb, hf, hn, hr, hl⟩ := setO_get Iv ha
  refine Calls.call_function_entry kind_sorted plain_sorted entry_sorted (args_sorted1 _) ?_
  unfold Builtin.«sorted»
  refine wpAny_bind (m := checkCount "sorted" 1 1 _) (wpAny_pure ?_)
  refine wpAny_bind (collect_set (A := X.A.in1) hh ⟨o, ho, hex.1, hd⟩ hf hb hr hl fun s1 vs k1 hz g1 o1 pm => ?_)
  have hvl : vs.length = n := by rw [pm.length_eq, List.length_map, Array.length_toList]; exact hn
  have hI : IntsAre vs (vs.map Builtin.Re.reRawOf) := ints_of vs fun v hv => by
    obtain ⟨e, he, q⟩ := List.mem_map.mp (pm.mem_iff.mp hv)
    obtain ⟨k, tk, h1, _⟩ := g e he
    exact ⟨k, tk, q ▸ h1⟩
  have pk : (vs.map Builtin.Re.reRawOf).Perm (es.toList.map keyOf) := by
    have z := pm.map Builtin.Re.reRawOf
    rwa [List.map_map] at z
  have hn4 : n < 4096 := by rw [← hn]; exact hb
  have hz4 : vs.length ≤ sizeLine := by rw [hvl, sizeLine_eq]; omega
  refine wpAny_bind (wpAny_newList ?_ hz4)
  have hoL : (s1.heap.push (seqObj "list" vs.toArray 0)).get? s1.heap.objs.size = some (seqObj "list" vs.toArray 0) := Heap.get?_push_size _ rfl
  have en := ints_each (h := s1.heap.push (seqObj "list" vs.toArray 0)) (a := s1.heap.objs.size) hI
  refine wpAny_bind (wpAny_holding (PySem.W.list_sort_data (R := fun v b => ∃ as, Reads (s1.heap.push (seqObj "list" vs.toArray 0)) v (PyData.int b) as) (enc := PyData.int) (s := { s1 with heap := s1.heap.push (seqObj "list" vs.toArray 0) }) hoL (en.mono fun v b ⟨as, r, _⟩ => ⟨as, r⟩) en
    (PySem.W.AllAlike.of fun _ _ => by simp [PySem.W.alike]) (PySem.W.Sortable.others fun b => ⟨(fun z => nomatch z), fun _ z => nomatch z⟩) (by rw [List.length_map]; exact hz4)
    (fun b _ => by have : (PyData.int b).depth = 0 := by simp [PyData.depth]
                   rw [this]; show X.A.units + 1 + 1 + 0 < cLine; omega) fun out hlo eo => ?_))
  have vo := ints_of_each eo
  rw [PySem.W.dataLe_int (fun b : Int => b)] at vo
  generalize hns : (vs.map Builtin.Re.reRawOf).mergeSort (fun a b => decide (a ≤ b)) = ns at vo
  have pn : ns.Perm (es.toList.map keyOf) := by rw [← hns]; exact (List.mergeSort_perm _ _).trans pk
  have sn : ns.Pairwise (· < ·) := lt_of_le_nd ns (by
    rw [← hns]
    have := List.pairwise_mergeSort (le := fun a b : Int => decide (a ≤ b)) (fun a b c h1 h2 => by simp at *; omega) (fun a b => by simp; omega) (vs.map Builtin.Re.reRawOf)
    exact this.imp fun h => of_decide_eq_true h) (pn.nodup_iff.mpr nd)
  have hl2 : ns.length = n := by rw [pn.length_eq, List.length_map, Array.length_toList]; exact hn
  obtain ⟨c, hc2⟩ := sortedHeap_at (vs := vs) (out := out.toArray) hoL
  have kp : ∀ b u, s.heap.get? b = some u → (sortedHeap (s1.heap.push (seqObj "list" vs.toArray 0)) s1.heap.objs.size vs out.toArray).get? b = some u := fun b u e => by
    have q := k1 b u e
    have hlt := Heap.lt_size q
    rw [sortedHeap_old (Nat.ne_of_lt hlt) (by rw [size_push']; exact Nat.lt_succ_of_lt hlt)]
    exact Heap.get?_push_of_some _ q
  have hp : H s1.heap.objs.size = none := Iv.hok.fresh hz
  have J : Inv X pq σ (upd H s1.heap.objs.size (.lst (ns.map V.int))) { s with heap := sortedHeap (s1.heap.push (seqObj "list" vs.toArray 0)) s1.heap.objs.size vs out.toArray, gens := s1.gens, drawn := s1.drawn, toks := s1.toks } :=
    Iv.call (ch := []) (Un.laid kp hz hp) (Iv.hok.laid kp hz ⟨by rw [List.length_map, hl2, ← hvl]; exact hz4, out, c, vo, hc2⟩) (by rw [g1]; exact Iv.bare) (fun _ z => nomatch z)
  refine wpAny_pure ⟨_, rfl, ?_⟩
  obtain ⟨h1, g1', d1, t1, os1⟩ := s1
  obtain rfl : os1 = s.os := o1
  exact ⟨.ref _, _, J, rfl, q ns _ sn (fun k => by rw [pn.mem_iff, ← hm k]) hl2 hp⟩
end
end Hx
/-! defs that are called while an exception is handled and handed over to them; list.count of flat things -/
namespace Hx
open PySem PySem.Spec PyProof.Rows L2 L2H
/-- such a def: p, the exception's object, stands still -/
structure FnP (P : Program) (w : World) (K : PySem.W.Frag) (mg : Str → Option Value) (base : Heap) (k : Nat) (f : Addr) (fd : FuncData) (ps : List Str) (p : Addr × Obj) (sp : Sp) : Prop where
  len : ∀ vs H Q E, sp vs H Q E → vs.length = ps.length
  run : ∀ (A : Around) (outer : List Env) (s : Shared) (H : Hp) (args : Args) (us : List Value) (vs : List V) (Q : VK), RoomH k A → PinOk outer H s p → Env0 P w K mg base A outer s H → BindsTo s fd args (ps.zip us) → Vals vs us → sp vs H Q E0 →
    codeAny (model P w) A (.call (.ref f) args) (CR CX0 outer P w H s Q E0) s
section
variable {P : Program} {w : World} {K : PySem.W.Frag} {mg : Str → Option Value} {base : Heap}
theorem fn_ofP {k : Nat} {f : Addr} {x qual : Str} {params : Arguments} {body : List Stmt} {scope : Scope} {fd : FuncData} {N ps : List Str} {sp : Sp} {p : Addr × Obj} (F : FunD K x qual params body scope [] [] f fd) (S : FnScope N ps scope)
    (len : ∀ vs H Q E, sp vs H Q E → vs.length = ps.length)
    (hbody : ∀ (cdv : Value) (A : Around) (outer : List Env) (s : Shared) (H : Hp) (vs : List V) (Q : VK), RoomH k (A.deeper (envOfC qual scope s.heap.objs.size f cdv)) → sp vs H Q E0 →
      ∃ t, PSs (cxH CX0 P w K mg base N qual scope f cdv A outer s H E0 p).nox body t ∧ t { nx := fun _ H' => Q .non H', rt := Q } (L2.start N vs) H) : FnP P w K mg base (k + 1) f fd ps p sp := by
  obtain ⟨oc, od, dV, kV, doc, pm, an, cdv, ct, osl, rfl, lk, hcd, _, _⟩ := F.ex
  refine ⟨len, fun A outer s H args us vs Q hr hpin e0 hb r hsp => ?_⟩
  have KX : K.In s.heap := e0.mod.kin.keeps fun b o e => (e0.bs b o e).1
  have lim : s.heap.NoLimit := e0.mod.nolimit.keeps fun b o e => (e0.bs b o e).1
  refine codeAny_call_function hr.depth (KX _ _ lk) rfl S.co S.gen rfl (PySem.W.codeRec_of KX hcd) (hb _ _ _ _ ?_)
  refine wpAny_newFunctionEnv_cells S.kind (fun ⟨n, v⟩ hy => ?_) fun env he s1 x1 => ?_
  · rcases S.par n (List.of_mem_zip hy).1 with q | q
    · exact .inl q
    · exact .inr ⟨q, PySem.W.cellsFrom_some _ _ _ (.inl q)⟩
  subst he
  refine ⟨lim.keeps x1.toInCall.keep, codeAny_func ?_⟩
  obtain ⟨t, ht, hq⟩ := hbody cdv A outer s H vs Q (hr.deeper _) hsp
  have Iv : Inv (cxH CX0 P w K mg base N qual scope f cdv A outer s H E0 p) [] (L2.start N vs) H s1 := inv_startH S hpin e0 (len _ _ _ _ hsp) r x1
  refine wpAny_mono (ht.nox.run [] s1 (L2.start N vs) H _ Iv hq) (fun fl s' hs => ?_) fun e s' hs => hs
  have fin : ∀ {σ' : L2.St} {H' : Hp} {v : V} {u : Value}, Inv (cxH CX0 P w K mg base N qual scope f cdv A outer s H E0 p) [] σ' H' s' → RelV v u → Q v H' → CE outer P w H s Q u s' :=
    fun {σ' H' v u} J rv q => ⟨v, H', J.os, J.bare, J.base, J.hok, rv, q⟩
  cases fl with
  | ret u => obtain ⟨v, σ', H', J, rv, q⟩ := hs; exact fin J rv q
  | next => obtain ⟨σ', H', J, q⟩ := hs; exact fin (v := V.non) (u := Value.none) J rfl q
  | brk => obtain ⟨_, _, _, q⟩ := hs; exact False.elim q
  | cont => obtain ⟨_, _, _, q⟩ := hs; exact False.elim q
structure CalP (P : Program) (w : World) (K : PySem.W.Frag) (mg : Str → Option Value) (base : Heap) (k : Nat) (x : Str) (ps : List Str) (p : Addr × Obj) (sp : Sp) : Prop where
  g : mg x = some (.ref (He.ga K x))
  ex : ∃ fd, PySem.W.keepIn K (.ref (He.ga K x)) = true ∧ FnP P w K mg base k (He.ga K x) fd ps p sp ∧ Binds K fd ps []
theorem mkCalP {x : Str} {st : Stmt} {N ps : List Str} {k : Nat} {sp : Sp} {p : Addr × Obj} (g : mg x = some (.ref (He.ga K x))) (d : ∃ fd, FunD K x x (defArgs st) (defBody st) (defScope st) [] [] (He.ga K x) fd) (sc : FnScope N ps (defScope st))
    (hb : ∀ (kV doc pm : Value) (an : Option Addr) (cdv ct : Value) (us : List Value), us.length = ps.length → bindArgs (PySem.W.fnOf x x (defArgs st) (defBody st) (defScope st) .none kV doc pm an cdv ct) ⟨us, []⟩ = pure (ps.zip us))
    (len : ∀ vs H Q E, sp vs H Q E → vs.length = ps.length)
    (body : ∀ (cdv : Value) (A : Around) (outer : List Env) (s : Shared) (H : Hp) (vs : List V) (Q : VK), RoomH k (A.deeper (envOfC x (defScope st) s.heap.objs.size (He.ga K x) cdv)) → sp vs H Q E0 →
      ∃ t, PSs (cxH CX0 P w K mg base N x (defScope st) (He.ga K x) cdv A outer s H E0 p).nox (defBody st) t ∧ t { nx := fun _ H' => Q .non H', rt := Q } (L2.start N vs) H) : CalP P w K mg base (k + 1) x ps p sp := by
  obtain ⟨fd, F⟩ := d
  exact ⟨g, fd, F.kp, fn_ofP F sc len body, F.bindsN hb⟩
end
section
variable {X : Cx}
theorem pe_calP {k : Nat} {x : Str} {ps : List Str} {sp : Sp} {p : Addr × Obj} {q pos : Pos} {e : Expr} {es : List Expr} {t : TA} (C : CalP X.prog X.w X.K X.mg X.base k x ps p sp) (hp : p ∈ X.pn) (hr : RoomH k X.A)
    (ha : PA X (e :: es) t) (hg : Gl X x := by rfl) (hdb : (x == ("__debug__" : Str)) = false := by decide) (he : starEach (e :: es) X.env = (false, eval e X.env) :: starEach es X.env := by rfl) (hpl : (backTo pos (starEach es X.env)).any (·.1) = false := by rfl) :
    PE X (.Call (.Name x q) (e :: es) [] pos) (tCall sp [] E0 t) := by
  obtain ⟨fd, kp, F, hb⟩ := C.ex
  refine ⟨fun pq s σ H Q Iv h => ?_⟩
  refine wpAny_Call_Name_kw (ld_glob Iv hg C.g ?_ hdb)
  refine PySem.W.callWith_K (h₀ := X.base) Iv.ok.mod.kin kp (thn (ha.run pos pq s σ H _ Iv h) fun us s1 ⟨vs, H1, I1, r, q⟩ => ⟨I1.kIn, ?_⟩) he hpl
  replace q : sp (vs ++ []) H1 Q E0 := q
  rw [List.append_nil] at q
  have hl : us.length = ps.length := by rw [← r.length]; exact F.len _ _ _ _ q
  have b := hb s1 us I1.kIn (by rw [List.append_nil]; exact hl)
  rw [List.append_nil] at b
  have P1 := I1.pin p (List.mem_append_left _ hp)
  have hpin : PinOk X.stack H1 s1 p := ⟨P1.1, P1.2.1, fun hm => (List.mem_cons.mp (I1.stkSub p.1 hm)).elim P1.2.2.1 P1.2.2.2.1, P1.2.2.2.2⟩
  refine wpAny_call (codeAny_mono (F.run X.A X.stack s1 H1 ⟨us, []⟩ us vs Q hr hpin I1.env0 b r q) fun r s' hq => ?_)
  cases r with
  | error e => exact False.elim hq
  | ok fl =>
    cases fl with
    | ret u => exact I1.after hq
    | next => exact False.elim hq
    | brk => exact False.elim hq
    | cont => exact False.elim hq
/-- isinstance(e, c), e the exception at hand -/
theorem isiP {K : PySem.W.Frag} {a D : Addr} {oe : Obj} (C : ExcC K D) (hp : (a, oe) ∈ X.pn) {d : Option Addr} {fs : List (Str × V)} (hc : oe.cls = .ref D) (hd : oe.dict = d) (hf : ∃ vs, oe.data = .fields vs) (hK : X.K = K := by rfl) :
    CallR X (.builtin "isinstance") (fun xs H Q => ∃ (c : V) (cv : Value) (b : Bool) (dd : Addr), xs = [.ref a, c] ∧ d = some dd ∧ H dd = some (.xd fs) ∧ (∀ u, RelV c u → u = cv) ∧ PySem.W.kitOne K (.ref D) cv = some b ∧ Q (.bl b) H) := by
  subst hK
  intro pq s σ H xs us Q Iv r h
  obtain ⟨c, cv, b, dd, rfl, ed, hdd, hcv, e, q⟩ := h
  cases r with
  | cons rx rr =>
    cases rr with
    | cons rt rr =>
      cases rr
      cases rx
      have ec := hcv _ rt
      subst ec
      obtain ⟨hget, _⟩ := Iv.pin (a, oe) (List.mem_append_left _ hp)
      obtain ⟨vs, hv⟩ := hf
      have hx : ObjOk X.prog X.w H s.heap dd (.xd fs) := Iv.hok dd _ hdd
      obtain ⟨mA, hns, _⟩ := hx
      obtain ⟨od, ho, _⟩ := lookIn_ns hns
      have J : PySem.W.InstAt s.heap a oe D (some od) := ⟨hget, hc, by unfold PySem.W.notCls; rw [hv] <;> rfl, by rw [hd, ed]; exact ho⟩
      have hcl : (PySem.W.clsIn X.K D).isSome = true := by
        obtain ⟨cd, hcd, _⟩ := PySem.W.any_some C.hd
        rw [hcd] <;> rfl
      exact PySem.W.kia_one (PySem.W.kitx_exc hcl C.hg C.hk C.hs C.ha C.hn C.ht C.hm) Iv.kIn J e (fun z => nomatch z) fun tk => ⟨.bl b, H, Iv.tok tk, rfl, q⟩
/-- e.f, e the exception at hand -/
theorem pe_atP {K : PySem.W.Frag} {a D : Addr} {oe : Obj} {d : Option Addr} {e : Expr} {te : TE} {pos : Pos} {n : Str} (C : ExcC K D) (hp : (a, oe) ∈ X.pn) (hc : oe.cls = .ref D) (hd : oe.dict = d) (hf : ∃ vs, oe.data = .fields vs) (hno : PySem.W.findIn K (.ref D) n = some none)
    (he : PE X e te) (hb : attributeBase e n X.env (eval e X.env) = eval e X.env := by rfl) (hK : X.K = K := by rfl) :
    PE X (.Attribute e n pos) (fun σ H Q => te σ H fun x H1 => x = .ref a ∧ ∃ (dd : Addr) (fs : List (Str × V)) (v : V), d = some dd ∧ H1 dd = some (.xd fs) ∧ fs.lookup n = some v ∧ Q v H1) := by
  subst hK
  refine ⟨fun pq s σ H Q Iv h => ?_⟩
  refine attr_of hb (thn (he.run pq s σ H _ Iv h) fun u s1 hh => ?_)
  obtain ⟨x, H1, I1, rx, ex, dd, fs, v, ed, ea, l, q⟩ := hh
  subst ex
  obtain rfl : u = Value.ref a := rx
  obtain ⟨hget, _⟩ := I1.pin (a, oe) (List.mem_append_left _ hp)
  obtain ⟨vs, hv⟩ := hf
  have hx : ObjOk X.prog X.w H1 s1.heap dd (.xd fs) := I1.hok dd _ ea
  obtain ⟨mA, hns, hr⟩ := hx
  obtain ⟨od, ho, hl⟩ := lookIn_ns hns
  obtain ⟨u, hu, ru⟩ := RelO.some_of (v := v) (o := mA n) (by rw [← l]; exact hr n)
  have J : PySem.W.InstAt s1.heap a oe D (some od) := ⟨hget, hc, by unfold PySem.W.notCls; rw [hv] <;> rfl, by rw [hd, ed]; exact ho⟩
  exact HandSPX.exc_get I1.kIn J C.hg C.hk C.hs (PySem.W.findObj_own C.hd hno rfl (by rw [hl, hu])) (handed_of ru) ⟨v, H1, I1.tok _, ru, q⟩
/-- xs.count(y), flat things -/
def rCntF (K : PySem.W.Frag) : V → List V → Hp → VK → Prop := fun x xs H Q => ∃ (p : Addr) (ys : List V) (y : V), x = .ref p ∧ xs = [y] ∧ SqL K H p ys ∧ flatV y = true ∧ ys.all flatV = true ∧ Q (.int (ys.countP (fun z => eqV z y) : Nat)) H
theorem count_eqU {x : V} : ∀ {xs : List V} {us : List Value}, Vals xs us → xs.all flatV = true → us.countP (eqU x) = xs.countP fun y => eqV y x
  | _, _, .nil, _ => rfl
  | _, _, .cons r t, f => by
    rw [List.all_cons, Bool.and_eq_true] at f
    rw [List.countP_cons, List.countP_cons, count_eqU t f.2, eqU_of r f.1]
theorem cntF {K : PySem.W.Frag} (hK : X.K = K := by rfl) : MtR X "list.count" (rCntF K) := by
  subst hK
  intro pq s σ H x xs v us Q Iv rx rxs h
  obtain ⟨p, ys, y, rfl, rfl, hs, fy, fa, q⟩ := h
  cases rx
  obtain ⟨u, rfl, ru⟩ := rxs.one
  obtain ⟨its, rv, ⟨⟨cls, dd, data, sl⟩, n, ho, hc, hdn, hd⟩, hlen⟩ := Iv.list hs
  simp only at hc hd
  subst hc hd
  refine call_meets PySem.F.slot_list_count ⟨_, ho, rfl⟩ PySem.F.entry_list_count (PySem.F.args_list_count_2 _ _)
    (SeqAt.list_countAt p its.toArray n dd sl u (eqU y)) ⟨ho, fun z hz => mem_eqAt ru fy rv fa z (by simpa using hz), ?_⟩
  refine ⟨.int (ys.countP (fun z => eqV z y) : Nat), H, Iv.tok _, ⟨s.toks, ?_⟩, q⟩
  show Value.int ((its.toArray.toList.countP (eqU y) : Nat) : Int) s.toks = _
  rw [show its.toArray.toList = its from rfl, count_eqU rv fa]
end
end Hx
namespace Hd
open PySem PySem.Spec PyProof.Rows L2
def top (i : Nat) : Stmt := PySem.Challenge.pw_holdtogether_k43_numbers_or_a_ring.main.body.getD i (.Pass ⟨0, 0, 0, 0⟩)
def mkD (x : Str) (i : Nat) : He.DefD := ⟨(x, none), x, x, defArgs (top i), defBody (top i), defScope (top i), [], []⟩
def mkM (c m q : Str) (i j : Nat) : He.DefD := ⟨(c, some m), m, q, defArgs (inClass (top i) j), defBody (inClass (top i) j), defScope (inClass (top i) j), [], []⟩
/-- an own class over ValueError, as the layer asks -/
def oexB (K : PySem.W.Frag) (C : Addr) : Bool := (match K.lookup C with
  | some ⟨.type ty, dd, .cls cd, sl⟩ => decide (ty = "type") && (decide (cd.mro.head? = some (.ref C)) && (PySem.HandSPX.refsVE cd.mro.tail && (cd.hasDict && (!cd.hasDel && (decide (sl.size = 6) && decide (sl[4]? = some (some (.builtin "ValueError.__new__"))))))))
  | _ => false) && (He.eqO (PySem.W.findIn K (.ref C) "__setattr__") (some (some (.builtin "object.__setattr__"))) && (decide (PySem.W.subIn K (.ref C) (.type "BaseException") = some true) && (decide (PySem.W.typeIn K (.ref C) = some (.type "type")) && PySem.W.keepIn K (.ref C))))
def kitB1 (K : PySem.W.Frag) (C : Addr) (q : Value × Bool) : Bool := decide (PySem.W.kitOne K (.ref C) q.1 = some q.2)
def excsB (K : PySem.W.Frag) (C : Addr) : Bool := He.eqO (PySem.W.findIn K (.ref C) "__getattribute__") (some (some (.builtin "BaseException.__getattribute__"))) && (He.eqO (PySem.W.findIn K (.ref C) "__getattr__") (some none) && (PySem.W.hasDictIn K C && (He.eqO (PySem.W.findIn K (.ref C) "__class__") (some (some (.builtin "object.__class__"))) && (He.eqO (PySem.W.specialIn K (.builtin "object.__class__") "__get__") (some (some (.builtin "getset_descriptor.__get__"))) && (decide (PySem.W.takesIn K (.builtin "object.__class__") = some true) && decide (PySem.W.mroIn K C (.type "object") = some true))))))
def fn : List He.DefD := [mkD "is_number" 1, mkD "is_bound" 3, mkD "are_bounds" 4, mkD "names_of" 5, mkD "are_numbers" 6, mkD "are_met" 7, mkD "raised" 8, mkD "ring_behind" 9, mkD "least_or_ring" 10, mkD "least_ways" 11, mkD "way_back" 12, mkD "check_bounds" 28, mkD "check_ends" 29, mkD "settled" 30, mkD "highest" 31, mkD "sum_of_way" 32, mkD "is_ring" 33, mkD "is_answer" 34, mkD "is_settled" 35, mkD "can_rise" 36, mkD "is_highest" 37, mkD "_law_stream" 39, mkD "_law_next" 40, mkD "_law_pick" 41, mkD "_law_from" 42, mkD "_law_shuffled" 43, mkD "_law_number" 44, mkD "_law_is_word" 45, mkD "_law_is_row" 46, mkD "_law_same" 47, mkD "_law_copy" 48, mkD "_law_named" 49, mkD "_law_attributes" 50, mkD "_law_error" 51, mkD "_law_odd_names" 52, mkD "_law_loose_bounds" 53, mkD "_law_closed" 54, mkD "_law_scene" 55, mkD "_law_in_bounds" 56, mkD "_law_least" 57, mkD "_law_reach" 58, mkD "_law_led" 59, mkD "_law_sum_of" 60, mkD "_law_ring_right" 61, mkD "_law_numbers_right" 62, mkD "_law_right_settled" 63, mkD "_law_rising" 64, mkD "_law_right_highest" 65, mkD "_law_spoilt_numbers" 66, mkD "_law_spoilt_ways" 67, mkD "_law_settled_fits" 68, mkD "_law_union" 69, mkD "_law_highest_fits" 70, mkD "_law_told" 71, mkD "_law_refusals" 72, mkD "law" 73, mkM "BadValue" "__init__" "BadValue.__init__" 20 0, mkM "TooMany" "__init__" "TooMany.__init__" 22 0]
def fa : List He.Fa := [.glo "is_number", .glo "is_bound", .glo "are_bounds", .glo "names_of", .glo "are_numbers", .glo "are_met", .glo "raised", .glo "ring_behind", .glo "least_or_ring", .glo "least_ways", .glo "way_back", .glo "check_bounds", .glo "check_ends", .glo "settled", .glo "highest", .glo "sum_of_way", .glo "is_ring", .glo "is_answer", .glo "is_settled", .glo "can_rise", .glo "is_highest", .glo "_law_stream", .glo "_law_next", .glo "_law_pick", .glo "_law_from", .glo "_law_shuffled", .glo "_law_number", .glo "_law_is_word", .glo "_law_is_row", .glo "_law_same", .glo "_law_copy", .glo "_law_named", .glo "_law_attributes", .glo "_law_error", .glo "_law_odd_names", .glo "_law_loose_bounds", .glo "_law_closed", .glo "_law_scene", .glo "_law_in_bounds", .glo "_law_least", .glo "_law_reach", .glo "_law_led", .glo "_law_sum_of", .glo "_law_ring_right", .glo "_law_numbers_right", .glo "_law_right_settled", .glo "_law_rising", .glo "_law_right_highest", .glo "_law_spoilt_numbers", .glo "_law_spoilt_ways", .glo "_law_settled_fits", .glo "_law_union", .glo "_law_highest_fits", .glo "_law_told", .glo "_law_refusals", .glo "law", .glo "HoldError", .glo "BadText", .glo "BadSort", .glo "BadLine", .glo "BadModel", .glo "BadPlan", .glo "BadValue", .glo "BadEdit", .glo "TooMany", .glo "TooLong", .glo "NothingToUndo", .glo "NothingToRedo", .free "isinstance", .free "len", .free "all", .free "sorted", .free "range", .free "list", .free "tuple", .free "int", .free "abs", .free "str", .free "bool", .free "dict", .free "min", .free "max", .free "ValueError", .int "MOST_BOUNDS" 1000]
def kl_BadValue (K : PySem.W.Frag) : List (Value × Bool) := [(.ref (He.ga K "HoldError"), true), (.ref (He.ga K "BadText"), false), (.ref (He.ga K "BadSort"), false), (.ref (He.ga K "BadLine"), false), (.ref (He.ga K "BadModel"), false), (.ref (He.ga K "BadPlan"), false), (.ref (He.ga K "BadValue"), true), (.ref (He.ga K "BadEdit"), false), (.ref (He.ga K "TooMany"), false), (.ref (He.ga K "TooLong"), false), (.ref (He.ga K "NothingToUndo"), false), (.ref (He.ga K "NothingToRedo"), false), (.type "ValueError", true)]
def kl_TooMany (K : PySem.W.Frag) : List (Value × Bool) := [(.ref (He.ga K "HoldError"), true), (.ref (He.ga K "BadText"), false), (.ref (He.ga K "BadSort"), false), (.ref (He.ga K "BadLine"), false), (.ref (He.ga K "BadModel"), false), (.ref (He.ga K "BadPlan"), false), (.ref (He.ga K "BadValue"), false), (.ref (He.ga K "BadEdit"), false), (.ref (He.ga K "TooMany"), true), (.ref (He.ga K "TooLong"), false), (.ref (He.ga K "NothingToUndo"), false), (.ref (He.ga K "NothingToRedo"), false), (.type "ValueError", true)]
def ex (K : PySem.W.Frag) : Bool := (oexB K (He.ga K "BadValue") && (excsB K (He.ga K "BadValue") && (decide (PySem.W.findIn K (.ref (He.ga K "BadValue")) "__init__" = some (some (.ref (He.ma K (He.ga K "BadValue") "__init__")))) && (decide (PySem.W.typeIn K (.ref (He.ma K (He.ga K "BadValue") "__init__")) = some (.type "function")) && (decide (PySem.W.exmOne K (.ref (He.ga K "BadValue")) (.ref (He.ga K "HoldError")) = some true) && (decide (PySem.W.findIn K (.ref (He.ga K "BadValue")) "name" = some none) && (decide (PySem.W.findIn K (.ref (He.ga K "BadValue")) "word" = some none) && (kl_BadValue K).all (kitB1 K (He.ga K "BadValue"))))))))) && (oexB K (He.ga K "TooMany") && (excsB K (He.ga K "TooMany") && (decide (PySem.W.findIn K (.ref (He.ga K "TooMany")) "__init__" = some (some (.ref (He.ma K (He.ga K "TooMany") "__init__")))) && (decide (PySem.W.typeIn K (.ref (He.ma K (He.ga K "TooMany") "__init__")) = some (.type "function")) && (decide (PySem.W.exmOne K (.ref (He.ga K "TooMany")) (.ref (He.ga K "HoldError")) = some true) && (decide (PySem.W.findIn K (.ref (He.ga K "TooMany")) "name" = some none) && (decide (PySem.W.findIn K (.ref (He.ga K "TooMany")) "word" = some none) && (kl_TooMany K).all (kitB1 K (He.ga K "TooMany")))))))))
/-- what the top has written -/
structure ExF (K : PySem.W.Frag) (C fI : Addr) : Prop where
  oex : OexC K C
  ini : PySem.W.findIn K (.ref C) "__init__" = some (some (.ref fI))
  tyI : PySem.W.typeIn K (.ref fI) = some (.type "function")
  excC : ExcC K C
  exm : PySem.W.exmOne K (.ref C) (.ref (He.ga K "HoldError")) = some true
  noF : PySem.W.findIn K (.ref C) "name" = some none ∧ PySem.W.findIn K (.ref C) "word" = some none
structure Txt (K : PySem.W.Frag) (mg : Str → Option Value) : Prop where
  n_isinstance : mg "isinstance" = none
  n_len : mg "len" = none
  n_all : mg "all" = none
  n_sorted : mg "sorted" = none
  n_range : mg "range" = none
  n_list : mg "list" = none
  n_tuple : mg "tuple" = none
  n_int : mg "int" = none
  n_abs : mg "abs" = none
  n_str : mg "str" = none
  n_bool : mg "bool" = none
  n_dict : mg "dict" = none
  n_min : mg "min" = none
  n_max : mg "max" = none
  n_ValueError : mg "ValueError" = none
  g_is_number : mg "is_number" = some (.ref (He.ga K "is_number"))
  g_is_bound : mg "is_bound" = some (.ref (He.ga K "is_bound"))
  g_are_bounds : mg "are_bounds" = some (.ref (He.ga K "are_bounds"))
  g_names_of : mg "names_of" = some (.ref (He.ga K "names_of"))
  g_are_numbers : mg "are_numbers" = some (.ref (He.ga K "are_numbers"))
  g_are_met : mg "are_met" = some (.ref (He.ga K "are_met"))
  g_raised : mg "raised" = some (.ref (He.ga K "raised"))
  g_ring_behind : mg "ring_behind" = some (.ref (He.ga K "ring_behind"))
  g_least_or_ring : mg "least_or_ring" = some (.ref (He.ga K "least_or_ring"))
  g_least_ways : mg "least_ways" = some (.ref (He.ga K "least_ways"))
  g_way_back : mg "way_back" = some (.ref (He.ga K "way_back"))
  g_check_bounds : mg "check_bounds" = some (.ref (He.ga K "check_bounds"))
  g_check_ends : mg "check_ends" = some (.ref (He.ga K "check_ends"))
  g_settled : mg "settled" = some (.ref (He.ga K "settled"))
  g_highest : mg "highest" = some (.ref (He.ga K "highest"))
  g_sum_of_way : mg "sum_of_way" = some (.ref (He.ga K "sum_of_way"))
  g_is_ring : mg "is_ring" = some (.ref (He.ga K "is_ring"))
  g_is_answer : mg "is_answer" = some (.ref (He.ga K "is_answer"))
  g_is_settled : mg "is_settled" = some (.ref (He.ga K "is_settled"))
  g_can_rise : mg "can_rise" = some (.ref (He.ga K "can_rise"))
  g_is_highest : mg "is_highest" = some (.ref (He.ga K "is_highest"))
  g__law_stream : mg "_law_stream" = some (.ref (He.ga K "_law_stream"))
  g__law_next : mg "_law_next" = some (.ref (He.ga K "_law_next"))
  g__law_pick : mg "_law_pick" = some (.ref (He.ga K "_law_pick"))
  g__law_from : mg "_law_from" = some (.ref (He.ga K "_law_from"))
  g__law_shuffled : mg "_law_shuffled" = some (.ref (He.ga K "_law_shuffled"))
  g__law_number : mg "_law_number" = some (.ref (He.ga K "_law_number"))
  g__law_is_word : mg "_law_is_word" = some (.ref (He.ga K "_law_is_word"))
  g__law_is_row : mg "_law_is_row" = some (.ref (He.ga K "_law_is_row"))
  g__law_same : mg "_law_same" = some (.ref (He.ga K "_law_same"))
  g__law_copy : mg "_law_copy" = some (.ref (He.ga K "_law_copy"))
  g__law_named : mg "_law_named" = some (.ref (He.ga K "_law_named"))
  g__law_attributes : mg "_law_attributes" = some (.ref (He.ga K "_law_attributes"))
  g__law_error : mg "_law_error" = some (.ref (He.ga K "_law_error"))
  g__law_odd_names : mg "_law_odd_names" = some (.ref (He.ga K "_law_odd_names"))
  g__law_loose_bounds : mg "_law_loose_bounds" = some (.ref (He.ga K "_law_loose_bounds"))
  g__law_closed : mg "_law_closed" = some (.ref (He.ga K "_law_closed"))
  g__law_scene : mg "_law_scene" = some (.ref (He.ga K "_law_scene"))
  g__law_in_bounds : mg "_law_in_bounds" = some (.ref (He.ga K "_law_in_bounds"))
  g__law_least : mg "_law_least" = some (.ref (He.ga K "_law_least"))
  g__law_reach : mg "_law_reach" = some (.ref (He.ga K "_law_reach"))
  g__law_led : mg "_law_led" = some (.ref (He.ga K "_law_led"))
  g__law_sum_of : mg "_law_sum_of" = some (.ref (He.ga K "_law_sum_of"))
  g__law_ring_right : mg "_law_ring_right" = some (.ref (He.ga K "_law_ring_right"))
  g__law_numbers_right : mg "_law_numbers_right" = some (.ref (He.ga K "_law_numbers_right"))
  g__law_right_settled : mg "_law_right_settled" = some (.ref (He.ga K "_law_right_settled"))
  g__law_rising : mg "_law_rising" = some (.ref (He.ga K "_law_rising"))
  g__law_right_highest : mg "_law_right_highest" = some (.ref (He.ga K "_law_right_highest"))
  g__law_spoilt_numbers : mg "_law_spoilt_numbers" = some (.ref (He.ga K "_law_spoilt_numbers"))
  g__law_spoilt_ways : mg "_law_spoilt_ways" = some (.ref (He.ga K "_law_spoilt_ways"))
  g__law_settled_fits : mg "_law_settled_fits" = some (.ref (He.ga K "_law_settled_fits"))
  g__law_union : mg "_law_union" = some (.ref (He.ga K "_law_union"))
  g__law_highest_fits : mg "_law_highest_fits" = some (.ref (He.ga K "_law_highest_fits"))
  g__law_told : mg "_law_told" = some (.ref (He.ga K "_law_told"))
  g__law_refusals : mg "_law_refusals" = some (.ref (He.ga K "_law_refusals"))
  g_law : mg "law" = some (.ref (He.ga K "law"))
  g_HoldError : mg "HoldError" = some (.ref (He.ga K "HoldError"))
  g_BadText : mg "BadText" = some (.ref (He.ga K "BadText"))
  g_BadSort : mg "BadSort" = some (.ref (He.ga K "BadSort"))
  g_BadLine : mg "BadLine" = some (.ref (He.ga K "BadLine"))
  g_BadModel : mg "BadModel" = some (.ref (He.ga K "BadModel"))
  g_BadPlan : mg "BadPlan" = some (.ref (He.ga K "BadPlan"))
  g_BadValue : mg "BadValue" = some (.ref (He.ga K "BadValue"))
  g_BadEdit : mg "BadEdit" = some (.ref (He.ga K "BadEdit"))
  g_TooMany : mg "TooMany" = some (.ref (He.ga K "TooMany"))
  g_TooLong : mg "TooLong" = some (.ref (He.ga K "TooLong"))
  g_NothingToUndo : mg "NothingToUndo" = some (.ref (He.ga K "NothingToUndo"))
  g_NothingToRedo : mg "NothingToRedo" = some (.ref (He.ga K "NothingToRedo"))
  c_MOST_BOUNDS : ∃ t, mg "MOST_BOUNDS" = some (.int 1000 t)
  d_is_number : ∃ fd, FunD K "is_number" "is_number" (defArgs (top 1)) (defBody (top 1)) (defScope (top 1)) [] [] (He.ga K "is_number") fd
  d_is_bound : ∃ fd, FunD K "is_bound" "is_bound" (defArgs (top 3)) (defBody (top 3)) (defScope (top 3)) [] [] (He.ga K "is_bound") fd
  d_are_bounds : ∃ fd, FunD K "are_bounds" "are_bounds" (defArgs (top 4)) (defBody (top 4)) (defScope (top 4)) [] [] (He.ga K "are_bounds") fd
  d_names_of : ∃ fd, FunD K "names_of" "names_of" (defArgs (top 5)) (defBody (top 5)) (defScope (top 5)) [] [] (He.ga K "names_of") fd
  d_are_numbers : ∃ fd, FunD K "are_numbers" "are_numbers" (defArgs (top 6)) (defBody (top 6)) (defScope (top 6)) [] [] (He.ga K "are_numbers") fd
  d_are_met : ∃ fd, FunD K "are_met" "are_met" (defArgs (top 7)) (defBody (top 7)) (defScope (top 7)) [] [] (He.ga K "are_met") fd
  d_raised : ∃ fd, FunD K "raised" "raised" (defArgs (top 8)) (defBody (top 8)) (defScope (top 8)) [] [] (He.ga K "raised") fd
  d_ring_behind : ∃ fd, FunD K "ring_behind" "ring_behind" (defArgs (top 9)) (defBody (top 9)) (defScope (top 9)) [] [] (He.ga K "ring_behind") fd
  d_least_or_ring : ∃ fd, FunD K "least_or_ring" "least_or_ring" (defArgs (top 10)) (defBody (top 10)) (defScope (top 10)) [] [] (He.ga K "least_or_ring") fd
  d_least_ways : ∃ fd, FunD K "least_ways" "least_ways" (defArgs (top 11)) (defBody (top 11)) (defScope (top 11)) [] [] (He.ga K "least_ways") fd
  d_way_back : ∃ fd, FunD K "way_back" "way_back" (defArgs (top 12)) (defBody (top 12)) (defScope (top 12)) [] [] (He.ga K "way_back") fd
  d_check_bounds : ∃ fd, FunD K "check_bounds" "check_bounds" (defArgs (top 28)) (defBody (top 28)) (defScope (top 28)) [] [] (He.ga K "check_bounds") fd
  d_check_ends : ∃ fd, FunD K "check_ends" "check_ends" (defArgs (top 29)) (defBody (top 29)) (defScope (top 29)) [] [] (He.ga K "check_ends") fd
  d_settled : ∃ fd, FunD K "settled" "settled" (defArgs (top 30)) (defBody (top 30)) (defScope (top 30)) [] [] (He.ga K "settled") fd
  d_highest : ∃ fd, FunD K "highest" "highest" (defArgs (top 31)) (defBody (top 31)) (defScope (top 31)) [] [] (He.ga K "highest") fd
  d_sum_of_way : ∃ fd, FunD K "sum_of_way" "sum_of_way" (defArgs (top 32)) (defBody (top 32)) (defScope (top 32)) [] [] (He.ga K "sum_of_way") fd
  d_is_ring : ∃ fd, FunD K "is_ring" "is_ring" (defArgs (top 33)) (defBody (top 33)) (defScope (top 33)) [] [] (He.ga K "is_ring") fd
  d_is_answer : ∃ fd, FunD K "is_answer" "is_answer" (defArgs (top 34)) (defBody (top 34)) (defScope (top 34)) [] [] (He.ga K "is_answer") fd
  d_is_settled : ∃ fd, FunD K "is_settled" "is_settled" (defArgs (top 35)) (defBody (top 35)) (defScope (top 35)) [] [] (He.ga K "is_settled") fd
  d_can_rise : ∃ fd, FunD K "can_rise" "can_rise" (defArgs (top 36)) (defBody (top 36)) (defScope (top 36)) [] [] (He.ga K "can_rise") fd
  d_is_highest : ∃ fd, FunD K "is_highest" "is_highest" (defArgs (top 37)) (defBody (top 37)) (defScope (top 37)) [] [] (He.ga K "is_highest") fd
  d__law_stream : ∃ fd, FunD K "_law_stream" "_law_stream" (defArgs (top 39)) (defBody (top 39)) (defScope (top 39)) [] [] (He.ga K "_law_stream") fd
  d__law_next : ∃ fd, FunD K "_law_next" "_law_next" (defArgs (top 40)) (defBody (top 40)) (defScope (top 40)) [] [] (He.ga K "_law_next") fd
  d__law_pick : ∃ fd, FunD K "_law_pick" "_law_pick" (defArgs (top 41)) (defBody (top 41)) (defScope (top 41)) [] [] (He.ga K "_law_pick") fd
  d__law_from : ∃ fd, FunD K "_law_from" "_law_from" (defArgs (top 42)) (defBody (top 42)) (defScope (top 42)) [] [] (He.ga K "_law_from") fd
  d__law_shuffled : ∃ fd, FunD K "_law_shuffled" "_law_shuffled" (defArgs (top 43)) (defBody (top 43)) (defScope (top 43)) [] [] (He.ga K "_law_shuffled") fd
  d__law_number : ∃ fd, FunD K "_law_number" "_law_number" (defArgs (top 44)) (defBody (top 44)) (defScope (top 44)) [] [] (He.ga K "_law_number") fd
  d__law_is_word : ∃ fd, FunD K "_law_is_word" "_law_is_word" (defArgs (top 45)) (defBody (top 45)) (defScope (top 45)) [] [] (He.ga K "_law_is_word") fd
  d__law_is_row : ∃ fd, FunD K "_law_is_row" "_law_is_row" (defArgs (top 46)) (defBody (top 46)) (defScope (top 46)) [] [] (He.ga K "_law_is_row") fd
  d__law_same : ∃ fd, FunD K "_law_same" "_law_same" (defArgs (top 47)) (defBody (top 47)) (defScope (top 47)) [] [] (He.ga K "_law_same") fd
  d__law_copy : ∃ fd, FunD K "_law_copy" "_law_copy" (defArgs (top 48)) (defBody (top 48)) (defScope (top 48)) [] [] (He.ga K "_law_copy") fd
  d__law_named : ∃ fd, FunD K "_law_named" "_law_named" (defArgs (top 49)) (defBody (top 49)) (defScope (top 49)) [] [] (He.ga K "_law_named") fd
  d__law_attributes : ∃ fd, FunD K "_law_attributes" "_law_attributes" (defArgs (top 50)) (defBody (top 50)) (defScope (top 50)) [] [] (He.ga K "_law_attributes") fd
  d__law_error : ∃ fd, FunD K "_law_error" "_law_error" (defArgs (top 51)) (defBody (top 51)) (defScope (top 51)) [] [] (He.ga K "_law_error") fd
  d__law_odd_names : ∃ fd, FunD K "_law_odd_names" "_law_odd_names" (defArgs (top 52)) (defBody (top 52)) (defScope (top 52)) [] [] (He.ga K "_law_odd_names") fd
  d__law_loose_bounds : ∃ fd, FunD K "_law_loose_bounds" "_law_loose_bounds" (defArgs (top 53)) (defBody (top 53)) (defScope (top 53)) [] [] (He.ga K "_law_loose_bounds") fd
  d__law_closed : ∃ fd, FunD K "_law_closed" "_law_closed" (defArgs (top 54)) (defBody (top 54)) (defScope (top 54)) [] [] (He.ga K "_law_closed") fd
  d__law_scene : ∃ fd, FunD K "_law_scene" "_law_scene" (defArgs (top 55)) (defBody (top 55)) (defScope (top 55)) [] [] (He.ga K "_law_scene") fd
  d__law_in_bounds : ∃ fd, FunD K "_law_in_bounds" "_law_in_bounds" (defArgs (top 56)) (defBody (top 56)) (defScope (top 56)) [] [] (He.ga K "_law_in_bounds") fd
  d__law_least : ∃ fd, FunD K "_law_least" "_law_least" (defArgs (top 57)) (defBody (top 57)) (defScope (top 57)) [] [] (He.ga K "_law_least") fd
  d__law_reach : ∃ fd, FunD K "_law_reach" "_law_reach" (defArgs (top 58)) (defBody (top 58)) (defScope (top 58)) [] [] (He.ga K "_law_reach") fd
  d__law_led : ∃ fd, FunD K "_law_led" "_law_led" (defArgs (top 59)) (defBody (top 59)) (defScope (top 59)) [] [] (He.ga K "_law_led") fd
  d__law_sum_of : ∃ fd, FunD K "_law_sum_of" "_law_sum_of" (defArgs (top 60)) (defBody (top 60)) (defScope (top 60)) [] [] (He.ga K "_law_sum_of") fd
  d__law_ring_right : ∃ fd, FunD K "_law_ring_right" "_law_ring_right" (defArgs (top 61)) (defBody (top 61)) (defScope (top 61)) [] [] (He.ga K "_law_ring_right") fd
  d__law_numbers_right : ∃ fd, FunD K "_law_numbers_right" "_law_numbers_right" (defArgs (top 62)) (defBody (top 62)) (defScope (top 62)) [] [] (He.ga K "_law_numbers_right") fd
  d__law_right_settled : ∃ fd, FunD K "_law_right_settled" "_law_right_settled" (defArgs (top 63)) (defBody (top 63)) (defScope (top 63)) [] [] (He.ga K "_law_right_settled") fd
  d__law_rising : ∃ fd, FunD K "_law_rising" "_law_rising" (defArgs (top 64)) (defBody (top 64)) (defScope (top 64)) [] [] (He.ga K "_law_rising") fd
  d__law_right_highest : ∃ fd, FunD K "_law_right_highest" "_law_right_highest" (defArgs (top 65)) (defBody (top 65)) (defScope (top 65)) [] [] (He.ga K "_law_right_highest") fd
  d__law_spoilt_numbers : ∃ fd, FunD K "_law_spoilt_numbers" "_law_spoilt_numbers" (defArgs (top 66)) (defBody (top 66)) (defScope (top 66)) [] [] (He.ga K "_law_spoilt_numbers") fd
  d__law_spoilt_ways : ∃ fd, FunD K "_law_spoilt_ways" "_law_spoilt_ways" (defArgs (top 67)) (defBody (top 67)) (defScope (top 67)) [] [] (He.ga K "_law_spoilt_ways") fd
  d__law_settled_fits : ∃ fd, FunD K "_law_settled_fits" "_law_settled_fits" (defArgs (top 68)) (defBody (top 68)) (defScope (top 68)) [] [] (He.ga K "_law_settled_fits") fd
  d__law_union : ∃ fd, FunD K "_law_union" "_law_union" (defArgs (top 69)) (defBody (top 69)) (defScope (top 69)) [] [] (He.ga K "_law_union") fd
  d__law_highest_fits : ∃ fd, FunD K "_law_highest_fits" "_law_highest_fits" (defArgs (top 70)) (defBody (top 70)) (defScope (top 70)) [] [] (He.ga K "_law_highest_fits") fd
  d__law_told : ∃ fd, FunD K "_law_told" "_law_told" (defArgs (top 71)) (defBody (top 71)) (defScope (top 71)) [] [] (He.ga K "_law_told") fd
  d__law_refusals : ∃ fd, FunD K "_law_refusals" "_law_refusals" (defArgs (top 72)) (defBody (top 72)) (defScope (top 72)) [] [] (He.ga K "_law_refusals") fd
  d_law : ∃ fd, FunD K "law" "law" (defArgs (top 73)) (defBody (top 73)) (defScope (top 73)) [] [] (He.ga K "law") fd
  i_BadValue : ∃ fd, FunD K "__init__" "BadValue.__init__" (defArgs (inClass (top 20) 0)) (defBody (inClass (top 20) 0)) (defScope (inClass (top 20) 0)) [] [] (He.ma K (He.ga K "BadValue") "__init__") fd
  x_BadValue : ExF K (He.ga K "BadValue") (He.ma K (He.ga K "BadValue") "__init__")
  q_BadValue : ∀ q ∈ kl_BadValue K, PySem.W.kitOne K (.ref (He.ga K "BadValue")) q.1 = some q.2
  i_TooMany : ∃ fd, FunD K "__init__" "TooMany.__init__" (defArgs (inClass (top 22) 0)) (defBody (inClass (top 22) 0)) (defScope (inClass (top 22) 0)) [] [] (He.ma K (He.ga K "TooMany") "__init__") fd
  x_TooMany : ExF K (He.ga K "TooMany") (He.ma K (He.ga K "TooMany") "__init__")
  q_TooMany : ∀ q ∈ kl_TooMany K, PySem.W.kitOne K (.ref (He.ga K "TooMany")) q.1 = some q.2
def lo0 : List Str := ["is_number", "is_bound", "are_bounds", "names_of", "are_numbers", "are_met", "raised", "ring_behind", "least_or_ring", "least_ways", "way_back", "check_bounds", "check_ends", "settled", "highest", "sum_of_way", "is_ring", "is_answer", "is_settled", "can_rise", "is_highest", "_law_stream", "_law_next", "_law_pick", "_law_from", "_law_shuffled", "_law_number", "_law_is_word", "_law_is_row", "_law_same"]
def lo1 : List Str := ["_law_copy", "_law_named", "_law_attributes", "_law_error", "_law_odd_names", "_law_loose_bounds", "_law_closed", "_law_scene", "_law_in_bounds", "_law_least", "_law_reach", "_law_led", "_law_sum_of", "_law_ring_right", "_law_numbers_right", "_law_right_settled", "_law_rising", "_law_right_highest", "_law_spoilt_numbers", "_law_spoilt_ways", "_law_settled_fits", "_law_union", "_law_highest_fits", "_law_told", "_law_refusals", "HoldError", "BadText", "BadSort", "BadLine", "BadModel"]
def lo2 : List Str := ["BadPlan", "BadValue", "BadEdit", "TooMany", "TooLong", "NothingToUndo", "NothingToRedo", "MOST_BOUNDS"]
def loose : List Str := lo0 ++ lo1 ++ lo2
abbrev R : PySem.W.OpenRow := PySem.W.OpenLaw.row PySem.Challenge.rw_holdtogether_k43_numbers_or_a_ring
abbrev hk : PySem.W.Hook := He.hookX 5 fa fn [] [] ex
def ob (s : PySem.W.SharedT) : He.AlX := He.obsX 5 fa fn [] [] ex (HandSHeadRun.getT s)
theorem ob_eq (s : PySem.W.SharedT) : ob s = hk.obs s.abs := He.obsX_eq (HandSHeadRun.getT_eq s)
theorem run (w : World) : HandSHeadRun.RunEq R (PySem.W.view R.prog [73]) hk ob 7000 loose w := by
  intro os
  kernel_rfl
theorem oexB_ok {K : PySem.W.Frag} {C : Addr} (h : oexB K C = true) : OexC K C := by
  unfold oexB at h
  obtain ⟨h1, h⟩ := He.ba h
  obtain ⟨h2, h⟩ := He.ba h
  obtain ⟨h3, h⟩ := He.ba h
  obtain ⟨h4, h5⟩ := He.ba h
  refine ⟨?_, He.eqO_ok h2, of_decide_eq_true h3, of_decide_eq_true h4, h5⟩
  cases q : K.lookup C with
  | none => rw [q] at h1; cases h1
  | some o =>
    rw [q] at h1
    obtain ⟨oc, od, dt, sl⟩ := o
    cases oc with
    | type ty =>
      cases dt with
      | cls cd =>
        obtain ⟨a1, b⟩ := He.ba h1
        obtain ⟨a2, b⟩ := He.ba b
        obtain ⟨a3, b⟩ := He.ba b
        obtain ⟨a4, b⟩ := He.ba b
        obtain ⟨a5, b⟩ := He.ba b
        obtain ⟨a6, a7⟩ := He.ba b
        have e1 : ty = "type" := of_decide_eq_true a1
        have e2 := of_decide_eq_true a2
        have e6 := of_decide_eq_true a6
        have e7 := of_decide_eq_true a7
        obtain ⟨nm, bs, mro, ns, qn, hd, sn, sb, ab, col, del⟩ := cd
        dsimp only at e2 a3 a4 a5
        obtain ⟨bm, rfl⟩ : ∃ bm, mro = .ref C :: bm := by
          cases mro with
          | nil => cases e2
          | cons m r => exact ⟨r, by rw [Option.some.inj e2]⟩
        have hdl : del = false := by
          cases del with
          | false => rfl
          | true => cases a5
        have hds : hd = true := a4
        subst e1 hdl hds
        have hsl : sl = #[sl[0]'(by omega), sl[1]'(by omega), sl[2]'(by omega), sl[3]'(by omega), some (.builtin "ValueError.__new__"), sl[5]'(by omega)] := by
          apply Array.ext
          · simp [e6]
          · intro i hi hi2
            have hi6 : i < 6 := by omega
            rcases (by omega : i = 0 ∨ i = 1 ∨ i = 2 ∨ i = 3 ∨ i = 4 ∨ i = 5) with rfl | rfl | rfl | rfl | rfl | rfl
            · rfl
            · rfl
            · rfl
            · rfl
            · have z := e7
              rw [Array.getElem?_eq_getElem (by omega)] at z
              simpa using z
            · rfl
        exact ⟨nm, qn, ns, bs, bm, sn, sb, ab, col, od, _, _, _, _, _, by rw [hsl], a3⟩
      | _ => cases h1
    | _ => cases h1
theorem excsB_ok {K : PySem.W.Frag} {C : Addr} (h : excsB K C = true) (hs : PySem.W.subIn K (.ref C) (.type "BaseException") = some true) : ExcC K C := by
  unfold excsB at h
  obtain ⟨h1, h⟩ := He.ba h
  obtain ⟨h2, h⟩ := He.ba h
  obtain ⟨h3, h⟩ := He.ba h
  obtain ⟨h4, h⟩ := He.ba h
  obtain ⟨h5, h⟩ := He.ba h
  obtain ⟨h6, h7⟩ := He.ba h
  exact ⟨He.eqO_ok h1, He.eqO_ok h2, hs, h3, He.eqO_ok h4, He.eqO_ok h5, of_decide_eq_true h6, of_decide_eq_true h7⟩
theorem txt_of {w : World} {K : PySem.W.Frag} {h : Heap} {mg : Str → Option Value} (X : K.In h) (G : h.Ns mainGlobals mg) (c : He.SaysX fa fn [] [] ex w h K) : Txt K mg := by
  have cd := c.t.d
  have cm : ex K = true := c.more
  unfold ex at cm
  obtain ⟨cm, p1⟩ := He.ba cm
  have p0 := cm
  obtain ⟨a01, p0⟩ := He.ba p0
  obtain ⟨a02, p0⟩ := He.ba p0
  obtain ⟨a03, p0⟩ := He.ba p0
  obtain ⟨a04, p0⟩ := He.ba p0
  obtain ⟨a05, p0⟩ := He.ba p0
  obtain ⟨a06, p0⟩ := He.ba p0
  obtain ⟨a07, a08⟩ := He.ba p0
  have o0 := oexB_ok a01
  obtain ⟨a11, p1⟩ := He.ba p1
  obtain ⟨a12, p1⟩ := He.ba p1
  obtain ⟨a13, p1⟩ := He.ba p1
  obtain ⟨a14, p1⟩ := He.ba p1
  obtain ⟨a15, p1⟩ := He.ba p1
  obtain ⟨a16, p1⟩ := He.ba p1
  obtain ⟨a17, a18⟩ := He.ba p1
  have o1 := oexB_ok a11
  exact {
    n_isinstance := He.free_ok X G (cd.fact 68 (f := .free "isinstance") rfl)
    n_len := He.free_ok X G (cd.fact 69 (f := .free "len") rfl)
    n_all := He.free_ok X G (cd.fact 70 (f := .free "all") rfl)
    n_sorted := He.free_ok X G (cd.fact 71 (f := .free "sorted") rfl)
    n_range := He.free_ok X G (cd.fact 72 (f := .free "range") rfl)
    n_list := He.free_ok X G (cd.fact 73 (f := .free "list") rfl)
    n_tuple := He.free_ok X G (cd.fact 74 (f := .free "tuple") rfl)
    n_int := He.free_ok X G (cd.fact 75 (f := .free "int") rfl)
    n_abs := He.free_ok X G (cd.fact 76 (f := .free "abs") rfl)
    n_str := He.free_ok X G (cd.fact 77 (f := .free "str") rfl)
    n_bool := He.free_ok X G (cd.fact 78 (f := .free "bool") rfl)
    n_dict := He.free_ok X G (cd.fact 79 (f := .free "dict") rfl)
    n_min := He.free_ok X G (cd.fact 80 (f := .free "min") rfl)
    n_max := He.free_ok X G (cd.fact 81 (f := .free "max") rfl)
    n_ValueError := He.free_ok X G (cd.fact 82 (f := .free "ValueError") rfl)
    g_is_number := He.glo_ok X G (cd.fact 0 (f := .glo "is_number") rfl)
    g_is_bound := He.glo_ok X G (cd.fact 1 (f := .glo "is_bound") rfl)
    g_are_bounds := He.glo_ok X G (cd.fact 2 (f := .glo "are_bounds") rfl)
    g_names_of := He.glo_ok X G (cd.fact 3 (f := .glo "names_of") rfl)
    g_are_numbers := He.glo_ok X G (cd.fact 4 (f := .glo "are_numbers") rfl)
    g_are_met := He.glo_ok X G (cd.fact 5 (f := .glo "are_met") rfl)
    g_raised := He.glo_ok X G (cd.fact 6 (f := .glo "raised") rfl)
    g_ring_behind := He.glo_ok X G (cd.fact 7 (f := .glo "ring_behind") rfl)
    g_least_or_ring := He.glo_ok X G (cd.fact 8 (f := .glo "least_or_ring") rfl)
    g_least_ways := He.glo_ok X G (cd.fact 9 (f := .glo "least_ways") rfl)
    g_way_back := He.glo_ok X G (cd.fact 10 (f := .glo "way_back") rfl)
    g_check_bounds := He.glo_ok X G (cd.fact 11 (f := .glo "check_bounds") rfl)
    g_check_ends := He.glo_ok X G (cd.fact 12 (f := .glo "check_ends") rfl)
    g_settled := He.glo_ok X G (cd.fact 13 (f := .glo "settled") rfl)
    g_highest := He.glo_ok X G (cd.fact 14 (f := .glo "highest") rfl)
    g_sum_of_way := He.glo_ok X G (cd.fact 15 (f := .glo "sum_of_way") rfl)
    g_is_ring := He.glo_ok X G (cd.fact 16 (f := .glo "is_ring") rfl)
    g_is_answer := He.glo_ok X G (cd.fact 17 (f := .glo "is_answer") rfl)
    g_is_settled := He.glo_ok X G (cd.fact 18 (f := .glo "is_settled") rfl)
    g_can_rise := He.glo_ok X G (cd.fact 19 (f := .glo "can_rise") rfl)
    g_is_highest := He.glo_ok X G (cd.fact 20 (f := .glo "is_highest") rfl)
    g__law_stream := He.glo_ok X G (cd.fact 21 (f := .glo "_law_stream") rfl)
    g__law_next := He.glo_ok X G (cd.fact 22 (f := .glo "_law_next") rfl)
    g__law_pick := He.glo_ok X G (cd.fact 23 (f := .glo "_law_pick") rfl)
    g__law_from := He.glo_ok X G (cd.fact 24 (f := .glo "_law_from") rfl)
    g__law_shuffled := He.glo_ok X G (cd.fact 25 (f := .glo "_law_shuffled") rfl)
    g__law_number := He.glo_ok X G (cd.fact 26 (f := .glo "_law_number") rfl)
    g__law_is_word := He.glo_ok X G (cd.fact 27 (f := .glo "_law_is_word") rfl)
    g__law_is_row := He.glo_ok X G (cd.fact 28 (f := .glo "_law_is_row") rfl)
    g__law_same := He.glo_ok X G (cd.fact 29 (f := .glo "_law_same") rfl)
    g__law_copy := He.glo_ok X G (cd.fact 30 (f := .glo "_law_copy") rfl)
    g__law_named := He.glo_ok X G (cd.fact 31 (f := .glo "_law_named") rfl)
    g__law_attributes := He.glo_ok X G (cd.fact 32 (f := .glo "_law_attributes") rfl)
    g__law_error := He.glo_ok X G (cd.fact 33 (f := .glo "_law_error") rfl)
    g__law_odd_names := He.glo_ok X G (cd.fact 34 (f := .glo "_law_odd_names") rfl)
    g__law_loose_bounds := He.glo_ok X G (cd.fact 35 (f := .glo "_law_loose_bounds") rfl)
    g__law_closed := He.glo_ok X G (cd.fact 36 (f := .glo "_law_closed") rfl)
    g__law_scene := He.glo_ok X G (cd.fact 37 (f := .glo "_law_scene") rfl)
    g__law_in_bounds := He.glo_ok X G (cd.fact 38 (f := .glo "_law_in_bounds") rfl)
    g__law_least := He.glo_ok X G (cd.fact 39 (f := .glo "_law_least") rfl)
    g__law_reach := He.glo_ok X G (cd.fact 40 (f := .glo "_law_reach") rfl)
    g__law_led := He.glo_ok X G (cd.fact 41 (f := .glo "_law_led") rfl)
    g__law_sum_of := He.glo_ok X G (cd.fact 42 (f := .glo "_law_sum_of") rfl)
    g__law_ring_right := He.glo_ok X G (cd.fact 43 (f := .glo "_law_ring_right") rfl)
    g__law_numbers_right := He.glo_ok X G (cd.fact 44 (f := .glo "_law_numbers_right") rfl)
    g__law_right_settled := He.glo_ok X G (cd.fact 45 (f := .glo "_law_right_settled") rfl)
    g__law_rising := He.glo_ok X G (cd.fact 46 (f := .glo "_law_rising") rfl)
    g__law_right_highest := He.glo_ok X G (cd.fact 47 (f := .glo "_law_right_highest") rfl)
    g__law_spoilt_numbers := He.glo_ok X G (cd.fact 48 (f := .glo "_law_spoilt_numbers") rfl)
    g__law_spoilt_ways := He.glo_ok X G (cd.fact 49 (f := .glo "_law_spoilt_ways") rfl)
    g__law_settled_fits := He.glo_ok X G (cd.fact 50 (f := .glo "_law_settled_fits") rfl)
    g__law_union := He.glo_ok X G (cd.fact 51 (f := .glo "_law_union") rfl)
    g__law_highest_fits := He.glo_ok X G (cd.fact 52 (f := .glo "_law_highest_fits") rfl)
    g__law_told := He.glo_ok X G (cd.fact 53 (f := .glo "_law_told") rfl)
    g__law_refusals := He.glo_ok X G (cd.fact 54 (f := .glo "_law_refusals") rfl)
    g_law := He.glo_ok X G (cd.fact 55 (f := .glo "law") rfl)
    g_HoldError := He.glo_ok X G (cd.fact 56 (f := .glo "HoldError") rfl)
    g_BadText := He.glo_ok X G (cd.fact 57 (f := .glo "BadText") rfl)
    g_BadSort := He.glo_ok X G (cd.fact 58 (f := .glo "BadSort") rfl)
    g_BadLine := He.glo_ok X G (cd.fact 59 (f := .glo "BadLine") rfl)
    g_BadModel := He.glo_ok X G (cd.fact 60 (f := .glo "BadModel") rfl)
    g_BadPlan := He.glo_ok X G (cd.fact 61 (f := .glo "BadPlan") rfl)
    g_BadValue := He.glo_ok X G (cd.fact 62 (f := .glo "BadValue") rfl)
    g_BadEdit := He.glo_ok X G (cd.fact 63 (f := .glo "BadEdit") rfl)
    g_TooMany := He.glo_ok X G (cd.fact 64 (f := .glo "TooMany") rfl)
    g_TooLong := He.glo_ok X G (cd.fact 65 (f := .glo "TooLong") rfl)
    g_NothingToUndo := He.glo_ok X G (cd.fact 66 (f := .glo "NothingToUndo") rfl)
    g_NothingToRedo := He.glo_ok X G (cd.fact 67 (f := .glo "NothingToRedo") rfl)
    c_MOST_BOUNDS := He.int_ok X G (cd.fact 83 (f := .int "MOST_BOUNDS" 1000) rfl)
    d_is_number := cd.def_ 0 (d := mkD "is_number" 1) rfl
    d_is_bound := cd.def_ 1 (d := mkD "is_bound" 3) rfl
    d_are_bounds := cd.def_ 2 (d := mkD "are_bounds" 4) rfl
    d_names_of := cd.def_ 3 (d := mkD "names_of" 5) rfl
    d_are_numbers := cd.def_ 4 (d := mkD "are_numbers" 6) rfl
    d_are_met := cd.def_ 5 (d := mkD "are_met" 7) rfl
    d_raised := cd.def_ 6 (d := mkD "raised" 8) rfl
    d_ring_behind := cd.def_ 7 (d := mkD "ring_behind" 9) rfl
    d_least_or_ring := cd.def_ 8 (d := mkD "least_or_ring" 10) rfl
    d_least_ways := cd.def_ 9 (d := mkD "least_ways" 11) rfl
    d_way_back := cd.def_ 10 (d := mkD "way_back" 12) rfl
    d_check_bounds := cd.def_ 11 (d := mkD "check_bounds" 28) rfl
    d_check_ends := cd.def_ 12 (d := mkD "check_ends" 29) rfl
    d_settled := cd.def_ 13 (d := mkD "settled" 30) rfl
    d_highest := cd.def_ 14 (d := mkD "highest" 31) rfl
    d_sum_of_way := cd.def_ 15 (d := mkD "sum_of_way" 32) rfl
    d_is_ring := cd.def_ 16 (d := mkD "is_ring" 33) rfl
    d_is_answer := cd.def_ 17 (d := mkD "is_answer" 34) rfl
    d_is_settled := cd.def_ 18 (d := mkD "is_settled" 35) rfl
    d_can_rise := cd.def_ 19 (d := mkD "can_rise" 36) rfl
    d_is_highest := cd.def_ 20 (d := mkD "is_highest" 37) rfl
    d__law_stream := cd.def_ 21 (d := mkD "_law_stream" 39) rfl
    d__law_next := cd.def_ 22 (d := mkD "_law_next" 40) rfl
    d__law_pick := cd.def_ 23 (d := mkD "_law_pick" 41) rfl
    d__law_from := cd.def_ 24 (d := mkD "_law_from" 42) rfl
    d__law_shuffled := cd.def_ 25 (d := mkD "_law_shuffled" 43) rfl
    d__law_number := cd.def_ 26 (d := mkD "_law_number" 44) rfl
    d__law_is_word := cd.def_ 27 (d := mkD "_law_is_word" 45) rfl
    d__law_is_row := cd.def_ 28 (d := mkD "_law_is_row" 46) rfl
    d__law_same := cd.def_ 29 (d := mkD "_law_same" 47) rfl
    d__law_copy := cd.def_ 30 (d := mkD "_law_copy" 48) rfl
    d__law_named := cd.def_ 31 (d := mkD "_law_named" 49) rfl
    d__law_attributes := cd.def_ 32 (d := mkD "_law_attributes" 50) rfl
    d__law_error := cd.def_ 33 (d := mkD "_law_error" 51) rfl
    d__law_odd_names := cd.def_ 34 (d := mkD "_law_odd_names" 52) rfl
    d__law_loose_bounds := cd.def_ 35 (d := mkD "_law_loose_bounds" 53) rfl
    d__law_closed := cd.def_ 36 (d := mkD "_law_closed" 54) rfl
    d__law_scene := cd.def_ 37 (d := mkD "_law_scene" 55) rfl
    d__law_in_bounds := cd.def_ 38 (d := mkD "_law_in_bounds" 56) rfl
    d__law_least := cd.def_ 39 (d := mkD "_law_least" 57) rfl
    d__law_reach := cd.def_ 40 (d := mkD "_law_reach" 58) rfl
    d__law_led := cd.def_ 41 (d := mkD "_law_led" 59) rfl
    d__law_sum_of := cd.def_ 42 (d := mkD "_law_sum_of" 60) rfl
    d__law_ring_right := cd.def_ 43 (d := mkD "_law_ring_right" 61) rfl
    d__law_numbers_right := cd.def_ 44 (d := mkD "_law_numbers_right" 62) rfl
    d__law_right_settled := cd.def_ 45 (d := mkD "_law_right_settled" 63) rfl
    d__law_rising := cd.def_ 46 (d := mkD "_law_rising" 64) rfl
    d__law_right_highest := cd.def_ 47 (d := mkD "_law_right_highest" 65) rfl
    d__law_spoilt_numbers := cd.def_ 48 (d := mkD "_law_spoilt_numbers" 66) rfl
    d__law_spoilt_ways := cd.def_ 49 (d := mkD "_law_spoilt_ways" 67) rfl
    d__law_settled_fits := cd.def_ 50 (d := mkD "_law_settled_fits" 68) rfl
    d__law_union := cd.def_ 51 (d := mkD "_law_union" 69) rfl
    d__law_highest_fits := cd.def_ 52 (d := mkD "_law_highest_fits" 70) rfl
    d__law_told := cd.def_ 53 (d := mkD "_law_told" 71) rfl
    d__law_refusals := cd.def_ 54 (d := mkD "_law_refusals" 72) rfl
    d_law := cd.def_ 55 (d := mkD "law" 73) rfl
    i_BadValue := cd.def_ 56 (d := mkM "BadValue" "__init__" "BadValue.__init__" 20 0) rfl
    x_BadValue := ⟨o0, of_decide_eq_true a03, of_decide_eq_true a04, excsB_ok a02 o0.exC, of_decide_eq_true a05, of_decide_eq_true a06, of_decide_eq_true a07⟩
    q_BadValue := fun q hq => of_decide_eq_true (List.all_eq_true.mp a08 q hq)
    i_TooMany := cd.def_ 57 (d := mkM "TooMany" "__init__" "TooMany.__init__" 22 0) rfl
    x_TooMany := ⟨o1, of_decide_eq_true a13, of_decide_eq_true a14, excsB_ok a12 o1.exC, of_decide_eq_true a15, of_decide_eq_true a16, of_decide_eq_true a17⟩
    q_TooMany := fun q hq => of_decide_eq_true (List.all_eq_true.mp a18 q hq)
  }
end Hd
/-! sets of texts that can be walked (after the layer's sets of whole numbers) -/
namespace Hx
open PySem PySem.Spec PyProof.Rows L2
theorem isStr_iff {k0 k : Str} {t : Tok} : Value.isStrOf k (.str k0 t) = true ↔ k0 = k := by simp [Value.isStrOf]
def keyT (e : Int × Value) : Str := match e.2 with | .str k _ => k | _ => Str.empty
def GoodT (w : World) (e : Int × Value) : Prop := ∃ k tok, e.2 = Value.str k tok ∧ e.1 = hashStr w k

/-- the set of ints at a: S its members, n their number; its table rises and can be walked -/
def SetT (w : World) (h : Heap) (a : Addr) (S : Str → Bool) (n : Nat) : Prop :=
  ∃ o xs ep t, h.get? a = some o ∧ o.ExactSet ∧ o.data = .set xs ep t ∧ (∀ e ∈ xs.toList, GoodT w e) ∧ (xs.toList.map keyT).Nodup ∧ (∀ k, S k = true ↔ k ∈ xs.toList.map keyT) ∧
    xs.size < scanBound ∧ t.fits xs.size = true ∧ xs.size = n ∧ Ris t.place.toList ∧ (w.params.followText "set-order" = true ∨ t.led = true)

section
variable {P : Program} {w : World} {h h' : Heap} {a : Addr} {S : Str → Bool} {n : Nat}

theorem SetT.at (Rt : SetT w h a S n) (k : ∀ o, h.get? a = some o → h'.get? a = some o) : SetT w h' a S n := by
  obtain ⟨o, xs, ep, t, hob, r⟩ := Rt
  exact ⟨o, xs, ep, t, k o hob, r⟩
theorem SetT.lt (Rt : SetT w h a S n) : a < h.objs.size := by
  obtain ⟨o, xs, ep, t, hob, r⟩ := Rt
  exact Heap.lt_size hob
theorem SetT.congr {S' : Str → Bool} (Rt : SetT w h a S n) (e : ∀ k, S' k = S k) : SetT w h a S' n := by
  have q : S' = S := funext e
  rw [q]; exact Rt
theorem goodT_elems {l : List (Int × Value)} (g : ∀ e ∈ l, GoodT w e) : ElemsOf (strKind P w) l := fun e he => by
  obtain ⟨k, tok, h1, h2⟩ := g e he
  exact ⟨⟨k, by rw [h1]; exact strKind_is P w k tok, h2⟩, by rw [h1] <;> rfl⟩
theorem goodT_is {e : Int × Value} (g : GoodT w e) (k : Str) : (strKind P w).is k e.2 = true ↔ keyT e = k := by
  obtain ⟨k0, tok, h1, _⟩ := g
  unfold keyT
  rw [h1]
  exact isStr_iff (t := tok)
theorem goodT_mem {l : List (Int × Value)} (g : ∀ e ∈ l, GoodT w e) (k : Str) : k ∈ l.map keyT ↔ ∃ e ∈ l, (strKind P w).is k e.2 = true := by
  rw [List.mem_map]
  constructor
  · rintro ⟨e, he, q⟩
    exact ⟨e, he, (goodT_is (g e he) k).2 q⟩
  · rintro ⟨e, he, q⟩
    exact ⟨e, he, (goodT_is (g e he) k).1 q⟩
theorem SetT.setOf (Rt : SetT w h a S n) : h.SetOf (strKind P w) a S n := by
  obtain ⟨o, xs, ep, t, hob, hx, dat, g, nod, mem, bnd, fit, num, _⟩ := Rt
  exact ⟨o, xs, ep, t, hob, hx, dat, goodT_elems g, fun k => (mem k).trans (goodT_mem g k), bnd, fit, num⟩
end

section
variable {P : Program} {w : World} {A : Around} {E : Value → Shared → Prop} {s : Shared} {a : Addr} {S : Str → Bool} {n : Nat}

/-! ### add -/
theorem storeT_at {h : Heap} {a : Addr} {o : Obj} {xs es' : Array (Int × Value)} {ep : Nat} {t t' : SetTable} (hob : h.get? a = some o) (dat : o.data = .set xs ep t) :
    (h.update a (Obj.putSet es' t')).get? a = some { o with data := .set es' (ep + 1) t' } := by
  have q := Heap.get?_update_self (Obj.putSet es' t') hob (by rw [putSet_of es' t' dat]; rfl)
  rw [putSet_of es' t' dat] at q
  exact q

theorem setT_add_tail {g : Bool → Sem Unit} (hg : ∀ (b : Bool) (s₁ : Shared) (Q' : Unit → Shared → Prop), Q' () s₁ → wpAny (model P w) A (g b) Q' E s₁)
    {o : Obj} {xs : Array (Int × Value)} {ep : Nat} {t : SetTable} (hob : s.heap.get? a = some o) (exs : o.ExactSet) (dat : o.data = .set xs ep t)
    {xs1 : Array (Int × Value)} {tb2 : SetTable} {S' : Str → Bool} (goo1 : ∀ e ∈ xs1.toList, GoodT w e) (nod1 : (xs1.toList.map keyT).Nodup) (mem1 : ∀ k, S' k = true ↔ k ∈ xs1.toList.map keyT)
    (bnd1 : xs1.size < scanBound) (fit2 : tb2.fits xs1.size = true) (ris : Ris tb2.place.toList) (led : w.params.followText "set-order" = true ∨ tb2.led = true) {wasDummy : Bool} {Rt : Option Bool → Shared → Prop}
    (then_ : ∀ h', Heap.SameBut a s.heap h' → SetT w h' a S' xs1.size → Rt (some true) { s with heap := h' }) :
    wpAny (model P w) A (do
        storeSet a xs1 tb2
        if (!wasDummy && tb2.tooFull) = true then do
            g (relayAll tb2 xs1 (SetTable.grown xs1.size)).2.2
            storeSet a (relayAll tb2 xs1 (SetTable.grown xs1.size)).1 (relayAll tb2 xs1 (SetTable.grown xs1.size)).2.1
            pure (some true)
          else pure (some true)) Rt E s := by
  refine wpAny_bind (wpAny_storeSet_of hob dat ?_ (fits_of_scanBound bnd1))
  have hob1 := storeT_at (es' := xs1) (t' := tb2) hob dat
  have but1 := Heap.SameBut.update s.heap a (Obj.putSet xs1 tb2)
  split
  · have prm := relayAll_perm tb2 xs1 (SetTable.grown xs1.size)
    have fit3 := relayAll_fits tb2 xs1 (SetTable.grown xs1.size)
    have ris3 := relayAll_ris tb2 xs1 (SetTable.grown xs1.size)
    have led3 := relayAll_led tb2 xs1 (SetTable.grown xs1.size)
    generalize relayAll tb2 xs1 (SetTable.grown xs1.size) = Z at prm fit3 ris3 led3 ⊢
    obtain ⟨xs2, tb3, gave⟩ := Z
    dsimp only at prm fit3 ris3 led3 ⊢
    have siz : xs2.size = xs1.size := by rw [← Array.length_toList, prm.length_eq, Array.length_toList]
    have bnd2 : xs2.size < scanBound := by rw [siz]; exact bnd1
    refine wpAny_bind (hg _ _ _ ?_)
    refine wpAny_bind (wpAny_storeSet_of hob1 rfl ?_ (fits_of_scanBound bnd2))
    have hob2 := storeT_at (es' := xs2) (t' := tb3) hob1 rfl
    refine wpAny_pure (then_ _ (but1.trans (Heap.SameBut.update _ a _)) ?_)
    exact ⟨_, xs2, _, tb3, hob2, exs, rfl, fun e he => goo1 e (prm.mem_iff.mp he), (prm.map keyT).nodup_iff.mpr nod1, fun k => (mem1 k).trans (prm.map keyT).mem_iff.symm, bnd2, fit3, siz, ris3,
      led.imp id fun z => by rw [led3]; exact z⟩
  · exact wpAny_pure (then_ _ but1 ⟨_, xs1, _, tb2, hob1, exs, rfl, goo1, nod1, mem1, bnd1, fit2, rfl, ris, led⟩)

theorem setT_add_hashed {k : Str} {tok : Tok} {Q : Bool → Shared → Prop} (Rt : SetT w s.heap a S n) (room : n + 1 < scanBound)
    (then_ : ∀ h', Heap.SameBut a s.heap h' → SetT w h' a (fun j => S j || decide (j = k)) (if S k = true then n else n + 1) → Q (!S k) { s with heap := h' }) :
    wpAny (model P w) A (setAddHashed a (.str k tok) ((strKind P w).hash k)) Q E s := by
  obtain ⟨o, xs, ep, t, hob, exs, dat, g, nod, mem, bnd, fit, num, ris, led⟩ := Rt
  have isk : (strKind P w).is k (.str k tok) = true := strKind_is P w k tok
  have scan : (Value.str k tok).scannable = true := rfl
  have els : ElemsOf (strKind P w) xs.toList := goodT_elems g
  unfold setAddHashed setAddHashedIn
  refine wpAny_holding (wpAny_bind (wpAny_setState_of hob dat fit ?_))
  dsimp only
  rw [byScan_of scan bnd els]
  simp only [↓reduceIte]
  unfold setAddByScan
  refine wpAny_bind ?_
  refine wpAny_bind (wpAny_rule ?_)
  refine wpAny_bind (wpAny_setScan_of isk hob dat fit els ?_)
  cases fnd : List.findIdx? (fun e => (strKind P w).is k e.2) xs.toList with
  | some j =>
    dsimp only
    obtain ⟨hj, pj, _⟩ := List.findIdx?_eq_some_iff_getElem.mp fnd
    have inS : S k = true := (mem k).2 ((goodT_mem (P := P) (w := w) g k).2 ⟨xs.toList[j], List.getElem_mem hj, pj⟩)
    refine wpAny_pure (wpAny_pure ?_)
    have q := then_ s.heap (Heap.SameBut.refl a s.heap) ⟨o, xs, ep, t, hob, exs, dat, g, nod, fun i => by
      rw [Bool.or_eq_true, decide_eq_true_eq, ← mem i]
      exact ⟨fun z => z.elim id (fun e => e ▸ inS), .inl⟩, bnd, fit, by rw [if_pos inS]; exact num, ris, led⟩
    rw [inS] at q
    exact q
  | none =>
    dsimp only
    have notk : k ∉ xs.toList.map keyT := fun z => by
      obtain ⟨e, he, q⟩ := (goodT_mem (P := P) (w := w) g k).1 z
      have c := List.findIdx?_eq_none_iff.mp fnd e he
      rw [q] at c
      cases c
    have inS : S k = false := by
      cases q : S k with
      | false => rfl
      | true => exact absurd ((mem k).1 q) notk
    have gaveW : ∀ (b : Bool) {s₁ : Shared} {Q' : Unit → Shared → Prop}, Q' () s₁ → wpAny (model P w) A (match b with | true => rule "set.scan.the-table-gave-way" | false => pure ()) Q' E s₁ :=
      fun b s₁ Q' q => by cases b <;> first | exact wpAny_pure q | exact wpAny_rule q
    have prm := layNew_perm t xs ((strKind P w).hash k) (.str k tok)
    have fit1 := layNew_fits t xs ((strKind P w).hash k) (.str k tok)
    have ris1 := layNew_ris t xs ((strKind P w).hash k) (.str k tok) ris
    have led1 := layNew_led t xs ((strKind P w).hash k) (.str k tok)
    generalize layNew t xs ((strKind P w).hash k) (.str k tok) = Z at prm fit1 ris1 led1 ⊢
    obtain ⟨xs1, t1, wasDummy, gave⟩ := Z
    dsimp only at prm fit1 ris1 led1 ⊢
    rw [Array.toList_push] at prm
    have prc : xs1.toList.Perm (((strKind P w).hash k, Value.str k tok) :: xs.toList) := prm.trans (List.perm_append_singleton _ _)
    have prk : (xs1.toList.map keyT).Perm (k :: xs.toList.map keyT) := prc.map keyT
    have goo1 : ∀ e ∈ xs1.toList, GoodT w e := fun e he => by
      rcases List.mem_cons.mp (prc.mem_iff.mp he) with z | z
      · rw [z]; exact ⟨k, tok, rfl, rfl⟩
      · exact g e z
    have nod1 : (xs1.toList.map keyT).Nodup := prk.nodup_iff.mpr (List.nodup_cons.mpr ⟨notk, nod⟩)
    have mem1 : ∀ i, (S i || decide (i = k)) = true ↔ i ∈ xs1.toList.map keyT := fun i => by
      rw [Bool.or_eq_true, decide_eq_true_eq, mem i, prk.mem_iff, List.mem_cons]
      exact Or.comm
    have siz : xs1.size = n + 1 := by rw [← Array.length_toList, prc.length_eq, List.length_cons, Array.length_toList, num]
    have bnd1 : xs1.size < scanBound := by rw [siz]; exact room
    have ledd : w.params.followText "set-order" = true ∨ t1.led = true := led.imp id fun z => by rw [led1]; exact z
    have done : ∀ h', Heap.SameBut a s.heap h' → SetT w h' a (fun j => S j || decide (j = k)) xs1.size → Q true { s with heap := h' } := fun h' but r => by
      have q := then_ h' but
      rw [inS] at q
      rw [siz] at r
      exact q r
    refine wpAny_bind (gaveW _ ?_)
    split
    · refine wpAny_bind ?_
      rw [hashByValue_scannable 8 scan]
      refine wpAny_pure ?_
      refine setT_add_tail ?_ hob exs dat goo1 nod1 mem1 bnd1 ?_ ?_ ?_ ?_
      · intro b s₁ Q' q; cases b <;> first | exact wpAny_pure q | exact wpAny_rule q
      · first | (split <;> first | exact fit1 | exact SetTable.fits_plain_off fit1) | exact fit1
      · first | (split <;> exact ris1) | exact ris1
      · first | (split <;> exact ledd) | exact ledd
      · intro h' but r; dsimp only; exact wpAny_pure (done h' but r)
    · refine wpAny_bind (wpAny_pure ?_)
      simp only [↓reduceIte]
      refine setT_add_tail ?_ hob exs dat goo1 nod1 mem1 bnd1 fit1 ris1 ledd ?_
      · intro b s₁ Q' q; cases b <;> first | exact wpAny_pure q | exact wpAny_rule q
      · intro h' but r; dsimp only; exact wpAny_pure (done h' but r)

/-- found.add(k) -/
theorem setT_add {k : Str} {tok : Tok} {Q : Value → Shared → Prop} (Rt : SetT w s.heap a S n) (room : n + 1 < scanBound)
    (then_ : ∀ h', Heap.SameBut a s.heap h' → SetT w h' a (fun j => S j || decide (j = k)) (if S k = true then n else n + 1) → Q .none { s with heap := h', toks := s.toks + 1 }) :
    wpAny (model P w) A (call (.builtin "set.add") [.ref a, .str k tok]) Q E s := by
  have hSt : s.heap.SetOf (strKind P w) a S n := Rt.setOf
  refine wpAny_call_entry F.slot_set_add hSt.typeIs F.entry_set_add ?_ (F.args_set_add_2 _ _)
  unfold Builtin.«set.add» Builtin.Frozenset.oneOther
  simp only [List.isEmpty_nil, bind_assoc]
  unfold Builtin.Frozenset.addrOf setAdd
  refine wpAny_bind (wpAny_pure ?_)
  try dsimp only
  refine wpAny_bind (wpAny_pure ?_)
  try dsimp only
  refine wpAny_bind ?_
  refine wpAny_holding ?_
  refine wpAny_bind ((strKind P w).pyHash (strKind_is P w k tok) ?_)
  refine setT_add_hashed (s := { s with toks := s.toks + 1 }) Rt room fun h' but r => ?_
  show wpAny _ _ (ret Value.none) _ _ _
  exact wpAny_pure ⟨_, rfl, then_ h' but r⟩


end
end Hx
/-! dicts with text keys: sorted, dict(d) -/
namespace Hx
open PySem PySem.Spec PyProof.Rows L2
abbrev leS : Str → Str → Bool := PySem.W.dataLe false PyData.str
theorem strs_of_each {h : Heap} : ∀ {vs : List Value} {zs : List Str}, PySem.W.EachIs (fun v z => ∃ as, Reads h v (PyData.str z) as) vs zs → Vals (zs.map V.str) vs
  | _, _, .nil => .nil
  | _, _, .cons h1 t => by
    obtain ⟨as, r⟩ := h1
    cases r
    exact .cons ⟨_, rfl⟩ (strs_of_each t)
theorem each_strs {h : Heap} {a : Addr} : ∀ {vs : List Value} {zs : List Str}, Vals (zs.map V.str) vs → PySem.W.EachIs (fun v z => ∃ as, Reads h v (PyData.str z) as ∧ a ∉ as) vs zs
  | [], [], _ => .nil
  | v :: vs, z :: zs, .cons r t => by
    obtain ⟨tk, rfl⟩ := (show ∃ t, v = Value.str z t from r)
    exact .cons ⟨[], Reads.str _ _, by simp⟩ (each_strs t)
  | [], _ :: _, h => nomatch h
  | _ :: _, [], h => nomatch h
section
variable {X : Cx}
/-- sorted(x), x's items gathered: texts of which P is known -/
theorem sorted_by {pq : List (Addr × Obj)} {s : Shared} {σ : L2.St} {H : Hp} {Q : VK} (Iv : Inv X pq σ H s) (hu : X.A.units + 64 < cLine) {u : Value} (P : List Str → Prop)
    (hcol : ∀ R : List Value → Shared → Prop, (∀ (s1 : Shared) (vs : List Value) (zs : List Str), P zs → (∀ b o, s.heap.get? b = some o → s1.heap.get? b = some o) → s.heap.objs.size ≤ s1.heap.objs.size → s1.gens = s.gens → s1.os = s.os → Vals (zs.map V.str) vs → zs.length ≤ sizeLine → R vs s1) →
      wpAny (model X.prog X.w) X.A.in1 (collect u) R X.xe s)
    (q : ∀ zs p, P zs → H p = none → Q (.ref p) (upd H p (.lst ((zs.mergeSort leS).map V.str)))) : wpAny (model X.prog X.w) X.A (call (.builtin "sorted") [u]) (EP X pq σ Q) X.xe s := by
  refine Calls.call_function_entry kind_sorted plain_sorted entry_sorted (args_sorted1 _) ?_
  unfold Builtin.«sorted»
  refine wpAny_bind (m := checkCount "sorted" 1 1 _) (wpAny_pure ?_)
  refine wpAny_bind (hcol _ fun s1 vs zs hP k1 hz g1 o1 ev hl => ?_)
  have hvl : vs.length = zs.length := by rw [← ev.length, List.length_map]
  have hz4 : vs.length ≤ sizeLine := by rw [hvl]; exact hl
  refine wpAny_bind (wpAny_newList ?_ hz4)
  have hoL : (s1.heap.push (seqObj "list" vs.toArray 0)).get? s1.heap.objs.size = some (seqObj "list" vs.toArray 0) := Heap.get?_push_size _ rfl
  have en := each_strs (h := s1.heap.push (seqObj "list" vs.toArray 0)) (a := s1.heap.objs.size) ev
  refine wpAny_bind (wpAny_holding (PySem.W.list_sort_data (R := fun v b => ∃ as, Reads (s1.heap.push (seqObj "list" vs.toArray 0)) v (PyData.str b) as) (enc := PyData.str) (s := { s1 with heap := s1.heap.push (seqObj "list" vs.toArray 0) }) hoL (en.mono fun v b ⟨as, r, _⟩ => ⟨as, r⟩) en
    (PySem.W.AllAlike.of fun _ _ => by simp [PySem.W.alike]) (PySem.W.Sortable.others fun b => ⟨(fun z => nomatch z), fun _ z => nomatch z⟩) hl
    (fun b _ => by have : (PyData.str b).depth = 0 := by simp [PyData.depth]
                   rw [this]; show X.A.units + 1 + 1 + 0 < cLine; omega) fun out hlo eo => ?_))
  have vo := strs_of_each eo
  obtain ⟨c, hc2⟩ := sortedHeap_at (vs := vs) (out := out.toArray) hoL
  have kp : ∀ b u, s.heap.get? b = some u → (sortedHeap (s1.heap.push (seqObj "list" vs.toArray 0)) s1.heap.objs.size vs out.toArray).get? b = some u := fun b u e => by
    have q := k1 b u e
    have hlt := Heap.lt_size q
    rw [sortedHeap_old (Nat.ne_of_lt hlt) (by rw [size_push']; exact Nat.lt_succ_of_lt hlt)]
    exact Heap.get?_push_of_some _ q
  have hp : H s1.heap.objs.size = none := Iv.hok.fresh hz
  have J : Inv X pq σ (upd H s1.heap.objs.size (.lst ((zs.mergeSort leS).map V.str))) { s with heap := sortedHeap (s1.heap.push (seqObj "list" vs.toArray 0)) s1.heap.objs.size vs out.toArray, gens := s1.gens, drawn := s1.drawn, toks := s1.toks } :=
    Iv.call (ch := []) (Un.laid kp hz hp) (Iv.hok.laid kp hz ⟨by rw [List.length_map, List.length_mergeSort]; exact hl, out, c, vo, hc2⟩) (by rw [g1]; exact Iv.bare) (fun _ z => nomatch z)
  refine wpAny_pure ⟨_, rfl, ?_⟩
  obtain ⟨h1, g1', d1, t1, os1⟩ := s1
  obtain rfl : os1 = s.os := o1
  exact ⟨.ref _, _, J, rfl, q zs _ hP hp⟩
/-- a source's items gathered, the heap grown -/
theorem gather {A : Around} {s : Shared} {E : Value → Shared → Prop} {prog : Program} {w : World} {T : String} {r d : Addr} {n : Nat} {Pv : Nat → Value → Prop} {OK : Heap → Prop} {R : List Value → Shared → Prop} (S : PySem.W.KdlSrc prog w T r d n Pv OK)
    (calm : A.handled = none) (ok : OK s.heap) (size : n ≤ sizeLine) (after : ∀ (g : Heap) (tk : Nat) (got : Array Value), (∀ b o, s.heap.get? b = some o → g.get? b = some o) → s.heap.objs.size ≤ g.objs.size → ItemsOf Pv got n → R got.toList { s with heap := g, toks := tk }) :
    wpAny (model prog w) A (collect (.ref r)) R E s := by
  obtain ⟨ne1, ne2⟩ := S.there _ ok
  generalize hp : s.heap.objs.size = p
  rw [hp] at ne1 ne2
  unfold collect
  refine wpAny_bind (wpAny_runValue (codeAny_builtin PyProof.Rows.entry_proto_collect' ?_))
  rw [Around.under_plainId PySem.F.plain_proto_collect _]
  show wpAny _ A.in1 (newList [] >>= fun l => again (.builtin "list.__iadd__" ⟨[l, .ref r], []⟩)) _ _ s
  refine wpAny_bind (wpAny_newObj_type (wpAny_pure ⟨plainId_quiet PySem.F.plain_list_iadd _, codeAny_builtin PyProof.Rows.entry_list_iadd' ?_⟩))
  rw [Around.under_plainId PySem.F.plain_list_iadd _, hp]
  generalize hg : s.heap.push { cls := .type "list", data := .seq ([] : List Value).toArray } = g0
  have at0 : g0.get? p = some { cls := .type "list", data := .seq #[] } := by rw [← hg, ← hp]; exact Heap.get?_push_size _ rfl
  have old0 : ∀ b o, s.heap.get? b = some o → g0.get? b = some o := fun b o e => by rw [← hg]; exact Heap.get?_push_of_some _ e
  show wpAny _ A.in1 (Builtin.List.listExtendWith (.ref p) (.ref r) (.ref p)) _ _ _
  let Z : Result → Shared → Prop := fun q s' => ∃ (g : Heap) (tk : Nat) (got : Array Value) (c : Nat), q = .ok (.ret (.ref p)) ∧ s' = { s with heap := g, toks := tk } ∧ (∀ b o, s.heap.get? b = some o → g.get? b = some o) ∧
    g.get? p = some { cls := .type "list", dict := none, data := .seq got c, slots := #[] } ∧ ItemsOf Pv got n
  have ext := PySem.W.kdl_extend (A := A) (s := { s with heap := g0 }) (R := Z) S calm (S.keep _ _ ok fun b _ o e => old0 b o e) p (Nat.ne_of_gt ne1) (Nat.ne_of_gt ne2) (.ref p) 0 at0
    (fun g tk got c k at1 it => ⟨g, tk, got, c, rfl, rfl, fun b o e => k b o (fun z => by rw [z, ← hp] at e; exact Nat.lt_irrefl _ (Heap.lt_size e)) (old0 b o e), at1, it⟩) size
  have fin : ∀ (s' : Shared) (q : Result), Z q s' → ∃ (g : Heap) (tk : Nat) (got : Array Value) (c : Nat), q = .ok (.ret (.ref p)) ∧ s' = { s with heap := g, toks := tk } ∧ g.get? p = some { cls := .type "list", dict := none, data := .seq got c, slots := #[] } ∧ R got.toList { s with heap := g, toks := tk } :=
    fun s' q ⟨g, tk, got, c, e1, e2, k, at1, it⟩ => ⟨g, tk, got, c, e1, e2, at1, after g tk got k (by rw [hp]; exact Nat.le_of_lt (Heap.lt_size at1)) it⟩
  refine wpAny_mono ext (fun f s' x => ?_) fun e s' x => ?_
  · cases f with
    | done v =>
      obtain ⟨g, tk, got, c, e1, rfl, at1, hR⟩ := fin s' _ x
      cases e1
      exact wpAny_bind (wpAny_load at1 (wpAny_pure hR))
    | again c1 =>
      refine ⟨x.1, codeAny_mono x.2 fun q s2 y => ?_⟩
      obtain ⟨g, tk, got, c, rfl, rfl, at1, hR⟩ := fin s2 q y
      exact wpAny_bind (wpAny_load at1 (wpAny_pure hR))
  · obtain ⟨g, tk, got, c, e1, _⟩ := fin s' _ x
    cases e1
/-- sorted(d), d a dict with text keys -/
def rSortDk : List V → Hp → VK → Prop := fun vs H Q => ∃ (a : Addr) (kvs : List (Key × V)) (ks : List Str), vs = [V.ref a] ∧ H a = some (.dK kvs) ∧ kvs.map (·.1) = ks.map Sum.inr ∧ ∀ p, H p = none → Q (.ref p) (upd H p (.lst ((ks.mergeSort leS).map V.str)))
theorem sortDk (hc : X.calm = true) (hu : X.A.units + 64 < cLine) : CallR X (.builtin "sorted") rSortDk := by
  intro pq s σ H vs us Q Iv r h
  obtain ⟨a, kvs, ks, rfl, ha, hk, q⟩ := h
  have hh := Iv.ok.hd hc
  rw [Vals.ref1 r]
  obtain ⟨z, lo, vs', rk, hd⟩ := (show ObjOk X.prog X.w H s.heap a (.dK kvs) from Iv.hok a _ ha)
  obtain ⟨ep, hat⟩ := hd.dictAt
  have hl : kvs.length = vs'.length := Paired.length rk
  have hkl : ks.length = kvs.length := by have := congrArg List.length hk; simpa using this.symm
  refine sorted_by Iv hu (fun zs => zs = ks) (fun R hR => ?_) (fun zs p e hp => by rw [e]; exact q p hp)
  refine gather (PySem.W.kdl_dict (knd := mixKind X.prog X.w) (kvs := vs') (ep := ep) lo) hh hat (by rw [← hl]; exact z) fun h' tk acc hkeep hsz hacc => ?_
  refine hR _ acc.toList ks rfl hkeep hsz rfl rfl ?_ (by rw [hkl]; exact z)
  · have el : acc.toList.length = acc.size := by simp
    refine vals_of_at (by rw [List.length_map, el, hacc.1, ← hl, hkl]) fun j x w h1 h2 => ?_
    obtain ⟨k, y, hky, hi⟩ := hacc.2 j w (by rw [← Array.getElem?_toList]; exact h2)
    have e1 : (kvs.map (·.1))[j]? = some k := by
      rw [KV.keys rk, List.getElem?_map, hky] <;> rfl
    rw [hk, List.getElem?_map] at e1
    rw [List.getElem?_map] at h1
    cases hj : ks[j]? with
    | none => rw [hj] at e1; cases e1
    | some z =>
      rw [hj] at e1 h1
      cases e1
      cases h1
      exact keyIs_rel (k := Sum.inr z) hi
end
end Hx
/-! sets of texts made by a comprehension; sorted of them -/
namespace Hx
open PySem PySem.Spec PyProof.Rows L2
def SetS (w : World) (a : Addr) (S : Str → Bool) (n : Nat) : HO := .ext fun h => SetT w h a S n
theorem setS_new {w : World} {P : Program} {H : Hp} {h : Heap} {a : Addr} {S : Str → Bool} {n : Nat} (R : SetT w h a S n) : ObjOk P w H h a (SetS w a S n) := by
  have ⟨o, _, _, _, ho, _⟩ := R
  exact ⟨R, ⟨o, ho⟩, fun _ _ p k => SetT.at p k⟩
theorem setS_get {pins : List (Addr × Obj)} {σ : L2.St} {H : Hp} {s : Shared} {a : Addr} {S : Str → Bool} {n : Nat} (I : Inv X pins σ H s) (ha : H a = some (SetS X.w a S n)) : SetT X.w s.heap a S n := (I.hok a _ ha).1
theorem setT_fresh {h : Heap} (w : World) : SetT w (h.push { cls := .type "set", dict := none, data := .set #[] 0 (.fresh 0 0 (!w.params.followText "set-order")) }) h.objs.size (fun _ => false) 0 := by
  refine ⟨_, #[], 0, _, Heap.get?_push_size _ rfl, ⟨rfl, rfl, rfl⟩, rfl, (fun e he => by simp at he), (by simp), (fun k => by simp), (by decide), (by rfl), rfl, List.Pairwise.nil, ?_⟩
  show _ ∨ (!w.params.followText "set-order") = true
  cases w.params.followText "set-order"
  · exact .inr rfl
  · exact .inl rfl
section
variable {X : Cx}
theorem addS_ok {pq : List (Addr × Obj)} {σ : L2.St} {H : Hp} {s : Shared} {E : Value → Shared → Prop} {D : Addr} {S : Str → Bool} {n : Nat} {y : Str} {t : Tok} {Q : Value → Shared → Prop} (Iv : Inv X pq σ H s) (hD : H D = some (SetS X.w D S n)) (room : n + 1 < scanBound)
    (h : ∀ s', Inv X pq σ (upd H D (SetS X.w D (fun j => S j || decide (j = y)) (if S y = true then n else n + 1))) s' → Q .none s') : wpAny (model X.prog X.w) X.A (call (.builtin "set.add") [.ref D, .str y t]) Q E s := by
  refine setT_add (setS_get Iv hD) room fun h' sb new => ?_
  obtain ⟨o, _, _, _, ho, _⟩ := id new
  exact h _ (Iv.write (e := D) (t' := s.toks + 1) (by rw [hD]; trivial) (.inl rfl) (fun b u hb hu => (sb.2 b hb).trans hu) ⟨o, ho⟩ (setS_new new))
def tScS (w : World) (wi : TI) (g : TG) (tt : TT) (te : TE) (vs : List Nat) : TE := fun σ H Q => wi σ H fun J B1 => ∀ D, B1 D = none → ∃ W : Nat → Nat → Hp → Prop, (∃ m, W 0 m (upd B1 D (SetS w D (fun _ => false) 0))) ∧ ∀ i m H, W i m H →
  (J.stop i H ∧ Q (.ref D) H) ∨ (J.go i H ∧ ∃ Nx : Hp → Prop, (∀ H', Nx H' → ∃ m', m' < m ∧ W (i + 1) m' H') ∧ ∀ x H', J.yld i H x H' → g x (wipe σ vs) H' fun σ2 B2 => wipe σ2 vs = wipe σ vs ∧ tt σ2 B2 fun b B3 =>
    if b = true then te σ2 B3 fun y B4 => ∃ (c : Str) (S : Str → Bool) (n : Nat), y = .str c ∧ B4 D = some (SetS w D S n) ∧ n + 1 < scanBound ∧ Nx (upd B4 D (SetS w D (fun j => S j || decide (j = c)) (if S c = true then n else n + 1))) else Nx B3)
theorem scS_core {pq : List (Addr × Obj)} {s : Shared} {σ : L2.St} {H : Hp} {Q : VK} {elt tg iter : Expr} {ifs : List Expr} {scope : Scope} {own : List (PySem.Str × Nat)} {pos pos' : Pos} {wi : TI} {g : TG} {tt : TT} {te : TE} {use : Option (Value → Sem Unit)} {Qf : Value → Shared → Prop}
    (hc : X.calm = true) (hN : X.N.Nodup) (Iv : Inv X pq σ H s) (hi : PI X tg iter wi) (ok : BlkOk X.N X.env.scope scope own)
    (hg : ∀ (s : Shared) (H : Hp) (C : Addr) (cl : List (PySem.Str × Addr)) (fq : List Addr), PG (X.blk s H scope (compEnvC scope cl C X.env) fq) tg g) (ht : ∀ (s : Shared) (H : Hp) (C : Addr) (cl : List (PySem.Str × Addr)) (fq : List Addr), PTs (X.blk s H scope (compEnvC scope cl C X.env) fq) ifs tt)
    (he : ∀ (s : Shared) (H : Hp) (C : Addr) (cl : List (PySem.Str × Addr)) (fq : List Addr), PE (X.blk s H scope (compEnvC scope cl C X.env) fq) elt te) (hs : ∀ x, foldedSetIterable iter X.env x = pure x)
    (h : tScS X.w wi g tt te (own.map (·.2)) σ H Q)
    (hRR : ∀ D C s' m H', Inv X pq σ H' s' → Q (.ref D) H' → s'.heap.Ns C m → FpOk X pq H' C → compPost (model X.prog X.w) X.A X.xe use Qf (.ref D) C (.ok .next) s') :
    wpAny (model X.prog X.w) X.A (comprehension (.SetComp elt [⟨tg, iter, ifs, 0⟩] scope pos) scope X.env pos' (newSet (.type "set")) false (eval iter X.env) use) Qf X.xe s := by
  have hfree : ∀ y ∈ scope.names, y.2 = .free → ∃ c, X.env.cells.lookup y.1 = some c := fun y hy e => by
    rcases ok.free y hy e with k | k
    · exact Iv.ok.has _ (.inl k)
    · exact Iv.ok.has _ (.inr k)
  refine wpAny_comprehension_free (use := use) rfl hs (closure_ok hfree) ok.kind (fun y hy e => by rw [ok.uniq y hy, e])
    (thn (hi.run pq s σ H _ Iv h) fun xv z1s hx => thn hx fun itv z2s h2 => ?_)
  obtain ⟨it, fq, tn, J, B2, e, Iv2, T, st2, f2, q⟩ := h2
  subst e
  refine PpSet.newSet_ok (newEnv_comp ?_)
  generalize hD : z2s.heap.objs.size = D
  have hDn : B2 D = none := Iv2.hok.fresh (Nat.le_of_eq hD)
  obtain ⟨W, ⟨m0, w0⟩, turn⟩ := q D hDn
  generalize hs3 : ({ z2s with heap := z2s.heap.push { cls := .type "set", dict := none, data := .set #[] 0 (.fresh 0 0 (!X.w.params.followText "set-order")) } } : Shared) = z3s
  have Iv3 : Inv X pq σ (upd B2 D (SetS X.w D (fun _ => false) 0)) z3s := by
    rw [← hs3]
    refine Iv2.laid (t' := z2s.toks) (fun b o e => Heap.get?_push_of_some _ e) (Nat.le_of_eq hD) ?_
    rw [← hD]
    exact setS_new (setT_fresh X.w)
  have h3 : z3s.heap = z2s.heap.push { cls := .type "set", dict := none, data := .set #[] 0 (.fresh 0 0 (!X.w.params.followText "set-order")) } := by rw [← hs3]
  have sz : ∀ b ∈ fq, b < z2s.heap.objs.size := fun b hb => by
    obtain ⟨o, e, _⟩ := T.obj _ _ st2 b hb
    exact Heap.lt_size e
  have f3 : ∀ b ∈ fq, FpOk X pq (upd B2 D (SetS X.w D (fun _ => false) 0)) b ∧ b < z3s.heap.objs.size := fun b hb => by
    have hlt := sz b hb
    refine ⟨⟨?_, (f2 b hb).2⟩, by rw [h3, Heap.size_push]; exact Nat.lt_succ_of_lt hlt⟩
    rw [upd_ne (by rw [← hD]; exact Nat.ne_of_lt hlt)]
    exact (f2 b hb).1
  have st3 : tn 0 z3s.heap := T.keep _ _ _ st2 fun b _ o e => by rw [h3]; exact Heap.get?_push_of_some _ e
  have Iv4 := block_start Iv3 ok hN f3
  have pg := hg z3s (upd B2 D (SetS X.w D (fun _ => false) 0)) z3s.heap.objs.size (cellsFrom (z3s.heap.objs.size + 1) scope.names (cloFrom X.env.cells scope.names [])) fq
  have pt := ht z3s (upd B2 D (SetS X.w D (fun _ => false) 0)) z3s.heap.objs.size (cellsFrom (z3s.heap.objs.size + 1) scope.names (cloFrom X.env.cells scope.names [])) fq
  have pe := he z3s (upd B2 D (SetS X.w D (fun _ => false) 0)) z3s.heap.objs.size (cellsFrom (z3s.heap.objs.size + 1) scope.names (cloFrom X.env.cells scope.names [])) fq
  show codeAny _ _ (.compStart (.SetComp elt [⟨tg, iter, ifs, 0⟩] scope pos) 0 (.ref it) (.ref D) (compEnvC scope (cellsFrom (z3s.heap.objs.size + 1) scope.names (cloFrom X.env.cells scope.names [])) z3s.heap.objs.size X.env)) (compPost (model X.prog X.w) X.A X.xe use Qf (.ref D) z3s.heap.objs.size) { z3s with heap := pushCells (z3s.heap.push { cls := .type "dict", data := .dict #[] }) scope.names }
  have nfp : ∀ b ∈ fq, (upd B2 D (SetS X.w D (fun _ => false) 0)) b = none := fun b hb => (f3 b hb).1.1
  generalize hce : compEnvC scope (cellsFrom (z3s.heap.objs.size + 1) scope.names (cloFrom X.env.cells scope.names [])) z3s.heap.objs.size X.env = ce at Iv4 pg pt pe ⊢
  have cL : ce.locals = z3s.heap.objs.size := by subst hce; rfl
  generalize hH3 : upd B2 D (SetS X.w D (fun _ => false) 0) = B3 at Iv3 Iv4 pg pt pe w0 nfp f3
  generalize hs4 : ({ z3s with heap := pushCells (z3s.heap.push { cls := .type "dict", data := .dict #[] }) scope.names } : Shared) = z4s at Iv4 ⊢
  have st4 : tn 0 z4s.heap := T.keep _ _ _ st3 fun b _ o e => by rw [← hs4]; exact pushCells_keeps _ _ _ _ (Heap.get?_push_of_some _ e)
  have stat : ∀ {σ' : L2.St} {H' : Hp} {s' : Shared}, Inv (X.blk z3s B3 scope ce fq) [] σ' H' s' → (∀ b ∈ fq, H' b = none) → ∀ b ∈ fq, FpOk (X.blk z3s B3 scope ce fq) [] H' b := fun {σ' H' s'} Iv' hn b hb =>
    ⟨hn b hb, (Iv'.ok.exf b hb).1, Iv'.ok.exfs b hb, .inl hb, fun x c e => (Iv'.ok.exf b hb).2 x c e, fun p hp => absurd (show p ∈ ([] : List (Addr × Obj)) ++ [] from hp) (by simp)⟩
  have loop : codeAny (model X.prog X.w) X.A (.compLoop (.SetComp elt [⟨tg, iter, ifs, 0⟩] scope pos) 0 (.ref it) (.ref D) ce) (compPost (model X.prog X.w) X.A X.xe use Qf (.ref D) z3s.heap.objs.size) z4s := by
    refine PpSet.compLoopS_any (fun n s' => ∃ i H', Inv (X.blk z3s B3 scope ce fq) [] (wipe σ (own.map (·.2))) H' s' ∧ tn i s'.heap ∧ (∀ b ∈ fq, H' b = none) ∧ W i n H') ?_ m0 ⟨0, B3, Iv4, st4, nfp, w0⟩
    rintro n z5s ⟨i, B5, Iv5, st5, n5, w5⟩
    rcases turn i n B5 w5 with ⟨stop, qq⟩ | ⟨go, Nx, hNx, step⟩
    · have td := T.done (X.blk z3s B3 scope ce fq) rfl rfl rfl hc i [] z5s _ B5 (fun _ _ => False) Iv5 (stat Iv5 n5) st5 stop
      refine thnF td fun r z6s ⟨hr, Iv6⟩ => ?_
      subst hr
      have Iv7 : Inv X pq σ B5 z6s := Iv3.call' (ch := fq) Iv6.os Iv6.base Iv6.hok Iv6.bare fun b hb => ⟨(f3 b hb).1.2.2.2.1, (f3 b hb).1.2.1, (f3 b hb).1.2.2.2.2.1, (f3 b hb).1.2.2.2.2.2⟩
      have nC : B5 z3s.heap.objs.size = none := by
        have z : B5 ce.locals = none := Iv6.free
        rw [cL] at z
        exact z
      obtain ⟨m, hn, _⟩ := Iv6.loc
      have hn : z6s.heap.Ns ce.locals m := hn
      rw [cL] at hn
      exact hRR D z3s.heap.objs.size z6s m B5 Iv7 qq hn (Iv3.fpOk (Nat.le_refl _) nC)
    · have ti := T.item (X.blk z3s B3 scope ce fq) rfl rfl rfl hc i [] z5s _ B5 (fun _ _ => False) Iv5 (stat Iv5 n5) st5 go
      refine thnF ti fun r z6s ⟨u, hr, h6⟩ => ?_
      subst hr
      refine thnF h6 fun _ z7s ⟨x, B7, Iv7, r7, y7, st7, n7⟩ => ?_
      have Iv7' := Iv7.pinned (stat Iv7 n7) (T.obj _ _ st7)
      refine thnF (pg.run _ z7s _ B7 x u _ Iv7' r7 (step x B7 y7)) fun _ z8s ⟨σ8, B8, Iv8, hw8, q8⟩ => ?_
      refine thnF (pt.run _ z8s σ8 B8 _ Iv8 q8) fun b z9s ⟨B9, Iv9, q9⟩ => ?_
      have fin : ∀ {s' : Shared} {H' : Hp}, Inv (X.blk z3s B3 scope ce fq) ([] ++ pinsAt fq z7s.heap) σ8 H' s' → Nx H' → ∃ m, m < n ∧ ∃ i H', Inv (X.blk z3s B3 scope ce fq) [] (wipe σ (own.map (·.2))) H' s' ∧ tn i s'.heap ∧ (∀ b ∈ fq, H' b = none) ∧ W i m H' := fun {s' H'} Iv' nx => by
        obtain ⟨m', hm, w'⟩ := hNx H' nx
        have pin' : ∀ b ∈ fq, ∀ o, z7s.heap.get? b = some o → s'.heap.get? b = some o ∧ H' b = none := fun b hb o e =>
          let z := Iv'.pin (b, o) (List.mem_append_right _ (List.mem_append_right _ (mem_pinsAt hb e)))
          ⟨z.1, z.2.1⟩
        have hl : (wipe σ (own.map (·.2))).length = σ8.length := by rw [← hw8, wipe_length]
        refine ⟨m', hm, i + 1, H', (Iv'.unpinned (pins := [])).weak hl (fun j v e => ?_), T.keep _ _ _ st7 fun b hb o e => (pin' b hb o e).1, fun b hb => ?_, w'⟩
        · rw [← hw8] at e
          exact (wipe_some e).1
        · obtain ⟨o, e, _⟩ := T.obj _ _ st7 b hb
          exact (pin' b hb o e).2
      cases b with
      | false =>
        simp only [Bool.false_eq_true, if_false] at q9 ⊢
        exact fin Iv9 q9
      | true =>
        simp only [if_true] at q9 ⊢
        refine thnF (pe.run _ z9s σ8 B9 _ Iv9 q9) fun z z10s ⟨yv, B10, I10, r10, cb, S0, n0, ey, hD10, hz10, nx⟩ => ?_
        subst ey
        obtain ⟨tk10, rfl⟩ := (show ∃ t, z = Value.str cb t from r10)
        exact addS_ok (X := X.blk z3s B3 scope ce fq) I10 hD10 hz10 fun z11s I11 => fin I11 nx
  exact PpSet.codeAny_compStart_set loop (T.self X.A 0 _ _ _ st4 loop)
theorem pe_scS {elt tg iter : Expr} {ifs : List Expr} {scope : Scope} {own : List (PySem.Str × Nat)} {pos : Pos} {wi : TI} {g : TG} {tt : TT} {te : TE} (hc : X.calm = true) (hN : X.N.Nodup) (hi : PI X tg iter wi) (ok : BlkOk X.N X.env.scope scope own)
    (hg : ∀ (s : Shared) (H : Hp) (C : Addr) (cl : List (PySem.Str × Addr)) (fq : List Addr), PG (X.blk s H scope (compEnvC scope cl C X.env) fq) tg g) (ht : ∀ (s : Shared) (H : Hp) (C : Addr) (cl : List (PySem.Str × Addr)) (fq : List Addr), PTs (X.blk s H scope (compEnvC scope cl C X.env) fq) ifs tt)
    (he : ∀ (s : Shared) (H : Hp) (C : Addr) (cl : List (PySem.Str × Addr)) (fq : List Addr), PE (X.blk s H scope (compEnvC scope cl C X.env) fq) elt te) (hs : ∀ x, foldedSetIterable iter X.env x = pure x := by intro _; rfl) :
    PE X (.SetComp elt [⟨tg, iter, ifs, 0⟩] scope pos) (tScS X.w wi g tt te (own.map (·.2))) := by
  refine ⟨fun pq s σ H Q Iv h => ?_⟩
  rw [PpSet.eval_SetComp]
  refine scS_core hc hN Iv hi ok hg ht he hs h fun D C s' m H' Iv' q hn f => ⟨m, hn, fun h'' sb => ?_⟩
  obtain ⟨f0, f1, f2, f3, f4, f5⟩ := f
  exact ⟨.ref D, H', Iv'.turned (t' := s'.toks) (fun b o hb e => (sb.2 b hb).trans e) f0 f1 f3 f4 f5, rfl, q⟩
end
theorem tYes_ifS {σ : L2.St} {H : Hp} {A B : Hp → Prop} (h : A H) : tYes σ H (fun b H3 => if b = true then A H3 else B H3) := by
  show (if true = true then A H else B H)
  rw [if_pos rfl]
  exact h
section
variable {M : Addr → Prop} {G H : Hp} {σ : L2.St} {g : TG} {tt : TT} {te : TE} {vs : List Nat}
/-- what such a comprehension leaves: the set of what was made (v i, where f i) -/
theorem scWS {w : World} {J : It} {n : Nat} {Wg : Hp → Prop} {Y : Nat → Hp → V → Hp → Prop} (W : Walk J n Wg Y) (e : Ex G H) (hWg : ∀ H', Ex G H' → Wg H') (hn : n ≤ 4000) (v : Nat → Str) (σt : Nat → L2.St)
    (hg : ∀ i x G' H' H'', i < n → Stp M G H G' H' → Y i H' x H'' → ∀ Q : L2.St → Hp → Prop, (∀ G2 H2, Stp M G' H' G2 H2 → Q (σt i) H2) → g x (wipe σ vs) H'' Q) (hw : ∀ i, i < n → wipe (σt i) vs = wipe σ vs)
    (he : ∀ i G' H', i < n → Stp M G H G' H' → ∀ Q : VK, (∀ G2 H2, Stp M G' H' G2 H2 → Q (.str (v i)) H2) → te (σt i) H' Q) (hM : ∀ D, H D = none → ¬ M D) {D : Addr} (hD : H D = none) {Qd : Hp → Prop}
    (hd : ∀ S m G' H', Stp M G H G' H' → G' D = none → H' D = some (SetS w D S m) → (∀ k, S k = true ↔ k ∈ (List.range n).map v) → m = ((List.range n).map v).eraseDups.length → Qd H') :
    ∃ W : Nat → Nat → Hp → Prop, (∃ m, W 0 m (upd H D (SetS w D (fun _ => false) 0))) ∧ ∀ i m H, W i m H →
      (J.stop i H ∧ Qd H) ∨ (J.go i H ∧ ∃ Nx : Hp → Prop, (∀ H', Nx H' → ∃ m', m' < m ∧ W (i + 1) m' H') ∧ ∀ x H', J.yld i H x H' → g x (wipe σ vs) H' fun σ2 H2 => wipe σ2 vs = wipe σ vs ∧ tYes σ2 H2 fun b H3 =>
        if b = true then te σ2 H3 fun y H4 => ∃ (c : Str) (S : Str → Bool) (n : Nat), y = .str c ∧ H4 D = some (SetS w D S n) ∧ n + 1 < scanBound ∧ Nx (upd H4 D (SetS w D (fun j => S j || decide (j = c)) (if S c = true then n else n + 1))) else Nx H3) := by
  refine ⟨fun i m H' => m = n - i ∧ i ≤ n ∧ ∃ S k G', Stp M G H G' H' ∧ G' D = none ∧ H' D = some (SetS w D S k) ∧ (∀ j, S j = true ↔ j ∈ (List.range i).map v) ∧ k = ((List.range i).map v).eraseDups.length ∧ k ≤ i,
    ⟨n, by simp, Nat.zero_le _, fun _ => false, 0, G, Stp.lay e hD, Evl.fresh_back e hD, upd_same, fun j => by simp, rfl, Nat.zero_le _⟩, ?_⟩
  rintro i m H' ⟨rfl, hi, S, k, G', a, gD, hS, hm, hk, hki⟩
  by_cases hlt : i < n
  · refine .inr ⟨W.goes i H' hlt (hWg H' (a.gg.trans a.gh)), fun H2 => i + 1 ≤ n ∧ ∃ S k G', Stp M G H G' H2 ∧ G' D = none ∧ H2 D = some (SetS w D S k) ∧ (∀ j, S j = true ↔ j ∈ (List.range (i + 1)).map v) ∧ k = ((List.range (i + 1)).map v).eraseDups.length ∧ k ≤ i + 1, fun H2 q => ⟨n - (i + 1), by omega, rfl, q⟩, fun x H2 y => ?_⟩
    refine hg i x G' H' H2 hlt a (W.yields i H' x H2 hlt (hWg _ (a.gg.trans a.gh)) y) _ fun G3 H3 b => ⟨hw i hlt, ?_⟩
    refine tYes_ifS ?_
    refine he i G3 H3 hlt (a.trans b) _ fun G4 H4 c => ?_
    have hS3 : H3 D = some (SetS w D S k) := b.hh D _ (hM D hD) hS
    have hS4 : H4 D = some (SetS w D S k) := c.hh D _ (hM D hD) hS3
    have g4 : G4 D = none := c.fr D (some_ne hS3) (b.fr D (some_ne hS) gD)
    have er : (List.range (i + 1)).map v = (List.range i).map v ++ [v i] := by rw [List.range_succ, List.map_append]; rfl
    refine ⟨v i, S, k, rfl, hS4, Nat.lt_of_lt_of_le (show k + 1 < 4095 by omega) (by decide), hlt, _, _, G4, ((a.trans b).trans c).mut (.inl hD) g4, g4, upd_same, fun j => ?_, ?_, ?_⟩
    · show (S j || decide (j = v i)) = true ↔ _
      rw [Bool.or_eq_true, decide_eq_true_iff, hm j, er, List.mem_append, List.mem_singleton]
    · rw [er]
      by_cases hv : S (v i) = true
      · rw [if_pos hv, hk, List.eraseDups_append]
        have : List.removeAll [v i] ((List.range i).map v) = [] := by
          unfold List.removeAll
          rw [List.filter_cons, if_neg (by simp [List.elem_iff]; exact List.mem_map.mp ((hm _).mp hv) |>.imp fun _ h => ⟨List.mem_range.mp h.1, h.2⟩)]
          rfl
        rw [this]; simp
      · rw [if_neg hv, hk, List.eraseDups_append]
        have : List.removeAll [v i] ((List.range i).map v) = [v i] := by
          unfold List.removeAll
          rw [List.filter_cons, if_pos]
          · rfl
          · have hn : ¬ v i ∈ (List.range i).map v := fun z => hv ((hm _).mpr z)
            simpa [List.elem_iff] using hn
        rw [this, List.length_append]
        rfl
    · split <;> omega
  · have en : i = n := by omega
    subst en
    exact .inl ⟨W.stops H' (hWg _ (a.gg.trans a.gh)), hd S k G' H' a gD hS hm hk⟩
end
section
variable {X : Cx}
/-- sorted of a set of texts -/
def rSortSetS (w : World) : List V → Hp → VK → Prop := fun vs H Q => ∃ (a : Addr) (S : Str → Bool) (n : Nat), vs = [V.ref a] ∧ H a = some (SetS w a S n) ∧
  ∀ (zs : List Str) (p : Addr), zs.Nodup → (∀ k : Str, k ∈ zs ↔ S k = true) → H p = none → Q (.ref p) (upd H p (.lst ((zs.mergeSort leS).map V.str)))
theorem sortSetS (hc : X.calm = true) (hu : X.A.units + 64 < cLine) : CallR X (.builtin "sorted") (rSortSetS X.w) := by
  intro pq s σ H vs us Q Iv r h
  obtain ⟨a, S, n, rfl, ha, q⟩ := h
  have hh := Iv.ok.hd hc
  rw [Vals.ref1 r]
  obtain ⟨o, es, ep, t, ho, hex, hd, g, nd, hm, hb, hf, hn, hr, hl⟩ := setS_get Iv ha
  refine sorted_by Iv hu (fun zs => zs.Nodup ∧ ∀ k : Str, k ∈ zs ↔ S k = true) (fun R hR => ?_) (fun zs p e hp => q zs p e.1 e.2 hp)
  refine collect_set (A := X.A.in1) hh ⟨o, ho, hex.1, hd⟩ hf hb hr hl fun s1 vs k1 hz g1 o1 pm => ?_
  have hvl : vs.length = es.size := by rw [pm.length_eq, List.length_map, Array.length_toList]
  have hI : ∀ v ∈ vs, ∃ z t, v = Value.str z t := fun v hv => by
    obtain ⟨e, he, q⟩ := List.mem_map.mp (pm.mem_iff.mp hv)
    obtain ⟨k, tk, h1, _⟩ := g e he
    exact ⟨k, tk, q ▸ h1⟩
  have pk : (vs.map fun v => keyT (0, v)).Perm (es.toList.map keyT) := by
    have z := pm.map (fun v => keyT (0, v))
    rwa [List.map_map] at z
  refine hR s1 vs (vs.map fun v => keyT (0, v)) ⟨pk.nodup_iff.mpr nd, fun k => by rw [pk.mem_iff, ← hm k]⟩ k1 hz g1 o1 ?_ (by rw [List.length_map, hvl]; unfold scanBound at hb; rw [sizeLine_eq]; omega)
  clear hR pk pm hvl
  induction vs with
  | nil => exact .nil
  | cons v vs ih =>
    obtain ⟨z, t, rfl⟩ := hI v (List.mem_cons_self ..)
    exact .cons ⟨t, rfl⟩ (ih fun u hu => hI u (List.mem_cons_of_mem _ hu))
/-- dict(d) -/
theorem call_dictK : CallR X (.type "dict") (fun xs H Q => ∃ (a : Addr) (kvs : List (Key × V)), xs = [.ref a] ∧ H a = some (.dK kvs) ∧ ∀ p, H p = none → Q (.ref p) (upd H p (.dK kvs))) := by
  intro pq s σ H vs us Q Iv r h
  obtain ⟨a, kvs, rfl, ha, q⟩ := h
  rw [Vals.ref1 r]
  exact d_copyOf Iv (.inl ha) fun p s' hp I' => ⟨.ref p, _, I', rfl, q p hp⟩
end
end Hx
/-! data made by the program itself: every list, tuple, dict stands in H by itself; dicts from texts to whole numbers or truth values -/
namespace Hx
open PySem PySem.Spec PyProof.Rows L2
/-- a flat value of such a dict -/
inductive FV : V → PyData → Prop
  | int (i : Int) : FV (.int i) (.int i)
  | bl (b : Bool) : FV (.bl b) (.bool b)
abbrev DKV : List (Key × V) → List (PyData × PyData) → Prop := Paired fun p q => ∃ z, p.1 = Sum.inr z ∧ q.1 = .str z ∧ FV p.2 q.2
mutual
inductive Dt (H : Hp) : V → PyData → Prop
  | non : Dt H .non .none
  | bl (b : Bool) : Dt H (.bl b) (.bool b)
  | int (i : Int) : Dt H (.int i) (.int i)
  | str (x : Str) : Dt H (.str x) (.str x)
  | lst {a : Addr} {xs : List V} {ds : List PyData} : H a = some (.lst xs) → DtAll H xs ds → Dt H (.ref a) (.list ds)
  | tup {a : Addr} {xs : List V} {ds : List PyData} : H a = some (.tup xs) → DtAll H xs ds → Dt H (.ref a) (.tuple ds)
  | dct {a : Addr} {kvs : List (Key × V)} {es : List (PyData × PyData)} : H a = some (.dK kvs) → DKV kvs es → Dt H (.ref a) (.dict es)
inductive DtAll (H : Hp) : List V → List PyData → Prop
  | nil : DtAll H [] []
  | cons {v : V} {vs : List V} {d : PyData} {ds : List PyData} : Dt H v d → DtAll H vs ds → DtAll H (v :: vs) (d :: ds)
end
section
variable {H H' : Hp}
theorem ex_dt (e : Ex H H') : ∀ (d : PyData) (v : V), Dt H v d → Dt H' v d := by
  intro d
  refine PyData.rec (motive_1 := fun d => ∀ v, Dt H v d → Dt H' v d) (motive_2 := fun ds => ∀ vs, DtAll H vs ds → DtAll H' vs ds) (motive_3 := fun _ => True) (motive_4 := fun _ => True) ?_ ?_ ?_ ?_ ?_ ?_ ?_ ?_ ?_ ?_ ?_ ?_ d
  · intro v h; cases h; exact .non
  · intro b v h; cases h; exact .bl b
  · intro i v h; cases h; exact .int i
  · intro x v h; cases h; exact .str x
  · intro xs ih v h
    cases h with
    | lst hs ha => exact .lst (e _ _ hs) (ih _ ha)
  · intro xs ih v h
    cases h with
    | tup hs ha => exact .tup (e _ _ hs) (ih _ ha)
  · intro kvs _ v h
    cases h with
    | dct hs ha => exact .dct (e _ _ hs) ha
  · intro vs h; cases h; exact .nil
  · intro d ds ih ihs vs h
    cases h with
    | cons h1 h2 => exact .cons (ih _ h1) (ihs _ h2)
  · trivial
  · intros; trivial
  · intros; trivial
theorem ex_dta (e : Ex H H') : ∀ {ds : List PyData} {vs : List V}, DtAll H vs ds → DtAll H' vs ds
  | [], _, h => by cases h; exact .nil
  | d :: ds, _, h => by
    cases h with
    | cons h1 h2 => exact .cons (ex_dt e d _ h1) (ex_dta e h2)
theorem dta_len : ∀ {ds : List PyData} {vs : List V}, DtAll H vs ds → vs.length = ds.length
  | [], _, h => by cases h; rfl
  | d :: ds, _, h => by
    cases h with
    | cons h1 h2 => exact congrArg Nat.succ (dta_len h2)
theorem dta_get : ∀ {ds : List PyData} {vs : List V}, DtAll H vs ds → ∀ {i : Nat} {v : V}, vs[i]? = some v → ∃ d, ds[i]? = some d ∧ Dt H v d
  | [], _, h, i, v, e => by cases h; simp at e
  | d :: ds, _, h, i, v, e => by
    cases h with
    | cons h1 h2 =>
      cases i with
      | zero =>
        have e' := Option.some.inj (show some _ = some v from by simpa using e)
        subst e'
        exact ⟨d, by simp, h1⟩
      | succ i =>
        obtain ⟨d', a, b⟩ := dta_get h2 (i := i) (v := v) (by simpa using e)
        exact ⟨d', by simpa using a, b⟩
theorem dta_get' {ds : List PyData} {vs : List V} (h : DtAll H vs ds) {i : Nat} {d : PyData} (e : ds[i]? = some d) : ∃ v, vs[i]? = some v ∧ Dt H v d := by
  have hl := dta_len h
  have hi : i < ds.length := (List.getElem?_eq_some_iff.mp e).1
  obtain ⟨d', a, b⟩ := dta_get h (i := i) (v := vs[i]'(by omega)) (by simp)
  rw [e] at a; cases a
  exact ⟨_, by simp, b⟩
theorem dta_app : ∀ {ds es : List PyData} {vs us : List V}, DtAll H vs ds → DtAll H us es → DtAll H (vs ++ us) (ds ++ es)
  | [], _, _, _, h, k => by cases h; exact k
  | d :: ds, _, _, _, h, k => by
    cases h with
    | cons h1 h2 => exact .cons h1 (dta_app h2 k)
theorem dta_of {ds : List PyData} {vs : List V} (hl : vs.length = ds.length) (h : ∀ (i : Nat) (v : V) (d : PyData), vs[i]? = some v → ds[i]? = some d → Dt H v d) : DtAll H vs ds := by
  induction vs generalizing ds with
  | nil => cases ds with
    | nil => exact .nil
    | cons _ _ => cases hl
  | cons v vs ih => cases ds with
    | nil => cases hl
    | cons d ds => exact .cons (h 0 v d rfl rfl) (ih (Nat.succ.inj hl) fun i v d a b => h (i + 1) v d (by simpa using a) (by simpa using b))
theorem dt_list {v : V} {ds : List PyData} (h : Dt H v (.list ds)) : ∃ a xs, v = .ref a ∧ H a = some (.lst xs) ∧ DtAll H xs ds := by
  cases h with
  | lst hs ha => exact ⟨_, _, rfl, hs, ha⟩
theorem dt_tup {v : V} {ds : List PyData} (h : Dt H v (.tuple ds)) : ∃ a xs, v = .ref a ∧ H a = some (.tup xs) ∧ DtAll H xs ds := by
  cases h with
  | tup hs ha => exact ⟨_, _, rfl, hs, ha⟩
theorem dt_dict {v : V} {es : List (PyData × PyData)} (h : Dt H v (.dict es)) : ∃ a kvs, v = .ref a ∧ H a = some (.dK kvs) ∧ DKV kvs es := by
  cases h with
  | dct hs ha => exact ⟨_, _, rfl, hs, ha⟩
theorem ty_dt {K : PySem.W.Frag} {v : V} {d : PyData} (h : Dt H v d) : TyX K H v (.type (tyN d)) := by
  cases h with
  | non => exact .base .non
  | bl b => exact .base (.bl b)
  | int i => exact .base (.int i)
  | str x => exact .base (.str x)
  | lst hs _ => exact .base (.lst hs)
  | tup hs _ => exact .base (.tup hs)
  | dct hs _ => exact .base (.dK hs)
theorem isi_dt {K : PySem.W.Frag} {v : V} {d : PyData} {T : String} {Q : VK} (h : Dt H v d) (k : kitB (tyN d) T = some (isT T d)) (q : Q (.bl (isT T d)) H) : rIsi K [v, .ty T] H Q :=
  ⟨v, .ty T, .type (tyN d), .type T, _, rfl, .ty T, ty_dt h, kit_ty k, q⟩
end
/-! kinds -/
theorem isT_tup {d : PyData} (h : isT "tuple" d = true) : ∃ ds, d = .tuple ds := by cases d <;> first | exact ⟨_, rfl⟩ | (exfalso; revert h; simp [isT])
theorem isT_list {d : PyData} (h : isT "list" d = true) : ∃ ds, d = .list ds := by cases d <;> first | exact ⟨_, rfl⟩ | (exfalso; revert h; simp [isT])
theorem isT_str {d : PyData} (h : isT "str" d = true) : ∃ z, d = .str z := by cases d <;> first | exact ⟨_, rfl⟩ | (exfalso; revert h; simp [isT])
theorem isT_dict {d : PyData} (h : isT "dict" d = true) : ∃ es, d = .dict es := by cases d <;> first | exact ⟨_, rfl⟩ | (exfalso; revert h; simp [isT])
/-! bounds -/
abbrev Bd := Str × Str × Int
abbrev encB (e : Bd) : PyData := .tuple [.str e.1, .str e.2.1, .int e.2.2]
/-- the tuple at r is the bound e -/
abbrev Tb (H : Hp) (v : V) (e : Bd) : Prop := ∃ r, v = .ref r ∧ H r = some (.tup [.str e.1, .str e.2.1, .int e.2.2])
theorem tb_ex {H H' : Hp} (e : Ex H H') {v : V} {b : Bd} (h : Tb H v b) : Tb H' v b := by
  obtain ⟨r, rfl, h⟩ := h
  exact ⟨r, rfl, e _ _ h⟩
theorem tb_dt {H : Hp} {v : V} {e : Bd} (h : Tb H v e) : Dt H v (encB e) := by
  obtain ⟨r, rfl, h⟩ := h
  exact .tup h (.cons (.str _) (.cons (.str _) (.cons (.int _) .nil)))
theorem dt_tb {H : Hp} {v : V} {e : Bd} (h : Dt H v (encB e)) : Tb H v e := by
  obtain ⟨a, xs, rfl, hs, ha⟩ := dt_tup h
  cases ha with
  | cons h1 ha => cases ha with
    | cons h2 ha => cases ha with
      | cons h3 ha =>
        cases ha; cases h1; cases h2; cases h3
        exact ⟨a, rfl, hs⟩
/-- the list of bounds at a -/
def Bds (H : Hp) (a : Addr) (es : List Bd) : Prop := ∃ xs, H a = some (.lst xs) ∧ Paired (Tb H) xs es
theorem Bds.ex {H H' : Hp} (e : Ex H H') {a : Addr} {es : List Bd} (h : Bds H a es) : Bds H' a es := by
  obtain ⟨xs, h1, h2⟩ := h
  exact ⟨xs, e _ _ h1, Paired.mapP h2 fun _ _ t => tb_ex e t⟩
theorem paired_at {α β : Type} {F : α → β → Prop} : ∀ {as : List α} {bs : List β}, Paired F as bs → ∀ {i : Nat} {a : α}, as[i]? = some a → ∃ b, bs[i]? = some b ∧ F a b
  | _, _, .nil, i, a, e => by simp at e
  | _ :: _, _ :: _, .cons r t, 0, a, e => by
    have e := Option.some.inj (show some _ = some a from by simpa using e)
    subst e
    exact ⟨_, by simp, r⟩
  | _ :: _, _ :: _, .cons r t, i + 1, a, e => by
    obtain ⟨b, h1, h2⟩ := paired_at t (i := i) (a := a) (by simpa using e)
    exact ⟨b, by simpa using h1, h2⟩
theorem paired_dta {α : Type} {H : Hp} {enc : α → PyData} {F : V → α → Prop} (hF : ∀ v b, F v b → Dt H v (enc b)) : ∀ {vs : List V} {bs : List α}, Paired F vs bs → DtAll H vs (bs.map enc)
  | _, _, .nil => .nil
  | _, _, .cons r t => .cons (hF _ _ r) (paired_dta hF t)
theorem dta_paired {α : Type} {H : Hp} {enc : α → PyData} {F : V → α → Prop} (hF : ∀ v b, Dt H v (enc b) → F v b) : ∀ {bs : List α} {vs : List V}, DtAll H vs (bs.map enc) → Paired F vs bs
  | [], _, h => by cases h; exact .nil
  | b :: bs, _, h => by
    cases h with
    | cons h1 h2 => exact .cons (hF _ _ h1) (dta_paired hF h2)
theorem at_nat {xs : List V} {i : Nat} {x : V} (h : xs[i]? = some x) : atI xs ((i : Nat) : Int) = some x := at_of rfl h
theorem getD_of {α : Type} {l : List α} {d x : α} {i : Nat} (h : l[i]? = some x) : l.getD i d = x := by rw [List.getD_eq_getElem?_getD, h]; rfl
theorem sel_flat {v : Nat → V} {f : Nat → Bool} {n : Nat} {ys : List V} {G : Hp} (h : Sel (fun i y _ => y = v i) f n ys G) : ys = ((List.range n).filter f).map v := by
  have gen : ∀ {as : List Nat} {bs : List V}, Paired (fun i y => y = v i) as bs → bs = as.map v := by
    intro as bs p
    induction p with
    | nil => rfl
    | cons r t ih => rw [List.map_cons, ← ih, r]
  exact gen h
theorem sel_flat1 {v : Nat → V} {n : Nat} {ys : List V} {G : Hp} (h : Sel (fun i y _ => y = v i) (fun _ => true) n ys G) : ys = (List.range n).map v := by
  rw [sel_flat h, List.filter_eq_self.mpr fun _ _ => rfl]
theorem range_map {α β : Type} (l : List α) (d : α) (f : α → β) : (List.range l.length).map (fun i => f (l.getD i d)) = l.map f := by
  apply List.ext_getElem
  · simp
  · intro i h1 h2
    have hi : i < l.length := by simpa using h1
    simp [List.getD_eq_getElem?_getD, hi]
theorem sz (m : Nat) (h : m ≤ 1000000) : m < sizeLine := Nat.lt_of_le_of_lt h (by decide)
end Hx
namespace Hx
open PySem PySem.Spec PyProof.Rows L2
theorem turn_range0 {M : Addr → Prop} {G H G' H' H'' : Hp} {j i : Nat} {x : V} {σ0 : L2.St} {Q : L2.St → Hp → Prop} (a : Stp M G H G' H') (y : YFn (fun i => .int (0 + (i : Int))) i H' x H'') (q : ∀ G2 H2, Stp M G' H' G2 H2 → Q (σ0.set j (some (.int (i : Nat)))) H2) : gName j x σ0 H'' Q := by
  obtain ⟨rfl, rfl⟩ := y
  show Q (σ0.set j (some (.int (0 + (i : Int))))) _
  rw [Int.zero_add]
  exact q G' H'' (Stp.refl a.gh)
/-- a comprehension of truth values, nothing is left behind by a turn's value -/
theorem lcB {K : PySem.W.Frag} {H : Hp} {σ : L2.St} {g : TG} {te : TE} {vs : List Nat} {J : It} {n : Nat} {Wg : Hp → Prop} {Y : Nat → Hp → V → Hp → Prop} (W : Walk J n Wg Y) (hWg : ∀ H', Ex H H' → Wg H') (hn : n ≤ 1000000) (b : Nat → Bool) (σt : Nat → L2.St)
    (hg : ∀ i x G' H' H'', i < n → Stp NoM H H G' H' → Y i H' x H'' → ∀ Q : L2.St → Hp → Prop, (∀ G2 H2, Stp NoM G' H' G2 H2 → Q (σt i) H2) → g x (wipe σ vs) H'' Q) (hw : ∀ i, i < n → wipe (σt i) vs = wipe σ vs)
    (he : ∀ i H', i < n → Ex H H' → ∀ Q : VK, (∀ H2, Ex H' H2 → Q (.bl (b i)) H2) → te (σt i) H' Q) {D : Addr} (hD : H D = none) {Qd : Hp → Prop}
    (hd : ∀ H', Ex H H' → SqL K H' D (((List.range n).map b).map V.bl) → Qd H') :
    ∃ W : Nat → Nat → Hp → Prop, (∃ m, W 0 m (upd H D (.lst []))) ∧ ∀ i m H, W i m H →
      (J.stop i H ∧ Qd H) ∨ (J.go i H ∧ ∃ Nx : Hp → Prop, (∀ H', Nx H' → ∃ m', m' < m ∧ W (i + 1) m' H') ∧ ∀ x H', J.yld i H x H' → g x (wipe σ vs) H' fun σ2 H2 => wipe σ2 vs = wipe σ vs ∧ tYes σ2 H2 fun b H3 =>
        if b = true then te σ2 H3 fun y H4 => ∃ acc, H4 D = some (.lst acc) ∧ acc.length < sizeLine ∧ Nx (upd H4 D (.lst (acc ++ [y]))) else Nx H3) := by
  refine lcW (M := NoM) W (Evl.Ex.refl H) hWg hn (fun i y _ => y = .bl (b i)) (fun _ _ _ _ _ h => h) (fun _ => true) σt hg hw (fun i G' H' hi a' Q q => yes_t a'.gh q)
    (fun i G' H' hi _ a' Q q => he i H' hi (a'.gg.trans a'.gh) Q fun H2 e => q _ G' H2 (Stp.of a'.gh e) rfl) (fun _ _ h => h) hD (fun ys G' H' a' gD hl' hsel => ?_)
  refine hd H' (a'.gg.trans a'.gh) ?_
  have gen : ∀ {as : List Nat} {bs : List V}, Paired (fun i y => y = V.bl (b i)) as bs → bs = (as.map b).map V.bl := by
    intro as bs p
    induction p with
    | nil => rfl
    | cons r t ih => rw [List.map_cons, List.map_cons, ← ih, r]
  have z := gen hsel
  rw [List.filter_eq_self.mpr fun _ _ => rfl] at z
  rw [← z]
  exact SqL.of hl'

/-- len of a dict -/
theorem call_lenK {X : Cx} : CallR X (.builtin "len") (fun xs H Q => ∃ (a : Addr) (kvs : List (Key × V)), xs = [.ref a] ∧ H a = some (.dK kvs) ∧ Q (.int kvs.length) H) := by
  intro pq s σ H vs us Q Iv r h
  obtain ⟨a, kvs, rfl, ha, q⟩ := h
  rw [Vals.ref1 r]
  exact d_len Iv (.inl ha) fun t s' I' => ⟨.int kvs.length, H, I', ⟨t, rfl⟩, q⟩
section
variable {K : PySem.W.Frag} {M : Addr → Prop} {G H : Hp} {σ : L2.St} {g : TG} {tk tv : TE} {vs : List Nat}
/-- {k: v for .. in ..}: nothing but the dict is laid -/
theorem dcW {J : It} {n : Nat} {Wg : Hp → Prop} {Y : Nat → Hp → V → Hp → Prop} (W : Walk J n Wg Y) (e : Ex G H) (hWg : ∀ H', Ex G H' → Wg H') (hn : n ≤ 1000000) (f : Nat → Key × V) (σt : Nat → L2.St)
    (hg : ∀ i x G' H' H'', i < n → Stp M G H G' H' → Y i H' x H'' → ∀ Q : L2.St → Hp → Prop, (∀ G2 H2, Stp M G' H' G2 H2 → Q (σt i) H2) → g x (wipe σ vs) H'' Q) (hw : ∀ i, i < n → wipe (σt i) vs = wipe σ vs)
    (hk : ∀ i G' H', i < n → Stp M G H G' H' → ∀ Q : VK, (∀ G2 H2, Stp M G' H' G2 H2 → Q (kV (f i).1) H2) → tk (σt i) H' Q)
    (hv : ∀ i G' H', i < n → Stp M G H G' H' → ∀ Q : VK, (∀ G2 H2, Stp M G' H' G2 H2 → Q (f i).2 H2) → tv (σt i) H' Q) (hM : ∀ D, H D = none → ¬ M D) {D : Addr} (hD : H D = none) {Qd : Hp → Prop}
    (hd : ∀ G' H', Stp M G H G' H' → G' D = none → H' D = some (.dK (((List.range n).map f).foldl (fun acc p => putK acc p.1 p.2) [])) → Qd H') :
    ∃ W : Nat → Nat → Hp → Prop, (∃ m, W 0 m (upd H D (.dK []))) ∧ ∀ i m H, W i m H →
      (J.stop i H ∧ Qd H) ∨ (J.go i H ∧ ∃ Nx : Hp → Prop, (∀ H', Nx H' → ∃ m', m' < m ∧ W (i + 1) m' H') ∧ ∀ x H', J.yld i H x H' → g x (wipe σ vs) H' fun σ2 H2 => wipe σ2 vs = wipe σ vs ∧ tYes σ2 H2 fun b H3 =>
        if b = true then tk σ2 H3 fun y H4 => tv σ2 H4 fun z H5 => ∃ kvs k, y = kV k ∧ H5 D = some (.dK kvs) ∧ kvs.length < sizeLine ∧ Nx (upd H5 D (.dK (putK kvs k z))) else Nx H3) := by
  refine ⟨fun i m H' => m = n - i ∧ i ≤ n ∧ ∃ G', Stp M G H G' H' ∧ G' D = none ∧ H' D = some (.dK (((List.range i).map f).foldl (fun acc p => putK acc p.1 p.2) [])) ∧ (((List.range i).map f).foldl (fun acc p => putK acc p.1 p.2) []).length ≤ i,
    ⟨n, by simp, Nat.zero_le _, G, Stp.lay e hD, Evl.fresh_back e hD, upd_same, Nat.zero_le _⟩, ?_⟩
  rintro i m H' ⟨rfl, hi, G', a, gD, hS, hl⟩
  by_cases hlt : i < n
  · refine .inr ⟨W.goes i H' hlt (hWg H' (a.gg.trans a.gh)), fun H2 => i + 1 ≤ n ∧ ∃ G', Stp M G H G' H2 ∧ G' D = none ∧ H2 D = some (.dK (((List.range (i + 1)).map f).foldl (fun acc p => putK acc p.1 p.2) [])) ∧ (((List.range (i + 1)).map f).foldl (fun acc p => putK acc p.1 p.2) []).length ≤ i + 1, fun H2 q => ⟨n - (i + 1), by omega, rfl, q⟩, fun x H2 y => ?_⟩
    refine hg i x G' H' H2 hlt a (W.yields i H' x H2 hlt (hWg _ (a.gg.trans a.gh)) y) _ fun G3 H3 b => ⟨hw i hlt, ?_⟩
    refine tYes_ifS ?_
    refine hk i G3 H3 hlt (a.trans b) _ fun G4 H4 c => ?_
    refine hv i G4 H4 hlt ((a.trans b).trans c) _ fun G5 H5 d => ?_
    have hS3 := b.hh D _ (hM D hD) hS
    have hS4 := c.hh D _ (hM D hD) hS3
    have hS5 := d.hh D _ (hM D hD) hS4
    have g5 : G5 D = none := d.fr D (some_ne hS4) (c.fr D (some_ne hS3) (b.fr D (some_ne hS) gD))
    have er : ((List.range (i + 1)).map f).foldl (fun acc p => putK acc p.1 p.2) [] = putK (((List.range i).map f).foldl (fun acc p => putK acc p.1 p.2) []) (f i).1 (f i).2 := by
      rw [List.range_succ, List.map_append, List.foldl_append]; rfl
    refine ⟨_, (f i).1, rfl, hS5, Nat.lt_of_le_of_lt hl (sz _ (by omega)), hlt, G5, (((a.trans b).trans c).trans d).mut (.inl hD) g5, g5, ?_, ?_⟩
    · rw [er]; exact upd_same
    · rw [er]; exact Nat.le_trans (length_putK _ _ _) (by omega)
  · have en : i = n := by omega
    subst en
    exact .inl ⟨W.stops H' (hWg _ (a.gg.trans a.gh)), hd G' H' a gD hS⟩
end
end Hx
/-! dict comprehensions whose keys are tuples (after the layer's own for flat keys) -/
namespace Hx
open PySem PySem.Spec PyProof.Rows L2
theorem d_dictSetT {X : Cx} {pq : List (Addr × Obj)} {σ : L2.St} {H : Hp} {s : Shared} {E : Value → Shared → Prop} {D b : Addr} {kvs : List (List Key × V)} {k : List Key} {v : V} {u r : Value} {Q : Unit → Shared → Prop} (hu : X.A.units + 1 < cLine) (Iv : Inv X pq σ H s)
    (eb : H b = some (.tup (k.map kV))) (hD : H D = some (.dT kvs)) (hz : kvs.length < sizeLine) (ry : RelV (.ref b) u) (rv : RelV v r) (h : ∀ s', Inv X pq σ (upd H D (.dT (putK kvs k v))) s' → Q () s') : wpAny (model X.prog X.w) X.A (dictSet D u r) Q E s := by
  cases (show u = Value.ref b from ry)
  obtain ⟨z, hd, xs, rel, dd⟩ := dt_of Iv.hok hD
  have hz' : xs.length ≤ sizeLine := by rw [← Paired.length rel]; exact z
  have hl : (putK kvs k v).length ≤ sizeLine := by have := length_putK kvs k v; omega
  refine wpAny_dictSet_heap (hsz := hz') ((by show _ < cLine; exact Nat.lt_of_le_of_lt (Nat.le_succ _) hu)) (key_of Iv.hok eb) dd fun h' dd' hs => h _ ?_
  obtain ⟨q, es, ep, hq, h2, h3, h4, _, h5⟩ := dd'
  refine d_write Iv (by rw [hD]; exact True.intro) hs ⟨q, hq⟩ ⟨hl, hd, _, (rel.put k eb rv).keeps fun c ys ec => ?_, q, es, ep, hq, h2, h3, h4, h5⟩
  rw [upd_ne (ne_of ec hD (fun z => nomatch z))]
  exact ec
section
variable {X : Cx}
def tDcT (wi : TI) (g : TG) (tt : TT) (tk tv : TE) (vs : List Nat) : TE := fun σ H Q => wi σ H fun J H1 => ∀ D, H1 D = none → ∃ W : Nat → Nat → Hp → Prop, (∃ m, W 0 m (upd H1 D (.dT []))) ∧ ∀ i m H, W i m H →
  (J.stop i H ∧ Q (.ref D) H) ∨ (J.go i H ∧ ∃ Nx : Hp → Prop, (∀ H', Nx H' → ∃ m', m' < m ∧ W (i + 1) m' H') ∧ ∀ x H', J.yld i H x H' → g x (wipe σ vs) H' fun σ2 B2 => wipe σ2 vs = wipe σ vs ∧ tt σ2 B2 fun b B3 =>
    if b = true then tk σ2 B3 fun y H4 => tv σ2 H4 fun z B5 => ∃ (kvs : List (List Key × V)) (k : List Key) (b : Addr), y = .ref b ∧ B5 b = some (.tup (k.map kV)) ∧ B5 D = some (.dT kvs) ∧ kvs.length < sizeLine ∧ Nx (upd B5 D (.dT (putK kvs k z))) else Nx B3)
theorem dcT_core {pq : List (Addr × Obj)} {s : Shared} {σ : L2.St} {H : Hp} {Q : VK} {kx vx tg iter : Expr} {ifs : List Expr} {scope : Scope} {own : List (Str × Nat)} {pos pos' : Pos} {wi : TI} {g : TG} {tt : TT} {tk tv : TE} {use : Option (Value → Sem Unit)} {Qf : Value → Shared → Prop}
    (hu : X.A.units + 1 < cLine) (hc : X.calm = true) (hN : X.N.Nodup) (Iv : Inv X pq σ H s) (hi : PI X tg iter wi) (ok : BlkOk X.N X.env.scope scope own)
    (hgg : ∀ (s : Shared) (H : Hp) (C : Addr) (cl : List (Str × Addr)) (fq : List Addr), PG (X.blk s H scope (compEnvC scope cl C X.env) fq) tg g) (htt : ∀ (s : Shared) (H : Hp) (C : Addr) (cl : List (Str × Addr)) (fq : List Addr), PTs (X.blk s H scope (compEnvC scope cl C X.env) fq) ifs tt)
    (hkk : ∀ (s : Shared) (H : Hp) (C : Addr) (cl : List (Str × Addr)) (fq : List Addr), PE (X.blk s H scope (compEnvC scope cl C X.env) fq) kx tk)
    (hee : ∀ (s : Shared) (H : Hp) (C : Addr) (cl : List (Str × Addr)) (fq : List Addr), PE (X.blk s H scope (compEnvC scope cl C X.env) fq) vx tv) (hs : ∀ x, foldedSetIterable iter X.env x = pure x)
    (h : tDcT wi g tt tk tv (own.map (·.2)) σ H Q)
    (hRR : ∀ D C s' m H', Inv X pq σ H' s' → Q (.ref D) H' → s'.heap.Ns C m → FpOk X pq H' C → compPost (model X.prog X.w) X.A X.xe use Qf (.ref D) C (.ok .next) s') :
    wpAny (model X.prog X.w) X.A (comprehension (.DictComp kx vx [⟨tg, iter, ifs, 0⟩] scope pos) scope X.env pos' newDict false (eval iter X.env) use) Qf X.xe s := by
  have hfree : ∀ y ∈ scope.names, y.2 = .free → ∃ c, X.env.cells.lookup y.1 = some c := fun y hy e => by
    rcases ok.free y hy e with k | k
    · exact Iv.ok.has _ (.inl k)
    · exact Iv.ok.has _ (.inr k)
  refine wpAny_comprehension_free (use := use) rfl hs (closure_ok hfree) ok.kind (fun y hy e => by rw [ok.uniq y hy, e])
    (thn (hi.run pq s σ H _ Iv h) fun xv z1 hx => thn hx fun itv z2 h2 => ?_)
  obtain ⟨it, fq, tn, J, B2, e, Iv2, T, st2, f2, q⟩ := h2
  subst e
  refine wpAny_newObj_type (newEnv_comp ?_)
  generalize hD : z2.heap.objs.size = D
  have hDn : B2 D = none := Iv2.hok.fresh (Nat.le_of_eq hD)
  obtain ⟨W, ⟨m0, w0⟩, trn⟩ := q D hDn
  generalize hs3 : ({ z2 with heap := z2.heap.push { cls := .type "dict", data := .dict #[] } } : Shared) = z3
  have Iv3 : Inv X pq σ (upd B2 D (.dT [])) z3 := by
    rw [← hs3]
    refine Iv2.laid (t' := z2.toks) (fun b o e => Heap.get?_push_of_some _ e) (Nat.le_of_eq hD) ?_
    rw [← hD]
    exact dt_empty z2.heap Iv2.big
  have h3 : z3.heap = z2.heap.push { cls := .type "dict", data := .dict #[] } := by rw [← hs3]
  have sz : ∀ b ∈ fq, b < z2.heap.objs.size := fun b hb => by
    obtain ⟨o, e, _⟩ := T.obj _ _ st2 b hb
    exact Heap.lt_size e
  have f3 : ∀ b ∈ fq, FpOk X pq (upd B2 D (.dT [])) b ∧ b < z3.heap.objs.size := fun b hb => by
    have hlt := sz b hb
    refine ⟨⟨?_, (f2 b hb).2⟩, by rw [h3, Heap.size_push]; exact Nat.lt_succ_of_lt hlt⟩
    rw [upd_ne (by rw [← hD]; exact Nat.ne_of_lt hlt)]
    exact (f2 b hb).1
  have st3 : tn 0 z3.heap := T.keep _ _ _ st2 fun b _ o e => by rw [h3]; exact Heap.get?_push_of_some _ e
  have Iv4 := block_start Iv3 ok hN f3
  have pgg := hgg z3 (upd B2 D (.dT [])) z3.heap.objs.size (cellsFrom (z3.heap.objs.size + 1) scope.names (cloFrom X.env.cells scope.names [])) fq
  have ptt := htt z3 (upd B2 D (.dT [])) z3.heap.objs.size (cellsFrom (z3.heap.objs.size + 1) scope.names (cloFrom X.env.cells scope.names [])) fq
  have pkk := hkk z3 (upd B2 D (.dT [])) z3.heap.objs.size (cellsFrom (z3.heap.objs.size + 1) scope.names (cloFrom X.env.cells scope.names [])) fq
  have pee := hee z3 (upd B2 D (.dT [])) z3.heap.objs.size (cellsFrom (z3.heap.objs.size + 1) scope.names (cloFrom X.env.cells scope.names [])) fq
  show codeAny _ _ (.compStart (.DictComp kx vx [⟨tg, iter, ifs, 0⟩] scope pos) 0 (.ref it) (.ref D) (compEnvC scope (cellsFrom (z3.heap.objs.size + 1) scope.names (cloFrom X.env.cells scope.names [])) z3.heap.objs.size X.env)) (compPost (model X.prog X.w) X.A X.xe use Qf (.ref D) z3.heap.objs.size) { z3 with heap := pushCells (z3.heap.push { cls := .type "dict", data := .dict #[] }) scope.names }
  have nfp : ∀ b ∈ fq, (upd B2 D (.dT [])) b = none := fun b hb => (f3 b hb).1.1
  generalize hce : compEnvC scope (cellsFrom (z3.heap.objs.size + 1) scope.names (cloFrom X.env.cells scope.names [])) z3.heap.objs.size X.env = ce at Iv4 pgg ptt pkk pee ⊢
  have cL : ce.locals = z3.heap.objs.size := by subst hce; rfl
  generalize hH3 : upd B2 D (.dT []) = B3 at Iv3 Iv4 pgg ptt pkk pee w0 nfp f3
  generalize hs4 : ({ z3 with heap := pushCells (z3.heap.push { cls := .type "dict", data := .dict #[] }) scope.names } : Shared) = z4 at Iv4 ⊢
  have st4 : tn 0 z4.heap := T.keep _ _ _ st3 fun b _ o e => by rw [← hs4]; exact pushCells_keeps _ _ _ _ (Heap.get?_push_of_some _ e)
  have stt : ∀ {σ' : L2.St} {H' : Hp} {s' : Shared}, Inv (X.blk z3 B3 scope ce fq) [] σ' H' s' → (∀ b ∈ fq, H' b = none) → ∀ b ∈ fq, FpOk (X.blk z3 B3 scope ce fq) [] H' b := fun {σ' H' s'} Iv' hn b hb =>
    ⟨hn b hb, (Iv'.ok.exf b hb).1, Iv'.ok.exfs b hb, .inl hb, fun x c e => (Iv'.ok.exf b hb).2 x c e, fun p hp => absurd (show p ∈ ([] : List (Addr × Obj)) ++ [] from hp) (by simp)⟩
  have lp : codeAny (model X.prog X.w) X.A (.compLoop (.DictComp kx vx [⟨tg, iter, ifs, 0⟩] scope pos) 0 (.ref it) (.ref D) ce) (compPost (model X.prog X.w) X.A X.xe use Qf (.ref D) z3.heap.objs.size) z4 := by
    refine compLoop_anyD (fun n s' => ∃ i H', Inv (X.blk z3 B3 scope ce fq) [] (wipe σ (own.map (·.2))) H' s' ∧ tn i s'.heap ∧ (∀ b ∈ fq, H' b = none) ∧ W i n H') ?_ m0 ⟨0, B3, Iv4, st4, nfp, w0⟩
    rintro n z5 ⟨i, B5, Iv5, st5, n5, w5⟩
    rcases trn i n B5 w5 with ⟨stop, qq⟩ | ⟨go, Nx, hNx, step⟩
    · have td := T.done (X.blk z3 B3 scope ce fq) rfl rfl rfl hc i [] z5 _ B5 (fun _ _ => False) Iv5 (stt Iv5 n5) st5 stop
      refine thnF td fun r z6 ⟨hr, Iv6⟩ => ?_
      subst hr
      have Iv7 : Inv X pq σ B5 z6 := Iv3.call' (ch := fq) Iv6.os Iv6.base Iv6.hok Iv6.bare fun b hb => ⟨(f3 b hb).1.2.2.2.1, (f3 b hb).1.2.1, (f3 b hb).1.2.2.2.2.1, (f3 b hb).1.2.2.2.2.2⟩
      have nC : B5 z3.heap.objs.size = none := by
        have z : B5 ce.locals = none := Iv6.free
        rw [cL] at z
        exact z
      obtain ⟨m, hn, _⟩ := Iv6.loc
      have hn : z6.heap.Ns ce.locals m := hn
      rw [cL] at hn
      exact hRR D z3.heap.objs.size z6 m B5 Iv7 qq hn (Iv3.fpOk (Nat.le_refl _) nC)
    · have ti := T.item (X.blk z3 B3 scope ce fq) rfl rfl rfl hc i [] z5 _ B5 (fun _ _ => False) Iv5 (stt Iv5 n5) st5 go
      refine thnF ti fun r z6 ⟨u, hr, h6⟩ => ?_
      subst hr
      refine thnF h6 fun _ z7 ⟨x, B7, Iv7, r7, y7, st7, n7⟩ => ?_
      have Iv7' := Iv7.pinned (stt Iv7 n7) (T.obj _ _ st7)
      refine thnF (pgg.run _ z7 _ B7 x u _ Iv7' r7 (step x B7 y7)) fun _ z8 ⟨σ8, B8, Iv8, hw8, q8⟩ => ?_
      refine thnF (ptt.run _ z8 σ8 B8 _ Iv8 q8) fun b z9 ⟨B9, Iv9, q9⟩ => ?_
      have fi : ∀ {s' : Shared} {H' : Hp}, Inv (X.blk z3 B3 scope ce fq) ([] ++ pinsAt fq z7.heap) σ8 H' s' → Nx H' → ∃ m, m < n ∧ ∃ i H', Inv (X.blk z3 B3 scope ce fq) [] (wipe σ (own.map (·.2))) H' s' ∧ tn i s'.heap ∧ (∀ b ∈ fq, H' b = none) ∧ W i m H' := fun {s' H'} Iv' nx => by
        obtain ⟨m', hm, w'⟩ := hNx H' nx
        have pin' : ∀ b ∈ fq, ∀ o, z7.heap.get? b = some o → s'.heap.get? b = some o ∧ H' b = none := fun b hb o e =>
          let z := Iv'.pin (b, o) (List.mem_append_right _ (List.mem_append_right _ (mem_pinsAt hb e)))
          ⟨z.1, z.2.1⟩
        have hl : (wipe σ (own.map (·.2))).length = σ8.length := by rw [← hw8, wipe_length]
        refine ⟨m', hm, i + 1, H', (Iv'.unpinned (pins := [])).weak hl (fun j v e => ?_), T.keep _ _ _ st7 fun b hb o e => (pin' b hb o e).1, fun b hb => ?_, w'⟩
        · rw [← hw8] at e
          exact (wipe_some e).1
        · obtain ⟨o, e, _⟩ := T.obj _ _ st7 b hb
          exact (pin' b hb o e).2
      cases b with
      | false =>
        simp only [Bool.false_eq_true, if_false] at q9 ⊢
        exact fi Iv9 q9
      | true =>
        simp only [if_true] at q9 ⊢
        refine thnF (pkk.run _ z9 σ8 B9 _ Iv9 q9) fun z z10 ⟨yk, B10, Iv10, r10, q10⟩ => ?_
        refine thnF (pee.run _ z10 σ8 B10 _ Iv10 q10) fun z2 z11 ⟨yv, B11, Iv11, r11, kvs, k, b, ek, hb11, hD11, hz11, nx⟩ => ?_
        subst ek
        exact d_dictSetT (X := X.blk z3 B3 scope ce fq) hu Iv11 hb11 hD11 hz11 r10 r11 fun z12 Iv12 => fi Iv12 nx
  exact codeAny_compStart_dict lp (T.self X.A 0 _ _ _ st4 lp)
theorem pe_dcT {kx vx tg iter : Expr} {ifs : List Expr} {scope : Scope} {own : List (Str × Nat)} {pos : Pos} {wi : TI} {g : TG} {tt : TT} {tk tv : TE} (hu : X.A.units + 1 < cLine) (hc : X.calm = true) (hN : X.N.Nodup) (hi : PI X tg iter wi) (ok : BlkOk X.N X.env.scope scope own)
    (hgg : ∀ (s : Shared) (H : Hp) (C : Addr) (cl : List (Str × Addr)) (fq : List Addr), PG (X.blk s H scope (compEnvC scope cl C X.env) fq) tg g) (htt : ∀ (s : Shared) (H : Hp) (C : Addr) (cl : List (Str × Addr)) (fq : List Addr), PTs (X.blk s H scope (compEnvC scope cl C X.env) fq) ifs tt)
    (hkk : ∀ (s : Shared) (H : Hp) (C : Addr) (cl : List (Str × Addr)) (fq : List Addr), PE (X.blk s H scope (compEnvC scope cl C X.env) fq) kx tk)
    (hee : ∀ (s : Shared) (H : Hp) (C : Addr) (cl : List (Str × Addr)) (fq : List Addr), PE (X.blk s H scope (compEnvC scope cl C X.env) fq) vx tv) (hs : ∀ x, foldedSetIterable iter X.env x = pure x := by intro _; rfl) :
    PE X (.DictComp kx vx [⟨tg, iter, ifs, 0⟩] scope pos) (tDcT wi g tt tk tv (own.map (·.2))) := by
  refine ⟨fun pq s σ H Q Iv h => ?_⟩
  rw [arm_eval_DictComp]
  refine dcT_core hu hc hN Iv hi ok hgg htt hkk hee hs h fun D C s' m H' Iv' q hn f => ⟨m, hn, fun h'' sb => ?_⟩
  obtain ⟨f0, f1, f2, f3, f4, f5⟩ := f
  exact ⟨.ref D, H', Iv'.turned (t' := s'.toks) (fun b o hb e => (sb.2 b hb).trans e) f0 f1 f3 f4 f5, rfl, q⟩
end
end Hx
namespace Hx
open PySem PySem.Spec PyProof.Rows L2
theorem putT_len (kvs : List (List Key × V)) (k : List Key) (v : V) : (putK kvs k v).length ≤ kvs.length + 1 := length_putK kvs k v
theorem foldT_mem : ∀ (l : List (List Key × V)) (acc : List (List Key × V)) (k : List Key), (valV (l.foldl (fun acc p => putK acc p.1 p.2) acc) k).isSome = true ↔ (valV acc k).isSome = true ∨ ∃ p ∈ l, p.1 = k
  | [], acc, k => by simp
  | p :: l, acc, k => by
    rw [List.foldl_cons, foldT_mem l, valV_put]
    by_cases h : k = p.1
    · rw [if_pos h]
      exact ⟨fun _ => .inr ⟨p, List.mem_cons_self .., h.symm⟩, fun _ => .inl rfl⟩
    · rw [if_neg h]
      constructor
      · rintro (z | ⟨q, hq, e⟩)
        · exact .inl z
        · exact .inr ⟨q, List.mem_cons_of_mem _ hq, e⟩
      · rintro (z | ⟨q, hq, e⟩)
        · exact .inl z
        · rcases List.mem_cons.mp hq with rfl | hq
          · exact absurd e.symm h
          · exact .inr ⟨q, hq, e⟩
section
variable {K : PySem.W.Frag} {M : Addr → Prop} {G H : Hp} {σ : L2.St} {g : TG} {tk tv : TE} {vs : List Nat}
/-- {k: v for .. in ..}: nothing but the dict is laid -/
theorem dcWT {J : It} {n : Nat} {Wg : Hp → Prop} {Y : Nat → Hp → V → Hp → Prop} (W : Walk J n Wg Y) (e : Ex G H) (hWg : ∀ H', Ex G H' → Wg H') (hn : n ≤ 1000000) (f : Nat → List Key × V) (σt : Nat → L2.St)
    (hg : ∀ i x G' H' H'', i < n → Stp M G H G' H' → Y i H' x H'' → ∀ Q : L2.St → Hp → Prop, (∀ G2 H2, Stp M G' H' G2 H2 → Q (σt i) H2) → g x (wipe σ vs) H'' Q) (hw : ∀ i, i < n → wipe (σt i) vs = wipe σ vs)
    (hk : ∀ i G' H', i < n → Stp M G H G' H' → ∀ Q : VK, (∀ b G2 H2, Stp M G' H' G2 H2 → G2 b = some (.tup ((f i).1.map kV)) → Q (.ref b) H2) → tk (σt i) H' Q)
    (hv : ∀ i G' H', i < n → Stp M G H G' H' → ∀ Q : VK, (∀ G2 H2, Stp M G' H' G2 H2 → Q (f i).2 H2) → tv (σt i) H' Q) (hM : ∀ D, H D = none → ¬ M D) {D : Addr} (hD : H D = none) {Qd : Hp → Prop}
    (hd : ∀ G' H', Stp M G H G' H' → G' D = none → H' D = some (.dT (((List.range n).map f).foldl (fun (acc : List (List Key × V)) p => putK acc p.1 p.2) [])) → Qd H') :
    ∃ W : Nat → Nat → Hp → Prop, (∃ m, W 0 m (upd H D (.dT []))) ∧ ∀ i m H, W i m H →
      (J.stop i H ∧ Qd H) ∨ (J.go i H ∧ ∃ Nx : Hp → Prop, (∀ H', Nx H' → ∃ m', m' < m ∧ W (i + 1) m' H') ∧ ∀ x H', J.yld i H x H' → g x (wipe σ vs) H' fun σ2 H2 => wipe σ2 vs = wipe σ vs ∧ tYes σ2 H2 fun b H3 =>
        if b = true then tk σ2 H3 fun y H4 => tv σ2 H4 fun z H5 => ∃ (kvs : List (List Key × V)) (k : List Key) (b : Addr), y = .ref b ∧ H5 b = some (.tup (k.map kV)) ∧ H5 D = some (.dT kvs) ∧ kvs.length < sizeLine ∧ Nx (upd H5 D (.dT (putK kvs k z))) else Nx H3) := by
  refine ⟨fun i m H' => m = n - i ∧ i ≤ n ∧ ∃ G', Stp M G H G' H' ∧ G' D = none ∧ H' D = some (.dT (((List.range i).map f).foldl (fun (acc : List (List Key × V)) p => putK acc p.1 p.2) [])) ∧ (((List.range i).map f).foldl (fun (acc : List (List Key × V)) p => putK acc p.1 p.2) []).length ≤ i,
    ⟨n, by simp, Nat.zero_le _, G, Stp.lay e hD, Evl.fresh_back e hD, upd_same, Nat.zero_le _⟩, ?_⟩
  rintro i m H' ⟨rfl, hi, G', a, gD, hS, hl⟩
  by_cases hlt : i < n
  · refine .inr ⟨W.goes i H' hlt (hWg H' (a.gg.trans a.gh)), fun H2 => i + 1 ≤ n ∧ ∃ G', Stp M G H G' H2 ∧ G' D = none ∧ H2 D = some (.dT (((List.range (i + 1)).map f).foldl (fun (acc : List (List Key × V)) p => putK acc p.1 p.2) [])) ∧ (((List.range (i + 1)).map f).foldl (fun (acc : List (List Key × V)) p => putK acc p.1 p.2) []).length ≤ i + 1, fun H2 q => ⟨n - (i + 1), by omega, rfl, q⟩, fun x H2 y => ?_⟩
    refine hg i x G' H' H2 hlt a (W.yields i H' x H2 hlt (hWg _ (a.gg.trans a.gh)) y) _ fun G3 H3 b => ⟨hw i hlt, ?_⟩
    refine tYes_ifS ?_
    refine hk i G3 H3 hlt (a.trans b) _ fun kb G4 H4 c hkb => ?_
    refine hv i G4 H4 hlt ((a.trans b).trans c) _ fun G5 H5 d => ?_
    have hS3 := b.hh D _ (hM D hD) hS
    have hS4 := c.hh D _ (hM D hD) hS3
    have hS5 := d.hh D _ (hM D hD) hS4
    have g5 : G5 D = none := d.fr D (some_ne hS4) (c.fr D (some_ne hS3) (b.fr D (some_ne hS) gD))
    have er : ((List.range (i + 1)).map f).foldl (fun (acc : List (List Key × V)) p => putK acc p.1 p.2) [] = putK (((List.range i).map f).foldl (fun (acc : List (List Key × V)) p => putK acc p.1 p.2) []) (f i).1 (f i).2 := by
      rw [List.range_succ, List.map_append, List.foldl_append]; rfl
    refine ⟨_, (f i).1, kb, rfl, d.gh _ _ (d.gg _ _ hkb), hS5, Nat.lt_of_le_of_lt hl (sz _ (by omega)), hlt, G5, (((a.trans b).trans c).trans d).mut (.inl hD) g5, g5, ?_, ?_⟩
    · rw [er]; exact upd_same
    · rw [er]; exact Nat.le_trans (putT_len _ _ _) (by omega)
  · have en : i = n := by omega
    subst en
    exact .inl ⟨W.stops H' (hWg _ (a.gg.trans a.gh)), hd G' H' a gD hS⟩
end
end Hx
/-! y = {k: v for ..}, y a local -/
namespace Hx
open PySem PySem.Spec PyProof.Rows L2
section
variable {X : Cx}
theorem ps_setDc {i : Nat} {y : Str} {py : Pos} {kx vx tg iter : Expr} {ifs : List Expr} {scope : Scope} {own : List (Str × Nat)} {pos sp : Pos} {wi : TI} {g : TG} {tt : TT} {tk tv : TE} (hc : X.calm = true) (hN : X.N.Nodup) (hnm : X.N[i]? = some y) (hloc : X.env.scope.names.lookup y = some .local)
    (hsw : swapsWith (.DictComp kx vx [⟨tg, iter, ifs, 0⟩] scope pos) (some (.Name y py)) sp.line X.env = pure true) (hi : PI X tg iter wi) (ok : BlkOk X.N X.env.scope scope own)
    (hgg : ∀ (s : Shared) (H : Hp) (C : Addr) (cl : List (Str × Addr)) (fq : List Addr), PG (X.blk s H scope (compEnvC scope cl C X.env) fq) tg g) (htt : ∀ (s : Shared) (H : Hp) (C : Addr) (cl : List (Str × Addr)) (fq : List Addr), PTs (X.blk s H scope (compEnvC scope cl C X.env) fq) ifs tt)
    (hkk : ∀ (s : Shared) (H : Hp) (C : Addr) (cl : List (Str × Addr)) (fq : List Addr), PE (X.blk s H scope (compEnvC scope cl C X.env) fq) kx tk)
    (hvv : ∀ (s : Shared) (H : Hp) (C : Addr) (cl : List (Str × Addr)) (fq : List Addr), PE (X.blk s H scope (compEnvC scope cl C X.env) fq) vx tv) (hs : ∀ x, foldedSetIterable iter X.env x = pure x := by intro _; rfl) :
    PS X (.Assign [.Name y py] (.DictComp kx vx [⟨tg, iter, ifs, 0⟩] scope pos) sp) (tAsg (tDc wi g tt tk tv (own.map (·.2))) (gName i)) := by
  refine ⟨fun pq s σ H D Iv h => ?_⟩
  rw [exec_Assign_Name_used _ _ _ _ hsw]
  refine wpAny_bind (wpAny_standAt (wpAny_bind ?_))
  show wpAny _ X.A (do let _ ← comprehension (.DictComp kx vx [⟨tg, iter, ifs, 0⟩] scope pos) scope X.env (firstIterPos [⟨tg, iter, ifs, 0⟩] pos) newDict false (eval iter X.env) (some (assign (.Name y py) X.env))) _ _ s
  have h : tDc wi g tt tk tv (own.map (·.2)) σ H (fun x H1 => gName i x σ H1 D.nx) := h
  refine wpAny_bind (thn (dc_core (Qf := fun _ s' => SP X pq D .next s') hc hN Iv hi ok hgg htt hkk hvv hs h fun L C s' m H' Iv' q hn f => ?_) fun _ s' hq => wpAny_pure (wpAny_pure hq))
  show wpAny _ _ (assign (.Name y py) X.env (.ref L)) _ _ _
  refine wpAny_assign_Name (store_ok2 (v := V.ref L) Iv' hN hnm (.inl hloc) rfl (fun z2 Iv2 ⟨a, but, hnot⟩ => ?_) (.inr hloc))
  obtain ⟨f0, f1, f2, f3, f4, f5⟩ := f
  have hCa : C ≠ a := by
    rcases hnot with z | z
    · rw [z]; exact f1
    · exact fun e => f4 y a z e.symm
  refine ⟨m, hn.sameBut but hCa, fun g3 but3 => ?_⟩
  exact ⟨_, H', Iv2.turned (t' := z2.toks) (fun b o hbk e => (but3.2 b hbk).trans e) f0 f1 f3 f4 f5, q⟩
theorem ps_setDcT {i : Nat} {y : Str} {py : Pos} {kx vx tg iter : Expr} {ifs : List Expr} {scope : Scope} {own : List (Str × Nat)} {pos sp : Pos} {wi : TI} {g : TG} {tt : TT} {tk tv : TE} (hu : X.A.units + 1 < cLine) (hc : X.calm = true) (hN : X.N.Nodup) (hnm : X.N[i]? = some y) (hloc : X.env.scope.names.lookup y = some .local)
    (hsw : swapsWith (.DictComp kx vx [⟨tg, iter, ifs, 0⟩] scope pos) (some (.Name y py)) sp.line X.env = pure true) (hi : PI X tg iter wi) (ok : BlkOk X.N X.env.scope scope own)
    (hgg : ∀ (s : Shared) (H : Hp) (C : Addr) (cl : List (Str × Addr)) (fq : List Addr), PG (X.blk s H scope (compEnvC scope cl C X.env) fq) tg g) (htt : ∀ (s : Shared) (H : Hp) (C : Addr) (cl : List (Str × Addr)) (fq : List Addr), PTs (X.blk s H scope (compEnvC scope cl C X.env) fq) ifs tt)
    (hkk : ∀ (s : Shared) (H : Hp) (C : Addr) (cl : List (Str × Addr)) (fq : List Addr), PE (X.blk s H scope (compEnvC scope cl C X.env) fq) kx tk)
    (hvv : ∀ (s : Shared) (H : Hp) (C : Addr) (cl : List (Str × Addr)) (fq : List Addr), PE (X.blk s H scope (compEnvC scope cl C X.env) fq) vx tv) (hs : ∀ x, foldedSetIterable iter X.env x = pure x := by intro _; rfl) :
    PS X (.Assign [.Name y py] (.DictComp kx vx [⟨tg, iter, ifs, 0⟩] scope pos) sp) (tAsg (tDcT wi g tt tk tv (own.map (·.2))) (gName i)) := by
  refine ⟨fun pq s σ H D Iv h => ?_⟩
  rw [exec_Assign_Name_used _ _ _ _ hsw]
  refine wpAny_bind (wpAny_standAt (wpAny_bind ?_))
  show wpAny _ X.A (do let _ ← comprehension (.DictComp kx vx [⟨tg, iter, ifs, 0⟩] scope pos) scope X.env (firstIterPos [⟨tg, iter, ifs, 0⟩] pos) newDict false (eval iter X.env) (some (assign (.Name y py) X.env))) _ _ s
  have h : tDcT wi g tt tk tv (own.map (·.2)) σ H (fun x H1 => gName i x σ H1 D.nx) := h
  refine wpAny_bind (thn (dcT_core (Qf := fun _ s' => SP X pq D .next s') hu hc hN Iv hi ok hgg htt hkk hvv hs h fun L C s' m H' Iv' q hn f => ?_) fun _ s' hq => wpAny_pure (wpAny_pure hq))
  show wpAny _ _ (assign (.Name y py) X.env (.ref L)) _ _ _
  refine wpAny_assign_Name (store_ok2 (v := V.ref L) Iv' hN hnm (.inl hloc) rfl (fun z2 Iv2 ⟨a, but, hnot⟩ => ?_) (.inr hloc))
  obtain ⟨f0, f1, f2, f3, f4, f5⟩ := f
  have hCa : C ≠ a := by
    rcases hnot with z | z
    · rw [z]; exact f1
    · exact fun e => f4 y a z e.symm
  refine ⟨m, hn.sameBut but hCa, fun g3 but3 => ?_⟩
  exact ⟨_, H', Iv2.turned (t' := z2.toks) (fun b o hbk e => (but3.2 b hbk).trans e) f0 f1 f3 f4 f5, q⟩
theorem sw_dict {kx vx : Expr} {gs : List Comprehension} {scope : Scope} {pos py : Pos} {y : Str} {l : Nat} {env : Env} (hkk : env.scope.kind = .function) (hnm : env.scope.names.lookup y = some .local) (hln : (py.line == pos.line) = true)
    (hnot : (scope.names.any fun (n, k) => n == y && (k == .local || k == .cell)) = false) : swapsWith (.DictComp kx vx gs scope pos) (some (.Name y py)) l env = pure true := by
  have kny : env.kindOf y = some .local := hnm
  have hbk : env.blockKind = .function := by unfold Env.blockKind; rw [hkk]; rfl
  unfold swapsWith
  simp only [hbk, kny, hnot, Expr.pos, hln]
  rfl
end
end Hx
/-! bounds, least ways, rings: plain mathematics -/
namespace M43
abbrev E (α : Type) := α × α × Int
structure S (α : Type) where
  d : α → Option Int
  m : α → Option (E α)
section
variable {α : Type} [DecidableEq α]
/-- whether an edge lowers the sum of its end -/
def low (s : S α) (e : E α) : Bool := match s.d e.1 with
  | none => false
  | some a => match s.d e.2.1 with
    | none => true
    | some b => decide (a + e.2.2 < b)
def put (s : S α) (e : E α) : S α := ⟨fun v => if v = e.2.1 then (s.d e.1).map (· + e.2.2) else s.d v, fun v => if v = e.2.1 then some e else s.m v⟩
def stp (p : S α × Option α) (e : E α) : S α × Option α := if low p.1 e then (put p.1 e, some e.2.1) else p
def rnd (es : List (E α)) (s : S α) : S α × Option α := es.foldl stp (s, none)
/-- rounds until one is calm, at most so many -/
def run (es : List (E α)) : Nat → S α → Option α → S α × Option α
  | 0, s, l => (s, l)
  | k + 1, s, _ => match (rnd es s).2 with
    | none => ((rnd es s).1, none)
    | some v => run es k (rnd es s).1 (some v)
/-- what marks say -/
structure Inv (es : List (E α)) (r c : Nat) (s : S α) (τ ρ : α → Nat) (done todo : List (E α)) : Prop where
  mks : ∀ v e, s.m v = some e → e ∈ es ∧ e.2.1 = v ∧ ∃ a b, s.d e.1 = some a ∧ s.d v = some b ∧ a + e.2.2 ≤ b ∧ (a + e.2.2 = b → τ e.1 < τ v) ∧ ρ v ≤ ρ e.1 + 1
  tc : ∀ v, τ v ≤ c
  rm : ∀ v, 1 ≤ ρ v → (s.m v).isSome = true
  rr : ∀ v, ρ v ≤ r
  dn : ∀ e ∈ done, ∀ a, s.d e.1 = some a → (∃ b, s.d e.2.1 = some b ∧ b ≤ a + e.2.2) ∨ r ≤ ρ e.1
  td : ∀ e ∈ todo, ∀ a, s.d e.1 = some a → (∃ b, s.d e.2.1 = some b ∧ b ≤ a + e.2.2) ∨ r ≤ ρ e.1 + 1
theorem inv_step {es : List (E α)} {r c : Nat} {s : S α} {τ ρ : α → Nat} {done todo : List (E α)} {e : E α} (hr : 1 ≤ r) (he : e ∈ es) (h : Inv es r c s τ ρ done (e :: todo)) {l : Option α} (hl : ∀ v, l = some v → ρ v = r) :
    ∃ c' τ' ρ', Inv es r c' (stp (s, l) e).1 τ' ρ' (done ++ [e]) todo ∧ ∀ v, (stp (s, l) e).2 = some v → ρ' v = r := by
  unfold stp
  cases hlow : low s e with
  | false =>
    rw [if_neg (by simp [hlow])]
    refine ⟨c, τ, ρ, ⟨h.mks, h.tc, h.rm, h.rr, fun f hf a ha => ?_, fun f hf => h.td f (List.mem_cons_of_mem _ hf)⟩, hl⟩
    rcases List.mem_append.mp hf with hf | hf
    · exact h.dn f hf a ha
    · obtain rfl := List.mem_singleton.mp hf
      left
      unfold low at hlow
      rw [ha] at hlow
      cases hb : s.d f.2.1 with
      | none => rw [hb] at hlow; cases hlow
      | some b =>
        rw [hb] at hlow
        have : ¬ a + f.2.2 < b := of_decide_eq_false hlow
        exact ⟨b, rfl, by omega⟩
  | true =>
    rw [if_pos (by simp [hlow])]
    obtain ⟨a0, ha0⟩ : ∃ a, s.d e.1 = some a := by
      unfold low at hlow
      cases hx : s.d e.1 with
      | none => rw [hx] at hlow; cases hlow
      | some a => exact ⟨a, rfl⟩
    have hb0 : ∀ b, s.d e.2.1 = some b → a0 + e.2.2 < b := fun b hb => by
      unfold low at hlow
      rw [ha0, hb] at hlow
      exact of_decide_eq_true hlow
    have hρ : r ≤ ρ e.1 + 1 := by
      rcases h.td e (List.mem_cons_self ..) a0 ha0 with ⟨b, hb, hle⟩ | h
      · have := hb0 b hb; omega
      · exact h
    have dy : (put s e).d e.2.1 = some (a0 + e.2.2) := by simp [put, ha0]
    have dn : ∀ v, v ≠ e.2.1 → (put s e).d v = s.d v := fun v hv => by simp [put, hv]
    have my : (put s e).m e.2.1 = some e := by simp [put]
    have mn : ∀ v, v ≠ e.2.1 → (put s e).m v = s.m v := fun v hv => by simp [put, hv]
    refine ⟨c + 1, fun v => if v = e.2.1 then c + 1 else τ v, fun v => if v = e.2.1 then r else ρ v, ⟨?_, ?_, ?_, ?_, ?_, ?_⟩, ?_⟩
    · intro v f hf
      by_cases hv : v = e.2.1
      · subst hv
        rw [my] at hf
        obtain rfl := Option.some.inj hf
        refine ⟨he, rfl, ?_⟩
        by_cases hs : e.1 = e.2.1
        · refine ⟨a0 + e.2.2, a0 + e.2.2, by rw [hs]; exact dy, dy, ?_, ?_, ?_⟩
          · have := hb0 a0 (by rw [← hs]; exact ha0); omega
          · have := hb0 a0 (by rw [← hs]; exact ha0); omega
          · rw [if_pos rfl, if_pos hs]; omega
        · refine ⟨a0, a0 + e.2.2, by rw [dn _ hs]; exact ha0, dy, Int.le_refl _, fun _ => ?_, ?_⟩
          · rw [if_neg hs, if_pos rfl]; have := h.tc e.1; omega
          · rw [if_neg hs, if_pos rfl]; exact hρ
      · rw [mn _ hv] at hf
        obtain ⟨h1, h2, a, b, h3, h4, h5, h6, h7⟩ := h.mks v f hf
        refine ⟨h1, h2, ?_⟩
        rw [if_neg hv, if_neg hv]
        by_cases hs : f.1 = e.2.1
        · have := hb0 a (by rw [← hs]; exact h3)
          refine ⟨a0 + e.2.2, b, by rw [hs]; exact dy, by rw [dn _ hv]; exact h4, by omega, by omega, ?_⟩
          rw [if_pos hs]; have := h.rr v; omega
        · refine ⟨a, b, by rw [dn _ hs]; exact h3, by rw [dn _ hv]; exact h4, h5, ?_, ?_⟩
          · rw [if_neg hs]; exact h6
          · rw [if_neg hs]; exact h7
    · intro v
      show (if v = e.2.1 then c + 1 else τ v) ≤ c + 1
      split
      · exact Nat.le_refl _
      · have := h.tc v; omega
    · intro v hv
      by_cases hx : v = e.2.1
      · rw [hx, my]; rfl
      · rw [mn _ hx]; exact h.rm v (by rw [if_neg hx] at hv; exact hv)
    · intro v
      show (if v = e.2.1 then r else ρ v) ≤ r
      split
      · exact Nat.le_refl _
      · exact h.rr v
    · intro f hf a ha
      by_cases hs : f.1 = e.2.1
      · right; rw [if_pos hs]; exact Nat.le_refl _
      · rw [dn _ hs] at ha
        rw [if_neg hs]
        rcases List.mem_append.mp hf with hf | hf
        · rcases h.dn f hf a ha with ⟨b, hb, hle⟩ | h
          · left
            by_cases ht : f.2.1 = e.2.1
            · have := hb0 b (by rw [← ht]; exact hb)
              exact ⟨_, by rw [ht]; exact dy, by omega⟩
            · exact ⟨b, by rw [dn _ ht]; exact hb, hle⟩
          · exact .inr h
        · obtain rfl := List.mem_singleton.mp hf
          left
          rw [ha0] at ha
          obtain rfl := Option.some.inj ha
          exact ⟨_, dy, Int.le_refl _⟩
    · intro f hf a ha
      by_cases hs : f.1 = e.2.1
      · right; rw [if_pos hs]; omega
      · rw [dn _ hs] at ha
        rw [if_neg hs]
        rcases h.td f (List.mem_cons_of_mem _ hf) a ha with ⟨b, hb, hle⟩ | h
        · left
          by_cases ht : f.2.1 = e.2.1
          · have := hb0 b (by rw [← ht]; exact hb)
            exact ⟨_, by rw [ht]; exact dy, by omega⟩
          · exact ⟨b, by rw [dn _ ht]; exact hb, hle⟩
        · exact .inr h
    · intro v hv
      obtain rfl := Option.some.inj hv
      exact if_pos rfl
theorem inv_fold {es : List (E α)} {r : Nat} (hr : 1 ≤ r) : ∀ (todo done : List (E α)) (c : Nat) (s : S α) (τ ρ : α → Nat) (l : Option α), (∀ e ∈ todo, e ∈ es) → Inv es r c s τ ρ done todo → (∀ v, l = some v → ρ v = r) →
    ∃ c' τ' ρ', Inv es r c' (todo.foldl stp (s, l)).1 τ' ρ' (done ++ todo) [] ∧ ∀ v, (todo.foldl stp (s, l)).2 = some v → ρ' v = r
  | [], done, c, s, τ, ρ, l, _, h, hl => ⟨c, τ, ρ, by rw [List.append_nil]; exact h, hl⟩
  | e :: todo, done, c, s, τ, ρ, l, he, h, hl => by
    obtain ⟨c1, τ1, ρ1, h1, l1⟩ := inv_step hr (he e (List.mem_cons_self ..)) h hl
    have := inv_fold hr todo (done ++ [e]) c1 (stp (s, l) e).1 τ1 ρ1 (stp (s, l) e).2 (fun f hf => he f (List.mem_cons_of_mem _ hf)) h1 l1
    rw [List.append_assoc] at this
    exact this
/-- between two rounds -/
def Btw (es : List (E α)) (r : Nat) (s : S α) (l : Option α) : Prop := ∃ c τ ρ, Inv es r c s τ ρ es [] ∧ ∀ v, l = some v → ρ v = r
theorem btw_0 {es : List (E α)} {s : S α} (h : ∀ v, s.m v = none) : Btw es 0 s none :=
  ⟨0, fun _ => 0, fun _ => 0, ⟨fun v e he => (by rw [h] at he; cases he), fun _ => Nat.le_refl _, fun v hv => (by omega), fun _ => Nat.le_refl _, fun _ _ _ _ => .inr (Nat.zero_le _), fun _ hf => (by cases hf)⟩, fun _ h => (by cases h)⟩
theorem btw_rnd {es : List (E α)} {r : Nat} {s : S α} {l : Option α} (h : Btw es r s l) : Btw es (r + 1) (rnd es s).1 (rnd es s).2 := by
  obtain ⟨c, τ, ρ, h, _⟩ := h
  have h' : Inv es (r + 1) c s τ ρ [] es := ⟨h.mks, h.tc, h.rm, fun v => Nat.le_succ_of_le (h.rr v), fun _ hf => (by cases hf), fun f hf a ha => (h.dn f hf a ha).imp id fun z => by omega⟩
  exact inv_fold (Nat.le_add_left ..) es [] c s τ ρ none (fun _ h => h) h' (fun _ h => by cases h)
/-! ### back along marks -/
def bk (s : S α) (v : α) : α := match s.m v with
  | some e => e.1
  | none => v
def bks (s : S α) (v : α) : Nat → α
  | 0 => v
  | n + 1 => bk s (bks s v n)
theorem bks_add (s : S α) (v : α) (i : Nat) : ∀ j, bks s v (i + j) = bks s (bks s v i) j
  | 0 => rfl
  | j + 1 => by show bk s (bks s v (i + j)) = _; rw [bks_add s v i j]; rfl
/-- the sum of the marks gone along -/
def wsum (s : S α) (v : α) : Nat → Int
  | 0 => 0
  | n + 1 => wsum s v n + (match s.m (bks s v n) with | some e => e.2.2 | none => 0)
theorem way_le {es : List (E α)} {r c : Nat} {s : S α} {τ ρ : α → Nat} {dn td : List (E α)} (h : Inv es r c s τ ρ dn td) {v : α} : ∀ {n : Nat}, 1 ≤ n → (∀ j, j < n → (s.m (bks s v j)).isSome = true) →
    ∃ a b, s.d (bks s v n) = some a ∧ s.d v = some b ∧ a + wsum s v n ≤ b ∧ (a + wsum s v n = b → τ (bks s v n) < τ v)
  | 0, hn, _ => by omega
  | n + 1, _, hm => by
    obtain ⟨e, he⟩ := Option.isSome_iff_exists.mp (hm n (Nat.lt_succ_self n))
    obtain ⟨_, _, a, b, h1, h2, h3, h4, _⟩ := h.mks _ e he
    have eb : bks s v (n + 1) = e.1 := by show bk s (bks s v n) = _; unfold bk; rw [he]
    have ew : wsum s v (n + 1) = wsum s v n + e.2.2 := by show wsum s v n + _ = _; rw [he]
    rw [eb, ew]
    cases n with
    | zero => exact ⟨a, b, h1, h2, by show a + (0 + e.2.2) ≤ b; omega, fun z => h4 (by have : a + (0 + e.2.2) = b := z; omega)⟩
    | succ n =>
      obtain ⟨a', b', h1', h2', h3', h4'⟩ := way_le h (n := n + 1) (by omega) (fun j hj => hm j (by omega))
      rw [h2] at h1'
      obtain rfl := Option.some.inj h1'
      refine ⟨a, b', h1, h2', by omega, fun z => ?_⟩
      have := h4' (by omega)
      have := h4 (by omega)
      omega
theorem closed_neg {es : List (E α)} {r : Nat} {s : S α} {l : Option α} (h : Btw es r s l) {v : α} {n : Nat} (hn : 1 ≤ n) (hm : ∀ j, j < n → (s.m (bks s v j)).isSome = true) (hc : bks s v n = v) : wsum s v n < 0 := by
  obtain ⟨c, τ, ρ, h, _⟩ := h
  obtain ⟨a, b, h1, h2, h3, h4⟩ := way_le h hn hm
  rw [hc, h2] at h1
  obtain rfl := Option.some.inj h1
  rcases Int.lt_or_eq_of_le (show wsum s v n ≤ 0 by omega) with h | h
  · exact h
  · have := h4 (by omega)
    rw [hc] at this
    omega
theorem chain {es : List (E α)} {r : Nat} {s : S α} {v : α} (h : Btw es r s (some v)) : ∀ j, j < r → (s.m (bks s v j)).isSome = true := by
  obtain ⟨c, τ, ρ, h, hl⟩ := h
  have hv := hl v rfl
  have gen : ∀ j, j ≤ r → r ≤ ρ (bks s v j) + j := by
    intro j
    induction j with
    | zero => intro _; show r ≤ ρ v + 0; omega
    | succ j ih =>
      intro hj
      have := ih (by omega)
      obtain ⟨e, he⟩ := Option.isSome_iff_exists.mp (h.rm (bks s v j) (by omega))
      obtain ⟨_, _, a, b, _, _, _, _, h7⟩ := h.mks _ e he
      have eb : bks s v (j + 1) = e.1 := by show bk s (bks s v j) = _; unfold bk; rw [he]
      rw [eb]
      omega
  intro j hj
  have := gen j (by omega)
  exact h.rm _ (by omega)
theorem pigeon : ∀ (n : Nat) (L : List α) (g : Nat → α), L.length = n → (∀ i, i ≤ n → g i ∈ L) → ∃ i j, i < j ∧ j ≤ n ∧ g i = g j
  | 0, L, g, hL, h => by
    have := h 0 (Nat.le_refl _)
    rw [List.eq_nil_of_length_eq_zero hL] at this; cases this
  | n + 1, L, g, hL, h => by
    by_cases hx : ∃ i, i < n + 1 ∧ g i = g (n + 1)
    · obtain ⟨i, h1, h2⟩ := hx
      exact ⟨i, _, h1, Nat.le_refl _, h2⟩
    · have hl := h (n + 1) (Nat.le_refl _)
      obtain ⟨i, j, h1, h2, h3⟩ := pigeon n (L.erase (g (n + 1))) g (by rw [List.length_erase_of_mem hl, hL]; rfl) fun i hi =>
        (List.mem_erase_of_ne fun z => hx ⟨i, by omega, z⟩).mpr (h i (by omega))
      exact ⟨i, j, h1, by omega, h3⟩
/-! ### rounds -/
def ends (es : List (E α)) (L : List α) : Prop := ∀ e ∈ es, e.1 ∈ L ∧ e.2.1 ∈ L
def Calm (es : List (E α)) (s : S α) : Prop := ∀ e ∈ es, low s e = false
theorem fold_some {es : List (E α)} : ∀ {s : S α} {v : α}, ∃ u, (es.foldl stp (s, some v)).2 = some u := by
  induction es with
  | nil => intro s v; exact ⟨v, rfl⟩
  | cons e es ih =>
    intro s v
    rw [List.foldl_cons]
    unfold stp
    split
    · exact ih
    · exact ih
theorem fold_calm {es : List (E α)} : ∀ {s : S α}, (es.foldl stp (s, none)).2 = none → (es.foldl stp (s, none)).1 = s ∧ Calm es s := by
  induction es with
  | nil => intro s _; exact ⟨rfl, fun e h => by cases h⟩
  | cons e es ih =>
    intro s h
    rw [List.foldl_cons] at h ⊢
    cases hl : low s e with
    | true =>
      have : stp (s, none) e = (put s e, some e.2.1) := by unfold stp; rw [if_pos (by simp [hl])]
      rw [this] at h
      obtain ⟨u, hu⟩ := fold_some (es := es) (s := put s e) (v := e.2.1)
      rw [hu] at h; cases h
    | false =>
      have : stp (s, none) e = (s, none) := by unfold stp; rw [if_neg (by simp [hl])]
      rw [this] at h ⊢
      obtain ⟨h1, h2⟩ := ih h
      refine ⟨h1, fun f hf => ?_⟩
      rcases List.mem_cons.mp hf with rfl | hf
      · exact hl
      · exact h2 f hf
theorem rnd_calm {es : List (E α)} {s : S α} (h : (rnd es s).2 = none) : (rnd es s).1 = s ∧ Calm es s := fold_calm h
theorem fold_last {es : List (E α)} : ∀ {s : S α} {l : Option α} {v : α}, (es.foldl stp (s, l)).2 = some v → (∃ e ∈ es, e.2.1 = v) ∨ l = some v := by
  induction es with
  | nil => intro s l v h; exact .inr h
  | cons e es ih =>
    intro s l v h
    rw [List.foldl_cons] at h
    refine (ih (s := (stp (s, l) e).1) (l := (stp (s, l) e).2) h).elim (fun ⟨f, hf, he⟩ => .inl ⟨f, List.mem_cons_of_mem _ hf, he⟩) fun h => ?_
    cases hl : low s e with
    | true =>
      have this : stp (s, l) e = (put s e, some e.2.1) := by unfold stp; rw [if_pos (by simp [hl])]
      rw [this] at h
      exact .inl ⟨e, List.mem_cons_self .., Option.some.inj h⟩
    | false =>
      have this : stp (s, l) e = (s, l) := by unfold stp; rw [if_neg (by simp [hl])]
      rw [this] at h
      exact .inr h
theorem rnd_last {es : List (E α)} {L : List α} (hL : ends es L) {s : S α} {v : α} (h : (rnd es s).2 = some v) : v ∈ L := by
  rcases fold_last h with ⟨e, he, rfl⟩ | h
  · exact (hL e he).2
  · cases h
/-- so many rounds -/
def it (es : List (E α)) : Nat → S α → S α
  | 0, s => s
  | j + 1, s => it es j (rnd es s).1
theorem it_succ (es : List (E α)) : ∀ (j : Nat) (s : S α), it es (j + 1) s = (rnd es (it es j s)).1
  | 0, _ => rfl
  | j + 1, s => it_succ es j (rnd es s).1
theorem run_spec {es : List (E α)} {L : List α} (hL : ends es L) : ∀ (k r : Nat) (s : S α) (l : Option α), Btw es r s l → (∀ v, l = some v → v ∈ L) →
    ((run es k s l).2 = none ∧ (l = none ∧ k = 0 ∧ (run es k s l).1 = s ∨ Calm es (run es k s l).1) ∧ ∃ j, j ≤ k ∧ (run es k s l).1 = it es j s ∧ (∀ i, i < j → (rnd es (it es i s)).2 ≠ none) ∧ (1 ≤ k → j < k ∧ (rnd es (it es j s)).2 = none)) ∨
      ∃ v, (run es k s l).2 = some v ∧ v ∈ L ∧ Btw es (r + k) (run es k s l).1 (some v)
  | 0, r, s, l, h, hl => by
    cases l with
    | none => exact .inl ⟨rfl, .inl ⟨rfl, rfl, rfl⟩, 0, Nat.le_refl _, rfl, fun i hi => (by omega), fun hk => (by omega)⟩
    | some v => exact .inr ⟨v, rfl, hl v rfl, h⟩
  | k + 1, r, s, l, h, hl => by
    have h1 := btw_rnd h
    cases hr : (rnd es s).2 with
    | none =>
      have e : run es (k + 1) s l = ((rnd es s).1, none) := by show (match (rnd es s).2 with | none => _ | some v => _) = _; rw [hr]
      obtain ⟨e1, c⟩ := rnd_calm hr
      rw [e]
      refine .inl ⟨rfl, .inr (by show Calm es (rnd es s).1; rw [e1]; exact c), 0, Nat.zero_le _, e1, fun i hi => (by omega), fun _ => ⟨by omega, hr⟩⟩
    | some v =>
      have e : run es (k + 1) s l = run es k (rnd es s).1 (some v) := by show (match (rnd es s).2 with | none => _ | some v => _) = _; rw [hr]
      rw [hr] at h1
      rw [e]
      rcases run_spec hL k (r + 1) (rnd es s).1 (some v) h1 (fun u hu => by obtain rfl := Option.some.inj hu; exact rnd_last hL hr) with ⟨a, b, j, j1, j2, j3, j4⟩ | ⟨u, a, b, c⟩
      · refine .inl ⟨a, .inr ?_, j + 1, by omega, j2, fun i hi => ?_, fun _ => ?_⟩
        · rcases b with ⟨z, _⟩ | b
          · cases z
          · exact b
        · cases i with
          | zero => show (rnd es s).2 ≠ none; rw [hr]; exact fun z => by cases z
          | succ i => exact j3 i (by omega)
        · have hk : 1 ≤ k := by
            rcases Nat.eq_zero_or_pos k with h0 | h0
            · subst h0; cases a
            · exact h0
          exact ⟨by have := (j4 hk).1; omega, (j4 hk).2⟩
      · exact .inr ⟨u, a, b, by rw [show r + (k + 1) = r + 1 + k by omega]; exact c⟩
/-! ### rings -/
structure Cyc (s : S α) (u : α) (p : Nat) : Prop where
  pos : 1 ≤ p
  cl : bks s u p = u
  mks : ∀ k, (s.m (bks s u k)).isSome = true
theorem mark_src {es : List (E α)} {r : Nat} {s : S α} {l : Option α} (h : Btw es r s l) {v : α} (hm : (s.m v).isSome = true) : ∃ e, s.m v = some e ∧ e ∈ es ∧ bk s v = e.1 ∧ e.2.1 = v := by
  obtain ⟨c, τ, ρ, h, _⟩ := h
  obtain ⟨e, he⟩ := Option.isSome_iff_exists.mp hm
  exact ⟨e, he, (h.mks v e he).1, by unfold bk; rw [he], (h.mks v e he).2.1⟩
theorem cycle_of {es : List (E α)} {L : List α} (hL : ends es L) {r : Nat} {s : S α} {l : Option α} (h : Btw es r s l) {v : α} (hv : v ∈ L) (hm : ∀ j, j < L.length → (s.m (bks s v j)).isSome = true) : ∃ p, p ≤ L.length ∧ Cyc s (bks s v L.length) p := by
  obtain ⟨i, j, h1, h2, h3⟩ := pigeon L.length L (fun j => bks s v j) rfl fun i hi => by
    cases i with
    | zero => exact hv
    | succ i =>
      obtain ⟨e, _, he, e1, _⟩ := mark_src h (hm i (by omega))
      show bk s (bks s v i) ∈ L
      rw [e1]; exact (hL e he).1
  have h3 : bks s v i = bks s v j := h3
  have per : ∀ m, i ≤ m → ∃ i', i ≤ i' ∧ i' < j ∧ bks s v m = bks s v i' := by
    intro m
    induction m with
    | zero => intro hm0; exact ⟨i, Nat.le_refl _, h1, by rw [show i = 0 by omega]⟩
    | succ m ih =>
      intro hm1
      rcases Nat.eq_or_lt_of_le hm1 with h | h
      · exact ⟨i, Nat.le_refl _, h1, by rw [h]⟩
      · obtain ⟨i', a, b, c⟩ := ih (by omega)
        rcases Nat.eq_or_lt_of_le (show i' + 1 ≤ j by omega) with h' | h'
        · refine ⟨i, Nat.le_refl _, h1, ?_⟩
          show bk s (bks s v m) = _
          rw [c, h3, ← h']; rfl
        · refine ⟨i' + 1, by omega, h', ?_⟩
          show bk s (bks s v m) = bk s (bks s v i')
          rw [c]
  refine ⟨j - i, by omega, by omega, ?_, fun k => ?_⟩
  · rw [← bks_add, show L.length + (j - i) = j + (L.length - i) by omega, bks_add, ← h3, ← bks_add, show i + (L.length - i) = L.length by omega]
  · rw [← bks_add]
    obtain ⟨i', a, b, c⟩ := per (L.length + k) (by omega)
    rw [c]
    exact hm i' (by omega)
theorem least {P : Nat → Prop} : ∀ {p : Nat}, P p → ∃ q, P q ∧ q ≤ p ∧ ∀ i, i < q → ¬ P i := by
  intro p
  induction p using Nat.strongRecOn with
  | _ p ih =>
    intro h
    by_cases hx : ∃ i, i < p ∧ P i
    · obtain ⟨i, h1, h2⟩ := hx
      obtain ⟨q, a, b, c⟩ := ih i h1 h2
      exact ⟨q, a, by omega, c⟩
    · exact ⟨p, h, Nat.le_refl _, fun i hi hP => hx ⟨i, hi, hP⟩⟩
def mkE (s : S α) (v : α) : E α := (s.m v).getD (v, v, 0)
def rgl (s : S α) (u : α) : Nat → List (E α)
  | 0 => []
  | n + 1 => mkE s (bks s u n) :: rgl s u n
theorem rgl_len (s : S α) (u : α) : ∀ n, (rgl s u n).length = n
  | 0 => rfl
  | n + 1 => congrArg Nat.succ (rgl_len s u n)
def along : α → List (E α) → Option (α × Int)
  | a, [] => some (a, 0)
  | a, e :: r => if e.1 = a then (along e.2.1 r).map fun q => (q.1, e.2.2 + q.2) else none
theorem rgl_along {es : List (E α)} {r : Nat} {s : S α} {l : Option α} (h : Btw es r s l) {u : α} : ∀ {n : Nat}, (∀ j, j < n → (s.m (bks s u j)).isSome = true) → along (bks s u n) (rgl s u n) = some (u, wsum s u n)
  | 0, _ => rfl
  | n + 1, hm => by
    obtain ⟨e, he, _, e1, e2⟩ := mark_src h (hm n (by omega))
    have ek : mkE s (bks s u n) = e := by unfold mkE; rw [he]; rfl
    have ew : wsum s u (n + 1) = wsum s u n + e.2.2 := by show wsum s u n + _ = _; rw [he]
    show along (bk s (bks s u n)) (mkE s (bks s u n) :: rgl s u n) = _
    rw [ek, e1]
    unfold along
    rw [if_pos rfl, e2, rgl_along h fun j hj => hm j (by omega), ew, Option.map_some, Int.add_comm]
theorem rgl_mem {es : List (E α)} {r : Nat} {s : S α} {l : Option α} (h : Btw es r s l) {u : α} : ∀ {n : Nat}, (∀ j, j < n → (s.m (bks s u j)).isSome = true) → ∀ e ∈ rgl s u n, e ∈ es
  | 0, _, e, he => by cases he
  | n + 1, hm, e, he => by
    obtain ⟨f, hf, hfe, _, _⟩ := mark_src h (hm n (by omega))
    have ek : mkE s (bks s u n) = f := by unfold mkE; rw [hf]; rfl
    rcases List.mem_cons.mp he with rfl | he
    · rw [ek]; exact hfe
    · exact rgl_mem h (fun j hj => hm j (by omega)) e he
theorem rgl_at {s : S α} {u : α} : ∀ {n : Nat} {e : E α}, e ∈ rgl s u n → ∃ i, i < n ∧ e = mkE s (bks s u i)
  | 0, e, h => by cases h
  | n + 1, e, h => by
    rcases List.mem_cons.mp h with rfl | h
    · exact ⟨n, by omega, rfl⟩
    · obtain ⟨i, a, b⟩ := rgl_at h
      exact ⟨i, by omega, b⟩
/-- a ring that ends at its first return has no edge twice -/
theorem rgl_nodup {es : List (E α)} {r : Nat} {s : S α} {l : Option α} (h : Btw es r s l) {u : α} {p : Nat} (c : Cyc s u p) (hf : ∀ q, 1 ≤ q → q < p → bks s u q ≠ u) : (rgl s u p).Pairwise (· ≠ ·) := by
  have inj : ∀ i j, i < j → j < p → bks s u i ≠ bks s u j := fun i j hij hj z => by
    refine hf (p - (j - i)) (by omega) (by omega) ?_
    have : bks s u (i + (p - j)) = bks s u (j + (p - j)) := by rw [bks_add, z, ← bks_add]
    rw [show i + (p - j) = p - (j - i) by omega, show j + (p - j) = p by omega, c.cl] at this
    exact this
  have snd : ∀ i, (mkE s (bks s u i)).2.1 = bks s u i := fun i => by
    obtain ⟨e, he, _, _, e2⟩ := mark_src h (c.mks i)
    unfold mkE; rw [he]; exact e2
  have gen : ∀ n, n ≤ p → (rgl s u n).Pairwise (· ≠ ·) := by
    intro n
    induction n with
    | zero => intro _; exact .nil
    | succ n ih =>
      intro hn
      refine List.Pairwise.cons (fun e he z => ?_) (ih (by omega))
      obtain ⟨i, hi, rfl⟩ := rgl_at he
      have := congrArg (fun e : E α => e.2.1) z
      rw [snd, snd] at this
      exact inj i n hi (by omega) this.symm
  exact gen p (Nat.le_refl _)
/-! ### numbers that meet the edges -/
def Pot (N : α → Int) (es : List (E α)) : Prop := ∀ e ∈ es, N e.1 - N e.2.1 ≤ e.2.2
theorem pot_along {N : α → Int} {es : List (E α)} (hN : Pot N es) : ∀ {way : List (E α)} {a b : α} {t : Int}, (∀ e ∈ way, e ∈ es) → along a way = some (b, t) → N a - N b ≤ t
  | [], a, b, t, _, h => by
    obtain ⟨rfl, rfl⟩ := Prod.mk.inj (Option.some.inj h)
    omega
  | e :: way, a, b, t, hw, h => by
    unfold along at h
    split at h
    · rename_i ha
      obtain ⟨⟨c, t'⟩, h1, h2⟩ := Option.map_eq_some_iff.mp h
      obtain ⟨rfl, rfl⟩ := Prod.mk.inj h2
      have h3 : N e.2.1 - N c ≤ t' := pot_along hN (fun f hf => hw f (List.mem_cons_of_mem _ hf)) h1
      have h4 := hN e (hw e (List.mem_cons_self ..))
      rw [ha] at h4
      show N a - N c ≤ e.2.2 + t'
      omega
    · cases h
theorem no_cycle {N : α → Int} {es : List (E α)} (hN : Pot N es) {r : Nat} {s : S α} {l : Option α} (h : Btw es r s l) {u : α} {p : Nat} (c : Cyc s u p) : False := by
  have h1 := closed_neg h c.pos (fun j _ => c.mks j) c.cl
  have h2 := pot_along hN (rgl_mem h fun j _ => c.mks j) (rgl_along h (n := p) fun j _ => c.mks j)
  rw [c.cl] at h2
  omega
/-! ### the numbers, or a ring -/
def z0 (L : List α) : S α := ⟨fun v => if v ∈ L then some 0 else none, fun _ => none⟩
def num (s : S α) (v : α) : Int := -((s.d v).getD 0)
theorem stp_pres {s : S α} {l : Option α} {e : E α} {v : α} (h : (s.d v).isSome = true) : ((stp (s, l) e).1.d v).isSome = true := by
  cases hl : low s e with
  | false =>
    have : stp (s, l) e = (s, l) := by unfold stp; rw [if_neg (by simp [hl])]
    rw [this]; exact h
  | true =>
    have : stp (s, l) e = (put s e, some e.2.1) := by unfold stp; rw [if_pos (by simp [hl])]
    rw [this]
    show (if v = e.2.1 then (s.d e.1).map (· + e.2.2) else s.d v).isSome = true
    split
    · unfold low at hl
      cases hx : s.d e.1 with
      | none => rw [hx] at hl; cases hl
      | some a => rfl
    · exact h
/-- what a step keeps, rounds keep -/
theorem fold_keep {P : S α → Prop} {es : List (E α)} (h : ∀ e ∈ es, ∀ s l, P s → P (stp (s, l) e).1) : ∀ (s : S α) (l : Option α), P s → P (es.foldl stp (s, l)).1 := by
  induction es with
  | nil => intro s l hs; exact hs
  | cons e es ih =>
    intro s l hs
    rw [List.foldl_cons]
    exact ih (fun f hf => h f (List.mem_cons_of_mem _ hf)) (stp (s, l) e).1 (stp (s, l) e).2 (h e (List.mem_cons_self ..) s l hs)
theorem rnd_keep {P : S α → Prop} {es : List (E α)} (h : ∀ e ∈ es, ∀ s l, P s → P (stp (s, l) e).1) {s : S α} (hs : P s) : P (rnd es s).1 := fold_keep h s none hs
theorem run_keep {P : S α → Prop} {es : List (E α)} (h : ∀ e ∈ es, ∀ s l, P s → P (stp (s, l) e).1) : ∀ (k : Nat) (s : S α) (l : Option α), P s → P (run es k s l).1
  | 0, s, l, hs => hs
  | k + 1, s, l, hs => by
    have h1 := rnd_keep h hs
    cases hr : (rnd es s).2 with
    | none =>
      have e : run es (k + 1) s l = ((rnd es s).1, none) := by show (match (rnd es s).2 with | none => _ | some v => _) = _; rw [hr]
      rw [e]; exact h1
    | some v =>
      have e : run es (k + 1) s l = run es k (rnd es s).1 (some v) := by show (match (rnd es s).2 with | none => _ | some v => _) = _; rw [hr]
      rw [e]; exact run_keep h k _ _ h1
theorem it_keep {P : S α → Prop} {es : List (E α)} (h : ∀ e ∈ es, ∀ s l, P s → P (stp (s, l) e).1) : ∀ (k : Nat) (s : S α), P s → P (it es k s)
  | 0, s, hs => hs
  | k + 1, s, hs => it_keep h k _ (rnd_keep h hs)
theorem run_more {es : List (E α)} : ∀ (k : Nat) (s : S α) (l : Option α), (run es k s l).2 = none → 1 ≤ k → run es (k + 1) s l = run es k s l
  | 0, s, l, _, h => by omega
  | k + 1, s, l, h, _ => by
    have e1 : ∀ k l, run es (k + 1) s l = (match (rnd es s).2 with | none => ((rnd es s).1, none) | some v => run es k (rnd es s).1 (some v)) := fun _ _ => rfl
    rw [e1] at h
    rw [e1 (k + 1), e1 k]
    cases hr : (rnd es s).2 with
    | none => rfl
    | some v =>
      rw [hr] at h
      have hk : 1 ≤ k := by
        rcases Nat.eq_zero_or_pos k with h0 | h0
        · subst h0; cases h
        · exact h0
      exact run_more k _ _ h hk
theorem calm_pot {es : List (E α)} {s : S α} (c : Calm es s) (h : ∀ e ∈ es, (s.d e.1).isSome = true) : Pot (num s) es := fun e he => by
  obtain ⟨a, ha⟩ := Option.isSome_iff_exists.mp (h e he)
  have hl := c e he
  unfold low at hl
  rw [ha] at hl
  cases hb : s.d e.2.1 with
  | none => rw [hb] at hl; cases hl
  | some b =>
    rw [hb] at hl
    have : ¬ a + e.2.2 < b := of_decide_eq_false hl
    show -((s.d e.1).getD 0) - -((s.d e.2.1).getD 0) ≤ e.2.2
    rw [ha, hb]
    show -a - -b ≤ e.2.2
    omega
theorem z0_pres {es : List (E α)} {L : List α} (k : Nat) {v : α} (hv : v ∈ L) : ((run es k (z0 L) none).1.d v).isSome = true :=
  run_keep (P := fun s => (s.d v).isSome = true) (fun _ _ _ _ h => stp_pres h) k _ _ (by show (if v ∈ L then some (0 : Int) else none).isSome = true; rw [if_pos hv]; rfl)
theorem numbers_meet {es : List (E α)} {L : List α} (hL : ends es L) {k : Nat} (hk : L.length ≤ k) (h : (run es k (z0 L) none).2 = none) : Pot (num (run es k (z0 L) none).1) es := by
  rcases run_spec hL k 0 (z0 L) none (btw_0 fun _ => rfl) (fun _ h => by cases h) with ⟨_, c, _⟩ | ⟨v, hv, _⟩
  · rcases c with ⟨_, h0, _⟩ | c
    · intro e he
      have : L = [] := List.eq_nil_of_length_eq_zero (by omega)
      have := (hL e he).1
      subst L
      cases this
    · exact calm_pot c fun e he => z0_pres k (hL e he).1
  · rw [h] at hv; cases hv
theorem ring_there {es : List (E α)} {L : List α} (hL : ends es L) {k : Nat} (hk : L.length ≤ k) {v : α} (h : (run es k (z0 L) none).2 = some v) :
    v ∈ L ∧ Btw es k (run es k (z0 L) none).1 (some v) ∧ (∀ j, j < L.length → ((run es k (z0 L) none).1.m (bks (run es k (z0 L) none).1 v j)).isSome = true) ∧ ∃ p, p ≤ L.length ∧ Cyc (run es k (z0 L) none).1 (bks (run es k (z0 L) none).1 v L.length) p := by
  rcases run_spec hL k 0 (z0 L) none (btw_0 fun _ => rfl) (fun _ h => by cases h) with ⟨hn, _⟩ | ⟨u, hu, hm, b⟩
  · rw [h] at hn; cases hn
  · rw [h] at hu
    obtain rfl := Option.some.inj hu
    rw [Nat.zero_add] at b
    have hc : ∀ j, j < L.length → ((run es k (z0 L) none).1.m (bks (run es k (z0 L) none).1 v j)).isSome = true := fun j hj => chain b j (by omega)
    exact ⟨hm, b, hc, cycle_of hL b hm hc⟩
theorem no_ring {N : α → Int} {es : List (E α)} {L : List α} (hN : Pot N es) (hL : ends es L) {k : Nat} (hk : L.length ≤ k) : (run es k (z0 L) none).2 = none := by
  cases h : (run es k (z0 L) none).2 with
  | none => rfl
  | some v =>
    obtain ⟨_, b, _, p, _, c⟩ := ring_there hL hk h
    exact (no_cycle hN b c).elim
/-- a round more changes nothing -/
theorem one_more {es : List (E α)} {L : List α} (hL : ends es L) (h : (run es L.length (z0 L) none).2 = none) : run es (L.length + 1) (z0 L) none = run es L.length (z0 L) none := by
  rcases Nat.eq_zero_or_pos L.length with h0 | h0
  · have e : L = [] := List.eq_nil_of_length_eq_zero h0
    have ee : es = [] := by
      cases es with
      | nil => rfl
      | cons e' es =>
        have := (hL e' (List.mem_cons_self ..)).1
        rw [e] at this; cases this
    subst e ee
    rfl
  · exact run_more _ _ _ h h0
theorem one_more_ring {es : List (E α)} {L : List α} (hL : ends es L) {v : α} (h : (run es L.length (z0 L) none).2 = some v) : ∃ u, (run es (L.length + 1) (z0 L) none).2 = some u := by
  cases h1 : (run es (L.length + 1) (z0 L) none).2 with
  | some u => exact ⟨u, rfl⟩
  | none =>
    have := no_ring (numbers_meet hL (Nat.le_succ _) h1) hL (Nat.le_refl L.length)
    rw [h] at this; cases this
/-! ### least ways -/
def w0 (x : α) : S α := ⟨fun v => if v = x then some 0 else none, fun _ => none⟩
structure WI (N : α → Int) (L : List α) (x : α) (s : S α) : Prop where
  ge : ∀ v b, s.d v = some b → N x - N v ≤ b
  dx : s.d x = some 0
  mx : s.m x = none
  mkx : ∀ v, (s.d v).isSome = true → v = x ∨ (s.m v).isSome = true
  dm : ∀ v, (s.d v).isSome = true → v ∈ L
theorem wi_0 {N : α → Int} {L : List α} {x : α} (hx : x ∈ L) : WI N L x (w0 x) := by
  have h : ∀ v b, (w0 x).d v = some b → v = x ∧ b = 0 := fun v b h => by
    have h : (if v = x then some (0 : Int) else none) = some b := h
    split at h
    · rename_i e; exact ⟨e, (Option.some.inj h).symm⟩
    · cases h
  refine ⟨fun v b hv => ?_, if_pos rfl, rfl, fun v hv => ?_, fun v hv => ?_⟩
  · obtain ⟨rfl, rfl⟩ := h v b hv; omega
  · obtain ⟨b, hb⟩ := Option.isSome_iff_exists.mp hv; exact .inl (h v b hb).1
  · obtain ⟨b, hb⟩ := Option.isSome_iff_exists.mp hv; rw [(h v b hb).1]; exact hx
theorem wi_stp {N : α → Int} {es : List (E α)} {L : List α} {x : α} (hN : Pot N es) (hL : ends es L) (e : E α) (he : e ∈ es) (s : S α) (l : Option α) (h : WI N L x s) : WI N L x (stp (s, l) e).1 := by
  cases hl : low s e with
  | false =>
    have : stp (s, l) e = (s, l) := by unfold stp; rw [if_neg (by simp [hl])]
    rw [this]; exact h
  | true =>
    have : stp (s, l) e = (put s e, some e.2.1) := by unfold stp; rw [if_pos (by simp [hl])]
    rw [this]
    unfold low at hl
    cases ha : s.d e.1 with
    | none => rw [ha] at hl; cases hl
    | some a =>
      rw [ha] at hl
      have g1 := h.ge _ _ ha
      have g2 := hN e he
      have hxy : x ≠ e.2.1 := by
        rintro rfl
        rw [h.dx] at hl
        have : a + e.2.2 < 0 := of_decide_eq_true hl
        omega
      have dy : (put s e).d e.2.1 = some (a + e.2.2) := by simp [put, ha]
      have dn : ∀ v, v ≠ e.2.1 → (put s e).d v = s.d v := fun v hv => by simp [put, hv]
      have my : (put s e).m e.2.1 = some e := by simp [put]
      have mn : ∀ v, v ≠ e.2.1 → (put s e).m v = s.m v := fun v hv => by simp [put, hv]
      refine ⟨fun v b hv => ?_, by rw [dn _ hxy]; exact h.dx, by rw [mn _ hxy]; exact h.mx, fun v hv => ?_, fun v hv => ?_⟩
      · by_cases hy : v = e.2.1
        · rw [hy, dy] at hv
          obtain rfl := Option.some.inj hv
          rw [hy]; omega
        · rw [dn _ hy] at hv; exact h.ge v b hv
      · by_cases hy : v = e.2.1
        · right; rw [hy, my]; rfl
        · rw [dn _ hy] at hv; rw [mn _ hy]; exact h.mkx v hv
      · by_cases hy : v = e.2.1
        · rw [hy]; exact (hL e he).2
        · rw [dn _ hy] at hv; exact h.dm v hv
/-- the ways from x: rounds until a calm one, at most one more than there are names -/
theorem ways {N : α → Int} {es : List (E α)} {L : List α} {x : α} (hN : Pot N es) (hL : ends es L) (hx : x ∈ L) : ∃ j, j ≤ L.length ∧ (∀ i, i < j → (rnd es (it es i (w0 x))).2 ≠ none) ∧ (rnd es (it es j (w0 x))).2 = none ∧
    WI N L x (it es j (w0 x)) ∧ Calm es (it es j (w0 x)) ∧ ∃ r, Btw es r (it es j (w0 x)) none := by
  rcases run_spec hL (L.length + 1) 0 (w0 x) none (btw_0 fun _ => rfl) (fun _ h => by cases h) with ⟨_, _, j, _, _, j3, j4⟩ | ⟨v, _, hm, b⟩
  · obtain ⟨j5, j6⟩ := j4 (by omega)
    have hb : ∀ j, ∃ l, Btw es j (it es j (w0 x)) l := by
      intro j
      induction j with
      | zero => exact ⟨none, btw_0 fun _ => rfl⟩
      | succ j ih =>
        obtain ⟨l, h⟩ := ih
        rw [it_succ]
        exact ⟨_, btw_rnd h⟩
    obtain ⟨l, c, τ, ρ, hi, _⟩ := hb j
    exact ⟨j, by omega, j3, j6, it_keep (wi_stp hN hL) j _ (wi_0 hx), (rnd_calm j6).2, j, c, τ, ρ, hi, fun _ h => by cases h⟩
  · obtain ⟨p, _, c⟩ := cycle_of hL b hm (fun j hj => chain b j (by omega))
    exact (no_cycle hN b c).elim
/-- back from y to x -/
theorem way_to {N : α → Int} {es : List (E α)} {L : List α} {x y : α} {s : S α} {r : Nat} (hN : Pot N es) (hL : ends es L) (w : WI N L x s) (c : Calm es s) (b : Btw es r s none) {D : Int} (hy : s.d y = some D) :
    ∃ p, p ≤ L.length ∧ bks s y p = x ∧ (∀ i, i < p → bks s y i ≠ x ∧ (s.m (bks s y i)).isSome = true) ∧ along x (rgl s y p) = some (y, D) ∧ ∀ e ∈ rgl s y p, e ∈ es := by
  have there : ∀ n, (∀ i, i < n → bks s y i ≠ x) → (s.d (bks s y n)).isSome = true ∧ ∀ i, i < n → (s.m (bks s y i)).isSome = true := by
    intro n
    induction n with
    | zero => intro _; exact ⟨by show (s.d y).isSome = true; rw [hy]; rfl, fun i hi => by omega⟩
    | succ n ih =>
      intro hn
      obtain ⟨h1, h2⟩ := ih fun i hi => hn i (by omega)
      have hm : (s.m (bks s y n)).isSome = true := (w.mkx _ h1).resolve_left (hn n (by omega))
      refine ⟨?_, fun i hi => ?_⟩
      · obtain ⟨e, he, _, e1, _⟩ := mark_src b hm
        obtain ⟨_, _, _, hi, _⟩ := b
        obtain ⟨_, _, a, _, ha, _⟩ := hi.mks _ e he
        show (s.d (bk s (bks s y n))).isSome = true
        rw [e1, ha]; rfl
      · rcases Nat.eq_or_lt_of_le (show i ≤ n by omega) with rfl | h
        · exact hm
        · exact h2 i h
  have ex : ∃ p, p ≤ L.length ∧ bks s y p = x := by
    apply Classical.byContradiction
    intro hx
    have hx' : ∀ p, p ≤ L.length → bks s y p ≠ x := fun p hp z => hx ⟨p, hp, z⟩
    obtain ⟨_, h2⟩ := there L.length fun i hi => hx' i (by omega)
    obtain ⟨p, _, c⟩ := cycle_of hL b (w.dm y (by rw [hy]; rfl)) h2
    exact no_cycle hN b c
  obtain ⟨p0, hp0, e0⟩ := ex
  obtain ⟨p, hp, hpp, hl⟩ := least (P := fun p => bks s y p = x) e0
  obtain ⟨h1, h2⟩ := there p hl
  refine ⟨p, by omega, hp, fun i hi => ⟨hl i hi, h2 i hi⟩, ?_, rgl_mem b h2⟩
  have sums : ∀ n, n ≤ p → s.d (bks s y n) = some (D - wsum s y n) := by
    intro n
    induction n with
    | zero => intro _; show s.d y = some (D - 0); rw [hy, Int.sub_zero]
    | succ n ih =>
      intro hn
      have hd := ih (by omega)
      obtain ⟨e, he, hes, e1, e2⟩ := mark_src b (h2 n (by omega))
      obtain ⟨_, _, _, hi, _⟩ := b
      obtain ⟨_, _, a, b', ha, hb', hle, _⟩ := hi.mks _ e he
      have hlow := c e hes
      unfold low at hlow
      rw [ha, e2, hb'] at hlow
      have : ¬ a + e.2.2 < b' := of_decide_eq_false hlow
      rw [hb'] at hd
      have := Option.some.inj hd
      show s.d (bk s (bks s y n)) = _
      have ew : wsum s y (n + 1) = wsum s y n + e.2.2 := by show wsum s y n + _ = _; rw [he]
      rw [e1, ha, ew]
      exact congrArg some (by omega)
  have hs := sums p (Nat.le_refl _)
  rw [hp, w.dx] at hs
  have := Option.some.inj hs
  have ha := rgl_along b h2
  rw [hp] at ha
  rw [ha, show wsum s y p = D by omega]
theorem bound_all (f : E α → Int) : ∀ es : List (E α), ∃ C : Int, ∀ e ∈ es, f e ≤ C
  | [] => ⟨0, fun e h => by cases h⟩
  | e :: es => by
    obtain ⟨C, h⟩ := bound_all f es
    refine ⟨max C (f e), fun g hg => ?_⟩
    rcases List.mem_cons.mp hg with rfl | hg
    · omega
    · have := h g hg; omega
theorem tight_pot {N : α → Int} {es : List (E α)} {L : List α} {x y : α} {s : S α} (hN : Pot N es) (w : WI N L x s) (c : Calm es s) {D : Int} (hy : s.d y = some D) : ∃ P, Pot P (es ++ [(y, x, -D)]) := by
  obtain ⟨C, hC⟩ := bound_all (fun e => N e.1 + (s.d e.2.1).getD 0 - e.2.2) es
  refine ⟨fun v => match s.d v with | some b => -b | none => N v - C, fun e he => ?_⟩
  rcases List.mem_append.mp he with he | he
  · have h1 := hN e he
    have h2 := hC e he
    have h3 := c e he
    unfold low at h3
    show (match s.d e.1 with | some b => -b | none => N e.1 - C) - (match s.d e.2.1 with | some b => -b | none => N e.2.1 - C) ≤ e.2.2
    cases ha : s.d e.1 with
    | some a =>
      rw [ha] at h3
      cases hb : s.d e.2.1 with
      | none => rw [hb] at h3; cases h3
      | some b =>
        rw [hb] at h3
        have : ¬ a + e.2.2 < b := of_decide_eq_false h3
        show -a - -b ≤ e.2.2
        omega
    | none =>
      cases hb : s.d e.2.1 with
      | none => show N e.1 - C - (N e.2.1 - C) ≤ e.2.2; omega
      | some b =>
        rw [hb] at h2
        have h2 : N e.1 + b - e.2.2 ≤ C := h2
        show N e.1 - C - -b ≤ e.2.2
        omega
  · obtain rfl := List.mem_singleton.mp he
    show (match s.d y with | some b => -b | none => N y - C) - (match s.d x with | some b => -b | none => N x - C) ≤ -D
    rw [hy, w.dx]
    show -D - -0 ≤ -D
    omega
theorem tight_val {T : α → Int} {es : List (E α)} {x y : α} {D : Int} (h : Pot T (es ++ [(y, x, -D)])) {way : List (E α)} (hw : ∀ e ∈ way, e ∈ es) (ha : along x way = some (y, D)) : T x - T y = D := by
  have h1 := h (y, x, -D) (List.mem_append.mpr (.inr (List.mem_singleton.mpr rfl)))
  have h1 : T y - T x ≤ -D := h1
  have h2 := pot_along (N := T) (es := es) (fun e he => h e (List.mem_append.mpr (.inl he))) hw ha
  omega
end
end M43
namespace M43
variable {α : Type} [DecidableEq α]
theorem run_some {es : List (E α)} {k : Nat} {s : S α} {l : Option α} {v : α} (hr : (rnd es s).2 = some v) : run es (k + 1) s l = run es k (rnd es s).1 (some v) := by
  show (match (rnd es s).2 with | none => _ | some v => _) = _; rw [hr]
theorem run_none {es : List (E α)} {k : Nat} {s : S α} {l : Option α} (hr : (rnd es s).2 = none) : run es (k + 1) s l = ((rnd es s).1, none) := by
  show (match (rnd es s).2 with | none => _ | some v => _) = _; rw [hr]
theorem run_skip {es : List (E α)} : ∀ (i : Nat) (s : S α) (l : Option α) (k : Nat), (∀ j, j < i → (rnd es (it es j s)).2 ≠ none) → ∃ l', run es (i + k) s l = run es k (it es i s) l' ∧ (i = 0 → l' = l) ∧ ∀ j, i = j + 1 → l' = (rnd es (it es j s)).2
  | 0, s, l, k, _ => ⟨l, by rw [Nat.zero_add]; rfl, fun _ => rfl, fun j h => by omega⟩
  | i + 1, s, l, k, h => by
    have h0 : (rnd es s).2 ≠ none := h 0 (by omega)
    cases hr : (rnd es s).2 with
    | none => exact absurd hr h0
    | some v =>
      obtain ⟨l', e1, e2, e3⟩ := run_skip i (rnd es s).1 (some v) k fun j hj => h (j + 1) (by omega)
      refine ⟨l', ?_, fun z => by omega, fun j hj => ?_⟩
      · rw [show i + 1 + k = (i + k) + 1 by omega, run_some hr]
        exact e1
      · obtain rfl : i = j := by omega
        cases i with
        | zero => rw [e2 rfl, ← hr]; rfl
        | succ i => rw [e3 i rfl]; rfl
end M43
namespace K43
open PySem PySem.Spec PyProof.Rows L2 Hx Hd M43
open Evl (pss_cut tCut ex_l ex_t)
def isNum (d : PyData) : Bool := match d with | .int _ => true | _ => false
def isBd (d : PyData) : Bool := match d with | .tuple [.str _, .str _, .int _] => true | _ => false
def isBds (d : PyData) : Bool := match d with | .list ds => ds.all isBd | _ => false
theorem isBd_enc {d : PyData} (h : isBd d = true) : ∃ e : Bd, d = encB e := by
  unfold isBd at h
  split at h
  · rename_i x y k; exact ⟨(x, y, k), rfl⟩
  · cases h
theorem isBd_len {ds : List PyData} (h : ds.length ≠ 3) : isBd (.tuple ds) = false := by
  cases hb : isBd (.tuple ds) with
  | false => rfl
  | true => obtain ⟨e, he⟩ := isBd_enc hb; cases he; exact absurd rfl h
theorem isBds_enc {d : PyData} (h : isBds d = true) : ∃ es : List Bd, d = .list (es.map encB) := by
  unfold isBds at h
  split at h
  · rename_i ds
    have gen : ∀ ds : List PyData, ds.all isBd = true → ∃ es : List Bd, ds = es.map encB := by
      intro ds
      induction ds with
      | nil => intro _; exact ⟨[], rfl⟩
      | cons d ds ih =>
        intro h
        rw [List.all_cons, Bool.and_eq_true] at h
        obtain ⟨e, rfl⟩ := isBd_enc h.1
        obtain ⟨es, rfl⟩ := ih h.2
        exact ⟨e :: es, rfl⟩
    obtain ⟨es, rfl⟩ := gen ds h
    exact ⟨es, rfl⟩
  · cases h
theorem enc_isBds (es : List Bd) : isBds (.list (es.map encB)) = true := by
  show (es.map encB).all isBd = true
  rw [List.all_eq_true]
  intro d hd
  obtain ⟨e, _, rfl⟩ := List.mem_map.mp hd
  rfl
/-- names in the order of their first standing -/
def addK (l : List Str) (z : Str) : List Str := if z ∈ l then l else l ++ [z]
def keysOf (es : List Bd) : List Str := es.foldl (fun l e => addK (addK l e.1) e.2.1) []
def nms (es : List Bd) : List Str := (keysOf es).mergeSort leS
theorem addK_mem {l : List Str} {z k : Str} : k ∈ addK l z ↔ k ∈ l ∨ k = z := by
  unfold addK
  split
  · exact ⟨.inl, fun h => h.elim id fun e => by rw [e]; assumption⟩
  · rw [List.mem_append, List.mem_singleton]
theorem addK_nodup {l : List Str} {z : Str} (h : l.Nodup) : (addK l z).Nodup := by
  unfold addK
  split
  · exact h
  · rename_i hz
    rw [List.nodup_append]
    exact ⟨h, List.nodup_cons.mpr ⟨by simp, List.nodup_nil⟩, fun a ha b hb e => hz (by rw [List.mem_singleton] at hb; rw [← hb, ← e]; exact ha)⟩
theorem valV_keys {l : List Str} : ∀ {kvs : List (Key × V)}, kvs.map (·.1) = l.map Sum.inr → ∀ z : Str, (valV kvs (Sum.inr z)).isSome = decide (z ∈ l) := by
  intro kvs h z
  rw [← valV_any, Bool.eq_iff_iff, List.any_eq_true, decide_eq_true_iff]
  constructor
  · rintro ⟨p, hp, hz⟩
    have : p.1 ∈ kvs.map (·.1) := List.mem_map.mpr ⟨p, hp, rfl⟩
    rw [h] at this
    obtain ⟨y, hy, e⟩ := List.mem_map.mp this
    rw [of_decide_eq_true hz] at e
    cases e
    exact hy
  · intro hz
    have : (Sum.inr z : Key) ∈ kvs.map (·.1) := by rw [h]; exact List.mem_map.mpr ⟨z, hz, rfl⟩
    obtain ⟨p, hp, e⟩ := List.mem_map.mp this
    exact ⟨p, hp, decide_eq_true e⟩
theorem putK_keys {l : List Str} {kvs : List (Key × V)} {z : Str} {v : V} (h : kvs.map (·.1) = l.map Sum.inr) : (putK kvs (Sum.inr z) v).map (·.1) = (addK l z).map Sum.inr := by
  have hs := valV_keys h z
  unfold putK addK
  rw [valV_any, hs]
  by_cases hz : z ∈ l
  · rw [if_pos hz, if_pos (decide_eq_true hz), ← h, List.map_map]
    apply List.map_congr_left
    intro p hp
    show (if p.1 = Sum.inr z then (p.1, v) else p).1 = p.1
    split <;> rfl
  · rw [if_neg hz, if_neg (by simp [hz]), List.map_append, h, List.map_append]
    rfl
theorem ex_mut {H H' : Hp} {d : Addr} {o : HO} (e : Ex H H') (h : H d = none) : Ex H (upd H' d o) := fun a u ha => by
  rw [upd_ne (ne_of_none ha h)]; exact e a u ha
theorem keysOf_take {es : List Bd} {i : Nat} {e : Bd} (h : es[i]? = some e) : keysOf (es.take (i + 1)) = addK (addK (keysOf (es.take i)) e.1) e.2.1 := by
  unfold keysOf
  rw [List.take_succ, h]
  show List.foldl _ _ (es.take i ++ [e]) = _
  rw [List.foldl_append]
  rfl
section
variable {P : Program} {w : World} {K : PySem.W.Frag} {mg : Str → Option Value} {base : Heap}
def spNum (K : PySem.W.Frag) : Sp := fun vs H Q _ => ∃ x d, vs = [x] ∧ Dt H x d ∧ Q (.bl (isNum d)) H
abbrev Nis_number : List Str := ["value"]
theorem scis_number : FnScope Nis_number ["value"] (defScope (top 1)) := ⟨rfl, rfl, rfl, by decide +kernel, rfl, by decide +kernel, by decide +kernel⟩
theorem ok_number (T : Txt K mg) : Cal P w K mg base CX0 1 "is_number" ["value"] (spNum K) := by
  refine mkCal T.g_is_number T.d_is_number scis_number (fun _ _ _ _ _ _ us hl => match us, hl with | [_], _ => rfl) (fun vs H Q E h => ?_) fun cdv A outer s H vs Q E hr h => ?_
  · obtain ⟨x, d, rfl, _⟩ := h; rfl
  obtain ⟨x, d, rfl, hd, q⟩ := h
  refine ⟨_, (pss_one (ps_ret (pe_and (pe_callB (isiR (K := K)) (by rfl) T.n_isinstance (by decide +kernel) (pa_cons (pv 0) (pa_cons (pe_bltn (v := .ty "int") rfl T.n_int (by decide +kernel) rfl) pa_nil))) (pe_one (pe_not (pe_callB (isiR (K := K)) (by rfl) T.n_isinstance (by decide +kernel) (pa_cons (pv 0) (pa_cons (pe_bltn (v := .ty "bool") rfl T.n_bool (by decide +kernel) rfl) pa_nil)))))))), ?_⟩
  refine ⟨_, rfl, x, _, _, _, _, rfl, .ty "int", ty_dt hd, kit_ty (kit_int d), _, rfl, ?_⟩
  refine ite2 (fun h1 => ⟨_, rfl, x, _, _, _, _, rfl, .ty "bool", ty_dt hd, kit_ty (kit_bool d), _, rfl, ?_⟩) fun h1 => ?_
  · have e : (!isT "bool" d) = isNum d := by cases d <;> first | rfl | (exfalso; revert h1; simp [isT])
    show Q (.bl (!isT "bool" d)) H
    rw [e]; exact q
  · have e : isNum d = false := by cases d <;> first | rfl | (exfalso; revert h1; simp [isT])
    show Q (.bl false) H
    rw [e] at q; exact q
def spBd (K : PySem.W.Frag) : Sp := fun vs H Q _ => ∃ x d, vs = [x] ∧ Dt H x d ∧ Q (.bl (isBd d)) H
abbrev Nis_bound : List Str := ["value"]
theorem scis_bound : FnScope Nis_bound ["value"] (defScope (top 3)) := ⟨rfl, rfl, rfl, by decide +kernel, rfl, by decide +kernel, by decide +kernel⟩
theorem ok_bound (T : Txt K mg) (C_is_number : Cal P w K mg base CX0 1 "is_number" ["value"] (spNum K)) : Cal P w K mg base CX0 2 "is_bound" ["value"] (spBd K) := by
  refine mkCal T.g_is_bound T.d_is_bound scis_bound (fun _ _ _ _ _ _ us hl => match us, hl with | [_], _ => rfl) (fun vs H Q E h => ?_) fun cdv A outer s H vs Q E hr h => ?_
  · obtain ⟨x, d, rfl, _⟩ := h; rfl
  obtain ⟨x, d, rfl, hd, q⟩ := h
  refine ⟨_, (pss_cut (ps_if (PW.pt (pw_or (pt_not (pt_val (pe_callB (isiR (K := K)) (by rfl) T.n_isinstance (by decide +kernel) (pa_cons (pv 0) (pa_cons (pe_bltn (v := .ty "tuple") rfl T.n_tuple (by decide +kernel) rfl) pa_nil))))) (pw_or1 (pt_cmpR op_ne (pe_callB (lenL (K := K)) (by rfl) T.n_len PySem.boot_len (pa_cons (pv 0) pa_nil)) pe_int (nomark _))))) (pss_one (ps_ret pe_bl)) pss_nil)
      (pss_one (ps_ret (pe_and (pe_callB (isiR (K := K)) (by rfl) T.n_isinstance (by decide +kernel) (pa_cons (pe_ix (ixT (K := K)) (pv 0) pe_int (fun _ _ => rfl)) (pa_cons (pe_bltn (v := .ty "str") rfl T.n_str (by decide +kernel) rfl) pa_nil))) (pe_and (pe_callB (isiR (K := K)) (by rfl) T.n_isinstance (by decide +kernel) (pa_cons (pe_ix (ixT (K := K)) (pv 0) pe_int (fun _ _ => rfl)) (pa_cons (pe_bltn (v := .ty "str") rfl T.n_str (by decide +kernel) rfl) pa_nil))) (pe_one (pe_cal (E := E0) C_is_number (hr.mono (by decide)) pass0 (pa_cons (pe_ix (ixT (K := K)) (pv 0) pe_int (fun _ _ => rfl)) pa_nil)))))))), ?_⟩
  refine ⟨fun σ' H' => (∃ d1 d2 d3, d = .tuple [d1, d2, d3]) ∧ σ' = [some x] ∧ H = H', ?_, ?_⟩
  · refine ⟨_, rfl, x, _, _, _, _, rfl, .ty "tuple", ty_dt hd, kit_ty (kit_tup d), _, rfl, ?_⟩
    cases h1 : isT "tuple" d with
    | false =>
      have e : isBd d = false := by cases d <;> first | rfl | (exfalso; revert h1; simp [isT])
      rw [e] at q
      exact q
    | true =>
      obtain ⟨ds, rfl⟩ := isT_tup h1
      obtain ⟨a, xs, rfl, hs, ha⟩ := dt_tup hd
      have hl := dta_len ha
      refine ⟨_, rfl, a, xs, rfl, .inr (SqT.of hs), rfl, _, rfl, ?_⟩
      refine ite2 (fun h2 => ?_) fun h2 => ?_
      · have h2' : ¬ xs.length = 3 := fun z => by rw [z] at h2; exact absurd h2 (by decide)
        have e : isBd (.tuple ds) = false := isBd_len (by omega)
        rw [e] at q; exact q
      · have h2' : xs.length = 3 := by
          apply Classical.byContradiction
          intro z
          refine h2 ?_
          show (!decide (V.int xs.length = V.int 3)) = true
          rw [decide_eq_false fun e => z (by injection e with e; omega)]; rfl
        match ds, (show ds.length = 3 by omega) with
        | [d1, d2, d3], _ => exact ⟨⟨d1, d2, d3, rfl⟩, rfl, rfl⟩
  · rintro σ' H' ⟨⟨d1, d2, d3, rfl⟩, rfl, rfl⟩
    obtain ⟨a, xs, rfl, hs, ha⟩ := dt_tup hd
    cases ha with
    | cons g1 ha => cases ha with
      | cons g2 ha => cases ha with
        | cons g3 ha =>
          cases ha
          refine ⟨_, rfl, a, _, 0, _, rfl, rfl, SqT.of hs, rfl, _, _, _, _, _, rfl, .ty "str", ty_dt g1, kit_ty (kit_str d1), _, rfl, ?_⟩
          cases e1 : isT "str" d1 with
          | false =>
            have e : isBd (.tuple [d1, d2, d3]) = false := by cases d1 <;> first | rfl | (exfalso; revert e1; simp [isT])
            rw [e] at q; exact q
          | true =>
            obtain ⟨z1, rfl⟩ := isT_str e1
            refine ⟨_, rfl, a, _, 1, _, rfl, rfl, SqT.of hs, rfl, _, _, _, _, _, rfl, .ty "str", ty_dt g2, kit_ty (kit_str d2), _, rfl, ?_⟩
            cases e2 : isT "str" d2 with
            | false =>
              have e : isBd (.tuple [.str z1, d2, d3]) = false := by cases d2 <;> first | rfl | (exfalso; revert e2; simp [isT])
              rw [e] at q; exact q
            | true =>
              obtain ⟨z2, rfl⟩ := isT_str e2
              refine ⟨_, rfl, a, _, 2, _, rfl, rfl, SqT.of hs, rfl, _, d3, rfl, g3, ?_⟩
              have e : isBd (.tuple [.str z1, .str z2, d3]) = isNum d3 := by cases d3 <;> rfl
              rw [e] at q; exact q
end
end K43
namespace K43
open PySem PySem.Spec PyProof.Rows L2 Hx Hd M43
open Evl (pss_cut tCut ex_l ex_t)
/-- a dict's entry -/
def dlook (es : List (PyData × PyData)) (z : Str) : Option PyData := (es.find? fun q => match q.1 with | .str y => decide (y = z) | _ => false).map (·.2)
theorem dkv_look : ∀ {kvs : List (Key × V)} {es : List (PyData × PyData)}, DKV kvs es → ∀ z : Str, (valV kvs (Sum.inr z) = none ∧ dlook es z = none) ∨ ∃ v d, valV kvs (Sum.inr z) = some v ∧ dlook es z = some d ∧ FV v d
  | [], _, h, z => by cases h; exact .inl ⟨rfl, rfl⟩
  | p :: kvs, _, h, z => by
    cases h with
    | cons r t =>
      rename_i q es
      obtain ⟨y, h1, h2, h3⟩ := r
      by_cases hy : y = z
      · refine .inr ⟨p.2, q.2, valV_pos (by rw [h1, hy]), ?_, h3⟩
        unfold dlook
        rw [List.find?_cons, h2, show (match PyData.str y with | .str y => decide (y = z) | _ => false) = true from decide_eq_true hy]
        rfl
      · have e1 : valV (p :: kvs) (Sum.inr z) = valV kvs (Sum.inr z) := valV_neg (by rw [h1]; exact fun e => hy (Sum.inr.inj e))
        have e2 : dlook (q :: es) z = dlook es z := by
          unfold dlook
          rw [List.find?_cons, h2, show (match PyData.str y with | .str y => decide (y = z) | _ => false) = false from decide_eq_false hy]
        rw [e1, e2]
        exact dkv_look t z
def entNum (es : List (PyData × PyData)) (z : Str) : Bool := match dlook es z with | some d => isNum d | none => false
/-- whether a datum has a whole number for just these names -/
def areNum (ns : List Str) (d : PyData) : Bool := match d with
  | .dict es => decide (es.length = ns.length) && ns.all (entNum es)
  | _ => false
section
variable {P : Program} {w : World} {K : PySem.W.Frag} {mg : Str → Option Value} {base : Heap}
def spAB (K : PySem.W.Frag) : Sp := fun vs H Q _ => ∃ x d, vs = [x] ∧ Dt H x d ∧ (∀ ds, d = .list ds → ds.length ≤ 100000) ∧ ∀ H2, Ex H H2 → Q (.bl (isBds d)) H2
abbrev Nare_bounds : List Str := ["value", "item"]
theorem scare_bounds : FnScope Nare_bounds ["value"] (defScope (top 4)) := ⟨rfl, rfl, rfl, by decide +kernel, rfl, by decide +kernel, by decide +kernel⟩
theorem ok_bounds (T : Txt K mg) (C_is_bound : Cal P w K mg base CX0 2 "is_bound" ["value"] (spBd K)) : Cal P w K mg base CX0 3 "are_bounds" ["value"] (spAB K) := by
  refine mkCal T.g_are_bounds T.d_are_bounds scare_bounds (fun _ _ _ _ _ _ us hl => match us, hl with | [_], _ => rfl) (fun vs H Q E h => ?_) fun cdv A outer s H vs Q E hr h => ?_
  · obtain ⟨x, d, rfl, _⟩ := h; rfl
  obtain ⟨x, d, rfl, hd, hn, q⟩ := h
  refine ⟨_, (pss_one (ps_ret (pe_and (pe_callB (isiR (K := K)) (by rfl) T.n_isinstance (by decide +kernel) (pa_cons (pv 0) (pa_cons (pe_bltn (v := .ty "list") rfl T.n_list (by decide +kernel) rfl) pa_nil))) (pe_one (pe_callB (allR (K := K) rfl) (by rfl) T.n_all (by decide +kernel) (pa_cons (pe_lc (own := [("item", 1)]) (g := gName 1) rfl scare_bounds.nd (piL (K := K) (pv 0)) (blkOk_by (N := Nare_bounds) (sc := defScope (top 4)) (by decide +kernel)) (fun _ _ _ _ _ => (pg_name (i := 1) scare_bounds.nd rfl (Or.inl rfl))) (fun _ _ _ _ _ => pts_nil) (fun _ _ _ _ _ => (pe_cal (E := E0) C_is_bound (hr.mono (by decide)) pass0 (pa_cons (pv 1) pa_nil)))) pa_nil)))))), ?_⟩
  refine ⟨_, rfl, x, _, _, _, _, rfl, .ty "list", ty_dt hd, kit_ty (kit_list d), _, rfl, ?_⟩
  cases h1 : isT "list" d with
  | false =>
    have e : isBds d = false := by cases d <;> first | rfl | (exfalso; revert h1; simp [isT])
    rw [e] at q
    exact q H (Evl.Ex.refl H)
  | true =>
    obtain ⟨ds, rfl⟩ := isT_list h1
    obtain ⟨a, xs, rfl, hs, ha⟩ := dt_list hd
    have hl := dta_len ha
    have hz' := hn ds rfl
    refine ⟨_, rfl, a, rfl, ⟨xs, SqL.of hs⟩, fun D hD => ?_⟩
    refine lcB (K := K) walk_list (fun H' e => SqL.of (e _ _ hs)) (by omega) (fun i => isBd (ds.getD i .none)) (fun i => [some (.ref a), some (xs.getD i .non)])
      (fun i y G' H' H'' hi a' yy Q q => turn_name (σ0 := [some (.ref a), none]) (j := 1) a' yy (by rw [List.getD_eq_getElem?_getD]; simp [hi]) q) (fun _ _ => rfl) (fun i H' hi e Q q => ?_) hD (fun H' e hl' => ?_)
    · obtain ⟨d1, e1, g1⟩ := dta_get ha (i := i) (v := xs.getD i .non) (by rw [List.getD_eq_getElem?_getD]; simp [hi])
      refine ⟨_, rfl, _, d1, rfl, ex_dt e _ _ g1, ?_⟩
      rw [getD_of e1] at q
      exact q H' (Evl.Ex.refl H')
    · refine ⟨D, _, rfl, hl', ?_⟩
      rw [hl, range_map ds .none isBd, List.all_map]
      exact q H' e
def spNames (K : PySem.W.Frag) : Sp := fun vs H Q _ => ∃ a es, vs = [.ref a] ∧ Bds H a es ∧ es.length ≤ 100000 ∧ ∀ p H2, H p = none → Ex H H2 → H2 p = some (.lst ((nms es).map V.str)) → Q (.ref p) H2
abbrev Nnames_of : List Str := ["edges", "found", "edge"]
theorem scnames_of : FnScope Nnames_of ["edges"] (defScope (top 5)) := ⟨rfl, rfl, rfl, by decide +kernel, rfl, by decide +kernel, by decide +kernel⟩
theorem ok_names (T : Txt K mg) : Cal P w K mg base CX0 1 "names_of" ["edges"] (spNames K) := by
  refine mkCal T.g_names_of T.d_names_of scnames_of (fun _ _ _ _ _ _ us hl => match us, hl with | [_], _ => rfl) (fun vs H Q E h => ?_) fun cdv A outer s H vs Q E hr h => ?_
  · obtain ⟨x, d, rfl, _⟩ := h; rfl
  obtain ⟨a, es, rfl, ⟨xs, hx, pr⟩, hn, q⟩ := h
  refine ⟨_, (pss_cons (ps_set (i := 1) scnames_of.nd rfl (Or.inl rfl) pe_dnewK)
      (pss_cons (ps_for PassesOwn.never rfl (piL (K := K) (pv 0)) (pg_name (i := 2) scnames_of.nd rfl (Or.inl rfl)) (pss_cons (ps_dput (hu_of hr) (pv 1) (pe_ix (ixT (K := K)) (pv 2) pe_int (fun _ _ => rfl)) pe_bl rfl)
      (pss_one (ps_dput (hu_of hr) (pv 1) (pe_ix (ixT (K := K)) (pv 2) pe_int (fun _ _ => rfl)) pe_bl rfl))))
      (pss_one (ps_ret (pe_callB (sortDk rfl hr.units) (by rfl) T.n_sorted (by decide +kernel) (pa_cons (pv 1) pa_nil)))))), ?_⟩
  intro d hd
  have hxl := pr.length
  refine ⟨_, rfl, a, rfl, ⟨xs, SqL.of (by rw [upd_ne (ne_of_none hx hd)]; exact hx)⟩, ?_⟩
  refine for_it walk_list (fun i σ' H' => ∃ ev kvs, σ' = [some (.ref a), some (.ref d), ev] ∧ Ex H H' ∧ H' d = some (.dK kvs) ∧ kvs.map (·.1) = (keysOf (es.take i)).map Sum.inr ∧ kvs.length ≤ 2 * i)
    ⟨none, [], rfl, Evl.Ex.new hd, upd_same, rfl, Nat.zero_le _⟩ (fun i σ' H' hi ⟨_, _, _, e', _⟩ => SqL.of (e' _ _ hx)) ?_ ?_
  · rintro i x σ' H' H'' hi ⟨ev, kvs, rfl, e', hk, hkeys, hkl⟩ ⟨rfl, hy1⟩
    obtain ⟨e, he, r, rfl, hr1⟩ := paired_at pr hy1
    have hr2 := e' _ _ hr1
    have nrd : r ≠ d := ne_of_none hr1 hd
    refine ⟨_, rfl, _, rfl, r, _, 0, _, rfl, rfl, SqT.of hr2, rfl, d, _, rfl, DPut.k (k := Sum.inr e.1) hk (sz _ (by omega)), ?_⟩
    have hr3 : upd H'' d (.dK (putK kvs (Sum.inr e.1) (.bl true))) r = some (.tup [.str e.1, .str e.2.1, .int e.2.2]) := by rw [upd_ne nrd]; exact hr2
    have l1 := length_putK kvs (Sum.inr e.1 : Key) (.bl true)
    refine ⟨_, rfl, _, rfl, r, _, 1, _, rfl, rfl, SqT.of hr3, rfl, d, _, rfl, DPut.k (k := Sum.inr e.2.1) upd_same (sz _ (by omega)), ?_⟩
    have l2 := length_putK (putK kvs (Sum.inr e.1 : Key) (.bl true)) (Sum.inr e.2.1) (.bl true)
    exact ⟨_, _, rfl, ex_mut (ex_mut e' hd) hd, upd_same, by rw [keysOf_take he]; exact putK_keys (putK_keys hkeys), by omega⟩
  · rintro σ' H' ⟨ev, kvs, rfl, e', hk, hkeys, _⟩
    rw [hxl, List.take_length] at hkeys
    exact ⟨_, rfl, d, kvs, _, rfl, hk, hkeys, fun p hp => q p _ (Evl.fresh_back e' hp) (e'.trans (Evl.Ex.new hp)) upd_same⟩
def spArn (K : PySem.W.Frag) : Sp := fun vs H Q _ => ∃ a ns x d, vs = [.ref a, x] ∧ H a = some (.lst (ns.map V.str)) ∧ ns.length ≤ 400000 ∧ Dt H x d ∧ ∀ H2, Ex H H2 → Q (.bl (areNum ns d)) H2
abbrev Nare_numbers : List Str := ["names", "value", "name"]
theorem scare_numbers : FnScope Nare_numbers ["names", "value"] (defScope (top 6)) := ⟨rfl, rfl, rfl, by decide +kernel, rfl, by decide +kernel, by decide +kernel⟩
theorem ok_arn (T : Txt K mg) (C_is_number : Cal P w K mg base CX0 1 "is_number" ["value"] (spNum K)) : Cal P w K mg base CX0 2 "are_numbers" ["names", "value"] (spArn K) := by
  refine mkCal T.g_are_numbers T.d_are_numbers scare_numbers (fun _ _ _ _ _ _ us hl => match us, hl with | [_, _], _ => rfl) (fun vs H Q E h => ?_) fun cdv A outer s H vs Q E hr h => ?_
  · obtain ⟨x, _, _, d, rfl, _⟩ := h; rfl
  obtain ⟨a, ns, x, d, rfl, ha, hn, hd, q⟩ := h
  refine ⟨_, (pss_cut (ps_if (PW.pt (pw_or (pt_not (pt_val (pe_callB (isiR (K := K)) (by rfl) T.n_isinstance (by decide +kernel) (pa_cons (pv 1) (pa_cons (pe_bltn (v := .ty "dict") rfl T.n_dict (by decide +kernel) rfl) pa_nil))))) (pw_or1 (pt_cmpR op_ne (pe_callB call_lenK (by rfl) T.n_len PySem.boot_len (pa_cons (pv 1) pa_nil)) (pe_callB (lenL (K := K)) (by rfl) T.n_len PySem.boot_len (pa_cons (pv 0) pa_nil)) (nomark _))))) (pss_one (ps_ret pe_bl)) pss_nil)
      (pss_one (ps_ret (pe_callB (allR (K := K) rfl) (by rfl) T.n_all (by decide +kernel) (pa_cons (pe_lc (own := [("name", 2)]) (g := gName 2) rfl scare_numbers.nd (piL (K := K) (pv 0)) (blkOk_by (N := Nare_numbers) (sc := defScope (top 6)) (by decide +kernel)) (fun _ _ _ _ _ => (pg_name (i := 2) scare_numbers.nd rfl (Or.inl rfl))) (fun _ _ _ _ _ => pts_nil) (fun _ _ _ _ _ => (pe_and (pe_cmp (pc_din (hu_of hr) (pv 2) (pv 1))) (pe_one (pe_cal (E := E0) C_is_number (hr.mono (by decide)) pass0 (pa_cons (pe_dget (hu_of hr) (pv 1) (pv 2) (fun _ _ => rfl)) pa_nil)))))) pa_nil))))), ?_⟩
  refine ⟨fun σ' H' => (∃ es, d = .dict es ∧ es.length = ns.length) ∧ σ' = [some (.ref a), some x, none] ∧ H = H', ?_, ?_⟩
  · refine ⟨_, rfl, x, _, _, _, _, rfl, .ty "dict", ty_dt hd, kit_ty (kit_dict d), _, rfl, ?_⟩
    cases h1 : isT "dict" d with
    | false =>
      have e : areNum ns d = false := by cases d <;> first | rfl | (exfalso; revert h1; simp [isT])
      rw [e] at q
      exact q H (Evl.Ex.refl H)
    | true =>
      obtain ⟨es, rfl⟩ := isT_dict h1
      obtain ⟨b, kvs, rfl, hs, hk⟩ := dt_dict hd
      refine ⟨_, rfl, b, kvs, rfl, hs, _, rfl, a, _, rfl, .inl (SqL.of ha), rfl, _, rfl, ?_⟩
      have hkl : kvs.length = es.length := hk.length
      refine ite2 (fun h2 => ?_) fun h2 => ?_
      · have h2' : ¬ es.length = ns.length := fun z => by rw [List.length_map, hkl, z] at h2; simp at h2
        have e : areNum ns (.dict es) = false := by show (decide _ && _) = false; rw [decide_eq_false h2']; rfl
        rw [e] at q
        exact q H (Evl.Ex.refl H)
      · refine ⟨⟨es, rfl, ?_⟩, rfl, rfl⟩
        apply Classical.byContradiction
        intro z
        refine h2 ?_
        rw [List.length_map, hkl]
        show (!decide (V.int es.length = V.int ns.length)) = true
        rw [decide_eq_false fun e => z (by injection e with e; omega)]; rfl
  · rintro σ' H' ⟨⟨es, rfl, hlen⟩, rfl, rfl⟩
    obtain ⟨b, kvs, rfl, hs, hk⟩ := dt_dict hd
    refine ⟨_, rfl, a, rfl, ⟨_, SqL.of ha⟩, fun D hD => ?_⟩
    refine lcB (K := K) walk_list (fun H' e => SqL.of (e _ _ ha)) (by rw [List.length_map]; omega) (fun i => entNum es (ns.getD i Str.empty)) (fun i => [some (.ref a), some (.ref b), some (.str (ns.getD i Str.empty))])
      (fun i y G' H' H'' hi a' yy Q q => turn_name (σ0 := [some (.ref a), some (.ref b), none]) (j := 2) a' yy (by
        rw [List.length_map] at hi
        rw [List.getElem?_map, List.getD_eq_getElem?_getD, List.getElem?_eq_getElem hi]; rfl) q) (fun _ _ => rfl) (fun i H' hi e Q q => ?_) hD (fun H' e hl' => ?_)
    · have hs' := e _ _ hs
      have hd := DGet.k (k := Sum.inr (ns.getD i Str.empty)) hs'
      refine ⟨_, rfl, _, rfl, b, _, rfl, hd, _, rfl, ?_⟩
      rcases dkv_look hk (ns.getD i Str.empty) with ⟨e1, e2⟩ | ⟨v, d, e1, e2, fv⟩
      · rw [e1]
        unfold entNum at q
        rw [e2] at q
        exact q H' (Evl.Ex.refl H')
      · rw [e1]
        unfold entNum at q
        rw [e2] at q
        rw [e1] at hd
        refine ⟨_, rfl, _, rfl, b, v, rfl, hd, v, d, rfl, ?_, q H' (Evl.Ex.refl H')⟩
        cases fv with
        | int i => exact .int i
        | bl b => exact .bl b
    · refine ⟨D, _, rfl, hl', ?_⟩
      rw [List.length_map, range_map ns Str.empty (entNum es), List.all_map]
      have e2 : areNum ns (.dict es) = (ns.all (entNum es)) := by
        show (decide _ && _) = _
        rw [decide_eq_true hlen]; rfl
      rw [e2] at q
      exact q H' e
def metB (N : Str → Int) (es : List Bd) : Bool := es.all fun e => decide (N e.1 - N e.2.1 ≤ e.2.2)
def spMet (K : PySem.W.Frag) : Sp := fun vs H Q _ => ∃ a es b kvs N, vs = [.ref a, .ref b] ∧ Bds H a es ∧ es.length ≤ 100000 ∧ H b = some (.dK kvs) ∧ (∀ e ∈ es, valV kvs (Sum.inr e.1) = some (.int (N e.1)) ∧ valV kvs (Sum.inr e.2.1) = some (.int (N e.2.1))) ∧ ∀ H2, Ex H H2 → Q (.bl (metB N es)) H2
abbrev Nare_met : List Str := ["edges", "numbers", "edge"]
theorem scare_met : FnScope Nare_met ["edges", "numbers"] (defScope (top 7)) := ⟨rfl, rfl, rfl, by decide +kernel, rfl, by decide +kernel, by decide +kernel⟩
theorem ok_met (T : Txt K mg) : Cal P w K mg base CX0 1 "are_met" ["edges", "numbers"] (spMet K) := by
  refine mkCal T.g_are_met T.d_are_met scare_met (fun _ _ _ _ _ _ us hl => match us, hl with | [_, _], _ => rfl) (fun vs H Q E h => ?_) fun cdv A outer s H vs Q E hr h => ?_
  · obtain ⟨x, _, _, _, d, rfl, _⟩ := h; rfl
  obtain ⟨a, es, b, kvs, N, rfl, ⟨xs, hx, pr⟩, hn, hb, hN, q⟩ := h
  refine ⟨_, (pss_one (ps_ret (pe_callB (allR (K := K) rfl) (by rfl) T.n_all (by decide +kernel) (pa_cons (pe_lc (own := [("edge", 2)]) (g := gName 2) rfl scare_met.nd (piL (K := K) (pv 0)) (blkOk_by (N := Nare_met) (sc := defScope (top 7)) (by decide +kernel)) (fun _ _ _ _ _ => (pg_name (i := 2) scare_met.nd rfl (Or.inl rfl))) (fun _ _ _ _ _ => pts_nil) (fun _ _ _ _ _ => (pe_cmpR op_le (pe_op op_sub (pe_dget (hu_of hr) (pv 1) (pe_ix (ixT (K := K)) (pv 2) pe_int (fun _ _ => rfl)) (fun _ _ => rfl)) (pe_dget (hu_of hr) (pv 1) (pe_ix (ixT (K := K)) (pv 2) pe_int (fun _ _ => rfl)) (fun _ _ => rfl))) (pe_ix (ixT (K := K)) (pv 2) pe_int (fun _ _ => rfl)) (nomark _)))) pa_nil)))), ?_⟩
  have hxl := pr.length
  refine ⟨_, rfl, a, rfl, ⟨xs, SqL.of hx⟩, fun D hD => ?_⟩
  let d0 : Bd := (Str.empty, Str.empty, 0)
  refine lcB (K := K) walk_list (fun H' e => SqL.of (e _ _ hx)) (by omega) (fun i => decide (N (es.getD i d0).1 - N (es.getD i d0).2.1 ≤ (es.getD i d0).2.2)) (fun i => [some (.ref a), some (.ref b), some (xs.getD i .non)])
    (fun i y G' H' H'' hi a' yy Q q => turn_name (σ0 := [some (.ref a), some (.ref b), none]) (j := 2) a' yy (by rw [List.getD_eq_getElem?_getD]; simp [hi]) q) (fun _ _ => rfl) (fun i H' hi e Q q => ?_) hD (fun H' e hl' => ?_)
  · obtain ⟨ed, he, r, hv, hr1⟩ := paired_at pr (i := i) (a := xs.getD i .non) (by rw [List.getD_eq_getElem?_getD]; simp [hi])
    obtain ⟨n1, n2⟩ := hN ed (List.mem_of_getElem? he)
    have g1 := DGet.k (k := Sum.inr ed.1) (e _ _ hb)
    have g2 := DGet.k (k := Sum.inr ed.2.1) (e _ _ hb)
    rw [n1] at g1
    rw [n2] at g2
    have hr2 := SqT.of (K := K) (e _ _ hr1)
    rw [hv]
    rw [getD_of he] at q
    exact ⟨_, rfl, _, rfl, r, _, 0, _, rfl, rfl, hr2, rfl, b, _, rfl, g1, _, rfl, _, rfl, r, _, 1, _, rfl, rfl, hr2, rfl, b, _, rfl, g2, _, _, rfl, rfl, _, rfl, r, _, 2, _, rfl, rfl, hr2, rfl, _, _, rfl, rfl, q H' (Evl.Ex.refl H')⟩
  · refine ⟨D, _, rfl, hl', ?_⟩
    rw [hxl, range_map es d0 (fun e => decide (N e.1 - N e.2.1 ≤ e.2.2)), List.all_map]
    exact q H' e
end
end K43
namespace K43
open PySem PySem.Spec PyProof.Rows L2 Hx Hd M43
open Evl (pss_cut tCut ex_l ex_t)
abbrev St43 := M43.S Str
/-- the dict of numbers of a state -/
def nkv (L : List Str) (s : St43) : List (Key × V) := L.map fun v => (Sum.inr v, V.int (num s v))
theorem nkv_at {L : List Str} {s : St43} : ∀ {z : Str}, z ∈ L → valV (nkv L s) (Sum.inr z) = some (.int (num s z)) := by
  induction L with
  | nil => intro z h; cases h
  | cons y L ih =>
    intro z h
    by_cases hy : y = z
    · subst hy; exact valV_pos rfl
    · have : valV (nkv (y :: L) s) (Sum.inr z) = valV (nkv L s) (Sum.inr z) := valV_neg fun e => hy (Sum.inr.inj e)
      rw [this]
      exact ih (by rcases List.mem_cons.mp h with e | h; exact absurd e.symm hy; exact h)
theorem nkv_put {L : List Str} {s s' : St43} {y : Str} {n : Int} (hy : y ∈ L) (h1 : num s' y = n) (h2 : ∀ v, v ≠ y → num s' v = num s v) : putK (nkv L s) (Sum.inr y) (.int n) = nkv L s' := by
  unfold putK
  rw [valV_any, nkv_at hy]
  show (if true = true then _ else _) = _
  rw [if_pos rfl]
  unfold nkv
  rw [List.map_map]
  apply List.map_congr_left
  intro v _
  show (if (Sum.inr v : Key) = Sum.inr y then ((Sum.inr v : Key), V.int n) else (Sum.inr v, V.int (num s v))) = (Sum.inr v, V.int (num s' v))
  by_cases hv : v = y
  · rw [if_pos (by rw [hv]), hv, h1]
  · rw [if_neg fun e => hv (Sum.inr.inj e), h2 v hv]
theorem nodup_len {l : List Str} : ∀ {L : List Str}, l.Nodup → (∀ z ∈ l, z ∈ L) → l.length ≤ L.length := by
  induction l with
  | nil => intro L _ _; exact Nat.zero_le _
  | cons z l ih =>
    intro L h1 h2
    obtain ⟨n1, n2⟩ := List.nodup_cons.mp h1
    have hz := h2 z (List.mem_cons_self ..)
    have := ih (L := L.erase z) n2 fun y hy => (List.mem_erase_of_ne fun e => n1 (by rw [← e]; exact hy)).mpr (h2 y (List.mem_cons_of_mem _ hy))
    rw [List.length_erase_of_mem hz] at this
    have : 0 < L.length := List.length_pos_of_mem hz
    rw [List.length_cons]; omega
/-- the dict of marks of a state -/
structure MK (H : Hp) (mk : List (Key × V)) (L : List Str) (s : St43) : Prop where
  off : ∀ z, s.m z = none → valV mk (Sum.inr z) = none
  on : ∀ z e, s.m z = some e → ∃ v, valV mk (Sum.inr z) = some v ∧ Tb H v e
  keys : ∃ l : List Str, mk.map (·.1) = l.map Sum.inr ∧ l.Nodup ∧ ∀ z ∈ l, z ∈ L
theorem MK.len {H : Hp} {mk : List (Key × V)} {L : List Str} {s : St43} (h : MK H mk L s) : mk.length ≤ L.length := by
  obtain ⟨l, h1, h2, h3⟩ := h.keys
  have := congrArg List.length h1
  rw [List.length_map, List.length_map] at this
  rw [this]; exact nodup_len h2 h3
theorem MK.tk {H H' : Hp} {mk : List (Key × V)} {L : List Str} {s : St43} (h : MK H mk L s) (k : ∀ v e, Tb H v e → Tb H' v e) : MK H' mk L s :=
  ⟨h.off, fun z e he => let ⟨v, a, b⟩ := h.on z e he; ⟨v, a, k v e b⟩, h.keys⟩
theorem MK.put {H : Hp} {mk : List (Key × V)} {L : List Str} {s s' : St43} {y : Str} {v : V} {e : Bd} (h : MK H mk L s) (hy : y ∈ L) (h1 : s'.m y = some e) (h2 : ∀ z, z ≠ y → s'.m z = s.m z) (t : Tb H v e) : MK H (putK mk (Sum.inr y) v) L s' := by
  refine ⟨fun z hz => ?_, fun z f hf => ?_, ?_⟩
  · have hne : z ≠ y := fun e => by rw [e, h1] at hz; cases hz
    rw [valV_put, if_neg fun e => hne (Sum.inr.inj e)]
    exact h.off z (by rw [← h2 z hne]; exact hz)
  · by_cases hne : z = y
    · rw [hne, h1] at hf
      cases hf
      exact ⟨v, by rw [valV_put, if_pos (by rw [hne])], t⟩
    · obtain ⟨u, a, b⟩ := h.on z f (by rw [← h2 z hne]; exact hf)
      exact ⟨u, by rw [valV_put, if_neg fun e => hne (Sum.inr.inj e)]; exact a, b⟩
  · obtain ⟨l, k1, k2, k3⟩ := h.keys
    refine ⟨addK l y, putK_keys k1, addK_nodup k2, fun z hz => ?_⟩
    rcases addK_mem.mp hz with hz | rfl
    · exact k3 z hz
    · exact hy
def lst : Option Str → V
  | none => .non
  | some v => .str v
theorem tb_keep {H H' : Hp} {v : V} {e : Bd} (k : ∀ b xs, H b = some (.tup xs) → H' b = some (.tup xs)) (h : Tb H v e) : Tb H' v e := by
  obtain ⟨r, rfl, hr⟩ := h
  exact ⟨r, rfl, k _ _ hr⟩
theorem ne_tup {H : Hp} {a b : Addr} {xs : List V} {kvs : List (Key × V)} (h1 : H a = some (.tup xs)) (h2 : H b = some (.dK kvs)) : a ≠ b := fun z => by
  rw [z, h2] at h1; cases h1
theorem ne_lst {H : Hp} {a b : Addr} {xs : List V} {kvs : List (Key × V)} (h1 : H a = some (.lst xs)) (h2 : H b = some (.dK kvs)) : a ≠ b := fun z => by
  rw [z, h2] at h1; cases h1
/-- all but two as it was -/
abbrev K2 (p q : Addr) (H H' : Hp) : Prop := ∀ b o, b ≠ p → b ≠ q → H b = some o → H' b = some o
theorem foldl_take {α β : Type} {f : β → α → β} {b : β} {es : List α} {i : Nat} {e : α} (h : es[i]? = some e) : (es.take (i + 1)).foldl f b = f ((es.take i).foldl f b) e := by
  rw [List.take_succ, h]
  show List.foldl _ _ (es.take i ++ [e]) = _
  rw [List.foldl_append]
  rfl
section
variable {P : Program} {w : World} {K : PySem.W.Frag} {mg : Str → Option Value} {base : Heap}
def spRaised (K : PySem.W.Frag) : Sp := fun vs H Q _ => ∃ pn pm a es L s mk, vs = [.ref pn, .ref pm, .ref a] ∧ H pn = some (.dK (nkv L s)) ∧ H pm = some (.dK mk) ∧ pn ≠ pm ∧ MK H mk L s ∧ Bds H a es ∧ es.length ≤ 100000 ∧ L.length ≤ 100000 ∧ ends es L ∧ (∀ v ∈ L, (s.d v).isSome = true) ∧
  ∀ mk' H2, K2 pn pm H H2 → H2 pn = some (.dK (nkv L (rnd es s).1)) → H2 pm = some (.dK mk') → MK H2 mk' L (rnd es s).1 → Q (lst (rnd es s).2) H2
abbrev Nraised : List Str := ["numbers", "marks", "edges", "last", "edge", "least"]
theorem scraised : FnScope Nraised ["numbers", "marks", "edges"] (defScope (top 8)) := ⟨rfl, rfl, rfl, by decide +kernel, rfl, by decide +kernel, by decide +kernel⟩
theorem ok_raised (T : Txt K mg) : Cal P w K mg base CX0 1 "raised" ["numbers", "marks", "edges"] (spRaised K) := by
  refine mkCal T.g_raised T.d_raised scraised (fun _ _ _ _ _ _ us hl => match us, hl with | [_, _, _], _ => rfl) (fun vs H Q E h => ?_) fun cdv A outer s0 H vs Q E hr h => ?_
  · obtain ⟨x, _, _, _, _, _, _, rfl, _⟩ := h; rfl
  obtain ⟨pn, pm, a, es, L, s, mk, rfl, hpn, hpm, hne, hmk, ⟨xs, hx, pr⟩, hes, hL, hends, hd, q⟩ := h
  refine ⟨_, (pss_cons (ps_set (i := 3) scraised.nd rfl (Or.inl rfl) pe_non)
      (pss_cons (ps_for PassesOwn.never rfl (piL (K := K) (pv 2)) (pg_name (i := 4) scraised.nd rfl (Or.inl rfl)) (pss_cons (ps_set (i := 5) scraised.nd rfl (Or.inl rfl) (pe_op op_sub (pe_dget (hu_of hr) (pv 0) (pe_ix (ixT (K := K)) (pv 4) pe_int (fun _ _ => rfl)) (fun _ _ => rfl)) (pe_ix (ixT (K := K)) (pv 4) pe_int (fun _ _ => rfl))))
      (pss_one (ps_if (pt_cmpR op_gt (pv 5) (pe_dget (hu_of hr) (pv 0) (pe_ix (ixT (K := K)) (pv 4) pe_int (fun _ _ => rfl)) (fun _ _ => rfl)) (nomark _)) (pss_cons (ps_dput (hu_of hr) (pv 0) (pe_ix (ixT (K := K)) (pv 4) pe_int (fun _ _ => rfl)) (pv 5) rfl)
      (pss_cons (ps_dput (hu_of hr) (pv 1) (pe_ix (ixT (K := K)) (pv 4) pe_int (fun _ _ => rfl)) (pv 4) rfl)
      (pss_one (ps_set (i := 3) scraised.nd rfl (Or.inl rfl) (pe_ix (ixT (K := K)) (pv 4) pe_int (fun _ _ => rfl)))))) pss_nil))))
      (pss_one (ps_ret (pv 3))))), ?_⟩
  have nan := ne_lst hx hpn
  have nam := ne_lst hx hpm
  have hxl := pr.length
  refine ⟨_, rfl, a, rfl, ⟨xs, SqL.of hx⟩, ?_⟩
  refine for_it walk_list (fun i σ' H' => ∃ ev lv mk', σ' = [some (.ref pn), some (.ref pm), some (.ref a), some (lst ((es.take i).foldl stp (s, none)).2), ev, lv] ∧ K2 pn pm H H' ∧ H' pn = some (.dK (nkv L ((es.take i).foldl stp (s, none)).1)) ∧ H' pm = some (.dK mk') ∧ MK H' mk' L ((es.take i).foldl stp (s, none)).1 ∧ ∀ v ∈ L, (((es.take i).foldl stp (s, none)).1.d v).isSome = true)
    ⟨none, none, mk, rfl, fun _ _ _ _ h => h, hpn, hpm, hmk, hd⟩ (fun i σ' H' hi ⟨_, _, _, _, k2, _⟩ => SqL.of (k2 _ _ nan nam hx)) ?_ ?_
  · rintro i x σ' H' H'' hi ⟨ev, lv, mk', rfl, k2, hn1, hm1, hmk1, hd1⟩ ⟨rfl, hy1⟩
    obtain ⟨e, he, r, rfl, hr1⟩ := paired_at pr hy1
    obtain ⟨e1L, e2L⟩ := hends e (List.mem_of_getElem? he)
    have hr2 := k2 _ _ (ne_tup hr1 hpn) (ne_tup hr1 hpm) hr1
    rw [foldl_take he]
    generalize (es.take i).foldl stp (s, none) = p at hn1 hmk1 hd1 ⊢
    obtain ⟨ps, pl⟩ := p
    have hn1 : H'' pn = some (.dK (nkv L ps)) := hn1
    have hmk1 : MK H'' mk' L ps := hmk1
    have hd1 : ∀ v ∈ L, (ps.d v).isSome = true := hd1
    have nrn := ne_tup hr2 hn1
    have nrm := ne_tup hr2 hm1
    have g1 := DGet.k (k := Sum.inr e.1) hn1
    have g2 := DGet.k (k := Sum.inr e.2.1) hn1
    rw [nkv_at e1L] at g1
    rw [nkv_at e2L] at g2
    refine ⟨_, rfl, _, rfl, r, _, 0, _, rfl, rfl, SqT.of hr2, rfl, pn, _, rfl, g1, _, rfl, r, _, 2, _, rfl, rfl, SqT.of hr2, rfl, _, _, rfl, rfl, ?_⟩
    refine ⟨_, rfl, _, rfl, _, rfl, r, _, 1, _, rfl, rfl, SqT.of hr2, rfl, pn, _, rfl, g2, _, _, rfl, rfl, _, rfl, ?_⟩
    obtain ⟨da, hda⟩ := Option.isSome_iff_exists.mp (hd1 _ e1L)
    obtain ⟨db, hdb⟩ := Option.isSome_iff_exists.mp (hd1 _ e2L)
    have na : num ps e.1 = -da := by unfold num; rw [hda]; rfl
    have nb : num ps e.2.1 = -db := by unfold num; rw [hdb]; rfl
    rw [na, nb]
    have hlow : low ps e = decide (da + e.2.2 < db) := by unfold low; rw [hda, hdb]
    refine ite2 (fun h1 => ?_) fun h1 => ?_
    · have h1 : -da - e.2.2 > -db := of_decide_eq_true h1
      have hs : stp (ps, pl) e = (put ps e, some e.2.1) := by unfold stp; rw [if_pos (by rw [hlow]; exact decide_eq_true (by omega))]
      rw [hs]
      have my : (put ps e).m e.2.1 = some e := by simp [put]
      have mn : ∀ v, v ≠ e.2.1 → (put ps e).m v = ps.m v := fun v hv => by simp [put, hv]
      have dy : (put ps e).d e.2.1 = some (da + e.2.2) := by simp [put, hda]
      have dn : ∀ v, v ≠ e.2.1 → (put ps e).d v = ps.d v := fun v hv => by simp [put, hv]
      have hput := nkv_put (L := L) (s := ps) (s' := put ps e) (n := -da - e.2.2) e2L (by unfold num; rw [dy]; show -(da + e.2.2) = _; omega) (fun v hv => by unfold num; rw [dn v hv])
      have hnl : (nkv L ps).length < sizeLine := sz _ (by unfold nkv; rw [List.length_map]; omega)
      refine ⟨_, rfl, _, rfl, _, rfl, r, _, 1, _, rfl, rfl, SqT.of hr2, rfl, pn, _, rfl, DPut.k (k := Sum.inr e.2.1) hn1 hnl, ?_⟩
      rw [hput]
      have hr3 : upd H'' pn (.dK (nkv L (put ps e))) r = some (.tup [.str e.1, .str e.2.1, .int e.2.2]) := by rw [upd_ne nrn]; exact hr2
      have hm3 : upd H'' pn (.dK (nkv L (put ps e))) pm = some (.dK mk') := by rw [upd_ne (Ne.symm hne)]; exact hm1
      refine ⟨_, rfl, _, rfl, _, rfl, r, _, 1, _, rfl, rfl, SqT.of hr3, rfl, pm, _, rfl, DPut.k (k := Sum.inr e.2.1) hm3 (sz _ (by have := hmk1.len; omega)), ?_⟩
      have hr4 : upd (upd H'' pn (.dK (nkv L (put ps e)))) pm (.dK (putK mk' (Sum.inr e.2.1) (.ref r))) r = some (.tup [.str e.1, .str e.2.1, .int e.2.2]) := by rw [upd_ne nrm]; exact hr3
      have kt : ∀ b ys, H'' b = some (.tup ys) → upd (upd H'' pn (.dK (nkv L (put ps e)))) pm (.dK (putK mk' (Sum.inr e.2.1) (.ref r))) b = some (.tup ys) := fun b ys hb => by
        rw [upd_ne (ne_tup hb hm1), upd_ne (ne_tup hb hn1)]; exact hb
      refine ⟨_, rfl, r, _, 1, _, rfl, rfl, SqT.of hr4, rfl, _, _, _, rfl, fun b o h1 h2 hb => ?_, ?_, upd_same, (hmk1.tk fun v f t => tb_keep kt t).put e2L my mn ⟨r, rfl, hr4⟩, fun v hv => ?_⟩
      · rw [upd_ne h2, upd_ne h1]; exact k2 b o h1 h2 hb
      · rw [upd_ne hne]; exact upd_same
      · show ((put ps e).d v).isSome = true
        by_cases hv2 : v = e.2.1
        · rw [hv2, dy]; rfl
        · rw [dn v hv2]; exact hd1 v hv
    · have h1 : ¬ -da - e.2.2 > -db := fun z => h1 (decide_eq_true z)
      have hs : stp (ps, pl) e = (ps, pl) := by unfold stp; rw [if_neg (by rw [hlow]; intro z; have := of_decide_eq_true z; omega)]
      rw [hs]
      exact ⟨_, _, mk', rfl, k2, hn1, hm1, hmk1, hd1⟩
  · rintro σ' H' ⟨ev, lv, mk', rfl, k2, hn1, hm1, hmk1, hd1⟩
    rw [hxl, List.take_length] at hn1 hmk1 ⊢
    exact ⟨_, rfl, q mk' H' k2 hn1 hm1 hmk1⟩
end
end K43
namespace K43
open PySem PySem.Spec PyProof.Rows L2 Hx Hd M43
open Evl (pss_cut tCut ex_l ex_t)
theorem MK.dget {H : Hp} {pm : Addr} {mk : List (Key × V)} {L : List Str} {s : St43} (h : MK H mk L s) (hm : H pm = some (.dK mk)) {z : Str} {e : Bd} (he : s.m z = some e) : ∃ r, DGet H pm (.str z) (some (.ref r)) ∧ H r = some (.tup [.str e.1, .str e.2.1, .int e.2.2]) := by
  obtain ⟨v, h1, r, rfl, hr⟩ := h.on z e he
  have g := DGet.k (k := Sum.inr z) hm
  rw [h1] at g
  exact ⟨r, g, hr⟩
section
variable {P : Program} {w : World} {K : PySem.W.Frag} {mg : Str → Option Value} {base : Heap}
def spRing (K : PySem.W.Frag) : Sp := fun vs H Q _ => ∃ pm v n L s mk p, vs = [.ref pm, .str v, .int (n : Nat)] ∧ H pm = some (.dK mk) ∧ MK H mk L s ∧ n ≤ 100000 ∧ p ≤ 100000 ∧ (∀ j, j < n → (s.m (bks s v j)).isSome = true) ∧ Cyc s (bks s v n) p ∧ (∀ q, 1 ≤ q → q < p → bks s (bks s v n) q ≠ bks s v n) ∧
  ∀ l H2, H l = none → Ex H H2 → Bds H2 l (rgl s (bks s v n) p) → Q (.ref l) H2
abbrev Nring_behind : List Str := ["marks", "name", "many", "_", "ring"]
theorem scring_behind : FnScope Nring_behind ["marks", "name", "many"] (defScope (top 9)) := ⟨rfl, rfl, rfl, by decide +kernel, rfl, by decide +kernel, by decide +kernel⟩
theorem ok_ring (T : Txt K mg) : Cal P w K mg base CX0 1 "ring_behind" ["marks", "name", "many"] (spRing K) := by
  refine mkCal T.g_ring_behind T.d_ring_behind scring_behind (fun _ _ _ _ _ _ us hl => match us, hl with | [_, _, _], _ => rfl) (fun vs H Q E h => ?_) fun cdv A outer s0 H vs Q E hr h => ?_
  · obtain ⟨x, _, _, _, _, _, _, rfl, _⟩ := h; rfl
  obtain ⟨pm, v, n, L, s, mk, p, rfl, hpm, hmk, hn, hp, hm, cy, hfirst, q⟩ := h
  refine ⟨_, (pss_cons (ps_for PassesOwn.never rfl (pi_range1 (by rfl) T.n_range (pa_cons (pv 2) pa_nil)) (pg_name (i := 3) scring_behind.nd rfl (Or.inl rfl)) (pss_one (ps_set (i := 1) scring_behind.nd rfl (Or.inl rfl) (pe_ix (ixT (K := K)) (pe_dget (hu_of hr) (pv 0) (pv 1) (fun _ _ => rfl)) pe_int (fun _ _ => rfl)))))
      (pss_cons (ps_set (i := 4) scring_behind.nd rfl (Or.inl rfl) (pe_lst (pa_cons (pe_dget (hu_of hr) (pv 0) (pv 1) (fun _ _ => rfl)) pa_nil)))
      (pss_cut (ps_while PassesOwn.never (pt_cmpR op_ne (pe_ix (ixT (K := K)) (pe_ix (ixL (K := K)) (pv 4) pe_int (fun _ _ => rfl)) pe_int (fun _ _ => rfl)) (pv 1) (nomark _)) (pss_one (ps_set (i := 4) scring_behind.nd rfl (Or.inl rfl) (pe_op op_cat (pe_lst (pa_cons (pe_dget (hu_of hr) (pv 0) (pe_ix (ixT (K := K)) (pe_ix (ixL (K := K)) (pv 4) pe_int (fun _ _ => rfl)) pe_int (fun _ _ => rfl)) (fun _ _ => rfl)) pa_nil)) (pv 4)))))
      (pss_one (ps_ret (pv 4)))))), ?_⟩
  have bk1 : ∀ u e, s.m u = some e → bk s u = e.1 := fun u e he => by unfold bk; rw [he]
  refine ⟨_, rfl, (n : Int), rfl, by omega, by omega, ?_⟩
  rw [Int.toNat_natCast]
  refine for_it walk_range (fun i σ' H' => ∃ iv, σ' = [some (.ref pm), some (.str (bks s v i)), some (.int (n : Nat)), iv, none] ∧ H = H')
    ⟨none, rfl, rfl⟩ (fun _ _ _ _ _ => trivial) ?_ ?_
  · rintro i x σ' H' H'' hi ⟨iv, rfl, rfl⟩ ⟨rfl, rfl⟩
    obtain ⟨e, he⟩ := Option.isSome_iff_exists.mp (hm i hi)
    obtain ⟨r, g, hr1⟩ := hmk.dget hpm he
    refine ⟨_, rfl, _, rfl, pm, _, rfl, g, r, _, 0, _, rfl, rfl, SqT.of hr1, rfl, some (.int (0 + (i : Int))), ?_, rfl⟩
    rw [show bks s v (i + 1) = e.1 from bk1 _ _ he]
    rfl
  rintro σ' H' ⟨iv, rfl, rfl⟩
  generalize bks s v n = u at cy hfirst q ⊢
  have m0 : (s.m u).isSome = true := cy.mks 0
  obtain ⟨e0, he0⟩ := Option.isSome_iff_exists.mp m0
  obtain ⟨r0, g0, hr0⟩ := hmk.dget hpm he0
  have k0 : mkE s u = e0 := by unfold mkE; rw [he0]; rfl
  refine ⟨_, rfl, _, rfl, pm, _, rfl, g0, Nat.le_of_lt (sz 1 (by omega)), fun l0 hl0 => ?_⟩
  have st0 : Bds (upd H l0 (.lst [.ref r0])) l0 (rgl s u 1) := ⟨_, upd_same, .cons ⟨r0, rfl, by rw [upd_ne (ne_of_none hr0 hl0)]; show _ = some (HO.tup [.str (mkE s u).1, .str (mkE s u).2.1, .int (mkE s u).2.2]); rw [k0]; exact hr0⟩ .nil⟩
  refine ⟨fun σ' H' => ∃ l, σ' = [some (.ref pm), some (.str u), some (.int (n : Nat)), iv, some (.ref l)] ∧ H l = none ∧ Ex H H' ∧ Bds H' l (rgl s u p), ?_, ?_⟩
  · refine ⟨fun m σ' H' => ∃ k l, m = p - k ∧ 1 ≤ k ∧ k ≤ p ∧ σ' = [some (.ref pm), some (.str u), some (.int (n : Nat)), iv, some (.ref l)] ∧ H l = none ∧ Ex H H' ∧ Bds H' l (rgl s u k), ⟨p - 1, 1, l0, rfl, Nat.le_refl _, cy.pos, rfl, hl0, Evl.Ex.new hl0, st0⟩, ?_⟩
    rintro m σ' H' ⟨k, l, rfl, k1, kp, rfl, hl, eH, xs, hxs, pr⟩
    obtain ⟨k', rfl⟩ : ∃ k', k = k' + 1 := ⟨k - 1, by omega⟩
    cases pr with
    | cons t pr =>
      obtain ⟨r, rfl, hr1⟩ := t
      rename_i xs
      obtain ⟨e, he⟩ := Option.isSome_iff_exists.mp (cy.mks k')
      have ke : mkE s (bks s u k') = e := by unfold mkE; rw [he]; rfl
      rw [ke] at hr1
      have hxs' := SqL.of (K := K) hxs
      have eb : bks s u (k' + 1) = e.1 := bk1 _ _ he
      refine ⟨_, rfl, l, _, 0, _, rfl, rfl, hxs', at_of (show (0 : Int) = ((0 : Nat) : Int) from rfl) rfl, r, _, 0, _, rfl, rfl, SqT.of hr1, rfl, _, rfl, rfl, _, rfl, ?_⟩
      have again : Bds H' l (rgl s u (k' + 1)) := ⟨_, hxs, .cons ⟨r, rfl, by rw [ke]; exact hr1⟩ pr⟩
      refine ite2 (fun h1 => ?_) fun h1 => ?_
      · have hne : e.1 ≠ u := fun z => by rw [z] at h1; simp at h1
        have hlt : k' + 1 < p := by
          rcases Nat.eq_or_lt_of_le kp with h | h
          · exact absurd (by rw [← eb, h]; exact cy.cl) hne
          · exact h
        obtain ⟨f, hf⟩ := Option.isSome_iff_exists.mp (cy.mks (k' + 1))
        have kf : mkE s (bks s u (k' + 1)) = f := by unfold mkE; rw [hf]; rfl
        have hpm' := eH _ _ hpm
        have hmk' := hmk.tk fun v e t => tb_ex eH t
        obtain ⟨r2, g2, hr2⟩ := hmk'.dget hpm' (z := e.1) (e := f) (by rw [← eb]; exact hf)
        refine ⟨fun σ' H' => ∃ l, σ' = [some (.ref pm), some (.str u), some (.int (n : Nat)), iv, some (.ref l)] ∧ H l = none ∧ Ex H H' ∧ Bds H' l (rgl s u (k' + 2)), fun σ' H' ⟨l, e1, e2, e3, e4⟩ => ⟨p - (k' + 2), by omega, k' + 2, l, rfl, by omega, by omega, e1, e2, e3, e4⟩, ?_⟩
        refine ⟨_, rfl, _, rfl, l, _, 0, _, rfl, rfl, hxs', at_of (show (0 : Int) = ((0 : Nat) : Int) from rfl) rfl, r, _, 0, _, rfl, rfl, SqT.of hr1, rfl, pm, _, rfl, g2, Nat.le_of_lt (sz 1 (by omega)), fun l1 hl1 => ?_⟩
        have n1 : l ≠ l1 := ne_of_none hxs hl1
        have e2 := Evl.Ex.new hl1 (o := .lst [V.ref r2])
        have hlen : xs.length = k' := by rw [pr.length, rgl_len]
        refine ⟨_, rfl, l1, l, _, _, rfl, rfl, upd_same, (by rw [upd_ne n1]; exact hxs), Nat.le_of_lt (sz _ (by simp; omega)), fun l2 hl2 => ?_⟩
        have e3 := e2.trans (Evl.Ex.new hl2 (o := .lst ([V.ref r2] ++ V.ref r :: xs)))
        refine ⟨l2, rfl, Evl.fresh_back eH (Evl.fresh_back e2 hl2), eH.trans e3, _, upd_same, .cons ⟨r2, rfl, ?_⟩ (Paired.mapP (.cons ⟨r, rfl, by rw [ke]; exact hr1⟩ pr) fun _ _ t => tb_ex e3 t)⟩
        rw [kf]; exact e3 _ _ hr2
      · have he1 : e.1 = u := by
          apply Classical.byContradiction
          intro z
          refine h1 ?_
          show (!decide (V.str e.1 = V.str u)) = true
          rw [decide_eq_false fun e => z (by injection e)]; rfl
        have hp1 : k' + 1 = p := by
          rcases Nat.eq_or_lt_of_le kp with h | h
          · exact h
          · exact absurd (by rw [eb]; exact he1) (hfirst (k' + 1) (by omega) h)
        exact ⟨l, rfl, hl, eH, by rw [← hp1]; exact again⟩
  · rintro σ' H' ⟨l, rfl, hl, eH, hb⟩
    exact ⟨_, rfl, q l H' hl eH hb⟩
end
end K43
namespace K43
open PySem PySem.Spec PyProof.Rows L2 Hx Hd M43
open Evl (pss_cut tCut ex_l ex_t)
theorem fold_put : ∀ (L : List Str) (acc : List (Key × V)), L.Nodup → (∀ v ∈ L, valV acc (Sum.inr v) = none) → (L.map fun v => ((Sum.inr v : Key), V.int 0)).foldl (fun acc p => putK acc p.1 p.2) acc = acc ++ L.map fun v => ((Sum.inr v : Key), V.int 0)
  | [], acc, _, _ => by simp
  | v :: L, acc, hn, h => by
    obtain ⟨n1, n2⟩ := List.nodup_cons.mp hn
    rw [List.map_cons, List.foldl_cons, putK_new _ (h v (List.mem_cons_self ..)), fold_put L _ n2 fun u hu => ?_]
    · rw [List.append_assoc]; rfl
    · rw [valV_snoc _ _ _ _ (h v (List.mem_cons_self ..)), if_neg fun e => n1 (by cases e; exact hu)]
      exact h u (List.mem_cons_of_mem _ hu)
theorem nkv_z0 {L : List Str} : nkv L (z0 L) = L.map fun v => ((Sum.inr v : Key), V.int 0) := by
  unfold nkv
  apply List.map_congr_left
  intro v hv
  have : num (z0 L) v = 0 := by
    show -((if v ∈ L then some (0 : Int) else none).getD 0) = 0
    rw [if_pos hv]; rfl
  rw [this]
theorem k2_ex {p q : Addr} {H H1 H2 : Hp} (e : Ex H H1) (k : K2 p q H1 H2) (hp : H p = none) (hq : H q = none) : Ex H H2 := fun b o hb => k b o (ne_of_none hb hp) (ne_of_none hb hq) (e b o hb)
section
variable {P : Program} {w : World} {K : PySem.W.Frag} {mg : Str → Option Value} {base : Heap}
def spLor (K : PySem.W.Frag) : Sp := fun vs H Q _ => ∃ a0 a L es, vs = [.ref a0, .ref a] ∧ H a0 = some (.lst (L.map V.str)) ∧ L.Nodup ∧ L.length ≤ 100000 ∧ Bds H a es ∧ es.length ≤ 100000 ∧ ends es L ∧
  ((run es L.length (z0 L) none).2 = none → ∀ t p H2, H t = none → H p = none → Ex H H2 → H2 t = some (.tup [.ref p, .non]) → H2 p = some (.dK (nkv L (run es L.length (z0 L) none).1)) → Q (.ref t) H2) ∧
  (∀ v, (run es L.length (z0 L) none).2 = some v → ∃ p, Cyc (run es L.length (z0 L) none).1 (bks (run es L.length (z0 L) none).1 v L.length) p ∧ p ≤ 100000 ∧ (∀ q, 1 ≤ q → q < p → bks (run es L.length (z0 L) none).1 (bks (run es L.length (z0 L) none).1 v L.length) q ≠ bks (run es L.length (z0 L) none).1 v L.length) ∧
    (∀ j, j < L.length → ((run es L.length (z0 L) none).1.m (bks (run es L.length (z0 L) none).1 v j)).isSome = true) ∧
    ∀ t l H2, H t = none → H l = none → Ex H H2 → H2 t = some (.tup [.non, .ref l]) → Bds H2 l (rgl (run es L.length (z0 L) none).1 (bks (run es L.length (z0 L) none).1 v L.length) p) → Q (.ref t) H2)
abbrev Nleast_or_ring : List Str := ["names", "edges", "numbers", "name", "marks", "last", "_"]
theorem scleast_or_ring : FnScope Nleast_or_ring ["names", "edges"] (defScope (top 10)) := ⟨rfl, rfl, rfl, by decide +kernel, rfl, by decide +kernel, by decide +kernel⟩
theorem ok_lor (T : Txt K mg) (C_raised : Cal P w K mg base CX0 1 "raised" ["numbers", "marks", "edges"] (spRaised K)) (C_ring_behind : Cal P w K mg base CX0 1 "ring_behind" ["marks", "name", "many"] (spRing K)) : Cal P w K mg base CX0 2 "least_or_ring" ["names", "edges"] (spLor K) := by
  refine mkCal T.g_least_or_ring T.d_least_or_ring scleast_or_ring (fun _ _ _ _ _ _ us hl => match us, hl with | [_, _], _ => rfl) (fun vs H Q E h => ?_) fun cdv A outer s0 H vs Q E hr h => ?_
  · obtain ⟨x, _, _, _, rfl, _⟩ := h; rfl
  obtain ⟨a0, a, L, es, rfl, ha0, hnd, hL, hbd, hes, hends, q1, q2⟩ := h
  refine ⟨_, (pss_cons (ps_setDc (i := 2) (own := [("name", 3)]) (g := gName 3) rfl scleast_or_ring.nd rfl rfl (sw_dict rfl rfl rfl (by decide +kernel)) (piL (K := K) (pv 0)) (blkOk_by (N := Nleast_or_ring) (sc := defScope (top 10)) (by decide +kernel)) (fun _ _ _ _ _ => (pg_name (i := 3) scleast_or_ring.nd rfl (Or.inl rfl))) (fun _ _ _ _ _ => pts_nil) (fun _ _ _ _ _ => (pv 3)) (fun _ _ _ _ _ => pe_int))
      (pss_cons (ps_set (i := 4) scleast_or_ring.nd rfl (Or.inl rfl) pe_dnewK)
      (pss_cons (ps_set (i := 5) scleast_or_ring.nd rfl (Or.inl rfl) pe_non)
      (pss_cut (ps_for PassesOwn.never rfl (piL (K := K) (pv 0)) (pg_name (i := 6) scleast_or_ring.nd rfl (Or.inl rfl)) (pss_cons (ps_set (i := 5) scleast_or_ring.nd rfl (Or.inl rfl) (pe_cal (E := E0) C_raised (hr.mono (by decide)) pass0 (pa_cons (pv 2) (pa_cons (pv 4) (pa_cons (pv 1) pa_nil)))))
      (pss_one (ps_if (pt_cmpR op_isN (pv 5) pe_non (nomark _)) (pss_one ps_break) pss_nil))))
      (pss_cons (ps_if (pt_cmpR op_isN (pv 5) pe_non (nomark _)) (pss_one (ps_ret (pe_tup (pa_cons (pv 2) (pa_cons pe_non pa_nil))))) pss_nil)
      (pss_one (ps_ret (pe_tup (pa_cons pe_non (pa_cons (pe_cal (E := E0) C_ring_behind (hr.mono (by decide)) pass0 (pa_cons (pv 4) (pa_cons (pv 5) (pa_cons (pe_callB (lenL (K := K)) (by rfl) T.n_len PySem.boot_len (pa_cons (pv 0) pa_nil)) pa_nil)))) pa_nil)))))))))), ?_⟩
  refine ⟨_, rfl, a0, rfl, ⟨_, SqL.of ha0⟩, fun pn hpn => ?_⟩
  refine dcW (M := NoM) walk_list (Evl.Ex.refl H) (fun H' e => SqL.of (e _ _ ha0)) (by rw [List.length_map]; omega) (fun i => (Sum.inr (L.getD i Str.empty), .int 0)) (fun i => [some (.ref a0), some (.ref a), none, some (.str (L.getD i Str.empty)), none, none, none])
    (fun i y G' H' H'' hi a' yy Q q => turn_name (σ0 := [some (.ref a0), some (.ref a), none, none, none, none, none]) (j := 3) a' yy (by
      rw [List.length_map] at hi
      rw [List.getElem?_map, List.getD_eq_getElem?_getD, List.getElem?_eq_getElem hi]; rfl) q) (fun _ _ => rfl) (fun i G' H' hi a' Q q => ⟨_, rfl, q G' H' (Stp.refl a'.gh)⟩) (fun i G' H' hi a' Q q => q G' H' (Stp.refl a'.gh)) (fun _ _ h => h) hpn (fun G1 H1 a1 gD hD1 => ?_)
  have e1 : Ex H H1 := a1.gg.trans a1.gh
  rw [List.length_map, range_map L Str.empty (fun v => ((Sum.inr v : Key), V.int 0)), fold_put L [] hnd (fun _ _ => rfl), List.nil_append, ← nkv_z0] at hD1
  intro pm hpm
  have hpm0 : H pm = none := Evl.fresh_back e1 hpm
  have nnm : pn ≠ pm := ne_of_none hD1 hpm
  have e2 := e1.trans (Evl.Ex.new hpm (o := .dK []))
  have hn2 : upd H1 pm (.dK []) pn = some (.dK (nkv L (z0 L))) := by rw [upd_ne nnm]; exact hD1
  have hm2 : upd H1 pm (.dK []) pm = some (.dK []) := upd_same
  have mk0 : MK (upd H1 pm (.dK [])) [] L (z0 L) := ⟨fun _ _ => rfl, fun z e h => (by cases h), [], rfl, List.nodup_nil, fun _ h => (by cases h)⟩
  generalize upd H1 pm (.dK []) = H2 at e2 hn2 hm2 mk0 ⊢
  refine ⟨fun σ' H' => ∃ mk xv, σ' = [some (.ref a0), some (.ref a), some (.ref pn), none, some (.ref pm), some (lst (run es L.length (z0 L) none).2), xv] ∧ Ex H H' ∧ H' pn = some (.dK (nkv L (run es L.length (z0 L) none).1)) ∧ H' pm = some (.dK mk) ∧ MK H' mk L (run es L.length (z0 L) none).1, ?_, ?_⟩
  · refine ⟨_, rfl, a0, rfl, ⟨_, SqL.of (e2 _ _ ha0)⟩, ?_⟩
    refine for_it walk_list (fun i σ' H' => ∃ mk xv lv, σ' = [some (.ref a0), some (.ref a), some (.ref pn), none, some (.ref pm), some (lst lv), xv] ∧ Ex H H' ∧ H' pn = some (.dK (nkv L (it es i (z0 L)))) ∧ H' pm = some (.dK mk) ∧ MK H' mk L (it es i (z0 L)) ∧ (∀ v ∈ L, ((it es i (z0 L)).d v).isSome = true) ∧
        (∀ j, j < i → (rnd es (it es j (z0 L))).2 ≠ none) ∧ (i = 0 → lv = none) ∧ ∀ j, i = j + 1 → lv = (rnd es (it es j (z0 L))).2)
      ⟨[], none, none, rfl, e2, hn2, hm2, mk0, fun v hv => (by show (if v ∈ L then some (0 : Int) else none).isSome = true; rw [if_pos hv]; rfl), fun j hj => (by omega), fun _ => rfl, fun j hj => (by omega)⟩ (fun i σ' H' hi ⟨_, _, _, _, e', _⟩ => SqL.of (e' _ _ ha0)) ?_ ?_
    · rintro i x σ' H' H'' hi ⟨mk, xv, lv, rfl, e', hn1, hm1, hmk1, hd1, hall, hl0, hl1⟩ ⟨rfl, hy1⟩
      have hiL : i < L.length := by simpa using hi
      refine ⟨_, rfl, _, rfl, _, rfl, pn, pm, a, es, L, it es i (z0 L), mk, rfl, hn1, hm1, nnm, hmk1, hbd.ex e', hes, hL, hends, hd1, fun mk' H3 k3 hn3 hm3 hmk3 => ?_⟩
      have e3 := k2_ex e' k3 hpn hpm0
      refine ⟨_, rfl, rfl, _, rfl, ?_⟩
      cases hr2 : (rnd es (it es i (z0 L))).2 with
      | none =>
        refine ite2 (fun _ => ?_) (fun h => absurd (by simp [lst]) h)
        obtain ⟨l', er, _, _⟩ := run_skip i (z0 L) none (L.length - i - 1 + 1) hall
        rw [run_none hr2, show i + (L.length - i - 1 + 1) = L.length by omega] at er
        rw [er]
        exact ⟨mk', _, rfl, e3, hn3, hm3, hmk3⟩
      | some v =>
        refine ite2 (fun h => absurd h (by simp [lst])) (fun _ => ?_)
        refine ⟨mk', _, some v, rfl, e3, ?_, hm3, ?_, ?_, ?_, fun z => (by omega), fun j hj => ?_⟩
        · rw [it_succ]; exact hn3
        · rw [it_succ]; exact hmk3
        · intro u hu
          rw [it_succ]
          exact rnd_keep (P := fun s => (s.d u).isSome = true) (fun _ _ _ _ h => stp_pres h) (hd1 u hu)
        · intro j hj
          rcases Nat.eq_or_lt_of_le (show j ≤ i by omega) with rfl | h
          · rw [hr2]; exact fun z => by cases z
          · exact hall j h
        · obtain rfl : i = j := by omega
          exact hr2.symm
    · rintro σ' H' ⟨mk, xv, lv, rfl, e', hn1, hm1, hmk1, hd1, hall, hl0, hl1⟩
      rw [List.length_map] at *
      obtain ⟨l', er, h1, h2⟩ := run_skip L.length (z0 L) none 0 hall
      rw [Nat.add_zero] at er
      have er : run es L.length (z0 L) none = (it es L.length (z0 L), l') := er
      have el : lv = l' := by
        rcases Nat.eq_zero_or_pos L.length with h0 | h0
        · rw [hl0 h0, h1 h0]
        · obtain ⟨j, hj⟩ : ∃ j, L.length = j + 1 := ⟨L.length - 1, by omega⟩
          rw [hl1 j hj, h2 j hj]
      rw [er]
      exact ⟨mk, xv, by rw [el], e', hn1, hm1, hmk1⟩
  · rintro σ' H' ⟨mk, xv, rfl, e', hn1, hm1, hmk1⟩
    refine ⟨_, rfl, rfl, _, rfl, ?_⟩
    cases hr2 : (run es L.length (z0 L) none).2 with
    | none =>
      refine ite2 (fun _ => ?_) (fun h => absurd (by simp [lst]) h)
      refine ⟨_, rfl, Nat.le_of_lt (sz 2 (by omega)), fun t ht => q1 hr2 t pn _ (Evl.fresh_back e' ht) hpn (e'.trans (Evl.Ex.new ht)) upd_same ?_⟩
      rw [upd_ne (ne_of_none hn1 ht)]; exact hn1
    | some v =>
      refine ite2 (fun h => absurd h (by simp [lst])) (fun _ => ?_)
      obtain ⟨p, cy, hp, hf, hm, q2⟩ := q2 v hr2
      refine ⟨_, rfl, _, rfl, _, rfl, a0, _, rfl, .inl (SqL.of (e' _ _ ha0)), pm, v, L.length, L, (run es L.length (z0 L) none).1, mk, p, ?_, hm1, hmk1, hL, hp, hm, cy, hf, fun l H3 hl e3 hb => ?_⟩
      · rw [List.length_map]; rfl
      · refine ⟨Nat.le_of_lt (sz 2 (by omega)), fun t ht => q2 t l _ (Evl.fresh_back e' (Evl.fresh_back e3 ht)) (Evl.fresh_back e' hl) ((e'.trans e3).trans (Evl.Ex.new ht)) upd_same (hb.ex (Evl.Ex.new ht))⟩
end
end K43
namespace K43
open PySem PySem.Spec PyProof.Rows L2 Hx Hd M43
open Evl (pss_cut tCut ex_l ex_t)
/-- the dict of sums of a state -/
structure SK (sk : List (Key × V)) (L : List Str) (s : St43) : Prop where
  get : ∀ z, valV sk (Sum.inr z) = (s.d z).map V.int
  keys : ∃ l : List Str, sk.map (·.1) = l.map Sum.inr ∧ l.Nodup ∧ ∀ z ∈ l, z ∈ L
theorem SK.len {sk : List (Key × V)} {L : List Str} {s : St43} (h : SK sk L s) : sk.length ≤ L.length := by
  obtain ⟨l, h1, h2, h3⟩ := h.keys
  have := congrArg List.length h1
  rw [List.length_map, List.length_map] at this
  rw [this]; exact nodup_len h2 h3
theorem SK.put {sk : List (Key × V)} {L : List Str} {s s' : St43} {y : Str} {n : Int} (h : SK sk L s) (hy : y ∈ L) (h1 : s'.d y = some n) (h2 : ∀ z, z ≠ y → s'.d z = s.d z) : SK (putK sk (Sum.inr y) (.int n)) L s' := by
  refine ⟨fun z => ?_, ?_⟩
  · by_cases hz : z = y
    · rw [hz, valV_put, if_pos rfl, h1]; rfl
    · rw [valV_put, if_neg fun e => hz (Sum.inr.inj e), h2 z hz]; exact h.get z
  · obtain ⟨l, k1, k2, k3⟩ := h.keys
    refine ⟨addK l y, putK_keys k1, addK_nodup k2, fun z hz => ?_⟩
    rcases addK_mem.mp hz with hz | rfl
    · exact k3 z hz
    · exact hy
section
variable {P : Program} {w : World} {K : PySem.W.Frag} {mg : Str → Option Value} {base : Heap}
def spWays (K : PySem.W.Frag) : Sp := fun vs H Q _ => ∃ a x L es j0, vs = [.ref a, .str x] ∧ Bds H a es ∧ es.length ≤ 100000 ∧ ends es L ∧ x ∈ L ∧ L.length ≤ 100000 ∧ (∀ i, i < j0 → (rnd es (it es i (w0 x))).2 ≠ none) ∧ (rnd es (it es j0 (w0 x))).2 = none ∧
  ∀ t ps pm sk mk H2, H t = none → H ps = none → H pm = none → Ex H H2 → H2 t = some (.tup [.ref ps, .ref pm]) → H2 ps = some (.dK sk) → SK sk L (it es j0 (w0 x)) → H2 pm = some (.dK mk) → MK H2 mk L (it es j0 (w0 x)) → Q (.ref t) H2
abbrev Nleast_ways : List Str := ["edges", "start", "sums", "marks", "changed", "edge", "total"]
theorem scleast_ways : FnScope Nleast_ways ["edges", "start"] (defScope (top 11)) := ⟨rfl, rfl, rfl, by decide +kernel, rfl, by decide +kernel, by decide +kernel⟩
theorem ok_ways (T : Txt K mg) : Cal P w K mg base CX0 1 "least_ways" ["edges", "start"] (spWays K) := by
  refine mkCal T.g_least_ways T.d_least_ways scleast_ways (fun _ _ _ _ _ _ us hl => match us, hl with | [_, _], _ => rfl) (fun vs H Q E h => ?_) fun cdv A outer s0 H vs Q E hr h => ?_
  · obtain ⟨x, _, _, _, _, rfl, _⟩ := h; rfl
  obtain ⟨a, x, L, es, j0, rfl, ⟨xs, hx, pr⟩, hes, hends, hxL, hL, hj, hj0, q⟩ := h
  refine ⟨_, (pss_cons (ps_set (i := 2) scleast_ways.nd rfl (Or.inl rfl) (pe_disp (pps_cons (pv 1) pe_int pps_nil) (by rfl) (by rfl) (fun z => by cases z) (by decide)))
      (pss_cons (ps_set (i := 3) scleast_ways.nd rfl (Or.inl rfl) pe_dnewK)
      (pss_cons (ps_set (i := 4) scleast_ways.nd rfl (Or.inl rfl) pe_bl)
      (pss_cut (ps_while PassesOwn.never (pt_val (pv 4)) (pss_cons (ps_set (i := 4) scleast_ways.nd rfl (Or.inl rfl) pe_bl)
      (pss_one (ps_for PassesOwn.never rfl (piL (K := K) (pv 0)) (pg_name (i := 5) scleast_ways.nd rfl (Or.inl rfl)) (pss_one (ps_if (pt_cmp (pc_din (hu_of hr) (pe_ix (ixT (K := K)) (pv 5) pe_int (fun _ _ => rfl)) (pv 2))) (pss_cons (ps_set (i := 6) scleast_ways.nd rfl (Or.inl rfl) (pe_op op_add (pe_dget (hu_of hr) (pv 2) (pe_ix (ixT (K := K)) (pv 5) pe_int (fun _ _ => rfl)) (fun _ _ => rfl)) (pe_ix (ixT (K := K)) (pv 5) pe_int (fun _ _ => rfl))))
      (pss_one (ps_if (PW.pt (pw_or (pt_cmp (pc_dnotin (hu_of hr) (pe_ix (ixT (K := K)) (pv 5) pe_int (fun _ _ => rfl)) (pv 2))) (pw_or1 (pt_cmpR op_lt (pv 6) (pe_dget (hu_of hr) (pv 2) (pe_ix (ixT (K := K)) (pv 5) pe_int (fun _ _ => rfl)) (fun _ _ => rfl)) (nomark _))))) (pss_cons (ps_dput (hu_of hr) (pv 2) (pe_ix (ixT (K := K)) (pv 5) pe_int (fun _ _ => rfl)) (pv 6) rfl)
      (pss_cons (ps_dput (hu_of hr) (pv 3) (pe_ix (ixT (K := K)) (pv 5) pe_int (fun _ _ => rfl)) (pv 5) rfl)
      (pss_one (ps_set (i := 4) scleast_ways.nd rfl (Or.inl rfl) pe_bl)))) pss_nil))) pss_nil))))))
      (pss_one (ps_ret (pe_tup (pa_cons (pv 2) (pa_cons (pv 3) pa_nil))))))))), ?_⟩
  have hxl := pr.length
  intro ps hps
  refine ⟨_, rfl, upd_same, [(Sum.inr x, .int 0)], rfl, (by show 1 ≤ 15; decide), ?_⟩
  have hs1 : upd (upd H ps (.dK [])) ps (.dK (mergeK [] [(Sum.inr x, .int 0)])) ps = some (.dK [(Sum.inr x, .int 0)]) := upd_same
  have e1 : Ex H (upd (upd H ps (.dK [])) ps (.dK (mergeK [] [(Sum.inr x, .int 0)]))) := ex_mut (Evl.Ex.new hps) hps
  generalize upd (upd H ps (.dK [])) ps (.dK (mergeK [] [(Sum.inr x, .int 0)])) = H1 at hs1 e1 ⊢
  intro pm hpm
  have hpm0 : H pm = none := Evl.fresh_back e1 hpm
  have nsm : ps ≠ pm := ne_of_none hs1 hpm
  have e2 := e1.trans (Evl.Ex.new hpm (o := .dK []))
  have hs2 : upd H1 pm (.dK []) ps = some (.dK [(Sum.inr x, .int 0)]) := by rw [upd_ne nsm]; exact hs1
  have hm2 : upd H1 pm (.dK []) pm = some (.dK []) := upd_same
  generalize upd H1 pm (.dK []) = H2 at e2 hs2 hm2 ⊢
  have mk0 : MK H2 [] L (w0 x) := ⟨fun _ _ => rfl, fun z e h => (by cases h), [], rfl, List.nodup_nil, fun _ h => (by cases h)⟩
  have sk0 : SK [(Sum.inr x, .int 0)] L (w0 x) := by
    refine ⟨fun z => ?_, [x], rfl, List.nodup_cons.mpr ⟨by simp, List.nodup_nil⟩, fun z hz => by rw [List.mem_singleton.mp hz]; exact hxL⟩
    show _ = (if z = x then some (0 : Int) else none).map V.int
    by_cases hz : z = x
    · rw [hz, if_pos rfl]; exact valV_pos rfl
    · rw [if_neg hz]
      exact (valV_neg fun e => hz (Sum.inr.inj e).symm).trans valV_nil
  let I : List (Option V) → St43 → Bool → Hp → Prop := fun σ' s b H' => ∃ ev tv sk mk, σ' = [some (.ref a), some (.str x), some (.ref ps), some (.ref pm), some (.bl b), ev, tv] ∧ Ex H H' ∧ H' ps = some (.dK sk) ∧ SK sk L s ∧ H' pm = some (.dK mk) ∧ MK H' mk L s
  refine ⟨fun σ' H' => I σ' (it es j0 (w0 x)) false H', ?_, ?_⟩
  · refine ⟨fun m σ' H' => (∃ j, m = j0 - j + 1 ∧ j ≤ j0 ∧ I σ' (it es j (w0 x)) true H') ∨ (m = 0 ∧ I σ' (it es j0 (w0 x)) false H'), ⟨j0 - 0 + 1, .inl ⟨0, rfl, Nat.zero_le _, none, none, _, _, rfl, e2, hs2, sk0, hm2, mk0⟩⟩, ?_⟩
    rintro m σ' H' (⟨j, rfl, hjj, ev, tv, sk, mk, rfl, e', hs', hsk, hm', hmk⟩ | ⟨rfl, ev, tv, sk, mk, rfl, e', hs', hsk, hm', hmk⟩)
    · refine ⟨_, rfl, _, rfl, ?_⟩
      refine ite2 (fun _ => ?_) (fun h => absurd rfl h)
      refine ⟨fun σ' H' => (j < j0 ∧ I σ' (it es (j + 1) (w0 x)) true H') ∨ I σ' (it es j0 (w0 x)) false H', ?_, ?_⟩
      · rintro σ' H' (⟨h1, h2⟩ | h)
        · exact ⟨j0 - (j + 1) + 1, by omega, .inl ⟨j + 1, rfl, by omega, h2⟩⟩
        · exact ⟨0, by omega, .inr ⟨rfl, h⟩⟩
      refine ⟨_, rfl, a, rfl, ⟨xs, SqL.of (e' _ _ hx)⟩, ?_⟩
      refine for_it walk_list (fun i σ' H' => I σ' ((es.take i).foldl stp (it es j (w0 x), none)).1 ((es.take i).foldl stp (it es j (w0 x), none)).2.isSome H')
        ⟨ev, tv, sk, mk, rfl, e', hs', hsk, hm', hmk⟩ (fun i σ' H' hi ⟨_, _, _, _, _, e', _⟩ => SqL.of (e' _ _ hx)) ?_ ?_
      · rintro i y σ' H' H'' hi ⟨ev, tv, sk, mk, rfl, e', hs', hsk, hm', hmk⟩ ⟨rfl, hy1⟩
        obtain ⟨e, he, r, rfl, hr1⟩ := paired_at pr hy1
        obtain ⟨e1L, e2L⟩ := hends e (List.mem_of_getElem? he)
        have hr2 := e' _ _ hr1
        rw [foldl_take he]
        generalize (es.take i).foldl stp (it es j (w0 x), none) = p at hsk hmk ⊢
        obtain ⟨qs, pl⟩ := p
        have hsk : SK sk L qs := hsk
        have hmk : MK H'' mk L qs := hmk
        have nrs := ne_tup hr2 hs'
        have nrm := ne_tup hr2 hm'
        have g1 := DGet.k (k := Sum.inr e.1) hs'
        have g2 := DGet.k (k := Sum.inr e.2.1) hs'
        rw [hsk.get] at g1 g2
        have skip : low qs e = false → stp (qs, pl) e = (qs, pl) := fun h => by unfold stp; rw [if_neg (by simp [h])]
        refine ⟨_, rfl, r, _, 0, _, rfl, rfl, SqT.of hr2, rfl, _, rfl, ps, _, rfl, g1, _, rfl, ?_⟩
        cases hda : qs.d e.1 with
        | none =>
          refine ite2 (fun h => absurd h (by simp)) (fun _ => ?_)
          rw [skip (by unfold low; rw [hda])]
          exact ⟨_, tv, sk, mk, rfl, e', hs', hsk, hm', hmk⟩
        | some da =>
          refine ite2 (fun _ => ?_) (fun h => absurd (by simp) h)
          rw [hda] at g1
          refine ⟨_, rfl, _, rfl, r, _, 0, _, rfl, rfl, SqT.of hr2, rfl, ps, _, rfl, g1, _, rfl, r, _, 2, _, rfl, rfl, SqT.of hr2, rfl, _, _, rfl, rfl, ?_⟩
          refine ⟨_, rfl, r, _, 1, _, rfl, rfl, SqT.of hr2, rfl, _, rfl, ps, _, rfl, g2, _, rfl, ?_⟩
          have hd2 : low qs e = (match qs.d e.2.1 with | none => true | some b => decide (da + e.2.2 < b)) := by unfold low; first | (rw [hda]; done) | (rw [hda]; rfl)
          have fin : low qs e = true → ∀ (tv' : V), ∀ H3, H'' = H3 → I [some (.ref a), some (.str x), some (.ref ps), some (.ref pm), some (.bl true), some (.ref r), some (.int (da + e.2.2))] (stp (qs, pl) e).1 (stp (qs, pl) e).2.isSome (upd (upd H3 ps (.dK (putK sk (Sum.inr e.2.1) (.int (da + e.2.2))))) pm (.dK (putK mk (Sum.inr e.2.1) (.ref r)))) := by
            rintro hlow _ _ rfl
            have hs : stp (qs, pl) e = (put qs e, some e.2.1) := by unfold stp; rw [if_pos (by simp [hlow])]
            rw [hs]
            have my : (put qs e).m e.2.1 = some e := by simp [put]
            have mn : ∀ v, v ≠ e.2.1 → (put qs e).m v = qs.m v := fun v hv => by simp [put, hv]
            have dy : (put qs e).d e.2.1 = some (da + e.2.2) := by simp [put, hda]
            have dn : ∀ v, v ≠ e.2.1 → (put qs e).d v = qs.d v := fun v hv => by simp [put, hv]
            have kt : ∀ b ys, H'' b = some (.tup ys) → upd (upd H'' ps (.dK (putK sk (Sum.inr e.2.1) (.int (da + e.2.2))))) pm (.dK (putK mk (Sum.inr e.2.1) (.ref r))) b = some (.tup ys) := fun b ys hb => by
              rw [upd_ne (ne_tup hb hm'), upd_ne (ne_tup hb hs')]; exact hb
            refine ⟨_, _, _, _, rfl, ex_mut (ex_mut e' hps) hpm0, ?_, hsk.put e2L dy dn, upd_same, (hmk.tk fun v f t => tb_keep kt t).put e2L my mn ⟨r, rfl, kt _ _ hr2⟩⟩
            rw [upd_ne nsm]; exact upd_same
          have hsl : sk.length < sizeLine := sz _ (by have := hsk.len; omega)
          have hml : mk.length < sizeLine := sz _ (by have := hmk.len; omega)
          have hr3 : upd H'' ps (.dK (putK sk (Sum.inr e.2.1) (.int (da + e.2.2)))) r = some (.tup [.str e.1, .str e.2.1, .int e.2.2]) := by rw [upd_ne nrs]; exact hr2
          have hm3 : upd H'' ps (.dK (putK sk (Sum.inr e.2.1) (.int (da + e.2.2)))) pm = some (.dK mk) := by rw [upd_ne (Ne.symm nsm)]; exact hm'
          cases hdb : qs.d e.2.1 with
          | none =>
            refine ite2 (fun _ => ?_) (fun h => absurd (by simp) h)
            refine ite2 (fun _ => ?_) (fun h => absurd rfl h)
            rw [hdb] at hd2
            refine ⟨_, rfl, _, rfl, _, rfl, r, _, 1, _, rfl, rfl, SqT.of hr2, rfl, ps, _, rfl, DPut.k (k := Sum.inr e.2.1) hs' hsl, ?_⟩
            refine ⟨_, rfl, _, rfl, _, rfl, r, _, 1, _, rfl, rfl, SqT.of hr3, rfl, pm, _, rfl, DPut.k (k := Sum.inr e.2.1) hm3 hml, ?_⟩
            exact fin hd2 .non _ rfl
          | some db =>
            refine ite2 (fun h => absurd h (by simp)) (fun _ => ?_)
            rw [hdb] at g2 hd2
            refine ⟨_, rfl, _, rfl, _, rfl, r, _, 1, _, rfl, rfl, SqT.of hr2, rfl, ps, _, rfl, g2, _, _, rfl, rfl, _, rfl, ?_⟩
            refine ite2 (fun h1 => ?_) (fun h1 => ?_)
            · refine ⟨_, rfl, _, rfl, _, rfl, r, _, 1, _, rfl, rfl, SqT.of hr2, rfl, ps, _, rfl, DPut.k (k := Sum.inr e.2.1) hs' hsl, ?_⟩
              refine ⟨_, rfl, _, rfl, _, rfl, r, _, 1, _, rfl, rfl, SqT.of hr3, rfl, pm, _, rfl, DPut.k (k := Sum.inr e.2.1) hm3 hml, ?_⟩
              exact fin (hd2.trans h1) .non _ rfl
            · rw [skip (hd2.trans (by rw [Bool.not_eq_true] at h1; exact h1))]
              exact ⟨_, _, sk, mk, rfl, e', hs', hsk, hm', hmk⟩
      · intro σ' H' h
        rw [hxl, List.take_length] at h
        have h : I σ' (rnd es (it es j (w0 x))).1 (rnd es (it es j (w0 x))).2.isSome H' := h
        cases hc : (rnd es (it es j (w0 x))).2 with
        | none =>
          rw [hc, (rnd_calm hc).1] at h
          have : j = j0 := by
            rcases Nat.eq_or_lt_of_le hjj with h | h
            · exact h
            · exact absurd hc (hj j h)
          rw [this] at h
          exact .inr h
        | some v =>
          rw [hc] at h
          have hlt : j < j0 := by
            rcases Nat.eq_or_lt_of_le hjj with h | h
            · rw [h, hj0] at hc; cases hc
            · exact h
          exact .inl ⟨hlt, by rw [it_succ]; exact h⟩
    · refine ⟨_, rfl, _, rfl, ?_⟩
      refine ite2 (fun h => absurd h (by simp)) (fun _ => ⟨ev, tv, sk, mk, rfl, e', hs', hsk, hm', hmk⟩)
  · rintro σ' H' ⟨ev, tv, sk, mk, rfl, e', hs', hsk, hm', hmk⟩
    refine ⟨_, rfl, _, rfl, Nat.le_of_lt (sz 2 (by omega)), fun t ht => ?_⟩
    refine q t ps pm sk mk _ (Evl.fresh_back e' ht) hps hpm0 (e'.trans (Evl.Ex.new ht)) upd_same ?_ hsk ?_ (hmk.tk fun v e t => tb_ex (Evl.Ex.new ht) t)
    · rw [upd_ne (ne_of_none hs' ht)]; exact hs'
    · rw [upd_ne (ne_of_none hm' ht)]; exact hm'
end
end K43
namespace K43
open PySem PySem.Spec PyProof.Rows L2 Hx Hd M43
open Evl (pss_cut tCut ex_l ex_t)
section
variable {P : Program} {w : World} {K : PySem.W.Frag} {mg : Str → Option Value} {base : Heap}
def spBack (K : PySem.W.Frag) : Sp := fun vs H Q _ => ∃ pm x y L s mk p, vs = [.ref pm, .str x, .str y] ∧ H pm = some (.dK mk) ∧ MK H mk L s ∧ p ≤ 100000 ∧ bks s y p = x ∧ (∀ i, i < p → bks s y i ≠ x ∧ (s.m (bks s y i)).isSome = true) ∧
  ∀ l H2, H l = none → Ex H H2 → Bds H2 l (rgl s y p) → Q (.ref l) H2
abbrev Nway_back : List Str := ["marks", "start", "name", "way"]
theorem scway_back : FnScope Nway_back ["marks", "start", "name"] (defScope (top 12)) := ⟨rfl, rfl, rfl, by decide +kernel, rfl, by decide +kernel, by decide +kernel⟩
theorem ok_back (T : Txt K mg) : Cal P w K mg base CX0 1 "way_back" ["marks", "start", "name"] (spBack K) := by
  refine mkCal T.g_way_back T.d_way_back scway_back (fun _ _ _ _ _ _ us hl => match us, hl with | [_, _, _], _ => rfl) (fun vs H Q E h => ?_) fun cdv A outer s0 H vs Q E hr h => ?_
  · obtain ⟨x, _, _, _, _, _, _, rfl, _⟩ := h; rfl
  obtain ⟨pm, x, y, L, s, mk, p, rfl, hpm, hmk, hp, hx, hm, q⟩ := h
  refine ⟨_, (pss_cons (ps_set (i := 3) scway_back.nd rfl (Or.inl rfl) (pe_lst pa_nil))
      (pss_cut (ps_while PassesOwn.never (pt_cmpR op_ne (pv 2) (pv 1) (nomark _)) (pss_cons (ps_set (i := 3) scway_back.nd rfl (Or.inl rfl) (pe_op op_cat (pe_lst (pa_cons (pe_dget (hu_of hr) (pv 0) (pv 2) (fun _ _ => rfl)) pa_nil)) (pv 3)))
      (pss_one (ps_set (i := 2) scway_back.nd rfl (Or.inl rfl) (pe_ix (ixT (K := K)) (pe_ix (ixL (K := K)) (pv 3) pe_int (fun _ _ => rfl)) pe_int (fun _ _ => rfl))))))
      (pss_one (ps_ret (pv 3))))), ?_⟩
  have bk1 : ∀ u e, s.m u = some e → bk s u = e.1 := fun u e he => by unfold bk; rw [he]
  refine ⟨Nat.zero_le _, fun l0 hl0 => ?_⟩
  refine ⟨fun σ' H' => ∃ l nv, σ' = [some (.ref pm), some (.str x), nv, some (.ref l)] ∧ H l = none ∧ Ex H H' ∧ Bds H' l (rgl s y p), ?_, ?_⟩
  · refine ⟨fun m σ' H' => ∃ k l, m = p - k ∧ k ≤ p ∧ σ' = [some (.ref pm), some (.str x), some (.str (bks s y k)), some (.ref l)] ∧ H l = none ∧ Ex H H' ∧ Bds H' l (rgl s y k), ⟨p - 0, 0, l0, rfl, Nat.zero_le _, rfl, hl0, Evl.Ex.new hl0, [], upd_same, .nil⟩, ?_⟩
    rintro m σ' H' ⟨k, l, rfl, kp, rfl, hl, eH, xs, hxs, pr⟩
    refine ⟨_, rfl, _, rfl, rfl, _, rfl, ?_⟩
    refine ite2 (fun h1 => ?_) fun h1 => ?_
    · have hne : bks s y k ≠ x := fun z => by rw [z] at h1; simp at h1
      have hlt : k < p := by
        rcases Nat.eq_or_lt_of_le kp with h | h
        · exact absurd (by rw [h]; exact hx) hne
        · exact h
      obtain ⟨e, he⟩ := Option.isSome_iff_exists.mp (hm k hlt).2
      have ke : mkE s (bks s y k) = e := by unfold mkE; rw [he]; rfl
      have eb : bks s y (k + 1) = e.1 := bk1 _ _ he
      have hpm' := eH _ _ hpm
      have hmk' := hmk.tk fun v e t => tb_ex eH t
      obtain ⟨r2, g2, hr2⟩ := hmk'.dget hpm' (z := bks s y k) (e := e) he
      refine ⟨fun σ' H' => ∃ l, σ' = [some (.ref pm), some (.str x), some (.str (bks s y (k + 1))), some (.ref l)] ∧ H l = none ∧ Ex H H' ∧ Bds H' l (rgl s y (k + 1)), fun σ' H' ⟨l, e1, e2, e3, e4⟩ => ⟨p - (k + 1), by omega, k + 1, l, rfl, hlt, e1, e2, e3, e4⟩, ?_⟩
      refine ⟨_, rfl, _, rfl, pm, _, rfl, g2, Nat.le_of_lt (sz 1 (by omega)), fun l1 hl1 => ?_⟩
      have n1 : l ≠ l1 := ne_of_none hxs hl1
      have e2 := Evl.Ex.new hl1 (o := .lst [V.ref r2])
      have hlen : xs.length = k := by rw [pr.length, rgl_len]
      refine ⟨_, rfl, l1, l, _, _, rfl, rfl, upd_same, (by rw [upd_ne n1]; exact hxs), Nat.le_of_lt (sz _ (by simp; omega)), fun l2 hl2 => ?_⟩
      have e3 := e2.trans (Evl.Ex.new hl2 (o := .lst ([V.ref r2] ++ xs)))
      have hr3 := e3 _ _ hr2
      refine ⟨_, rfl, l2, _, 0, _, rfl, rfl, SqL.of upd_same, at_of (show (0 : Int) = ((0 : Nat) : Int) from rfl) rfl, r2, _, 0, _, rfl, rfl, SqT.of hr3, rfl, ?_⟩
      refine ⟨l2, by rw [eb]; rfl, Evl.fresh_back eH (Evl.fresh_back e2 hl2), eH.trans e3, _, upd_same, .cons ⟨r2, rfl, ?_⟩ (Paired.mapP pr fun _ _ t => tb_ex e3 t)⟩
      rw [ke]; exact hr3
    · have he1 : bks s y k = x := by
        apply Classical.byContradiction
        intro z
        refine h1 ?_
        show (!decide (V.str (bks s y k) = V.str x)) = true
        rw [decide_eq_false fun e => z (by injection e)]; rfl
      have hkp : k = p := by
        rcases Nat.eq_or_lt_of_le kp with h | h
        · exact h
        · exact absurd he1 (hm k h).1
      exact ⟨l, _, rfl, hl, eH, xs, hxs, by rw [← hkp]; exact pr⟩
  · rintro σ' H' ⟨l, nv, rfl, hl, eH, hb⟩
    exact ⟨_, rfl, q l H' hl eH hb⟩
/-! the errors' __init__ -/
def spIni (C : Addr) (f : Str) : Sp := fun vs H Q _ => ∃ a y, vs = [.ref a, y] ∧ H a = some (exo a C none) ∧ ∀ dx, H dx = none → dx ≠ a → Q .non (upd (upd H dx (exd dx [(f, y)])) a (exo a C (some dx)))
theorem scBV : FnScope ["self", "name"] ["self", "name"] (defScope (inClass (top 20) 0)) := ⟨rfl, rfl, rfl, by decide +kernel, rfl, by decide +kernel, by decide +kernel⟩
theorem scTM : FnScope ["self", "word"] ["self", "word"] (defScope (inClass (top 22) 0)) := ⟨rfl, rfl, rfl, by decide +kernel, rfl, by decide +kernel, by decide +kernel⟩
theorem ok_iniBV (T : Txt K mg) : ∃ fd, FnOk P w K mg base CX0 1 (He.ma K (He.ga K "BadValue") "__init__") fd ["self", "name"] (spIni (He.ga K "BadValue") "name") ∧ Binds K fd ["self", "name"] [] := by
  obtain ⟨fd, F⟩ := T.i_BadValue
  refine ⟨fd, F.ok scBV (fun vs H Q E h => ?_) (fun cdv A outer s H vs Q E hr h => ?_), F.bindsN fun _ _ _ _ _ _ us hl => match us, hl with | [_, _], _ => rfl⟩
  · obtain ⟨x, d, rfl, _⟩ := h; rfl
  obtain ⟨a, y, rfl, ha, q⟩ := h
  refine ⟨_, pss_one (ps_ost (pv 0) (pv 1)), ?_⟩
  exact ⟨_, rfl, _, rfl, a, _, rfl, T.x_BadValue.oex, T.x_BadValue.noF.1, .inl ⟨ha, fun dx h1 h2 => q dx h1 h2⟩⟩
theorem ok_iniTM (T : Txt K mg) : ∃ fd, FnOk P w K mg base CX0 1 (He.ma K (He.ga K "TooMany") "__init__") fd ["self", "word"] (spIni (He.ga K "TooMany") "word") ∧ Binds K fd ["self", "word"] [] := by
  obtain ⟨fd, F⟩ := T.i_TooMany
  refine ⟨fd, F.ok scTM (fun vs H Q E h => ?_) (fun cdv A outer s H vs Q E hr h => ?_), F.bindsN fun _ _ _ _ _ _ us hl => match us, hl with | [_, _], _ => rfl⟩
  · obtain ⟨x, d, rfl, _⟩ := h; rfl
  obtain ⟨a, y, rfl, ha, q⟩ := h
  refine ⟨_, pss_one (ps_ost (pv 0) (pv 1)), ?_⟩
  exact ⟨_, rfl, _, rfl, a, _, rfl, T.x_TooMany.oex, T.x_TooMany.noF.2, .inl ⟨ha, fun dx h1 h2 => q dx h1 h2⟩⟩
/-- how an error of a class with one field is told -/
def Err (C : Addr) (f : Str) (z : Str) (H : Hp) (E : XK) : Prop := ∀ d H2, Ex H H2 → H d = none → H2 d = some (.xd [(f, .str z)]) → E (.ref C) (some d) H2
theorem raises {C : Addr} {f z : Str} {H : Hp} {E : XK} (q : Err C f z H E) {H1 : Hp} (e : Ex H H1) : ∀ a, H1 a = none → spIni C f (.ref a :: ([V.str z] ++ [])) (upd H1 a (exo a C none))
      (fun v H2 => v = .non ∧ ∃ (d : Addr) (fs : List (Str × V)), H2 a = some (exo a C (some d)) ∧ H2 d = some (exd d fs) ∧ H1 d = none ∧ E (.ref C) (some d) (upd (L2.del H2 a) d (.xd fs))) (fun _ _ _ => False) := by
  intro a ha
  refine ⟨a, _, rfl, upd_same, fun dx hx hne => ⟨rfl, dx, _, upd_same, by rw [upd_ne hne, upd_same], ?_, q dx _ ?_ ?_ upd_same⟩⟩
  · rw [upd_ne hne] at hx; exact hx
  · intro b o hb
    have hb1 := e b o hb
    have n1 : b ≠ a := ne_of_none hb1 ha
    have n2 : b ≠ dx := ne_of_none hb1 (by rw [upd_ne hne] at hx; exact hx)
    rw [upd_ne n2, L2.del_ne n1, upd_ne n1, upd_ne n2, upd_ne n1]
    exact hb1
  · rw [upd_ne hne] at hx
    exact Evl.fresh_back e hx
def spChk (K : PySem.W.Frag) : Sp := fun vs H Q E => ∃ x d, vs = [x] ∧ Dt H x d ∧ (∀ ds, d = .list ds → ds.length ≤ 100000) ∧ (isBds d = true → ∀ H2, Ex H H2 → Q .non H2) ∧ (isBds d = false → Err (He.ga K "BadValue") "name" "bounds" H E)
abbrev Ncheck_bounds : List Str := ["bounds"]
theorem sccheck_bounds : FnScope Ncheck_bounds ["bounds"] (defScope (top 28)) := ⟨rfl, rfl, rfl, by decide +kernel, rfl, by decide +kernel, by decide +kernel⟩
theorem ok_check (T : Txt K mg) (C_are_bounds : Cal P w K mg base CX0 3 "are_bounds" ["value"] (spAB K)) : Cal P w K mg base (L2.CX P w) 4 "check_bounds" ["bounds"] (spChk K) := by
  obtain ⟨fdB, FB, bB⟩ := ok_iniBV (P := P) (w := w) (base := base) T
  refine mkCalX T.g_check_bounds T.d_check_bounds sccheck_bounds (fun _ _ _ _ _ _ us hl => match us, hl with | [_], _ => rfl) (fun vs H Q E h => ?_) fun cdv A outer s H vs Q E hr h => ?_
  · obtain ⟨x, d, rfl, _⟩ := h; rfl
  obtain ⟨x, d, rfl, hd, hz, q1, q2⟩ := h
  refine ⟨_, (pss_one (ps_if (PT.nox (pt_not (pt_val (pe_cal (E := E0) C_are_bounds (hr.mono (by decide)) pass0 (pa_cons (pv 0) pa_nil)))))
    (pss_one (ps_raise rfl (takes_of rfl rfl rfl rfl) (pmk_oex T.x_BadValue.oex T.x_BadValue.ini T.x_BadValue.tyI FB (hr.mono (by decide)) bB .nil pass0 rfl T.g_BadValue (pa_cons pe_str pa_nil)))) pss_nil)), ?_⟩
  refine ⟨_, rfl, x, d, rfl, hd, hz, fun H2 e => ⟨_, rfl, ?_⟩⟩
  cases hb : isBds d with
  | true => exact q1 hb H2 e
  | false => exact ⟨by decide, raises (q2 hb) e⟩
end
end K43
namespace K43
open PySem PySem.Spec PyProof.Rows L2 Hx Hd M43
open Evl (pss_cut tCut ex_l ex_t)
theorem leS_iff {a b : Str} : leS a b = true ↔ a.cps.toList ≤ b.cps.toList := by
  show PySem.W.dataLe false (fun z : Str => PyData.str z) a b = true ↔ _
  rw [PySem.W.dataLe_str (fun z : Str => z)]
  exact decide_eq_true_iff
theorem str_inj {a b : Str} (h : a.cps.toList = b.cps.toList) : a = b := by
  cases a; cases b
  congr 1
  exact Array.toList_inj.mp h
theorem leS_anti {a b : Str} (h1 : leS a b = true) (h2 : leS b a = true) : a = b := str_inj (List.le_antisymm (leS_iff.mp h1) (leS_iff.mp h2))
theorem leS_trans (a b c : Str) (h1 : leS a b = true) (h2 : leS b c = true) : leS a c = true := leS_iff.mpr (List.le_trans (leS_iff.mp h1) (leS_iff.mp h2))
theorem leS_total (a b : Str) : (leS a b || leS b a) = true := by
  rw [Bool.or_eq_true]
  rcases List.le_total a.cps.toList b.cps.toList with h | h
  · exact .inl (leS_iff.mpr h)
  · exact .inr (leS_iff.mpr h)
theorem sortS (l : List Str) : (l.mergeSort leS).Pairwise (fun a b => leS a b = true) := List.pairwise_mergeSort leS_trans leS_total l
theorem sort_eq {l m : List Str} (h : l.Perm m) : l.mergeSort leS = m.mergeSort leS :=
  List.Perm.eq_of_pairwise (fun x y _ _ h1 h2 => leS_anti h1 h2) (sortS l) (sortS m) (((List.mergeSort_perm l leS).trans h).trans (List.mergeSort_perm m leS).symm)
theorem keysOf_gen (es : List Bd) : ∀ (l : List Str), l.Nodup → (es.foldl (fun l e => addK (addK l e.1) e.2.1) l).Nodup ∧ (∀ z, z ∈ es.foldl (fun l e => addK (addK l e.1) e.2.1) l ↔ z ∈ l ∨ ∃ e ∈ es, z = e.1 ∨ z = e.2.1) ∧ (es.foldl (fun l e => addK (addK l e.1) e.2.1) l).length ≤ l.length + 2 * es.length := by
  have al : ∀ (l : List Str) z, (addK l z).length ≤ l.length + 1 := fun l z => by unfold addK; split <;> simp
  induction es with
  | nil => intro l h; exact ⟨h, fun z => by simp, by simp⟩
  | cons e es ih =>
    intro l h
    obtain ⟨h1, h2, h3⟩ := ih (addK (addK l e.1) e.2.1) (addK_nodup (addK_nodup h))
    refine ⟨h1, fun z => ?_, ?_⟩
    · rw [List.foldl_cons, h2, addK_mem, addK_mem]
      constructor
      · rintro (((h | h) | h) | ⟨f, hf, hz⟩)
        · exact .inl h
        · exact .inr ⟨e, List.mem_cons_self .., .inl h⟩
        · exact .inr ⟨e, List.mem_cons_self .., .inr h⟩
        · exact .inr ⟨f, List.mem_cons_of_mem _ hf, hz⟩
      · rintro (h | ⟨f, hf, hz⟩)
        · exact .inl (.inl (.inl h))
        · rcases List.mem_cons.mp hf with rfl | hf
          · rcases hz with hz | hz
            · exact .inl (.inl (.inr hz))
            · exact .inl (.inr hz)
          · exact .inr ⟨f, hf, hz⟩
    · rw [List.foldl_cons, List.length_cons]
      have a1 := al (addK l e.1) e.2.1
      have a2 := al l e.1
      omega
theorem nms_mem {es : List Bd} {z : Str} : z ∈ nms es ↔ ∃ e ∈ es, z = e.1 ∨ z = e.2.1 := by
  unfold nms
  rw [List.mem_mergeSort]
  unfold keysOf
  rw [(keysOf_gen es [] List.nodup_nil).2.1]
  exact ⟨fun h => h.resolve_left (by simp), .inr⟩
theorem nms_nodup (es : List Bd) : (nms es).Nodup := (List.mergeSort_perm _ _).nodup_iff.mpr (keysOf_gen es [] List.nodup_nil).1
theorem nms_len (es : List Bd) : (nms es).length ≤ 2 * es.length := by
  unfold nms
  rw [List.length_mergeSort]
  have := (keysOf_gen es [] List.nodup_nil).2.2
  simpa [keysOf] using this
theorem nms_ends (es : List Bd) : ends es (nms es) := fun e he => ⟨nms_mem.mpr ⟨e, he, .inl rfl⟩, nms_mem.mpr ⟨e, he, .inr rfl⟩⟩
/-- a list of just these names, none twice, sorted -/
theorem nms_of {zs : List Str} {es : List Bd} (hn : zs.Nodup) (h : ∀ z, z ∈ zs ↔ ∃ e ∈ es, z = e.1 ∨ z = e.2.1) : zs.mergeSort leS = nms es := by
  refine sort_eq ((List.perm_ext_iff_of_nodup hn (keysOf_gen es [] List.nodup_nil).1).mpr fun z => ?_)
  rw [h z]
  exact ⟨fun k => ((keysOf_gen es [] List.nodup_nil).2.1 z).mpr (.inr k), fun k => (((keysOf_gen es [] List.nodup_nil).2.1 z).mp k).resolve_left (by simp)⟩
/-- a ring over bounds -/
structure RingOk (es way : List Bd) : Prop where
  ne : way ≠ []
  mem : ∀ e ∈ way, e ∈ es
  sum : ∃ a t, along a way = some (a, t) ∧ t < 0
  nod : way.Pairwise (· ≠ ·)
theorem ring_ok {es : List Bd} {L : List Str} (hL : ends es L) {v : Str} (h : (run es L.length (z0 L) none).2 = some v) : ∃ p, Cyc (run es L.length (z0 L) none).1 (bks (run es L.length (z0 L) none).1 v L.length) p ∧ p ≤ L.length ∧
    (∀ q, 1 ≤ q → q < p → bks (run es L.length (z0 L) none).1 (bks (run es L.length (z0 L) none).1 v L.length) q ≠ bks (run es L.length (z0 L) none).1 v L.length) ∧ (∀ j, j < L.length → ((run es L.length (z0 L) none).1.m (bks (run es L.length (z0 L) none).1 v j)).isSome = true) ∧
    RingOk es (rgl (run es L.length (z0 L) none).1 (bks (run es L.length (z0 L) none).1 v L.length) p) := by
  obtain ⟨hv, b, hm, p0, hp0, c0⟩ := ring_there hL (Nat.le_refl _) h
  obtain ⟨p, ⟨pc, p1⟩, hpp, hl⟩ := least (P := fun p => Cyc (run es L.length (z0 L) none).1 (bks (run es L.length (z0 L) none).1 v L.length) p ∧ p ≤ L.length) ⟨c0, hp0⟩
  have hf : ∀ q, 1 ≤ q → q < p → bks (run es L.length (z0 L) none).1 (bks (run es L.length (z0 L) none).1 v L.length) q ≠ bks (run es L.length (z0 L) none).1 v L.length := fun q q1 qp e => hl q qp ⟨⟨q1, e, pc.mks⟩, by omega⟩
  refine ⟨p, pc, p1, hf, hm, fun z => ?_, rgl_mem b fun j _ => pc.mks j, ⟨bks (run es L.length (z0 L) none).1 v L.length, _, ?_, closed_neg b pc.pos (fun j _ => pc.mks j) pc.cl⟩, rgl_nodup b pc hf⟩
  · have := congrArg List.length z
    rw [rgl_len] at this
    have := pc.pos
    simp at *
    omega
  · have := rgl_along b (u := bks (run es L.length (z0 L) none).1 v L.length) (n := p) fun j _ => pc.mks j
    rw [pc.cl] at this
    exact this
section
variable {P : Program} {w : World} {K : PySem.W.Frag} {mg : Str → Option Value} {base : Heap}
/-- what settled gives -/
def SetOut (Q : VK) (H : Hp) (es : List Bd) : Prop :=
  ((run es (nms es).length (z0 (nms es)) none).2 = none → ∀ t p H2, H t = none → H p = none → Ex H H2 → H2 t = some (.tup [.str "numbers", .ref p]) → H2 p = some (.dK (nkv (nms es) (run es (nms es).length (z0 (nms es)) none).1)) → Q (.ref t) H2) ∧
  ((run es (nms es).length (z0 (nms es)) none).2 ≠ none → ∀ t r xs way H2, RingOk es way → H t = none → H r = none → Ex H H2 → H2 t = some (.tup [.str "ring", .ref r]) → H2 r = some (.tup xs) → Paired (Tb H2) xs way → Q (.ref t) H2)
def spSet (K : PySem.W.Frag) : Sp := fun vs H Q E => ∃ x d, vs = [x] ∧ Dt H x d ∧ (∀ ds, d = .list ds → ds.length ≤ 100000) ∧ (isBds d = false → Err (He.ga K "BadValue") "name" "bounds" H E) ∧
  ∀ es : List Bd, d = .list (es.map encB) → (1000 < es.length → Err (He.ga K "TooMany") "word" "bounds" H E) ∧ (es.length ≤ 1000 → SetOut Q H es)
theorem Err.mono {C : Addr} {f z : Str} {H H1 : Hp} {E : XK} (h : Err C f z H E) (e : Ex H H1) : Err C f z H1 E := fun d H2 e2 n q => h d H2 (e.trans e2) (Evl.fresh_back e n) q
theorem dt_bds {H : Hp} {x : V} {es : List Bd} (h : Dt H x (.list (es.map encB))) : ∃ a, x = .ref a ∧ Bds H a es := by
  obtain ⟨a, xs, rfl, h1, h2⟩ := dt_list h
  exact ⟨a, rfl, xs, h1, dta_paired (enc := encB) (fun v b => dt_tb) h2⟩
theorem Bds.dt {H : Hp} {a : Addr} {es : List Bd} (h : Bds H a es) : Dt H (.ref a) (.list (es.map encB)) := by
  obtain ⟨xs, h1, h2⟩ := h
  exact .lst h1 (paired_dta (enc := encB) (fun v b => tb_dt) h2)
abbrev Nsettled : List Str := ["bounds", "numbers", "ring"]
theorem scsettled : FnScope Nsettled ["bounds"] (defScope (top 30)) := ⟨rfl, rfl, rfl, by decide +kernel, rfl, by decide +kernel, by decide +kernel⟩
theorem ok_settled (T : Txt K mg) (C_check : Cal P w K mg base (L2.CX P w) 4 "check_bounds" ["bounds"] (spChk K)) (C_names_of : Cal P w K mg base CX0 1 "names_of" ["edges"] (spNames K)) (C_least_or_ring : Cal P w K mg base CX0 2 "least_or_ring" ["names", "edges"] (spLor K)) :
    Cal P w K mg base (L2.CX P w) 5 "settled" ["bounds"] (spSet K) := by
  obtain ⟨fdB, FB, bB⟩ := ok_iniTM (P := P) (w := w) (base := base) T
  obtain ⟨ct, hct⟩ := T.c_MOST_BOUNDS
  refine mkCalX T.g_settled T.d_settled scsettled (fun _ _ _ _ _ _ us hl => match us, hl with | [_], _ => rfl) (fun vs H Q E h => ?_) fun cdv A outer s H vs Q E hr h => ?_
  · obtain ⟨x, d, rfl, _⟩ := h; rfl
  obtain ⟨x, d, rfl, hd, hz, q1, q2⟩ := h
  refine ⟨_, (pss_cons (ps_expr (pe_cal (E := E) C_check (hr.mono (by decide)) (passes_call (takes_of rfl rfl rfl rfl) (fun _ _ _ _ h => h)) (pa_cons (pv 0) pa_nil)))
    (pss_cut (ps_if (PT.nox (pt_cmpR op_gt (pe_callB (lenL (K := K)) (by rfl) T.n_len PySem.boot_len (pa_cons (pv 0) pa_nil)) (pe_glob (v := .int 1000) rfl hct ⟨_, rfl⟩) (nomark _)))
      (pss_one (ps_raise rfl (takes_of rfl rfl rfl rfl) (pmk_oex T.x_TooMany.oex T.x_TooMany.ini T.x_TooMany.tyI FB (hr.mono (by decide)) bB .nil pass0 rfl T.g_TooMany (pa_cons pe_str pa_nil)))) pss_nil)
    (PSs.nox (pss_cons (ps_asg (pe_cal (E := E0) C_least_or_ring (hr.mono (by decide)) pass0 (pa_cons (pe_cal (E := E0) C_names_of (hr.mono (by decide)) pass0 (pa_cons (pv 0) pa_nil)) (pa_cons (pv 0) pa_nil))) (pgTup (K := K) rfl (pgs_cons (pg_name (i := 1) scsettled.nd rfl (Or.inl rfl)) (pgs_cons (pg_name (i := 2) scsettled.nd rfl (Or.inl rfl)) pgs_nil))))
      (pss_cons (ps_if (pt_cmpR op_notN (pv 2) pe_non (nomark _)) (pss_one (ps_ret (pe_tup (pa_cons pe_str (pa_cons (pe_callTy (tupOf (K := K)) (by rfl) T.n_tuple (by decide +kernel) (pa_cons (pv 2) pa_nil)) pa_nil))))) pss_nil)
      (pss_one (ps_ret (pe_tup (pa_cons pe_str (pa_cons (pv 1) pa_nil)))))))))), ?_⟩
  refine ⟨_, rfl, x, d, rfl, hd, hz, fun hw H1 e1 => ?_, q1⟩
  obtain ⟨es, rfl⟩ := isBds_enc hw
  obtain ⟨a, rfl, hb⟩ := dt_bds hd
  have hb1 := hb.ex e1
  obtain ⟨xs, hx, pr⟩ := id hb1
  have hxl := pr.length
  obtain ⟨q3, q4⟩ := q2 es rfl
  refine ⟨fun σ' H' => σ' = [some (.ref a), none, none] ∧ H1 = H' ∧ es.length ≤ 1000, ?_, ?_⟩
  · refine ⟨_, rfl, a, xs, rfl, .inl (SqL.of hx), _, 1000, rfl, rfl, _, rfl, ?_⟩
    refine ite2 (fun h1 => ?_) (fun h1 => ?_)
    · have h1 := of_decide_eq_true h1
      exact ⟨by decide, fun b hb => raises ((q3 (by omega)).mono e1) (Evl.Ex.refl _) b hb⟩
    · exact ⟨rfl, rfl, by have : ¬ (1000 : Int) < (xs.length : Int) := fun z => h1 (decide_eq_true z)
                          omega⟩
  rintro σ' H' ⟨rfl, rfl, hl⟩
  obtain ⟨q5, q6⟩ := q4 hl
  have nl := nms_len es
  refine ⟨_, rfl, a, es, rfl, hb1, by omega, fun an H2 hn2 e2 han => ?_⟩
  refine ⟨_, rfl, an, a, nms es, es, rfl, han, nms_nodup es, by omega, hb1.ex e2, by omega, nms_ends es, fun hrun t p H3 ht hp e3 h3 h4 => ?_, fun v hrun => ?_⟩
  · refine ⟨t, _, rfl, SqT.of h3, rfl, _, _, rfl, _, _, rfl, rfl, ?_⟩
    refine ⟨_, rfl, rfl, _, rfl, ?_⟩
    refine ite2 (fun h => absurd h (by simp)) (fun _ => ?_)
    have e13 := (e1.trans e2).trans e3
    refine ⟨_, rfl, Nat.le_of_lt (sz 2 (by omega)), fun t2 ht2 => q5 hrun t2 p _ (Evl.fresh_back e13 ht2) (Evl.fresh_back (e1.trans e2) hp) (e13.trans (Evl.Ex.new ht2)) upd_same ?_⟩
    rw [upd_ne (ne_of_none h4 ht2)]; exact h4
  · obtain ⟨p, cy, hp, hf, hm, rok⟩ := ring_ok (nms_ends es) hrun
    refine ⟨p, cy, by omega, hf, hm, fun t l H3 ht hl e3 h3 ⟨rs, h4, pr4⟩ => ?_⟩
    refine ⟨t, _, rfl, SqT.of h3, rfl, _, _, rfl, _, _, rfl, rfl, ?_⟩
    refine ⟨_, rfl, rfl, _, rfl, ?_⟩
    refine ite2 (fun _ => ?_) (fun h => absurd (by simp) h)
    have e13 := (e1.trans e2).trans e3
    refine ⟨_, rfl, l, rs, rfl, .inl ⟨SqL.of h4, fun r hr => ?_⟩⟩
    have e4 := Evl.Ex.new hr (o := .tup rs)
    refine ⟨Nat.le_of_lt (sz 2 (by omega)), fun t2 ht2 => ?_⟩
    have e5 := Evl.Ex.new ht2 (o := .tup [V.str "ring", V.ref r])
    refine q6 (by rw [hrun]; exact fun z => by cases z) t2 r rs _ _ rok (Evl.fresh_back (e13.trans e4) ht2) (Evl.fresh_back e13 hr) ((e13.trans e4).trans e5) upd_same ?_ (Paired.mapP pr4 fun v b t => tb_ex (e4.trans e5) t)
    exact e5 _ _ upd_same
end
end K43
namespace K43
open PySem PySem.Spec PyProof.Rows L2 Hx Hd M43
open Evl (pss_cut tCut ex_l ex_t)
/-- the least sums of ways from x -/
def rch (es : List Bd) (L : List Str) (x : Str) : St43 := (run es (L.length + 1) (w0 x) none).1
theorem rch_eq {es : List Bd} {L : List Str} {x : Str} {j : Nat} (h1 : j ≤ L.length) (h2 : ∀ i, i < j → (rnd es (it es i (w0 x))).2 ≠ none) (h3 : (rnd es (it es j (w0 x))).2 = none) : run es (L.length + 1) (w0 x) none = (it es j (w0 x), none) := by
  obtain ⟨l', er, _, _⟩ := run_skip j (w0 x) none (L.length - j + 1) h2
  rw [run_none h3, show j + (L.length - j + 1) = L.length + 1 by omega, (rnd_calm h3).1] at er
  exact er
/-- the names of bounds and of two ends -/
abbrev nmx (es : List Bd) (x y : Str) : List Str := nms (es ++ [(x, y, 0)])
theorem nmx_mem {es : List Bd} {x y z : Str} : z ∈ nmx es x y ↔ z ∈ nms es ∨ z = x ∨ z = y := by
  rw [nms_mem, nms_mem]
  constructor
  · rintro ⟨e, he, hz⟩
    rcases List.mem_append.mp he with he | he
    · exact .inl ⟨e, he, hz⟩
    · rw [List.mem_singleton.mp he] at hz; exact .inr hz
  · rintro (⟨e, he, hz⟩ | hz)
    · exact ⟨e, List.mem_append.mpr (.inl he), hz⟩
    · exact ⟨(x, y, 0), List.mem_append.mpr (.inr (List.mem_singleton.mpr rfl)), hz⟩
theorem nmx_ends (es : List Bd) (x y : Str) : ends es (nmx es x y) := fun e he => nms_ends (es ++ [(x, y, 0)]) e (List.mem_append.mpr (.inl he))
theorem nmx_x (es : List Bd) (x y : Str) : x ∈ nmx es x y := nmx_mem.mpr (.inr (.inl rfl))
theorem nmx_y (es : List Bd) (x y : Str) : y ∈ nmx es x y := nmx_mem.mpr (.inr (.inr rfl))
theorem nmx_len (es : List Bd) (x y : Str) : (nmx es x y).length ≤ 2 * es.length + 2 := by
  have := nms_len (es ++ [(x, y, 0)])
  rw [List.length_append] at this
  simpa [Nat.mul_add] using this
section
variable {P : Program} {w : World} {K : PySem.W.Frag} {mg : Str → Option Value} {base : Heap}
def isStr (d : PyData) : Bool := match d with | .str _ => true | _ => false
theorem isStr_T (d : PyData) : isT "str" d = isStr d := by cases d <;> rfl
theorem isStr_of {d : PyData} (h : isStr d = true) : ∃ z, d = .str z := by cases d <;> first | exact ⟨_, rfl⟩ | cases h
def spEnds (K : PySem.W.Frag) : Sp := fun vs H Q E => ∃ b db x dx y dy, vs = [b, x, y] ∧ Dt H b db ∧ Dt H x dx ∧ Dt H y dy ∧ (∀ ds, db = .list ds → ds.length ≤ 100000) ∧
  (isBds db = false → Err (He.ga K "BadValue") "name" "bounds" H E) ∧ (isBds db = true → isStr dx = false → Err (He.ga K "BadValue") "name" "x" H E) ∧ (isBds db = true → isStr dx = true → isStr dy = false → Err (He.ga K "BadValue") "name" "y" H E) ∧
  (isBds db = true → isStr dx = true → isStr dy = true → ∀ H2, Ex H H2 → Q .non H2)
abbrev Ncheck_ends : List Str := ["bounds", "x", "y"]
theorem sccheck_ends : FnScope Ncheck_ends ["bounds", "x", "y"] (defScope (top 29)) := ⟨rfl, rfl, rfl, by decide +kernel, rfl, by decide +kernel, by decide +kernel⟩
theorem ok_cends (T : Txt K mg) (C_check : Cal P w K mg base (L2.CX P w) 4 "check_bounds" ["bounds"] (spChk K)) : Cal P w K mg base (L2.CX P w) 5 "check_ends" ["bounds", "x", "y"] (spEnds K) := by
  obtain ⟨fdB, FB, bB⟩ := ok_iniBV (P := P) (w := w) (base := base) T
  refine mkCalX T.g_check_ends T.d_check_ends sccheck_ends (fun _ _ _ _ _ _ us hl => match us, hl with | [_, _, _], _ => rfl) (fun vs H Q E h => ?_) fun cdv A outer s H vs Q E hr h => ?_
  · obtain ⟨_, _, _, _, _, _, rfl, _⟩ := h; rfl
  obtain ⟨b, db, x, dx, y, dy, rfl, hb, hx, hy, hz, q1, q2, q3, q4⟩ := h
  refine ⟨_, (pss_cons (ps_expr (pe_cal (E := E) C_check (hr.mono (by decide)) (passes_call (takes_of rfl rfl rfl rfl) (fun _ _ _ _ h => h)) (pa_cons (pv 0) pa_nil)))
    (pss_cons (ps_if (PT.nox (pt_not (pt_val (pe_callB (isiR (K := K)) (by rfl) T.n_isinstance (by decide +kernel) (pa_cons (pv 1) (pa_cons (pe_bltn (v := .ty "str") rfl T.n_str (by decide +kernel) rfl) pa_nil))))))
      (pss_one (ps_raise rfl (takes_of rfl rfl rfl rfl) (pmk_oex T.x_BadValue.oex T.x_BadValue.ini T.x_BadValue.tyI FB (hr.mono (by decide)) bB .nil pass0 rfl T.g_BadValue (pa_cons pe_str pa_nil)))) pss_nil)
    (pss_one (ps_if (PT.nox (pt_not (pt_val (pe_callB (isiR (K := K)) (by rfl) T.n_isinstance (by decide +kernel) (pa_cons (pv 2) (pa_cons (pe_bltn (v := .ty "str") rfl T.n_str (by decide +kernel) rfl) pa_nil))))))
      (pss_one (ps_raise rfl (takes_of rfl rfl rfl rfl) (pmk_oex T.x_BadValue.oex T.x_BadValue.ini T.x_BadValue.tyI FB (hr.mono (by decide)) bB .nil pass0 rfl T.g_BadValue (pa_cons pe_str pa_nil)))) pss_nil)))), ?_⟩
  refine ⟨_, rfl, b, db, rfl, hb, hz, fun hw H1 e1 => ?_, q1⟩
  refine ⟨_, rfl, x, _, _, _, _, rfl, .ty "str", ty_dt (ex_dt e1 _ _ hx), kit_ty (kit_str dx), _, rfl, ?_⟩
  rw [isStr_T]
  cases h1 : isStr dx with
  | false => exact ⟨by decide, raises (q2 hw h1) e1⟩
  | true =>
    refine ⟨_, rfl, y, _, _, _, _, rfl, .ty "str", ty_dt (ex_dt e1 _ _ hy), kit_ty (kit_str dy), _, rfl, ?_⟩
    rw [isStr_T]
    cases h2 : isStr dy with
    | false => exact ⟨by decide, raises (q3 hw h1 h2) e1⟩
    | true => exact q4 hw h1 h2 H1 e1
/-- what highest gives -/
structure HighOut (Q : VK) (H : Hp) (es : List Bd) (x y : Str) : Prop where
  ring : (run es (nmx es x y).length (z0 (nmx es x y)) none).2 ≠ none → ∀ t r xs way H2, RingOk es way → H t = none → H r = none → Ex H H2 → H2 t = some (.tup [.str "ring", .ref r]) → H2 r = some (.tup xs) → Paired (Tb H2) xs way → Q (.ref t) H2
  grows : (run es (nmx es x y).length (z0 (nmx es x y)) none).2 = none → (rch es (nmx es x y) x).d y = none → ∀ t p l (ls : List Str) H2, ls.Pairwise (fun a b => leS a b = true) → ls.Nodup → (∀ z, z ∈ ls ↔ ((rch es (nmx es x y) x).d z).isSome = true) → H t = none → H p = none → H l = none → Ex H H2 →
    H2 t = some (.tup [.str "grows", .ref p, .ref l]) → H2 p = some (.dK (nkv (nmx es x y) (run es (nmx es x y).length (z0 (nmx es x y)) none).1)) → H2 l = some (.lst (ls.map V.str)) → Q (.ref t) H2
  most : (run es (nmx es x y).length (z0 (nmx es x y)) none).2 = none → ∀ D, (rch es (nmx es x y) x).d y = some D → ∀ t r p xs way H2, (∀ e ∈ way, e ∈ es) → way.length ≤ (nmx es x y).length → along x way = some (y, D) → (run (es ++ [(y, x, -D)]) (nmx es x y).length (z0 (nmx es x y)) none).2 = none → H t = none → H r = none → H p = none → Ex H H2 →
    H2 t = some (.tup [.str "at most", .int D, .ref r, .ref p]) → H2 r = some (.tup xs) → Paired (Tb H2) xs way → H2 p = some (.dK (nkv (nmx es x y) (run (es ++ [(y, x, -D)]) (nmx es x y).length (z0 (nmx es x y)) none).1)) → Q (.ref t) H2
def spHigh (K : PySem.W.Frag) : Sp := fun vs H Q E => ∃ b db x dx y dy, vs = [b, x, y] ∧ Dt H b db ∧ Dt H x dx ∧ Dt H y dy ∧ (∀ ds, db = .list ds → ds.length ≤ 100000) ∧
  (isBds db = false → Err (He.ga K "BadValue") "name" "bounds" H E) ∧ (isBds db = true → isStr dx = false → Err (He.ga K "BadValue") "name" "x" H E) ∧ (isBds db = true → isStr dx = true → isStr dy = false → Err (He.ga K "BadValue") "name" "y" H E) ∧
  ∀ (es : List Bd) (zx zy : Str), db = .list (es.map encB) → dx = .str zx → dy = .str zy → (1000 < es.length → Err (He.ga K "TooMany") "word" "bounds" H E) ∧ (es.length ≤ 1000 → HighOut Q H es zx zy)
abbrev Nhighest : List Str := ["bounds", "x", "y", "names", "name", "numbers", "ring", "sums", "marks"]
theorem schighest : FnScope Nhighest ["bounds", "x", "y"] (defScope (top 31)) := ⟨rfl, rfl, rfl, by decide +kernel, rfl, by decide +kernel, by decide +kernel⟩
theorem ok_highest (T : Txt K mg) (C_check_ends : Cal P w K mg base (L2.CX P w) 5 "check_ends" ["bounds", "x", "y"] (spEnds K)) (C_names_of : Cal P w K mg base CX0 1 "names_of" ["edges"] (spNames K)) (C_least_or_ring : Cal P w K mg base CX0 2 "least_or_ring" ["names", "edges"] (spLor K))
    (C_least_ways : Cal P w K mg base CX0 1 "least_ways" ["edges", "start"] (spWays K)) (C_way_back : Cal P w K mg base CX0 1 "way_back" ["marks", "start", "name"] (spBack K)) : Cal P w K mg base (L2.CX P w) 6 "highest" ["bounds", "x", "y"] (spHigh K) := by
  obtain ⟨fdB, FB, bB⟩ := ok_iniTM (P := P) (w := w) (base := base) T
  obtain ⟨ct, hct⟩ := T.c_MOST_BOUNDS
  refine mkCalX T.g_highest T.d_highest schighest (fun _ _ _ _ _ _ us hl => match us, hl with | [_, _, _], _ => rfl) (fun vs H Q E h => ?_) fun cdv A outer s0 H vs Q E hr h => ?_
  · obtain ⟨_, _, _, _, _, _, rfl, _⟩ := h; rfl
  obtain ⟨b, db, xv, dx, yv, dy, rfl, hb, hx, hy, hz, q1, q2, q3, q4⟩ := h
  refine ⟨_, (pss_cons (ps_expr (pe_cal (E := E) C_check_ends (hr.mono (by decide)) (passes_call (takes_of rfl rfl rfl rfl) (fun _ _ _ _ h => h)) (pa_cons (pv 0) (pa_cons (pv 1) (pa_cons (pv 2) pa_nil)))))
    (pss_cut (ps_if (PT.nox (pt_cmpR op_gt (pe_callB (lenL (K := K)) (by rfl) T.n_len PySem.boot_len (pa_cons (pv 0) pa_nil)) (pe_glob (v := .int 1000) rfl hct ⟨_, rfl⟩) (nomark _)))
      (pss_one (ps_raise rfl (takes_of rfl rfl rfl rfl) (pmk_oex T.x_TooMany.oex T.x_TooMany.ini T.x_TooMany.tyI FB (hr.mono (by decide)) bB .nil pass0 rfl T.g_TooMany (pa_cons pe_str pa_nil)))) pss_nil)
    (PSs.nox (pss_cons (ps_set (i := 3) schighest.nd rfl (Or.inl rfl) (pe_callB (sortSetS rfl hr.units) (by rfl) T.n_sorted (by decide +kernel) (pa_cons (pe_scS (own := [("name", 4)]) (g := gName 4) rfl schighest.nd (piL (K := K) (pe_op op_cat (pe_cal (E := E0) C_names_of (hr.mono (by decide)) pass0 (pa_cons (pv 0) pa_nil)) (pe_lst (pa_cons (pv 1) (pa_cons (pv 2) pa_nil))))) (blkOk_by (N := Nhighest) (sc := defScope (top 31)) (by decide +kernel)) (fun _ _ _ _ _ => (pg_name (i := 4) schighest.nd rfl (Or.inl rfl))) (fun _ _ _ _ _ => pts_nil) (fun _ _ _ _ _ => (pv 4))) pa_nil)))
      (pss_cons (ps_asg (pe_cal (E := E0) C_least_or_ring (hr.mono (by decide)) pass0 (pa_cons (pv 3) (pa_cons (pv 0) pa_nil))) (pgTup (K := K) rfl (pgs_cons (pg_name (i := 5) schighest.nd rfl (Or.inl rfl)) (pgs_cons (pg_name (i := 6) schighest.nd rfl (Or.inl rfl)) pgs_nil))))
      (pss_cons (ps_if (pt_cmpR op_notN (pv 6) pe_non (nomark _)) (pss_one (ps_ret (pe_tup (pa_cons pe_str (pa_cons (pe_callTy (tupOf (K := K)) (by rfl) T.n_tuple (by decide +kernel) (pa_cons (pv 6) pa_nil)) pa_nil))))) pss_nil)
      (pss_cons (ps_asg (pe_cal (E := E0) C_least_ways (hr.mono (by decide)) pass0 (pa_cons (pv 0) (pa_cons (pv 1) pa_nil))) (pgTup (K := K) rfl (pgs_cons (pg_name (i := 7) schighest.nd rfl (Or.inl rfl)) (pgs_cons (pg_name (i := 8) schighest.nd rfl (Or.inl rfl)) pgs_nil))))
      (pss_cons (ps_if (pt_cmp (pc_dnotin (hu_of hr) (pv 2) (pv 7))) (pss_one (ps_ret (pe_tup (pa_cons pe_str (pa_cons (pv 5) (pa_cons (pe_callB (sortDk rfl hr.units) (by rfl) T.n_sorted (by decide +kernel) (pa_cons (pv 7) pa_nil)) pa_nil)))))) pss_nil)
      (pss_cons (ps_set (i := 5) schighest.nd rfl (Or.inl rfl) (pe_ix (ixT (K := K)) (pe_cal (E := E0) C_least_or_ring (hr.mono (by decide)) pass0 (pa_cons (pv 3) (pa_cons (pe_op op_cat (pv 0) (pe_lst (pa_cons (pe_tup (pa_cons (pv 2) (pa_cons (pv 1) (pa_cons (pe_un un_neg (pe_dget (hu_of hr) (pv 7) (pv 2) (fun _ _ => rfl))) pa_nil)))) pa_nil))) pa_nil))) pe_int (fun _ _ => rfl)))
      (pss_one (ps_ret (pe_tup (pa_cons pe_str (pa_cons (pe_dget (hu_of hr) (pv 7) (pv 2) (fun _ _ => rfl)) (pa_cons (pe_callTy (tupOf (K := K)) (by rfl) T.n_tuple (by decide +kernel) (pa_cons (pe_cal (E := E0) C_way_back (hr.mono (by decide)) pass0 (pa_cons (pv 8) (pa_cons (pv 1) (pa_cons (pv 2) pa_nil)))) pa_nil)) (pa_cons (pv 5) pa_nil)))))))))))))))), ?_⟩
  refine ⟨_, rfl, _, rfl, _, rfl, b, db, xv, dx, yv, dy, rfl, hb, hx, hy, hz, q1, q2, q3, fun hw w1 w2 H1 e1 => ?_⟩
  obtain ⟨es, rfl⟩ := isBds_enc hw
  obtain ⟨a, rfl, hbd⟩ := dt_bds hb
  obtain ⟨x, rfl⟩ := isStr_of w1
  obtain ⟨y, rfl⟩ := isStr_of w2
  cases hx
  cases hy
  have hb1 := hbd.ex e1
  obtain ⟨xs, hxs, pr⟩ := id hb1
  have hxl := pr.length
  obtain ⟨q5, q6⟩ := q4 es x y rfl rfl rfl
  refine ⟨fun σ' H' => σ' = [some (.ref a), some (.str x), some (.str y), none, none, none, none, none, none] ∧ H1 = H' ∧ es.length ≤ 1000, ?_, ?_⟩
  · refine ⟨_, rfl, a, xs, rfl, .inl (SqL.of hxs), _, 1000, rfl, rfl, _, rfl, ?_⟩
    refine ite2 (fun h1 => ?_) (fun h1 => ?_)
    · have h1 := of_decide_eq_true h1
      exact ⟨by decide, fun b hb => raises ((q5 (by omega)).mono e1) (Evl.Ex.refl _) b hb⟩
    · exact ⟨rfl, rfl, by have : ¬ (1000 : Int) < (xs.length : Int) := fun z => h1 (decide_eq_true z)
                          omega⟩
  rintro σ' H' ⟨rfl, rfl, hl⟩
  have hO := q6 hl
  have nl := nms_len es
  have nxl := nmx_len es x y
  -- names
  refine ⟨_, rfl, a, es, rfl, hb1, by omega, fun an H2 hn2 e2 han => ?_⟩
  refine ⟨_, rfl, _, rfl, Nat.le_of_lt (sz 2 (by omega)), fun l0 hl0 => ?_⟩
  have e3 := Evl.Ex.new hl0 (o := .lst [V.str x, V.str y])
  refine ⟨an, l0, _, _, rfl, rfl, e3 _ _ han, upd_same, Nat.le_of_lt (sz _ (by simp; omega)), fun c hc => ?_⟩
  have e4 := Evl.Ex.new hc (o := .lst ((nms es).map V.str ++ [V.str x, V.str y]))
  have e24 := (e2.trans e3).trans e4
  have hcl : ((nms es).map V.str ++ [V.str x, V.str y]) = (nms es ++ [x, y]).map V.str := by simp
  rw [hcl] at e4 e24 ⊢
  have hcs : upd (upd H2 l0 (.lst [V.str x, V.str y])) c (.lst ((nms es ++ [x, y]).map V.str)) c = some (.lst ((nms es ++ [x, y]).map V.str)) := upd_same
  generalize upd (upd H2 l0 (.lst [V.str x, V.str y])) c (.lst ((nms es ++ [x, y]).map V.str)) = H4 at e4 e24 hcs ⊢
  refine ⟨c, rfl, ⟨_, SqL.of hcs⟩, fun D0 hD0 => ?_⟩
  refine scWS (M := NoM) walk_list (Evl.Ex.refl H4) (fun H' e => SqL.of (e _ _ hcs)) (by simp; omega) (fun i => (nms es ++ [x, y]).getD i Str.empty) (fun i => [some (.ref a), some (.str x), some (.str y), none, some (.str ((nms es ++ [x, y]).getD i Str.empty)), none, none, none, none])
    (fun i v G' H' H'' hi a' yy Q q => turn_name (σ0 := [some (.ref a), some (.str x), some (.str y), none, none, none, none, none, none]) (j := 4) a' yy (by
      rw [List.length_map] at hi
      rw [List.getElem?_map, List.getD_eq_getElem?_getD, List.getElem?_eq_getElem hi]; rfl) q) (fun _ _ => rfl) (fun i G' H' hi a' Q q => ⟨_, rfl, q G' H' (Stp.refl a'.gh)⟩) (fun _ _ h => h) hD0 (fun S m G5 H5 a5 gD hS hm hk => ?_)
  refine ⟨D0, S, m, rfl, hS, fun zs p hzn hzm hp => ?_⟩
  have hzs : zs.mergeSort leS = nmx es x y := nms_of hzn fun z => by
    rw [hzm, hm, List.length_map, range_map (nms es ++ [x, y]) Str.empty (fun z => z), List.map_id', ← nms_mem, nmx_mem]
    simp
  rw [hzs]
  have e15 : Ex H1 H5 := e24.trans (a5.gg.trans a5.gh)
  have e16 := e15.trans (Evl.Ex.new hp (o := .lst ((nmx es x y).map V.str)))
  have hp6 : upd H5 p (.lst ((nmx es x y).map V.str)) p = some (.lst ((nmx es x y).map V.str)) := upd_same
  generalize upd H5 p (.lst ((nmx es x y).map V.str)) = H6 at e16 hp6 ⊢
  have e06 := e1.trans e16
  refine ⟨_, rfl, _, rfl, p, a, nmx es x y, es, rfl, hp6, nms_nodup _, by omega, hb1.ex e16, by omega, nmx_ends es x y, fun hrun t pn H7 ht hpn e7 h71 h72 => ?_, fun v hrun => ?_⟩
  · have hN := numbers_meet (nmx_ends es x y) (Nat.le_refl _) hrun
    obtain ⟨j0, hj1, hj2, hj3, wi, cm, rr, bt⟩ := ways hN (nmx_ends es x y) (nmx_x es x y)
    have hrch : rch es (nmx es x y) x = it es j0 (w0 x) := by unfold rch; rw [rch_eq hj1 hj2 hj3]
    refine ⟨t, _, rfl, SqT.of h71, rfl, _, _, rfl, _, _, rfl, rfl, ?_⟩
    refine ⟨_, rfl, rfl, _, rfl, ?_⟩
    refine ite2 (fun h => absurd h (by simp)) (fun _ => ?_)
    have e17 := e16.trans e7
    refine ⟨_, rfl, _, rfl, a, x, nmx es x y, es, j0, rfl, hb1.ex e17, by omega, nmx_ends es x y, nmx_x es x y, by omega, hj2, hj3, fun t2 ps pm sk mk H8 ht2 hps hpm e8 h81 h82 hsk h83 hmk => ?_⟩
    refine ⟨t2, _, rfl, SqT.of h81, rfl, _, _, rfl, _, _, rfl, rfl, ?_⟩
    have e18 := e17.trans e8
    have e08 := e1.trans e18
    have g := DGet.k (k := Sum.inr y) h82
    rw [hsk.get] at g
    refine ⟨_, rfl, _, rfl, ps, _, rfl, g, _, rfl, ?_⟩
    cases hy : (it es j0 (w0 x)).d y with
    | none =>
      refine ite2 (fun _ => ?_) (fun h => absurd rfl h)
      obtain ⟨ks, k1, k2, k3⟩ := hsk.keys
      refine ⟨_, rfl, _, rfl, ps, sk, ks, rfl, h82, k1, fun l hl0 => ?_⟩
      have e9 := Evl.Ex.new hl0 (o := .lst ((ks.mergeSort leS).map V.str))
      refine ⟨Nat.le_of_lt (sz 3 (by omega)), fun t3 ht3 => ?_⟩
      have e10 := Evl.Ex.new ht3 (o := .tup [V.str "grows", V.ref pn, V.ref l])
      refine hO.grows hrun (by rw [hrch]; exact hy) t3 pn l (ks.mergeSort leS) _ (sortS ks) ((List.mergeSort_perm _ _).nodup_iff.mpr k2) (fun z => ?_) (Evl.fresh_back (e08.trans e9) ht3) (Evl.fresh_back e06 hpn) (Evl.fresh_back e08 hl0) ((e08.trans e9).trans e10) upd_same ?_ (e10 _ _ upd_same)
      · rw [List.mem_mergeSort, hrch]
        have hv := valV_keys k1 z
        rw [hsk.get] at hv
        constructor
        · intro hz
          rw [decide_eq_true hz] at hv
          cases hd : (it es j0 (w0 x)).d z with
          | none => rw [hd] at hv; cases hv
          | some b => rfl
        · intro hz
          obtain ⟨b, hb⟩ := Option.isSome_iff_exists.mp hz
          rw [hb] at hv
          exact of_decide_eq_true hv.symm
      · exact e10 _ _ (e9 _ _ (e8 _ _ h72))
    | some D =>
      refine ite2 (fun h => absurd h (by simp)) (fun _ => ?_)
      rw [hy] at g
      obtain ⟨way, hw1⟩ : ∃ way, way = (es ++ [(y, x, -D)] : List Bd) := ⟨_, rfl⟩
      have hb8 := hb1.ex e18
      obtain ⟨xs8, hx8, pr8⟩ := id hb8
      refine ⟨_, rfl, _, rfl, _, rfl, _, rfl, _, rfl, _, rfl, ps, _, rfl, g, _, rfl, Nat.le_of_lt (sz 3 (by omega)), fun r1 hr1 => ?_⟩
      have e9 := Evl.Ex.new hr1 (o := .tup [V.str y, V.str x, V.int (-D)])
      refine ⟨Nat.le_of_lt (sz 1 (by omega)), fun l1 hl1 => ?_⟩
      have e10 := Evl.Ex.new hl1 (o := .lst [V.ref r1])
      have hx10 := e10 _ _ (e9 _ _ hx8)
      have hxl8 := pr8.length
      refine ⟨a, l1, _, _, rfl, rfl, hx10, upd_same, Nat.le_of_lt (sz _ (by simp; omega)), fun c hc => ?_⟩
      have e11 := Evl.Ex.new hc (o := .lst (xs8 ++ [V.ref r1]))
      have hbw : Bds (upd (upd (upd H8 r1 (.tup [V.str y, V.str x, V.int (-D)])) l1 (.lst [V.ref r1])) c (.lst (xs8 ++ [V.ref r1]))) c (es ++ [(y, x, -D)]) :=
        ⟨_, upd_same, paired_app (Paired.mapP pr8 fun v b t => tb_ex ((e9.trans e10).trans e11) t) (.cons ⟨r1, rfl, e11 _ _ (e10 _ _ upd_same)⟩ .nil)⟩
      have e811 : Ex H8 _ := (e9.trans e10).trans e11
      generalize upd (upd (upd H8 r1 (.tup [V.str y, V.str x, V.int (-D)])) l1 (.lst [V.ref r1])) c (.lst (xs8 ++ [V.ref r1])) = H9 at hbw e811 ⊢
      have hends2 : ends (es ++ [(y, x, -D)]) (nmx es x y) := fun e he => by
        rcases List.mem_append.mp he with he | he
        · exact nmx_ends es x y e he
        · rw [List.mem_singleton.mp he]; exact ⟨nmx_y es x y, nmx_x es x y⟩
      obtain ⟨Pt, hPt⟩ := tight_pot hN wi cm hy
      have hrun2 := no_ring hPt hends2 (Nat.le_refl _)
      have e09 := e08.trans e811
      refine ⟨p, c, nmx es x y, es ++ [(y, x, -D)], rfl, e811 _ _ (e8 _ _ (e7 _ _ hp6)), nms_nodup _, by omega, hbw, by simp; omega, hends2, fun _ t4 pn4 H10 ht4 hpn4 e12 h101 h102 => ?_, fun v hv => by rw [hrun2] at hv; cases hv⟩
      refine ⟨t4, _, 0, _, rfl, rfl, SqT.of h101, rfl, ?_⟩
      have e010 := e09.trans e12
      have hps10 := e12 _ _ (e811 _ _ h82)
      have g10 := DGet.k (k := Sum.inr y) hps10
      rw [hsk.get, hy] at g10
      obtain ⟨pp, hpp, hback, hall, hal, hmem⟩ := way_to hN (nmx_ends es x y) wi cm bt hy
      refine ⟨_, rfl, _, rfl, ps, _, rfl, g10, ?_⟩
      refine ⟨_, rfl, _, rfl, _, rfl, pm, x, y, nmx es x y, it es j0 (w0 x), mk, pp, rfl, e12 _ _ (e811 _ _ h83), hmk.tk (fun v e t => tb_ex (e811.trans e12) t), by omega, hback, hall, fun l H11 hl11 e13 ⟨rs, h111, pr11⟩ => ?_⟩
      refine ⟨l, rs, rfl, .inl ⟨SqL.of h111, fun r hr11 => ?_⟩⟩
      have e14 := Evl.Ex.new hr11 (o := .tup rs)
      refine ⟨_, rfl, Nat.le_of_lt (sz 4 (by omega)), fun t5 ht5 => ?_⟩
      have e011 := e010.trans e13
      have e15 := Evl.Ex.new ht5 (o := .tup [V.str "at most", V.int D, V.ref r, V.ref pn4])
      exact hO.most hrun D (by rw [hrch]; exact hy) t5 r pn4 rs _ _ hmem (by rw [rgl_len]; exact hpp) hal hrun2 (Evl.fresh_back (e011.trans e14) ht5) (Evl.fresh_back e011 hr11) (Evl.fresh_back e09 hpn4) ((e011.trans e14).trans e15) upd_same (e15 _ _ upd_same) (Paired.mapP pr11 fun v b t => tb_ex (e14.trans e15) t) (e15 _ _ (e14 _ _ (e13 _ _ h102)))
  · obtain ⟨pp, cy, hpp, hf, hmm, rok⟩ := ring_ok (nmx_ends es x y) hrun
    refine ⟨pp, cy, by omega, hf, hmm, fun t l H3 ht hl e3 h3 ⟨rs, h4, pr4⟩ => ?_⟩
    refine ⟨t, _, rfl, SqT.of h3, rfl, _, _, rfl, _, _, rfl, rfl, ?_⟩
    refine ⟨_, rfl, rfl, _, rfl, ?_⟩
    refine ite2 (fun _ => ?_) (fun h => absurd (by simp) h)
    have e13 := e06.trans e3
    refine ⟨_, rfl, l, rs, rfl, .inl ⟨SqL.of h4, fun r hr => ?_⟩⟩
    have e4 := Evl.Ex.new hr (o := .tup rs)
    refine ⟨Nat.le_of_lt (sz 2 (by omega)), fun t2 ht2 => ?_⟩
    have e5 := Evl.Ex.new ht2 (o := .tup [V.str "ring", V.ref r])
    refine hO.ring (by rw [hrun]; exact fun z => by cases z) t2 r rs _ _ rok (Evl.fresh_back (e13.trans e4) ht2) (Evl.fresh_back e13 hr) ((e13.trans e4).trans e5) upd_same ?_ (Paired.mapP pr4 fun v b t => tb_ex (e4.trans e5) t)
    exact e5 _ _ upd_same
end
end K43
namespace K43
open PySem PySem.Spec PyProof.Rows L2 Hx Hd M43
open Evl (pss_cut tCut ex_l ex_t)
/-- where a way of data leads from a name, and its sum -/
def gone (es : List Bd) : Str → List PyData → Option (Str × Int)
  | a, [] => some (a, 0)
  | a, d :: r => match d with
    | .tuple [.str x, .str y, .int k] => if (x, y, k) ∈ es ∧ x = a then (gone es y r).map (fun q => (q.1, k + q.2)) else none
    | _ => none
theorem gone_bad {es : List Bd} {a : Str} {d : PyData} {r : List PyData} (h : isBd d = false) : gone es a (d :: r) = none := by
  unfold gone
  split
  · cases h
  · rfl
theorem gone_bd {es : List Bd} {a : Str} {e : Bd} {r : List PyData} : gone es a (encB e :: r) = if e ∈ es ∧ e.1 = a then (gone es e.2.1 r).map (fun q => (q.1, e.2.2 + q.2)) else none := rfl
def sumJ (es : List Bd) (d : PyData) (x y : Str) : Option Int := match d with
  | .tuple ds => (gone es x ds).bind fun q => if q.1 = y then some q.2 else none
  | _ => none
theorem sumJ_tup {es : List Bd} {ds : List PyData} {x y : Str} : sumJ es (.tuple ds) x y = (gone es x ds).bind fun q => if q.1 = y then some q.2 else none := rfl
def oInt : Option Int → V
  | none => .non
  | some i => .int i
/-- a datum that is a ring over bounds -/
def ringJ (es : List Bd) (d : PyData) : Bool := match d with
  | .tuple (.tuple [.str x, .str y, .int k] :: r) => match sumJ es (.tuple (.tuple [.str x, .str y, .int k] :: r)) x x with
    | some t => decide (t < 0)
    | none => false
  | _ => false
def ansJ (d : PyData) (z : Str) (m : Int) : Bool := match d with
  | .tuple (.str y :: r) => decide ((r.length : Int) + 1 = m) && decide (y = z)
  | _ => false
theorem keyB_inj {e f : Bd} (h : ([Sum.inr e.1, Sum.inr e.2.1, Sum.inl e.2.2] : List Key) = [Sum.inr f.1, Sum.inr f.2.1, Sum.inl f.2.2]) : e = f := by
  injection h with h1 h
  injection h with h2 h
  injection h with h3 h
  exact Prod.ext (Sum.inr.inj h1) (Prod.ext (Sum.inr.inj h2) (Sum.inl.inj h3))
section
variable {P : Program} {w : World} {K : PySem.W.Frag} {mg : Str → Option Value} {base : Heap}
def spSum (K : PySem.W.Frag) : Sp := fun vs H Q _ => ∃ a es v d x y, vs = [.ref a, v, .str x, .str y] ∧ Bds H a es ∧ es.length ≤ 100000 ∧ Dt H v d ∧ ∀ H2, Ex H H2 → Q (oInt (sumJ es d x y)) H2
abbrev Nsum_of_way : List Str := ["bounds", "value", "x", "y", "known", "bound", "total", "at"]
theorem scsum_of_way : FnScope Nsum_of_way ["bounds", "value", "x", "y"] (defScope (top 32)) := ⟨rfl, rfl, rfl, by decide +kernel, rfl, by decide +kernel, by decide +kernel⟩
theorem ok_sum (T : Txt K mg) (C_is_bound : Cal P w K mg base CX0 2 "is_bound" ["value"] (spBd K)) : Cal P w K mg base CX0 3 "sum_of_way" ["bounds", "value", "x", "y"] (spSum K) := by
  refine mkCal T.g_sum_of_way T.d_sum_of_way scsum_of_way (fun _ _ _ _ _ _ us hl => match us, hl with | [_, _, _, _], _ => rfl) (fun vs H Q E h => ?_) fun cdv A outer s0 H vs Q E hr h => ?_
  · obtain ⟨_, _, _, _, _, _, rfl, _⟩ := h; rfl
  obtain ⟨a, es, v, d, x, y, rfl, ⟨xs, hx, pr⟩, hes, hd, q⟩ := h
  refine ⟨_, (pss_cons (ps_if (pt_not (pt_val (pe_callB (isiR (K := K)) (by rfl) T.n_isinstance (by decide +kernel) (pa_cons (pv 1) (pa_cons (pe_bltn (v := .ty "tuple") rfl T.n_tuple (by decide +kernel) rfl) pa_nil))))) (pss_one (ps_ret pe_non)) pss_nil)
      (pss_cons (ps_setDcT (i := 4) (own := [("bound", 5)]) (g := gName 5) (hu_of hr) rfl scsum_of_way.nd rfl rfl (sw_dict rfl rfl rfl (by decide +kernel)) (piL (K := K) (pv 0)) (blkOk_by (N := Nsum_of_way) (sc := defScope (top 32)) (by decide +kernel)) (fun _ _ _ _ _ => (pg_name (i := 5) scsum_of_way.nd rfl (Or.inl rfl))) (fun _ _ _ _ _ => pts_nil) (fun _ _ _ _ _ => (pv 5)) (fun _ _ _ _ _ => pe_bl))
      (pss_cons (ps_set (i := 6) scsum_of_way.nd rfl (Or.inl rfl) pe_int)
      (pss_cons (ps_set (i := 7) scsum_of_way.nd rfl (Or.inl rfl) (pv 2))
      (pss_cons (ps_for PassesOwn.never rfl (piT (K := K) (pv 1)) (pg_name (i := 5) scsum_of_way.nd rfl (Or.inl rfl)) (pss_cut (ps_if (PW.pt (pw_or (pt_not (pt_val (pe_cal (E := E0) C_is_bound (hr.mono (by decide)) pass0 (pa_cons (pv 5) pa_nil)))) (pw_or (pt_cmp (pc_dnotin (hu_of hr) (pv 5) (pv 4))) (pw_or1 (pt_cmpR op_ne (pe_ix (ixT (K := K)) (pv 5) pe_int (fun _ _ => rfl)) (pv 7) (nomark _)))))) (pss_one (ps_ret pe_non)) pss_nil)
      (pss_cons (ps_set (i := 7) scsum_of_way.nd rfl (Or.inl rfl) (pe_ix (ixT (K := K)) (pv 5) pe_int (fun _ _ => rfl)))
      (pss_one (ps_aug (i := 6) scsum_of_way.nd rfl (Or.inl rfl) (pe_ix (ixT (K := K)) (pv 5) pe_int (fun _ _ => rfl)) ip_add)))))
      (pss_one (ps_ret (pe_ifExp (pt_cmpR op_eq (pv 7) (pv 3) (nomark _)) (pv 6) pe_non)))))))), ?_⟩
  have hxl := pr.length
  refine ⟨_, rfl, v, _, _, _, _, rfl, .ty "tuple", ty_dt hd, kit_ty (kit_tup d), _, rfl, ?_⟩
  cases h1 : isT "tuple" d with
  | false =>
    have e : sumJ es d x y = none := by cases d <;> first | rfl | (exfalso; revert h1; simp [isT])
    rw [e] at q
    exact q H (Evl.Ex.refl H)
  | true =>
  obtain ⟨ds, rfl⟩ := isT_tup h1
  obtain ⟨b, ys, rfl, hb, hys⟩ := dt_tup hd
  have hyl := dta_len hys
  let d0 : Bd := (Str.empty, Str.empty, 0)
  refine ⟨_, rfl, a, rfl, ⟨xs, SqL.of hx⟩, fun D hD => ?_⟩
  refine dcWT (M := NoM) walk_list (Evl.Ex.refl H) (fun H' e => SqL.of (e _ _ hx)) (by omega) (fun i => ([Sum.inr (es.getD i d0).1, Sum.inr (es.getD i d0).2.1, Sum.inl (es.getD i d0).2.2], .bl true)) (fun i => [some (.ref a), some (.ref b), some (.str x), some (.str y), none, some (xs.getD i .non), none, none])
    (fun i y' G' H' H'' hi a' yy Q q => turn_name (σ0 := [some (.ref a), some (.ref b), some (.str x), some (.str y), none, none, none, none]) (j := 5) a' yy (by rw [List.getD_eq_getElem?_getD]; simp [hi]) q) (fun _ _ => rfl) (fun i G' H' hi a' Q q => ?_) (fun i G' H' hi a' Q q => q G' H' (Stp.refl a'.gh)) (fun _ _ h => h) hD (fun G1 H1 a1 gD hD1 => ?_)
  · obtain ⟨ed, he, r, hv, hr1⟩ := paired_at pr (i := i) (a := xs.getD i .non) (by rw [List.getD_eq_getElem?_getD]; simp [hi])
    refine ⟨_, rfl, ?_⟩
    rw [hv]
    refine q r G' H' (Stp.refl a'.gh) ?_
    rw [getD_of he]
    exact a'.gg _ _ hr1
  have e1 : Ex H H1 := a1.gg.trans a1.gh
  have hkn : ∀ e : Bd, (valV (((List.range xs.length).map fun i => (([Sum.inr (es.getD i d0).1, Sum.inr (es.getD i d0).2.1, Sum.inl (es.getD i d0).2.2] : List Key), V.bl true)).foldl (fun acc p => putK acc p.1 p.2) []) [Sum.inr e.1, Sum.inr e.2.1, Sum.inl e.2.2]).isSome = decide (e ∈ es) := by
    intro e
    rw [Bool.eq_iff_iff, foldT_mem, decide_eq_true_iff, hxl, range_map es d0 (fun e => (([Sum.inr e.1, Sum.inr e.2.1, Sum.inl e.2.2] : List Key), V.bl true))]
    constructor
    · rintro (z | ⟨p, hp, he⟩)
      · cases z
      · obtain ⟨f, hf, rfl⟩ := List.mem_map.mp hp
        rw [← keyB_inj he]; exact hf
    · intro h
      exact .inr ⟨_, List.mem_map.mpr ⟨e, h, rfl⟩, rfl⟩
  generalize ((List.range xs.length).map fun i => (([Sum.inr (es.getD i d0).1, Sum.inr (es.getD i d0).2.1, Sum.inl (es.getD i d0).2.2] : List Key), V.bl true)).foldl (fun acc p => putK acc p.1 p.2) [] = kvs at hkn hD1
  refine ⟨_, rfl, ?_⟩
  refine ⟨_, rfl, b, rfl, ⟨ys, SqT.of (e1 _ _ hb)⟩, ?_⟩
  refine for_it walk_tup (fun i σ' H' => ∃ bv tot at_, σ' = [some (.ref a), some (.ref b), some (.str x), some (.str y), some (.ref D), bv, some (.int tot), some (.str at_)] ∧ Ex H1 H' ∧ gone es x ds = (gone es at_ (ds.drop i)).map (fun q => (q.1, tot + q.2)))
    ⟨none, 0, x, rfl, Evl.Ex.refl _, by rw [List.drop_zero]; cases gone es x ds with
      | none => rfl
      | some q => simp⟩ (fun i σ' H' hi ⟨_, _, _, _, e', _⟩ => SqT.of (e' _ _ (e1 _ _ hb))) ?_ ?_
  · rintro i u σ' H' H'' hi ⟨bv, tot, at_, rfl, e', hg⟩ ⟨rfl, hy1⟩
    obtain ⟨dd, hdd, hdt⟩ := dta_get hys hy1
    have hdt' := ex_dt (e1.trans e') _ _ hdt
    have hdrop : ds.drop i = dd :: ds.drop (i + 1) := by
      have hi' : i < ds.length := (List.getElem?_eq_some_iff.mp hdd).1
      rw [List.drop_eq_getElem_cons hi']
      rw [List.getElem?_eq_getElem hi'] at hdd
      rw [Option.some.inj hdd]
    rw [hdrop] at hg
    refine ⟨fun σ' H' => ∃ e : Bd, dd = encB e ∧ e ∈ es ∧ e.1 = at_ ∧ σ' = [some (.ref a), some (.ref b), some (.str x), some (.str y), some (.ref D), some u, some (.int tot), some (.str at_)] ∧ Ex H1 H' , ?_, ?_⟩
    · refine ⟨_, rfl, u, dd, rfl, hdt', _, rfl, ?_⟩
      have no : gone es at_ (dd :: ds.drop (i + 1)) = none → sumJ es (.tuple ds) x y = none := fun h => by
        rw [h] at hg
        rw [sumJ_tup, hg]; rfl
      cases hbd : isBd dd with
      | false =>
        rw [no (gone_bad hbd)] at q
        exact q _ (e1.trans e')
      | true =>
        obtain ⟨e, rfl⟩ := isBd_enc hbd
        obtain ⟨r, rfl, hr1⟩ := dt_tb hdt'
        have g := DGet.t (k := [Sum.inr e.1, Sum.inr e.2.1, Sum.inl e.2.2]) (e' _ _ hD1) hr1
        refine ⟨_, rfl, _, rfl, D, _, rfl, g, _, rfl, ?_⟩
        rw [hkn e]
        by_cases hin : e ∈ es
        · rw [decide_eq_true hin]
          refine ⟨_, rfl, r, _, 0, _, rfl, rfl, SqT.of hr1, rfl, _, rfl, rfl, _, rfl, ?_⟩
          refine ite2 (fun h => ?_) (fun h => ?_)
          · have hne : e.1 ≠ at_ := fun z => by rw [z] at h; simp at h
            rw [no (by rw [gone_bd, if_neg fun z => hne z.2])] at q
            exact q _ (e1.trans e')
          · have heq : e.1 = at_ := by
              apply Classical.byContradiction
              intro z
              refine h ?_
              show (!decide (V.str e.1 = V.str at_)) = true
              rw [decide_eq_false fun e => z (by injection e)]; rfl
            exact ⟨e, rfl, hin, heq, rfl, e'⟩
        · rw [decide_eq_false hin]
          rw [no (by rw [gone_bd, if_neg fun z => hin z.1])] at q
          exact q _ (e1.trans e')
    · rintro σ' H3 ⟨e, rfl, hin, heq, rfl, e3⟩
      have hdt3 := ex_dt (e1.trans e3) _ _ hdt
      obtain ⟨r, rfl, hr1⟩ := dt_tb hdt3
      refine ⟨_, rfl, r, _, 1, _, rfl, rfl, SqT.of hr1, rfl, ?_⟩
      refine ⟨_, rfl, _, rfl, r, _, 2, _, rfl, rfl, SqT.of hr1, rfl, _, _, rfl, rfl, ?_⟩
      refine ⟨_, tot + e.2.2, e.2.1, rfl, e3, ?_⟩
      rw [hg, gone_bd, if_pos ⟨hin, heq⟩]
      cases gone es e.2.1 (ds.drop (i + 1)) with
      | none => rfl
      | some q => simp [Int.add_assoc]
  · rintro σ' H' ⟨bv, tot, at_, rfl, e', hg⟩
    rw [hyl, List.drop_length] at hg
    have hg : gone es x ds = some (at_, tot) := by rw [hg]; simp [gone]
    have hs : sumJ es (.tuple ds) x y = if at_ = y then some tot else none := by rw [sumJ_tup, hg]; rfl
    rw [hs] at q
    refine ⟨_, rfl, _, rfl, rfl, _, rfl, ?_⟩
    by_cases hxy : at_ = y
    · rw [if_pos hxy] at q
      refine ite2 (fun _ => ⟨_, rfl, q _ (e1.trans e')⟩) (fun h => absurd (by simp [hxy]) h)
    · rw [if_neg hxy] at q
      refine ite2 (fun h => absurd h (by simp [hxy])) (fun _ => q _ (e1.trans e'))
end
end K43
namespace K43
open PySem PySem.Spec PyProof.Rows L2 Hx Hd M43
open Evl (pss_cut tCut ex_l ex_t)
def fst0 (d : PyData) : Str := match d with | .tuple (.str x :: _) => x | _ => Str.empty
/-- a datum that is a ring over bounds -/
def rngJ (es : List Bd) (d : PyData) : Bool := match d with
  | .tuple (d0 :: r) => isBd d0 && match sumJ es (.tuple (d0 :: r)) (fst0 d0) (fst0 d0) with | some t => decide (t < 0) | none => false
  | _ => false
/-- the numbers of a dict -/
def numOf (es : List (PyData × PyData)) (z : Str) : Int := match dlook es z with | some (.int i) => i | _ => 0
def metJ (es : List Bd) (d : PyData) : Bool := match d with | .dict ks => metB (numOf ks) es | _ => false
def setJ (es : List Bd) (d : PyData) : Bool :=
  if ansJ d (Str.ofString "ring") 2 = true then (match d with | .tuple [_, d1] => rngJ es d1 | _ => false)
  else if ansJ d (Str.ofString "numbers") 2 = true then (match d with | .tuple [_, d1] => areNum (nms es) d1 && metJ es d1 | _ => false)
  else false
theorem num_at {kvs : List (Key × V)} {ks : List (PyData × PyData)} (hk : DKV kvs ks) {z : Str} (h : entNum ks z = true) : valV kvs (Sum.inr z) = some (.int (numOf ks z)) := by
  rcases dkv_look hk z with ⟨e1, e2⟩ | ⟨v, d, e1, e2, fv⟩
  · unfold entNum at h; rw [e2] at h; cases h
  · unfold entNum at h
    unfold numOf
    rw [e2] at h ⊢
    cases fv with
    | int i => exact e1
    | bl b => cases h
theorem arn_dict {ns : List Str} {d : PyData} (h : areNum ns d = true) : ∃ ks, d = .dict ks ∧ ∀ z ∈ ns, entNum ks z = true := by
  unfold areNum at h
  split at h
  · rename_i ks
    rw [Bool.and_eq_true] at h
    exact ⟨ks, rfl, fun z hz => List.all_eq_true.mp h.2 z hz⟩
  · cases h
theorem ans_tup {d : PyData} {z : Str} {m : Int} (h : ansJ d z m = true) : ∃ r, d = .tuple (.str z :: r) ∧ (r.length : Int) + 1 = m := by
  unfold ansJ at h
  split at h
  · rename_i y r
    rw [Bool.and_eq_true] at h
    exact ⟨r, by rw [of_decide_eq_true h.2], of_decide_eq_true h.1⟩
  · cases h
section
variable {P : Program} {w : World} {K : PySem.W.Frag} {mg : Str → Option Value} {base : Heap}
def spIsRing (K : PySem.W.Frag) : Sp := fun vs H Q _ => ∃ a es v d, vs = [.ref a, v] ∧ Bds H a es ∧ es.length ≤ 100000 ∧ Dt H v d ∧ ∀ H2, Ex H H2 → Q (.bl (rngJ es d)) H2
abbrev Nis_ring : List Str := ["bounds", "value", "total"]
theorem scis_ring : FnScope Nis_ring ["bounds", "value"] (defScope (top 33)) := ⟨rfl, rfl, rfl, by decide +kernel, rfl, by decide +kernel, by decide +kernel⟩
theorem ok_isring (T : Txt K mg) (C_is_bound : Cal P w K mg base CX0 2 "is_bound" ["value"] (spBd K)) (C_sum_of_way : Cal P w K mg base CX0 3 "sum_of_way" ["bounds", "value", "x", "y"] (spSum K)) : Cal P w K mg base CX0 4 "is_ring" ["bounds", "value"] (spIsRing K) := by
  refine mkCal T.g_is_ring T.d_is_ring scis_ring (fun _ _ _ _ _ _ us hl => match us, hl with | [_, _], _ => rfl) (fun vs H Q E h => ?_) fun cdv A outer s0 H vs Q E hr h => ?_
  · obtain ⟨_, _, _, _, rfl, _⟩ := h; rfl
  obtain ⟨a, es, v, d, rfl, hb, hes, hd, q⟩ := h
  refine ⟨_, (pss_cut (ps_if (PW.pt (pw_or (pt_not (pt_val (pe_callB (isiR (K := K)) (by rfl) T.n_isinstance (by decide +kernel) (pa_cons (pv 1) (pa_cons (pe_bltn (v := .ty "tuple") rfl T.n_tuple (by decide +kernel) rfl) pa_nil))))) (pw_or (pt_cmpR op_eq (pe_callB (lenL (K := K)) (by rfl) T.n_len PySem.boot_len (pa_cons (pv 1) pa_nil)) pe_int (nomark _)) (pw_or1 (pt_not (pt_val (pe_cal (E := E0) C_is_bound (hr.mono (by decide)) pass0 (pa_cons (pe_ix (ixT (K := K)) (pv 1) pe_int (fun _ _ => rfl)) pa_nil)))))))) (pss_one (ps_ret pe_bl)) pss_nil)
      (pss_cons (ps_set (i := 2) scis_ring.nd rfl (Or.inl rfl) (pe_cal (E := E0) C_sum_of_way (hr.mono (by decide)) pass0 (pa_cons (pv 0) (pa_cons (pv 1) (pa_cons (pe_ix (ixT (K := K)) (pe_ix (ixT (K := K)) (pv 1) pe_int (fun _ _ => rfl)) pe_int (fun _ _ => rfl)) (pa_cons (pe_ix (ixT (K := K)) (pe_ix (ixT (K := K)) (pv 1) pe_int (fun _ _ => rfl)) pe_int (fun _ _ => rfl)) pa_nil))))))
      (pss_one (ps_ret (pe_and (pe_cmpR op_notN (pv 2) pe_non (nomark _)) (pe_one (pe_cmpR op_lt (pv 2) pe_int (nomark _)))))))), ?_⟩
  refine ⟨fun σ' H' => (∃ e r, d = .tuple (encB e :: r)) ∧ σ' = [some (.ref a), some v, none] ∧ H = H', ?_, ?_⟩
  · refine ⟨_, rfl, v, _, _, _, _, rfl, .ty "tuple", ty_dt hd, kit_ty (kit_tup d), _, rfl, ?_⟩
    cases h1 : isT "tuple" d with
    | false =>
      have e : rngJ es d = false := by cases d <;> first | rfl | (exfalso; revert h1; simp [isT])
      rw [e] at q
      exact q H (Evl.Ex.refl H)
    | true =>
      obtain ⟨ds, rfl⟩ := isT_tup h1
      obtain ⟨b, ys, rfl, hs, hy⟩ := dt_tup hd
      have hl := dta_len hy
      refine ⟨_, rfl, b, ys, rfl, .inr (SqT.of hs), rfl, _, rfl, ?_⟩
      cases hy with
      | nil => exact q H (Evl.Ex.refl H)
      | cons g1 gr =>
        rename_i v0 vr d0 r
        refine ite2 (fun h => absurd h (by simp; omega)) (fun _ => ?_)
        refine ⟨_, rfl, b, _, 0, _, rfl, rfl, SqT.of hs, at_of (show (0 : Int) = ((0 : Nat) : Int) from rfl) rfl, v0, d0, rfl, g1, _, rfl, ?_⟩
        cases hbd : isBd d0 with
        | false =>
          have e : rngJ es (.tuple (d0 :: r)) = false := by show (isBd d0 && _) = false; rw [hbd]; rfl
          rw [e] at q
          exact q H (Evl.Ex.refl H)
        | true =>
          obtain ⟨e, rfl⟩ := isBd_enc hbd
          exact ⟨⟨e, r, rfl⟩, rfl, rfl⟩
  · rintro σ' H' ⟨⟨e, r, rfl⟩, rfl, rfl⟩
    obtain ⟨b, ys, rfl, hs, hy⟩ := dt_tup hd
    cases hy with
    | cons g1 gr =>
      obtain ⟨r0, rfl, hr0⟩ := dt_tb g1
      have a0 : ∀ (v : V) vs, atI (v :: vs) 0 = some v := fun v vs => at_of (show (0 : Int) = ((0 : Nat) : Int) from rfl) rfl
      refine ⟨_, rfl, _, rfl, _, rfl, b, _, 0, _, rfl, rfl, SqT.of hs, a0 _ _, r0, _, 0, _, rfl, rfl, SqT.of hr0, rfl, _, rfl, b, _, 0, _, rfl, rfl, SqT.of hs, a0 _ _, r0, _, 0, _, rfl, rfl, SqT.of hr0, rfl, ?_⟩
      refine ⟨a, es, .ref b, _, e.1, e.1, rfl, hb, hes, hd, fun H2 e2 => ?_⟩
      have er : rngJ es (.tuple (encB e :: r)) = match sumJ es (.tuple (encB e :: r)) e.1 e.1 with | some t => decide (t < 0) | none => false := rfl
      rw [er] at q
      refine ⟨_, rfl, rfl, _, rfl, ?_⟩
      cases hs2 : sumJ es (.tuple (encB e :: r)) e.1 e.1 with
      | none =>
        rw [hs2] at q
        exact q H2 e2
      | some t =>
        rw [hs2] at q
        exact ⟨_, rfl, _, _, rfl, rfl, q H2 e2⟩
def spAns (K : PySem.W.Frag) : Sp := fun vs H Q _ => ∃ v d z m, vs = [v, .str z, .int m] ∧ Dt H v d ∧ 1 ≤ m ∧ Q (.bl (ansJ d z m)) H
abbrev Nis_answer : List Str := ["value", "word", "many"]
theorem scis_answer : FnScope Nis_answer ["value", "word", "many"] (defScope (top 34)) := ⟨rfl, rfl, rfl, by decide +kernel, rfl, by decide +kernel, by decide +kernel⟩
theorem ok_ans (T : Txt K mg) : Cal P w K mg base CX0 1 "is_answer" ["value", "word", "many"] (spAns K) := by
  refine mkCal T.g_is_answer T.d_is_answer scis_answer (fun _ _ _ _ _ _ us hl => match us, hl with | [_, _, _], _ => rfl) (fun vs H Q E h => ?_) fun cdv A outer s0 H vs Q E hr h => ?_
  · obtain ⟨_, _, _, _, rfl, _⟩ := h; rfl
  obtain ⟨v, d, z, m, rfl, hd, hm, q⟩ := h
  refine ⟨_, (pss_one (ps_ret (pe_and (pe_callB (isiR (K := K)) (by rfl) T.n_isinstance (by decide +kernel) (pa_cons (pv 0) (pa_cons (pe_bltn (v := .ty "tuple") rfl T.n_tuple (by decide +kernel) rfl) pa_nil))) (pe_and (pe_cmpR op_eq (pe_callB (lenL (K := K)) (by rfl) T.n_len PySem.boot_len (pa_cons (pv 0) pa_nil)) (pv 2) (nomark _)) (pe_and (pe_callB (isiR (K := K)) (by rfl) T.n_isinstance (by decide +kernel) (pa_cons (pe_ix (ixT (K := K)) (pv 0) pe_int (fun _ _ => rfl)) (pa_cons (pe_bltn (v := .ty "str") rfl T.n_str (by decide +kernel) rfl) pa_nil))) (pe_one (pe_cmpR op_eq (pe_ix (ixT (K := K)) (pv 0) pe_int (fun _ _ => rfl)) (pv 1) (nomark _)))))))), ?_⟩
  refine ⟨_, rfl, v, _, _, _, _, rfl, .ty "tuple", ty_dt hd, kit_ty (kit_tup d), _, rfl, ?_⟩
  cases h1 : isT "tuple" d with
  | false =>
    have e : ansJ d z m = false := by cases d <;> first | rfl | (exfalso; revert h1; simp [isT])
    rw [e] at q; exact q
  | true =>
    obtain ⟨ds, rfl⟩ := isT_tup h1
    obtain ⟨b, ys, rfl, hs, hy⟩ := dt_tup hd
    have hl := dta_len hy
    refine ⟨_, rfl, b, ys, rfl, .inr (SqT.of hs), _, rfl, rfl, _, rfl, ?_⟩
    refine ite2 (fun h2 => ?_) (fun h2 => ?_)
    · have h2 : (ys.length : Int) = m := by have := of_decide_eq_true h2; injection this
      cases hy with
      | nil => simp at h2; omega
      | cons g1 gr =>
        rename_i v0 vr d0 r _
        have a0 : atI (v0 :: vr) 0 = some v0 := at_of (show (0 : Int) = ((0 : Nat) : Int) from rfl) rfl
        refine ⟨_, rfl, b, _, 0, _, rfl, rfl, SqT.of hs, a0, _, _, _, _, _, rfl, .ty "str", ty_dt g1, kit_ty (kit_str d0), _, rfl, ?_⟩
        cases h3 : isT "str" d0 with
        | false =>
          have e : ansJ (.tuple (d0 :: r)) z m = false := by cases d0 <;> first | rfl | (exfalso; revert h3; simp [isT])
          rw [e] at q; exact q
        | true =>
          obtain ⟨y, rfl⟩ := isT_str h3
          cases g1
          refine ⟨_, rfl, b, _, 0, _, rfl, rfl, SqT.of hs, a0, _, rfl, rfl, ?_⟩
          have hrl : (r.length : Int) + 1 = m := by rw [← h2]; have := dta_len gr; simp; omega
          have e : ansJ (.tuple (.str y :: r)) z m = decide (V.str y = V.str z) := by
            show (decide ((r.length : Int) + 1 = m) && decide (y = z)) = _
            rw [decide_eq_true hrl, Bool.true_and]
            by_cases hyz : y = z
            · rw [hyz]; simp
            · rw [decide_eq_false hyz, decide_eq_false fun h => hyz (by injection h)]
          rw [e] at q
          exact q
    · have h2 : ¬ (ys.length : Int) = m := fun z => h2 (by rw [z]; simp)
      have e : ansJ (.tuple ds) z m = false := by
        cases hy with
        | nil => rfl
        | cons g1 gr =>
          rename_i v0 vr d0 r _
          have : ¬ ((r.length : Int) + 1 = m) := fun z => h2 (by rw [← z]; have := dta_len gr; simp; omega)
          cases d0 <;> first | rfl | (show (decide _ && _) = false; rw [decide_eq_false this]; rfl)
      rw [e] at q; exact q
end
end K43
namespace K43
open PySem PySem.Spec PyProof.Rows L2 Hx Hd M43
open Evl (pss_cut tCut ex_l ex_t)
def strL : List PyData → Option (List Str)
  | [] => some []
  | .str z :: r => (strL r).map (z :: ·)
  | _ :: _ => none
theorem strL_of : ∀ {ds : List PyData} {l : List Str}, strL ds = some l → ds = l.map PyData.str
  | [], l, h => by cases h; rfl
  | d :: r, l, h => by
    cases d <;> try (cases h; done)
    rename_i z
    obtain ⟨l', h1, rfl⟩ := Option.map_eq_some_iff.mp h
    rw [strL_of h1]; rfl
theorem strL_map : ∀ l : List Str, strL (l.map PyData.str) = some l
  | [] => rfl
  | z :: l => by show (strL (l.map PyData.str)).map _ = _; rw [strL_map l]; rfl
theorem strL_all : ∀ {ds : List PyData}, (strL ds).isSome = ds.all isStr
  | [] => rfl
  | d :: r => by
    rw [List.all_cons, ← strL_all]
    cases d <;> first | rfl | (show ((strL r).map _).isSome = (true && _); simp)
def ltS (a b : Str) : Bool := decide (a.cps.toList < b.cps.toList)
def ascB (l : List Str) : Bool := (List.range (l.length - 1)).all fun i => ltS (l.getD i Str.empty) (l.getD (i + 1) Str.empty)
def riseL (es : List Bd) (ns l : List Str) (x y : Str) : Bool := l.all (fun z => decide (z ∈ ns)) && (ascB l && (decide (x ∈ l) && (!decide (y ∈ l) && es.all fun e => !decide (e.1 ∈ l) || decide (e.2.1 ∈ l))))
def riseJ (es : List Bd) (ns : List Str) (d : PyData) (x y : Str) : Bool := match d with
  | .list ds => match strL ds with
    | some l => riseL es ns l x y
    | none => false
  | _ => false
theorem riseJ_list {es : List Bd} {ns l : List Str} {x y : Str} : riseJ es ns (.list (l.map PyData.str)) x y = riseL es ns l x y := by
  show (match strL (l.map PyData.str) with | some l => riseL es ns l x y | none => false) = _
  rw [strL_map]
theorem inV_str : ∀ (z : Str) (l : List Str), inV (.str z) (l.map V.str) = decide (z ∈ l) := by
  intro z l
  induction l with
  | nil => rfl
  | cons y l ih =>
    rw [Bool.eq_iff_iff, decide_eq_true_iff]
    have h0 : inV (.str z) ((y :: l).map V.str) = (eqV (.str y) (.str z) || inV (.str z) (l.map V.str)) := rfl
    rw [h0, Bool.or_eq_true, ih, decide_eq_true_iff, List.mem_cons]
    have h1 : eqV (.str y) (.str z) = true ↔ z = y := by
      show (y == z) = true ↔ _
      rw [beq_iff_eq]; exact eq_comm
    rw [h1]
theorem flat_strs (l : List Str) : (l.map V.str).all flatV = true := by rw [List.all_map, List.all_eq_true]; intro _ _; rfl
section
variable {P : Program} {w : World} {K : PySem.W.Frag} {mg : Str → Option Value} {base : Heap}
def spIsSet (K : PySem.W.Frag) : Sp := fun vs H Q E => ∃ b db v d, vs = [b, v] ∧ Dt H b db ∧ Dt H v d ∧ (∀ ds, db = .list ds → ds.length ≤ 100000) ∧ (isBds db = false → Err (He.ga K "BadValue") "name" "bounds" H E) ∧ ∀ es : List Bd, db = .list (es.map encB) → ∀ H2, Ex H H2 → Q (.bl (setJ es d)) H2
abbrev Nis_settled : List Str := ["bounds", "value"]
theorem scis_settled : FnScope Nis_settled ["bounds", "value"] (defScope (top 35)) := ⟨rfl, rfl, rfl, by decide +kernel, rfl, by decide +kernel, by decide +kernel⟩
theorem ok_isset (T : Txt K mg) (C_check : Cal P w K mg base (L2.CX P w) 4 "check_bounds" ["bounds"] (spChk K)) (C_is_answer : Cal P w K mg base CX0 1 "is_answer" ["value", "word", "many"] (spAns K)) (C_is_ring : Cal P w K mg base CX0 4 "is_ring" ["bounds", "value"] (spIsRing K))
    (C_are_numbers : Cal P w K mg base CX0 2 "are_numbers" ["names", "value"] (spArn K)) (C_names_of : Cal P w K mg base CX0 1 "names_of" ["edges"] (spNames K)) (C_are_met : Cal P w K mg base CX0 1 "are_met" ["edges", "numbers"] (spMet K)) : Cal P w K mg base (L2.CX P w) 5 "is_settled" ["bounds", "value"] (spIsSet K) := by
  refine mkCalX T.g_is_settled T.d_is_settled scis_settled (fun _ _ _ _ _ _ us hl => match us, hl with | [_, _], _ => rfl) (fun vs H Q E h => ?_) fun cdv A outer s0 H vs Q E hr h => ?_
  · obtain ⟨_, _, _, _, rfl, _⟩ := h; rfl
  obtain ⟨b, db, v, d, rfl, hb, hd, hz, q1, q2⟩ := h
  refine ⟨_, (pss_cons (ps_expr (pe_cal (E := E) C_check (hr.mono (by decide)) (passes_call (takes_of rfl rfl rfl rfl) (fun _ _ _ _ h => h)) (pa_cons (pv 0) pa_nil)))
    (PSs.nox (pss_cons (ps_if (pt_val (pe_cal (E := E0) C_is_answer (hr.mono (by decide)) pass0 (pa_cons (pv 1) (pa_cons pe_str (pa_cons pe_int pa_nil))))) (pss_one (ps_ret (pe_cal (E := E0) C_is_ring (hr.mono (by decide)) pass0 (pa_cons (pv 0) (pa_cons (pe_ix (ixT (K := K)) (pv 1) pe_int (fun _ _ => rfl)) pa_nil))))) pss_nil)
      (pss_cons (ps_if (pt_not (pt_val (pe_cal (E := E0) C_is_answer (hr.mono (by decide)) pass0 (pa_cons (pv 1) (pa_cons pe_str (pa_cons pe_int pa_nil)))))) (pss_one (ps_ret pe_bl)) pss_nil)
      (pss_one (ps_ret (pe_and (pe_cal (E := E0) C_are_numbers (hr.mono (by decide)) pass0 (pa_cons (pe_cal (E := E0) C_names_of (hr.mono (by decide)) pass0 (pa_cons (pv 0) pa_nil)) (pa_cons (pe_ix (ixT (K := K)) (pv 1) pe_int (fun _ _ => rfl)) pa_nil))) (pe_one (pe_cal (E := E0) C_are_met (hr.mono (by decide)) pass0 (pa_cons (pv 0) (pa_cons (pe_ix (ixT (K := K)) (pv 1) pe_int (fun _ _ => rfl)) pa_nil))))))))))), ?_⟩
  refine ⟨_, rfl, b, db, rfl, hb, hz, fun hw H1 e1 => ?_, q1⟩
  obtain ⟨es, rfl⟩ := isBds_enc hw
  obtain ⟨a, rfl, hbd⟩ := dt_bds hb
  have hb1 := hbd.ex e1
  have hes : es.length ≤ 100000 := by have := hz _ rfl; rwa [List.length_map] at this
  have hd1 := ex_dt e1 _ _ hd
  have q := q2 es rfl
  refine ⟨_, rfl, v, d, _, 2, rfl, hd1, by decide, _, rfl, ?_⟩
  cases h1 : ansJ d (Str.ofString "ring") 2 with
  | true =>
    refine ite2 (fun _ => ?_) (fun h => absurd rfl h)
    obtain ⟨r, rfl, hrl⟩ := ans_tup h1
    obtain ⟨d1, rfl⟩ : ∃ d1, r = [d1] := match r, (show r.length = 1 by omega) with | [d1], _ => ⟨d1, rfl⟩
    obtain ⟨t, ys, rfl, ht, hy⟩ := dt_tup hd1
    cases hy with
    | cons g0 hy => cases hy with
      | cons g1 hy =>
        cases hy
        refine ⟨_, rfl, _, rfl, t, _, 1, _, rfl, rfl, SqT.of ht, rfl, a, es, _, d1, rfl, hb1, hes, g1, fun H2 e2 => ?_⟩
        have e : setJ es (.tuple [.str (Str.ofString "ring"), d1]) = rngJ es d1 := by unfold setJ; rw [if_pos h1]
        rw [e] at q
        exact q H2 (e1.trans e2)
  | false =>
    refine ite2 (fun h => absurd h (by decide)) (fun _ => ?_)
    refine ⟨_, rfl, v, d, _, 2, rfl, hd1, by decide, _, rfl, ?_⟩
    cases h2 : ansJ d (Str.ofString "numbers") 2 with
    | false =>
      have e : setJ es d = false := by unfold setJ; rw [h1, h2]; rfl
      rw [e] at q
      exact q H1 e1
    | true =>
      obtain ⟨r, rfl, hrl⟩ := ans_tup h2
      obtain ⟨d1, rfl⟩ : ∃ d1, r = [d1] := match r, (show r.length = 1 by omega) with | [d1], _ => ⟨d1, rfl⟩
      have e : setJ es (.tuple [.str (Str.ofString "numbers"), d1]) = (areNum (nms es) d1 && metJ es d1) := by unfold setJ; rw [h1, h2]; rfl
      rw [e] at q
      obtain ⟨t, ys, rfl, ht, hy⟩ := dt_tup hd1
      cases hy with
      | cons g0 hy => cases hy with
        | cons g1 hy =>
          cases hy
          refine ⟨_, rfl, a, es, rfl, hb1, hes, fun an H2 hn2 e2 han => ?_⟩
          have nl := nms_len es
          refine ⟨_, rfl, t, _, 1, _, rfl, rfl, SqT.of (e2 _ _ ht), rfl, an, nms es, _, d1, rfl, han, ?_, ex_dt e2 _ _ g1, fun H3 e3 => ⟨_, rfl, ?_⟩⟩
          · omega
          cases h3 : areNum (nms es) d1 with
          | false =>
            rw [h3] at q
            exact q H3 (e1.trans (e2.trans e3))
          | true =>
            refine ite2 (fun _ => ?_) (fun h => absurd rfl h)
            rw [h3] at q
            obtain ⟨ks, rfl, hks⟩ := arn_dict h3
            obtain ⟨bd, kvs, rfl, hbk, hkk⟩ := dt_dict g1
            have e13 := e2.trans e3
            refine ⟨_, rfl, _, rfl, t, _, 1, _, rfl, rfl, SqT.of (e13 _ _ ht), rfl, a, es, bd, kvs, numOf ks, rfl, hb1.ex e13, hes, e13 _ _ hbk, fun e he => ?_, fun H4 e4 => q H4 (e1.trans (e13.trans e4))⟩
            obtain ⟨n1, n2⟩ := nms_ends es e he
            exact ⟨num_at hkk (hks _ n1), num_at hkk (hks _ n2)⟩
end
end K43
namespace K43
open PySem PySem.Spec PyProof.Rows L2 Hx Hd M43
open Evl (pss_cut tCut ex_l ex_t)
def memS (ns : List Str) (d : PyData) : Bool := match d with | .str z => decide (z ∈ ns) | _ => false
theorem memS_all {ns l : List Str} : (l.map PyData.str).all (memS ns) = l.all fun z => decide (z ∈ ns) := by rw [List.all_map]; rfl
theorem strL_of_all {ns : List Str} : ∀ {ds : List PyData}, ds.all (memS ns) = true → ∃ l : List Str, ds = l.map PyData.str
  | [], _ => ⟨[], rfl⟩
  | d :: r, h => by
    rw [List.all_cons, Bool.and_eq_true] at h
    obtain ⟨l, rfl⟩ := strL_of_all h.2
    cases d <;> try (cases h.1; done)
    rename_i z
    exact ⟨z :: l, rfl⟩
theorem dta_strs {H : Hp} : ∀ {l : List Str} {ys : List V}, DtAll H ys (l.map PyData.str) → ys = l.map V.str
  | [], _, h => by cases h; rfl
  | z :: l, _, h => by
    cases h with
    | cons h1 h2 => cases h1; rw [dta_strs h2]; rfl
theorem foldK_mem : ∀ (l : List (Key × V)) (acc : List (Key × V)) (k : Key), (valV (l.foldl (fun acc p => putK acc p.1 p.2) acc) k).isSome = true ↔ (valV acc k).isSome = true ∨ ∃ p ∈ l, p.1 = k
  | [], acc, k => by simp
  | p :: l, acc, k => by
    rw [List.foldl_cons, foldK_mem l, valV_put]
    by_cases h : k = p.1
    · rw [if_pos h]
      exact ⟨fun _ => .inr ⟨p, List.mem_cons_self .., h.symm⟩, fun _ => .inl rfl⟩
    · rw [if_neg h]
      constructor
      · rintro (z | ⟨q, hq, e⟩)
        · exact .inl z
        · exact .inr ⟨q, List.mem_cons_of_mem _ hq, e⟩
      · rintro (z | ⟨q, hq, e⟩)
        · exact .inl z
        · rcases List.mem_cons.mp hq with rfl | hq
          · exact absurd e.symm h
          · exact .inr ⟨q, hq, e⟩
section
variable {P : Program} {w : World} {K : PySem.W.Frag} {mg : Str → Option Value} {base : Heap}
def spRise (K : PySem.W.Frag) : Sp := fun vs H Q _ => ∃ a es an ns v d x y, vs = [.ref a, .ref an, v, .str x, .str y] ∧ Bds H a es ∧ es.length ≤ 100000 ∧ H an = some (.lst (ns.map V.str)) ∧ Dt H v d ∧ (∀ ds, d = .list ds → ds.length ≤ 100000) ∧ ∀ H2, Ex H H2 → Q (.bl (riseJ es ns d x y)) H2
abbrev Ncan_rise : List Str := ["bounds", "names", "value", "x", "y", "name", "at", "inside", "bound"]
theorem sccan_rise : FnScope Ncan_rise ["bounds", "names", "value", "x", "y"] (defScope (top 36)) := ⟨rfl, rfl, rfl, by decide +kernel, rfl, by decide +kernel, by decide +kernel⟩
theorem ok_rise (T : Txt K mg) : Cal P w K mg base CX0 1 "can_rise" ["bounds", "names", "value", "x", "y"] (spRise K) := by
  refine mkCal T.g_can_rise T.d_can_rise sccan_rise (fun _ _ _ _ _ _ us hl => match us, hl with | [_, _, _, _, _], _ => rfl) (fun vs H Q E h => ?_) fun cdv A outer s0 H vs Q E hr h => ?_
  · obtain ⟨_, _, _, _, _, _, _, _, rfl, _⟩ := h; rfl
  obtain ⟨a, es, an, ns, v, d, x, y, rfl, hb, hes, han, hd, hz, q⟩ := h
  refine ⟨_, (pss_cut (ps_if (PW.pt (pw_or (pt_not (pt_val (pe_callB (isiR (K := K)) (by rfl) T.n_isinstance (by decide +kernel) (pa_cons (pv 2) (pa_cons (pe_bltn (v := .ty "list") rfl T.n_list (by decide +kernel) rfl) pa_nil))))) (pw_or1 (pt_not (pt_val (pe_callB (allR (K := K) rfl) (by rfl) T.n_all (by decide +kernel) (pa_cons (pe_lc (own := [("name", 5)]) (g := gName 5) rfl sccan_rise.nd (piL (K := K) (pv 2)) (blkOk_by (N := Ncan_rise) (sc := defScope (top 36)) (by decide +kernel)) (fun _ _ _ _ _ => (pg_name (i := 5) sccan_rise.nd rfl (Or.inl rfl))) (fun _ _ _ _ _ => pts_nil) (fun _ _ _ _ _ => (pe_and (pe_callB (isiR (K := K)) (by rfl) T.n_isinstance (by decide +kernel) (pa_cons (pv 5) (pa_cons (pe_bltn (v := .ty "str") rfl T.n_str (by decide +kernel) rfl) pa_nil))) (pe_one (pe_cmpR (inL (K := K)) (pv 5) (pv 1) (by rfl)))))) pa_nil))))))) (pss_one (ps_ret pe_bl)) pss_nil)
      (pss_cons (ps_if (pt_not (pt_val (pe_callB (allR (K := K) rfl) (by rfl) T.n_all (by decide +kernel) (pa_cons (pe_lc (own := [("at", 6)]) (g := gName 6) rfl sccan_rise.nd (pi_range1 (by rfl) T.n_range (pa_cons (pe_op op_sub (pe_callB (lenL (K := K)) (by rfl) T.n_len PySem.boot_len (pa_cons (pv 2) pa_nil)) pe_int) pa_nil)) (blkOk_by (N := Ncan_rise) (sc := defScope (top 36)) (by decide +kernel)) (fun _ _ _ _ _ => (pg_name (i := 6) sccan_rise.nd rfl (Or.inl rfl))) (fun _ _ _ _ _ => pts_nil) (fun _ _ _ _ _ => (pe_cmpR op_lt_str (pe_ix (ixL (K := K)) (pv 2) (pv 6) (fun _ _ => rfl)) (pe_ix (ixL (K := K)) (pv 2) (pe_op op_add (pv 6) pe_int) (fun _ _ => rfl)) (nomark _)))) pa_nil)))) (pss_one (ps_ret pe_bl)) pss_nil)
      (pss_cons (ps_set (i := 7) sccan_rise.nd rfl (Or.inr rfl) (pe_dc (own := [("name", 5)]) (g := gName 5) rfl sccan_rise.nd (piL (K := K) (pv 2)) (blkOk_by (N := Ncan_rise) (sc := defScope (top 36)) (by decide +kernel)) (fun _ _ _ _ _ => (pg_name (i := 5) sccan_rise.nd rfl (Or.inl rfl))) (fun _ _ _ _ _ => pts_nil) (fun _ _ _ _ _ => (pv 5)) (fun _ _ _ _ _ => pe_bl)))
      (pss_cut (ps_if (PW.pt (pw_or (pt_cmp (pc_dnotin (hu_of hr) (pv 3) (pv 7))) (pw_or1 (pt_cmp (pc_din (hu_of hr) (pv 4) (pv 7)))))) (pss_one (ps_ret pe_bl)) pss_nil)
      (pss_one (ps_ret (pe_callB (allR (K := K) rfl) (by rfl) T.n_all (by decide +kernel) (pa_cons (pe_lc (own := [("bound", 8)]) (g := gName 8) rfl sccan_rise.nd (piL (K := K) (pv 0)) (blkOk_by (N := Ncan_rise) (sc := defScope (top 36)) (by decide +kernel)) (fun _ _ _ _ _ => (pg_name (i := 8) sccan_rise.nd rfl (Or.inl rfl))) (fun _ _ _ _ _ => pts_nil) (fun _ _ _ _ _ => (pe_or (pe_cmp (pc_dnotin (hu_of hr) (pe_ix (ixT (K := K)) (pv 8) pe_int (fun _ _ => rfl)) (pv 7))) (pe_one (pe_cmp (pc_din (hu_of hr) (pe_ix (ixT (K := K)) (pv 8) pe_int (fun _ _ => rfl)) (pv 7))))))) pa_nil)))))))), ?_⟩
  refine ⟨fun σ' H' => ∃ l : List Str, d = .list (l.map PyData.str) ∧ (l.all fun z => decide (z ∈ ns)) = true ∧ σ' = [some (.ref a), some (.ref an), some v, some (.str x), some (.str y), none, none, none, none] ∧ Ex H H', ?_, ?_⟩
  · refine ⟨_, rfl, v, _, _, _, _, rfl, .ty "list", ty_dt hd, kit_ty (kit_list d), _, rfl, ?_⟩
    cases h1 : isT "list" d with
    | false =>
      have e : riseJ es ns d x y = false := by cases d <;> first | rfl | (exfalso; revert h1; simp [isT])
      rw [e] at q
      exact q H (Evl.Ex.refl H)
    | true =>
      obtain ⟨ds, rfl⟩ := isT_list h1
      obtain ⟨b, ys, rfl, hs, hy⟩ := dt_list hd
      have hl := dta_len hy
      have hz' := hz ds rfl
      refine ⟨_, rfl, b, rfl, ⟨ys, SqL.of hs⟩, fun D hD => ?_⟩
      refine lcB (K := K) walk_list (fun H' e => SqL.of (e _ _ hs)) (by omega) (fun i => memS ns (ds.getD i .none)) (fun i => [some (.ref a), some (.ref an), some (.ref b), some (.str x), some (.str y), some (ys.getD i .non), none, none, none])
        (fun i u G' H' H'' hi a' yy Q q => turn_name (σ0 := [some (.ref a), some (.ref an), some (.ref b), some (.str x), some (.str y), none, none, none, none]) (j := 5) a' yy (by rw [List.getD_eq_getElem?_getD]; simp [hi]) q) (fun _ _ => rfl) (fun i H' hi e Q q => ?_) hD (fun H' e hl' => ?_)
      · obtain ⟨d1, e1, g1⟩ := dta_get hy (i := i) (v := ys.getD i .non) (by rw [List.getD_eq_getElem?_getD]; simp [hi])
        rw [getD_of e1] at q
        have g1 := ex_dt e _ _ g1
        refine ⟨_, rfl, _, _, _, _, _, rfl, .ty "str", ty_dt g1, kit_ty (kit_str d1), _, rfl, ?_⟩
        cases h3 : isT "str" d1 with
        | false =>
          have e : memS ns d1 = false := by cases d1 <;> first | rfl | (exfalso; revert h3; simp [isT])
          rw [e] at q
          exact q H' (Evl.Ex.refl H')
        | true =>
          obtain ⟨z, rfl⟩ := isT_str h3
          generalize hg : ys.getD i .non = u at g1 ⊢
          cases g1
          refine ⟨_, rfl, _, rfl, an, _, rfl, .inl (SqL.of (e _ _ han)), rfl, flat_strs ns, ?_⟩
          rw [inV_str]
          exact q H' (Evl.Ex.refl H')
      · refine ⟨D, _, rfl, hl', _, rfl, ?_⟩
        rw [hl, range_map ds .none (memS ns), List.all_map]
        show (if (!(ds.all (memS ns))) = true then _ else _)
        cases ha : ds.all (memS ns) with
        | true =>
          obtain ⟨l, rfl⟩ := strL_of_all ha
          rw [memS_all] at ha
          exact ⟨l, rfl, ha, rfl, e⟩
        | false =>
          have e2 : riseJ es ns (.list ds) x y = false := by
            show (match strL ds with | some l => riseL es ns l x y | none => false) = false
            cases hs : strL ds with
            | none => rfl
            | some l =>
              have := strL_of hs
              rw [this, memS_all] at ha
              show riseL es ns l x y = false
              unfold riseL
              rw [ha]; rfl
          rw [e2] at q
          exact q H' e
  rintro σ' H1 ⟨l, rfl, hall, rfl, e1⟩
  rw [riseJ_list] at q
  obtain ⟨b, ys, rfl, hs, hy⟩ := dt_list hd
  have hyl := dta_strs hy
  subst hyl
  have hlz : l.length ≤ 100000 := by have := hz _ rfl; rwa [List.length_map] at this
  have hs1 := e1 _ _ hs
  have g : ∀ i, i < l.length → (l.map V.str)[i]? = some (.str (l.getD i Str.empty)) := fun i hi => by
    rw [List.getElem?_map, List.getD_eq_getElem?_getD, List.getElem?_eq_getElem hi]; rfl
  refine ⟨_, rfl, b, _, rfl, .inl (SqL.of hs1), _, _, rfl, rfl, _, rfl, ?_⟩
  rw [List.length_map]
  refine ⟨by omega, by omega, fun D0 hD0 => ?_⟩
  rw [show ((l.length : Int) - 1).toNat = l.length - 1 by omega]
  refine lcB (K := K) walk_range (fun _ _ => True.intro) (by omega) (fun i => ltS (l.getD i Str.empty) (l.getD (i + 1) Str.empty)) (fun i => [some (.ref a), some (.ref an), some (.ref b), some (.str x), some (.str y), none, some (.int (i : Nat)), none, none])
      (fun i u G' H' H'' hi a' yy Q q => turn_range0 (σ0 := [some (.ref a), some (.ref an), some (.ref b), some (.str x), some (.str y), none, none, none, none]) (j := 6) a' yy q) (fun _ _ => rfl) (fun i H' hi e Q q => ?_) hD0 (fun H2 e2' hl' => ?_)
  · have hs' := e _ _ hs1
    exact ⟨_, rfl, _, rfl, b, _, _, _, rfl, rfl, SqL.of hs', at_nat (g i (by omega)), _, rfl, _, rfl, _, _, rfl, rfl, b, _, _, _, rfl, rfl, SqL.of hs', at_of (show ((i : Int) + 1) = ((i + 1 : Nat) : Int) by omega) (g (i + 1) (by omega)), _, _, rfl, rfl, q H' (Evl.Ex.refl H')⟩
  refine ⟨D0, _, rfl, hl', _, rfl, ?_⟩
  rw [List.all_map]
  show (if (!(ascB l)) = true then _ else _)
  cases hasc : ascB l with
  | false =>
    have e2 : riseL es ns l x y = false := by unfold riseL; rw [hasc]; simp
    rw [e2] at q
    exact q H2 (e1.trans e2')
  | true =>
  have e2 := e1.trans e2'
  refine ite2 (fun h => absurd h (by decide)) (fun _ => ?_)
  have hs2 := e2 _ _ hs
  refine ⟨_, rfl, b, rfl, ⟨_, SqL.of hs2⟩, fun D hD => ?_⟩
  refine dcW (M := NoM) walk_list (Evl.Ex.refl H2) (fun H' e => SqL.of (e _ _ hs2)) (by rw [List.length_map]; omega) (fun i => (Sum.inr (l.getD i Str.empty), .bl true)) (fun i => [some (.ref a), some (.ref an), some (.ref b), some (.str x), some (.str y), some (.str (l.getD i Str.empty)), none, none, none])
    (fun i u G' H' H'' hi a' yy Q q => turn_name (σ0 := [some (.ref a), some (.ref an), some (.ref b), some (.str x), some (.str y), none, none, none, none]) (j := 5) a' yy (g i (by rwa [List.length_map] at hi)) q) (fun _ _ => rfl) (fun i G' H' hi a' Q q => ⟨_, rfl, q G' H' (Stp.refl a'.gh)⟩) (fun i G' H' hi a' Q q => q G' H' (Stp.refl a'.gh)) (fun _ _ h => h) hD (fun G3 H3 a3 gD hD3 => ?_)
  have e3 : Ex H2 H3 := a3.gg.trans a3.gh
  have hin : ∀ z : Str, (valV (((List.range (l.map V.str).length).map fun i => ((Sum.inr (l.getD i Str.empty) : Key), V.bl true)).foldl (fun acc p => putK acc p.1 p.2) []) (Sum.inr z)).isSome = decide (z ∈ l) := by
    intro z
    rw [Bool.eq_iff_iff, foldK_mem, decide_eq_true_iff, List.length_map, range_map l Str.empty (fun z => ((Sum.inr z : Key), V.bl true))]
    constructor
    · rintro (h | ⟨p, hp, he⟩)
      · cases h
      · obtain ⟨f, hf, rfl⟩ := List.mem_map.mp hp
        rw [← Sum.inr.inj he]; exact hf
    · intro h
      exact .inr ⟨_, List.mem_map.mpr ⟨z, h, rfl⟩, rfl⟩
  generalize ((List.range (l.map V.str).length).map fun i => ((Sum.inr (l.getD i Str.empty) : Key), V.bl true)).foldl (fun acc p => putK acc p.1 p.2) [] = kvs at hin hD3
  have e03 := e2.trans e3
  refine ⟨fun σ' H' => decide (x ∈ l) = true ∧ decide (y ∈ l) = false ∧ σ' = [some (.ref a), some (.ref an), some (.ref b), some (.str x), some (.str y), none, none, some (.ref D), none] ∧ H3 = H', ?_, ?_⟩
  · refine ⟨_, rfl, _, rfl, D, _, rfl, DGet.k (k := Sum.inr x) hD3, _, rfl, ?_⟩
    rw [hin]
    cases hx : decide (x ∈ l) with
    | false =>
      have e : riseL es ns l x y = false := by unfold riseL; rw [hx]; simp
      rw [e] at q
      exact q H3 e03
    | true =>
      refine ⟨_, rfl, _, rfl, D, _, rfl, DGet.k (k := Sum.inr y) hD3, _, rfl, ?_⟩
      rw [hin]
      cases hyl : decide (y ∈ l) with
      | true =>
        have e : riseL es ns l x y = false := by unfold riseL; rw [hyl]; simp
        rw [e] at q
        exact q H3 e03
      | false => exact ⟨rfl, rfl, rfl, rfl⟩
  rintro σ' H' ⟨hx, hyl, rfl, rfl⟩
  have e : riseL es ns l x y = es.all fun e => !decide (e.1 ∈ l) || decide (e.2.1 ∈ l) := by unfold riseL; rw [hall, hasc, hx, hyl]; rfl
  rw [e] at q
  obtain ⟨xs, hxs, pr⟩ := hb.ex e03
  have hxl := pr.length
  let d0 : Bd := (Str.empty, Str.empty, 0)
  refine ⟨_, rfl, a, rfl, ⟨xs, SqL.of hxs⟩, fun D2 hD2 => ?_⟩
  refine lcB (K := K) walk_list (fun H' e => SqL.of (e _ _ hxs)) (by omega) (fun i => !decide ((es.getD i d0).1 ∈ l) || decide ((es.getD i d0).2.1 ∈ l)) (fun i => [some (.ref a), some (.ref an), some (.ref b), some (.str x), some (.str y), none, none, some (.ref D), some (xs.getD i .non)])
    (fun i u G' H' H'' hi a' yy Q q => turn_name (σ0 := [some (.ref a), some (.ref an), some (.ref b), some (.str x), some (.str y), none, none, some (.ref D), none]) (j := 8) a' yy (by rw [List.getD_eq_getElem?_getD]; simp [hi]) q) (fun _ _ => rfl) (fun i H' hi e Q q => ?_) hD2 (fun H' e hl' => ?_)
  · obtain ⟨ed, he, r, hv, hr1⟩ := paired_at pr (i := i) (a := xs.getD i .non) (by rw [List.getD_eq_getElem?_getD]; simp [hi])
    have hr2 := SqT.of (K := K) (e _ _ hr1)
    have g1 := DGet.k (k := Sum.inr ed.1) (e _ _ hD3)
    have g2 := DGet.k (k := Sum.inr ed.2.1) (e _ _ hD3)
    rw [hv]
    rw [getD_of he] at q
    refine ⟨_, rfl, r, _, 0, _, rfl, rfl, hr2, rfl, _, rfl, D, _, rfl, g1, _, rfl, ?_⟩
    rw [hin]
    cases h1 : decide (ed.1 ∈ l) with
    | false =>
      rw [h1] at q
      exact q H' (Evl.Ex.refl H')
    | true =>
      rw [h1] at q
      refine ⟨_, rfl, r, _, 1, _, rfl, rfl, hr2, rfl, _, rfl, D, _, rfl, g2, ?_⟩
      rw [hin]
      exact q H' (Evl.Ex.refl H')
  · refine ⟨D2, _, rfl, hl', ?_⟩
    rw [hxl, range_map es d0 (fun e => !decide (e.1 ∈ l) || decide (e.2.1 ∈ l)), List.all_map]
    exact q H' (e03.trans e)
end
end K43
namespace K43
open PySem PySem.Spec PyProof.Rows L2 Hx Hd M43
open Evl (pss_cut tCut ex_l ex_t)
def numD (d : PyData) (z : Str) : Int := match d with | .dict ks => numOf ks z | _ => 0
/-- what is_highest tells -/
def highJ (es : List Bd) (x y : Str) (d : PyData) : Bool :=
  if ansJ d (Str.ofString "ring") 2 = true then (match d with | .tuple [_, d1] => rngJ es d1 | _ => false)
  else if ansJ d (Str.ofString "grows") 3 = true then (match d with | .tuple [_, d1, d2] => areNum (nmx es x y) d1 && (metJ es d1 && riseJ es (nmx es x y) d2 x y) | _ => false)
  else if ansJ d (Str.ofString "at most") 4 = true then (match d with
    | .tuple [_, .int v, d2, d3] => decide (sumJ es d2 x y = some v) && (areNum (nmx es x y) d3 && (metJ es d3 && decide (numD d3 x - numD d3 y = v)))
    | _ => false)
  else false
section
variable {P : Program} {w : World} {K : PySem.W.Frag} {mg : Str → Option Value} {base : Heap}
def spIsHigh (K : PySem.W.Frag) : Sp := fun vs H Q E => ∃ b db x dx y dy v d, vs = [b, x, y, v] ∧ Dt H b db ∧ Dt H x dx ∧ Dt H y dy ∧ Dt H v d ∧ (∀ ds, db = .list ds → ds.length ≤ 1001) ∧ (∀ (d0 d1 : PyData) (ds : List PyData), d = .tuple [d0, d1, .list ds] → ds.length ≤ 100000) ∧
  (isBds db = false → Err (He.ga K "BadValue") "name" "bounds" H E) ∧ (isBds db = true → isStr dx = false → Err (He.ga K "BadValue") "name" "x" H E) ∧ (isBds db = true → isStr dx = true → isStr dy = false → Err (He.ga K "BadValue") "name" "y" H E) ∧
  ∀ (es : List Bd) (zx zy : Str), db = .list (es.map encB) → dx = .str zx → dy = .str zy → ∀ H2, Ex H H2 → Q (.bl (highJ es zx zy d)) H2
abbrev Nis_highest : List Str := ["bounds", "x", "y", "value", "names", "name"]
theorem scis_highest : FnScope Nis_highest ["bounds", "x", "y", "value"] (defScope (top 37)) := ⟨rfl, rfl, rfl, by decide +kernel, rfl, by decide +kernel, by decide +kernel⟩
theorem ok_ishigh (T : Txt K mg) (C_check_ends : Cal P w K mg base (L2.CX P w) 5 "check_ends" ["bounds", "x", "y"] (spEnds K)) (C_names_of : Cal P w K mg base CX0 1 "names_of" ["edges"] (spNames K)) (C_is_answer : Cal P w K mg base CX0 1 "is_answer" ["value", "word", "many"] (spAns K)) (C_is_ring : Cal P w K mg base CX0 4 "is_ring" ["bounds", "value"] (spIsRing K))
    (C_are_numbers : Cal P w K mg base CX0 2 "are_numbers" ["names", "value"] (spArn K)) (C_are_met : Cal P w K mg base CX0 1 "are_met" ["edges", "numbers"] (spMet K)) (C_can_rise : Cal P w K mg base CX0 1 "can_rise" ["bounds", "names", "value", "x", "y"] (spRise K))
    (C_is_number : Cal P w K mg base CX0 1 "is_number" ["value"] (spNum K)) (C_sum_of_way : Cal P w K mg base CX0 3 "sum_of_way" ["bounds", "value", "x", "y"] (spSum K)) : Cal P w K mg base (L2.CX P w) 6 "is_highest" ["bounds", "x", "y", "value"] (spIsHigh K) := by
  refine mkCalX T.g_is_highest T.d_is_highest scis_highest (fun _ _ _ _ _ _ us hl => match us, hl with | [_, _, _, _], _ => rfl) (fun vs H Q E h => ?_) fun cdv A outer s0 H vs Q E hr h => ?_
  · obtain ⟨_, _, _, _, _, _, _, _, rfl, _⟩ := h; rfl
  obtain ⟨b, db, xv, dx, yv, dy, v, d, rfl, hb, hx, hy, hd, hz, hzz, q1, q2, q3, q4⟩ := h
  refine ⟨_, (pss_cons (ps_expr (pe_cal (E := E) C_check_ends (hr.mono (by decide)) (passes_call (takes_of rfl rfl rfl rfl) (fun _ _ _ _ h => h)) (pa_cons (pv 0) (pa_cons (pv 1) (pa_cons (pv 2) pa_nil)))))
    (PSs.nox (pss_cons (ps_set (i := 4) scis_highest.nd rfl (Or.inl rfl) (pe_callB (sortSetS rfl hr.units) (by rfl) T.n_sorted (by decide +kernel) (pa_cons (pe_scS (own := [("name", 5)]) (g := gName 5) rfl scis_highest.nd (piL (K := K) (pe_op op_cat (pe_cal (E := E0) C_names_of (hr.mono (by decide)) pass0 (pa_cons (pv 0) pa_nil)) (pe_lst (pa_cons (pv 1) (pa_cons (pv 2) pa_nil))))) (blkOk_by (N := Nis_highest) (sc := defScope (top 37)) (by decide +kernel)) (fun _ _ _ _ _ => (pg_name (i := 5) scis_highest.nd rfl (Or.inl rfl))) (fun _ _ _ _ _ => pts_nil) (fun _ _ _ _ _ => (pv 5))) pa_nil)))
      (pss_cons (ps_if (pt_val (pe_cal (E := E0) C_is_answer (hr.mono (by decide)) pass0 (pa_cons (pv 3) (pa_cons pe_str (pa_cons pe_int pa_nil))))) (pss_one (ps_ret (pe_cal (E := E0) C_is_ring (hr.mono (by decide)) pass0 (pa_cons (pv 0) (pa_cons (pe_ix (ixT (K := K)) (pv 3) pe_int (fun _ _ => rfl)) pa_nil))))) pss_nil)
      (pss_cons (ps_if (pt_val (pe_cal (E := E0) C_is_answer (hr.mono (by decide)) pass0 (pa_cons (pv 3) (pa_cons pe_str (pa_cons pe_int pa_nil))))) (pss_cut (ps_if (PW.pt (pw_or (pt_not (pt_val (pe_cal (E := E0) C_are_numbers (hr.mono (by decide)) pass0 (pa_cons (pv 4) (pa_cons (pe_ix (ixT (K := K)) (pv 3) pe_int (fun _ _ => rfl)) pa_nil))))) (pw_or1 (pt_not (pt_val (pe_cal (E := E0) C_are_met (hr.mono (by decide)) pass0 (pa_cons (pv 0) (pa_cons (pe_ix (ixT (K := K)) (pv 3) pe_int (fun _ _ => rfl)) pa_nil)))))))) (pss_one (ps_ret pe_bl)) pss_nil)
      (pss_one (ps_ret (pe_cal (E := E0) C_can_rise (hr.mono (by decide)) pass0 (pa_cons (pv 0) (pa_cons (pv 4) (pa_cons (pe_ix (ixT (K := K)) (pv 3) pe_int (fun _ _ => rfl)) (pa_cons (pv 1) (pa_cons (pv 2) pa_nil))))))))) pss_nil)
      (pss_cut (ps_if (PW.pt (pw_or (pt_not (pt_val (pe_cal (E := E0) C_is_answer (hr.mono (by decide)) pass0 (pa_cons (pv 3) (pa_cons pe_str (pa_cons pe_int pa_nil)))))) (pw_or1 (pt_not (pt_val (pe_cal (E := E0) C_is_number (hr.mono (by decide)) pass0 (pa_cons (pe_ix (ixT (K := K)) (pv 3) pe_int (fun _ _ => rfl)) pa_nil))))))) (pss_one (ps_ret pe_bl)) pss_nil)
      (pss_cut (ps_if (PW.pt (pw_or (pt_cmpR op_ne (pe_cal (E := E0) C_sum_of_way (hr.mono (by decide)) pass0 (pa_cons (pv 0) (pa_cons (pe_ix (ixT (K := K)) (pv 3) pe_int (fun _ _ => rfl)) (pa_cons (pv 1) (pa_cons (pv 2) pa_nil))))) (pe_ix (ixT (K := K)) (pv 3) pe_int (fun _ _ => rfl)) (nomark _)) (pw_or1 (pt_not (pt_val (pe_cal (E := E0) C_are_numbers (hr.mono (by decide)) pass0 (pa_cons (pv 4) (pa_cons (pe_ix (ixT (K := K)) (pv 3) pe_int (fun _ _ => rfl)) pa_nil)))))))) (pss_one (ps_ret pe_bl)) pss_nil)
      (pss_one (ps_ret (pe_and (pe_cal (E := E0) C_are_met (hr.mono (by decide)) pass0 (pa_cons (pv 0) (pa_cons (pe_ix (ixT (K := K)) (pv 3) pe_int (fun _ _ => rfl)) pa_nil))) (pe_one (pe_cmpR op_eq (pe_op op_sub (pe_dget (hu_of hr) (pe_ix (ixT (K := K)) (pv 3) pe_int (fun _ _ => rfl)) (pv 1) (fun _ _ => rfl)) (pe_dget (hu_of hr) (pe_ix (ixT (K := K)) (pv 3) pe_int (fun _ _ => rfl)) (pv 2) (fun _ _ => rfl))) (pe_ix (ixT (K := K)) (pv 3) pe_int (fun _ _ => rfl)) (nomark _))))))))))))), ?_⟩
  refine ⟨_, rfl, _, rfl, _, rfl, b, db, xv, dx, yv, dy, rfl, hb, hx, hy, fun ds h => Nat.le_trans (hz ds h) (by decide), q1, q2, q3, fun hw w1 w2 H1 e1 => ?_⟩
  obtain ⟨es, rfl⟩ := isBds_enc hw
  obtain ⟨a, rfl, hbd⟩ := dt_bds hb
  obtain ⟨x, rfl⟩ := isStr_of w1
  obtain ⟨y, rfl⟩ := isStr_of w2
  cases hx
  cases hy
  have hb1 := hbd.ex e1
  have hl : es.length ≤ 1001 := by have := hz _ rfl; rwa [List.length_map] at this
  have q := q4 es x y rfl rfl rfl
  have nl := nms_len es
  have nxl := nmx_len es x y
  -- names
  refine ⟨_, rfl, a, es, rfl, hb1, by omega, fun an H2 hn2 e2 han => ?_⟩
  refine ⟨_, rfl, _, rfl, Nat.le_of_lt (sz 2 (by omega)), fun l0 hl0 => ?_⟩
  have e3 := Evl.Ex.new hl0 (o := .lst [V.str x, V.str y])
  refine ⟨an, l0, _, _, rfl, rfl, e3 _ _ han, upd_same, Nat.le_of_lt (sz _ (by simp; omega)), fun c hc => ?_⟩
  have e4 := Evl.Ex.new hc (o := .lst ((nms es).map V.str ++ [V.str x, V.str y]))
  have e24 := (e2.trans e3).trans e4
  have hcl : ((nms es).map V.str ++ [V.str x, V.str y]) = (nms es ++ [x, y]).map V.str := by simp
  rw [hcl] at e4 e24 ⊢
  have hcs : upd (upd H2 l0 (.lst [V.str x, V.str y])) c (.lst ((nms es ++ [x, y]).map V.str)) c = some (.lst ((nms es ++ [x, y]).map V.str)) := upd_same
  generalize upd (upd H2 l0 (.lst [V.str x, V.str y])) c (.lst ((nms es ++ [x, y]).map V.str)) = H4 at e4 e24 hcs ⊢
  refine ⟨c, rfl, ⟨_, SqL.of hcs⟩, fun D0 hD0 => ?_⟩
  refine scWS (M := NoM) walk_list (Evl.Ex.refl H4) (fun H' e => SqL.of (e _ _ hcs)) (by simp; omega) (fun i => (nms es ++ [x, y]).getD i Str.empty) (fun i => [some (.ref a), some (.str x), some (.str y), some v, none, some (.str ((nms es ++ [x, y]).getD i Str.empty))])
    (fun i v0 G' H' H'' hi a' yy Q q => turn_name (σ0 := [some (.ref a), some (.str x), some (.str y), some v, none, none]) (j := 5) a' yy (by
      rw [List.length_map] at hi
      rw [List.getElem?_map, List.getD_eq_getElem?_getD, List.getElem?_eq_getElem hi]; rfl) q) (fun _ _ => rfl) (fun i G' H' hi a' Q q => ⟨_, rfl, q G' H' (Stp.refl a'.gh)⟩) (fun _ _ h => h) hD0 (fun S m G5 H5 a5 gD hS hm hk => ?_)
  refine ⟨D0, S, m, rfl, hS, fun zs p hzn hzm hp => ?_⟩
  have hzs : zs.mergeSort leS = nmx es x y := nms_of hzn fun z => by
    rw [hzm, hm, List.length_map, range_map (nms es ++ [x, y]) Str.empty (fun z => z), List.map_id', ← nms_mem, nmx_mem]
    simp
  rw [hzs]
  have e15 : Ex H1 H5 := e24.trans (a5.gg.trans a5.gh)
  have e16 := e15.trans (Evl.Ex.new hp (o := .lst ((nmx es x y).map V.str)))
  have hp6 : upd H5 p (.lst ((nmx es x y).map V.str)) p = some (.lst ((nmx es x y).map V.str)) := upd_same
  generalize upd H5 p (.lst ((nmx es x y).map V.str)) = H6 at e16 hp6 ⊢
  have e06 := e1.trans e16
  have hd6 := ex_dt e06 _ _ hd
  have hb6 := hb1.ex e16
  have hes : es.length ≤ 100000 := by omega
  have hends := nmx_ends es x y
  refine ⟨_, rfl, v, d, _, 2, rfl, hd6, by decide, _, rfl, ?_⟩
  cases h1 : ansJ d (Str.ofString "ring") 2 with
  | true =>
    refine ite2 (fun _ => ?_) (fun h => absurd rfl h)
    obtain ⟨r, rfl, hrl⟩ := ans_tup h1
    obtain ⟨d1, rfl⟩ : ∃ d1, r = [d1] := match r, (show r.length = 1 by omega) with | [d1], _ => ⟨d1, rfl⟩
    obtain ⟨t, ys, rfl, ht, hy⟩ := dt_tup hd6
    cases hy with
    | cons g0 hy => cases hy with
      | cons g1 hy =>
        cases hy
        refine ⟨_, rfl, _, rfl, t, _, 1, _, rfl, rfl, SqT.of ht, rfl, a, es, _, d1, rfl, hb6, hes, g1, fun H7 e7 => ?_⟩
        have e : highJ es x y (.tuple [.str (Str.ofString "ring"), d1]) = rngJ es d1 := by unfold highJ; rw [if_pos h1]
        rw [e] at q
        exact q H7 (e06.trans e7)
  | false =>
    refine ite2 (fun h => absurd h (by decide)) (fun _ => ?_)
    refine ⟨_, rfl, v, d, _, 3, rfl, hd6, by decide, _, rfl, ?_⟩
    cases h2 : ansJ d (Str.ofString "grows") 3 with
    | true =>
      refine ite2 (fun _ => ?_) (fun h => absurd rfl h)
      obtain ⟨r, rfl, hrl⟩ := ans_tup h2
      obtain ⟨d1, d2, rfl⟩ : ∃ d1 d2, r = [d1, d2] := match r, (show r.length = 2 by omega) with | [d1, d2], _ => ⟨d1, d2, rfl⟩
      obtain ⟨t, ys, rfl, ht, hy⟩ := dt_tup hd6
      cases hy with
      | cons g0 hy => cases hy with
        | cons g1 hy => cases hy with
          | cons g2 hy =>
            cases hy
            have e : highJ es x y (.tuple [.str (Str.ofString "grows"), d1, d2]) = (areNum (nmx es x y) d1 && (metJ es d1 && riseJ es (nmx es x y) d2 x y)) := by unfold highJ; rw [h1, h2]; rfl
            rw [e] at q
            refine ⟨fun σ' H' => areNum (nmx es x y) d1 = true ∧ metJ es d1 = true ∧ σ' = [some (.ref a), some (.str x), some (.str y), some (.ref t), some (.ref p), none] ∧ Ex H6 H', ?_, ?_⟩
            · refine ⟨_, rfl, _, rfl, t, _, 1, _, rfl, rfl, SqT.of ht, rfl, p, nmx es x y, _, d1, rfl, hp6, (by omega), g1, fun H7 e7 => ⟨_, rfl, ?_⟩⟩
              cases h3 : areNum (nmx es x y) d1 with
              | false =>
                rw [h3] at q
                exact q H7 (e06.trans e7)
              | true =>
                rw [h3] at q
                obtain ⟨ks, rfl, hks⟩ := arn_dict h3
                obtain ⟨bd, kvs, rfl, hbk, hkk⟩ := dt_dict g1
                refine ⟨_, rfl, _, rfl, t, _, 1, _, rfl, rfl, SqT.of (e7 _ _ ht), rfl, a, es, bd, kvs, numOf ks, rfl, hb6.ex e7, hes, e7 _ _ hbk, fun e he => ?_, fun H8 e8 => ⟨_, rfl, ?_⟩⟩
                · obtain ⟨n1, n2⟩ := hends e he
                  exact ⟨num_at hkk (hks _ n1), num_at hkk (hks _ n2)⟩
                · show (if (!(metJ es (.dict ks))) = true then _ else _)
                  cases h4 : metJ es (.dict ks) with
                  | false =>
                    rw [h4] at q
                    exact q H8 (e06.trans (e7.trans e8))
                  | true => exact ⟨rfl, rfl, rfl, e7.trans e8⟩
            rintro σ' H' ⟨h3, h4, rfl, e7⟩
            rw [h3, h4] at q
            refine ⟨_, rfl, _, rfl, _, rfl, t, _, 2, _, rfl, rfl, SqT.of (e7 _ _ ht), rfl, _, rfl, _, rfl, a, es, p, nmx es x y, _, d2, x, y, rfl, hb6.ex e7, hes, e7 _ _ hp6, ex_dt e7 _ _ g2, fun ds e => hzz _ _ ds (by rw [e]), fun H8 e8 => q H8 (e06.trans (e7.trans e8))⟩
    | false =>
      refine ite2 (fun h => absurd h (by decide)) (fun _ => ?_)
      refine ⟨fun σ' H' => (∃ v d2 d3, d = .tuple [.str (Str.ofString "at most"), .int v, d2, d3]) ∧ σ' = [some (.ref a), some (.str x), some (.str y), some v, some (.ref p), none] ∧ H6 = H', ?_, ?_⟩
      · refine ⟨_, rfl, v, d, _, 4, rfl, hd6, by decide, _, rfl, ?_⟩
        cases h3 : ansJ d (Str.ofString "at most") 4 with
        | false =>
          have e : highJ es x y d = false := by unfold highJ; rw [h1, h2, h3]; rfl
          rw [e] at q
          exact q H6 e06
        | true =>
          obtain ⟨r, rfl, hrl⟩ := ans_tup h3
          obtain ⟨d1, d2, d3, rfl⟩ : ∃ d1 d2 d3, r = [d1, d2, d3] := match r, (show r.length = 3 by omega) with | [d1, d2, d3], _ => ⟨d1, d2, d3, rfl⟩
          obtain ⟨t, ys, rfl, ht, hy⟩ := dt_tup hd6
          cases hy with
          | cons g0 hy => cases hy with
            | cons g1 hy => cases hy with
              | cons g2 hy => cases hy with
                | cons g3 hy =>
                  cases hy
                  refine ⟨_, rfl, t, _, 1, _, rfl, rfl, SqT.of ht, rfl, _, d1, rfl, g1, _, rfl, ?_⟩
                  cases hn : isNum d1 with
                  | false =>
                    have e : highJ es x y (.tuple [.str (Str.ofString "at most"), d1, d2, d3]) = false := by
                      unfold highJ; rw [h1, h2, h3]
                      cases d1 <;> first | rfl | cases hn
                    rw [e] at q
                    exact q H6 e06
                  | true =>
                    obtain ⟨k, rfl⟩ : ∃ k, d1 = .int k := by cases d1 <;> first | exact ⟨_, rfl⟩ | cases hn
                    exact ⟨⟨k, d2, d3, rfl⟩, rfl, rfl⟩
      rintro σ' H' ⟨⟨k, d2, d3, rfl⟩, rfl, rfl⟩
      obtain ⟨t, ys, rfl, ht, hy⟩ := dt_tup hd6
      cases hy with
      | cons g0 hy => cases hy with
        | cons g1 hy => cases hy with
          | cons g2 hy => cases hy with
            | cons g3 hy =>
              cases hy
              cases g1
              have e : highJ es x y (.tuple [.str (Str.ofString "at most"), .int k, d2, d3]) = (decide (sumJ es d2 x y = some k) && (areNum (nmx es x y) d3 && (metJ es d3 && decide (numD d3 x - numD d3 y = k)))) := by
                unfold highJ; rw [h1, h2]; rfl
              rw [e] at q
              refine ⟨fun σ' H' => sumJ es d2 x y = some k ∧ areNum (nmx es x y) d3 = true ∧ σ' = [some (.ref a), some (.str x), some (.str y), some (.ref t), some (.ref p), none] ∧ Ex H6 H', ?_, ?_⟩
              · refine ⟨_, rfl, _, rfl, t, _, 2, _, rfl, rfl, SqT.of ht, rfl, _, rfl, _, rfl, a, es, _, d2, x, y, rfl, hb6, hes, g2, fun H7 e7 => ?_⟩
                refine ⟨_, rfl, t, _, 1, _, rfl, rfl, SqT.of (e7 _ _ ht), rfl, ?_⟩
                refine ⟨(by cases sumJ es d2 x y <;> rfl), _, rfl, ?_⟩
                have hoi : (!decide (oInt (sumJ es d2 x y) = V.int k)) = (!decide (sumJ es d2 x y = some k)) := by
                  cases sumJ es d2 x y with
                  | none => simp [oInt]
                  | some z => simp [oInt]
                rw [hoi]
                cases h5 : decide (sumJ es d2 x y = some k) with
                | false =>
                  rw [h5] at q
                  exact q H7 (e06.trans e7)
                | true =>
                  rw [h5] at q
                  refine ⟨_, rfl, _, rfl, t, _, 3, _, rfl, rfl, SqT.of (e7 _ _ ht), rfl, p, nmx es x y, _, d3, rfl, e7 _ _ hp6, (by omega), ex_dt e7 _ _ g3, fun H8 e8 => ⟨_, rfl, ?_⟩⟩
                  cases h6 : areNum (nmx es x y) d3 with
                  | false =>
                    rw [h6] at q
                    exact q H8 (e06.trans (e7.trans e8))
                  | true => exact ⟨of_decide_eq_true h5, rfl, rfl, e7.trans e8⟩
              rintro σ' H' ⟨h3, h4, rfl, e7⟩
              obtain ⟨ks, rfl, hks⟩ := arn_dict h4
              obtain ⟨bd, kvs, rfl, hbk, hkk⟩ := dt_dict g3
              rw [decide_eq_true h3, h4] at q
              refine ⟨_, rfl, _, rfl, t, _, 3, _, rfl, rfl, SqT.of (e7 _ _ ht), rfl, a, es, bd, kvs, numOf ks, rfl, hb6.ex e7, hes, e7 _ _ hbk, fun e he => ?_, fun H8 e8 => ?_⟩
              · obtain ⟨n1, n2⟩ := hends e he
                exact ⟨num_at hkk (hks _ n1), num_at hkk (hks _ n2)⟩
              · refine ⟨_, rfl, ?_⟩
                show (if metJ es (.dict ks) = true then _ else _)
                cases h6 : metJ es (.dict ks) with
                | false =>
                  rw [h6] at q
                  exact q H8 (e06.trans (e7.trans e8))
                | true =>
                  rw [h6] at q
                  have ht8 := SqT.of (K := K) (e8 _ _ (e7 _ _ ht))
                  have hk8 := e8 _ _ (e7 _ _ hbk)
                  have gx := DGet.k (k := Sum.inr x) hk8
                  have gy := DGet.k (k := Sum.inr y) hk8
                  rw [num_at hkk (hks _ (nmx_x es x y))] at gx
                  rw [num_at hkk (hks _ (nmx_y es x y))] at gy
                  have q := q H8 (e06.trans (e7.trans e8))
                  refine ⟨_, rfl, t, _, 3, _, rfl, rfl, ht8, rfl, _, rfl, bd, _, rfl, gx, _, rfl, t, _, 3, _, rfl, rfl, ht8, rfl, _, rfl, bd, _, rfl, gy, _, _, rfl, rfl, _, rfl, t, _, 1, _, rfl, rfl, ht8, rfl, rfl, ?_⟩
                  have e : decide (V.int (numOf ks x - numOf ks y) = V.int k) = decide (numD (.dict ks) x - numD (.dict ks) y = k) := by
                    rw [Bool.eq_iff_iff, decide_eq_true_iff, decide_eq_true_iff]
                    exact ⟨fun h => by injection h, fun h => by rw [show numOf ks x - numOf ks y = k from h]⟩
                  rw [e]
                  exact q
end
end K43
/-! rules for the law's own defs -/
namespace Hx
open PySem PySem.Spec PyProof.Rows L2
section
variable {X : Cx}
theorem tb_dp {K : PySem.W.Frag} {H : Hp} {v : V} {e : Bd} (h : Tb H v e) : Dp K H v (encB e) := by
  obtain ⟨r, rfl, h⟩ := h
  exact .tup (SqT.of h) (.cons (.str _) (.cons (.str _) (.cons (.int _) .nil)))
theorem tbs_dp {K : PySem.W.Frag} {H : Hp} : ∀ {xs : List V} {es : List Bd}, Paired (Tb H) xs es → DpAll K H xs (es.map encB)
  | _, _, .nil => .nil
  | _, _, .cons h t => .cons (tb_dp h) (tbs_dp t)
theorem eqv_B (a b : Bd) : PyData.eqv (encB a) (encB b) = decide (b = a) := by
  rw [Bool.eq_iff_iff, decide_eq_true_iff]
  obtain ⟨x, y, k⟩ := a
  obtain ⟨x', y', k'⟩ := b
  simp [PyData.eqv, PyData.eqvAll, encB]
  constructor
  · rintro ⟨rfl, rfl, rfl⟩; simp
  · rintro ⟨rfl, rfl, rfl⟩; simp
theorem any_B (es : List Bd) (e : Bd) : ((es.map encB).any fun z => PyData.eqv z (encB e)) = decide (e ∈ es) := by
  induction es with
  | nil => rfl
  | cons a es ih =>
    rw [List.map_cons, List.any_cons, ih, eqv_B, Bool.eq_iff_iff]
    simp [List.mem_cons]
theorem lay_B (e : Bd) : (encB e).plain = true := by simp [encB, PyData.plain, PyData.plainAll]
theorem lays_B : ∀ es : List Bd, PyData.plainAll (es.map encB) = true
  | [] => rfl
  | e :: es => by
    have h1 := lay_B e
    have h2 := lays_B es
    simp only [List.map_cons, PyData.plainAll, h1, h2, Bool.and_self]
theorem dep_B (e : Bd) : (encB e).depth ≤ 1 := by simp [encB, PyData.depth, PyData.depthAll]
/-- a bound in a list or a tuple of bounds -/
def rInB (neg : Bool) : R2 := fun x y H Q => ∃ p xs es e, y = .ref p ∧ (H p = some (.lst xs) ∨ H p = some (.tup xs)) ∧ Paired (Tb H) xs es ∧ Tb H x e ∧ Q (.bl (if neg then !decide (e ∈ es) else decide (e ∈ es))) H
theorem op_inB (hu : X.A.units + 65 < cLine) : OpR X (compareOp .In) (rInB false) := by
  intro pins s σ H x y v u Q I rx ry h
  obtain ⟨p, xs, es, e, rfl, hp, pr, hx, q⟩ := h
  obtain ⟨as, r1⟩ := Dp.reads I _ x v (tb_dp hx) rx
  have hd := dep_B e
  have hr : X.A.units + 1 + min (PyData.depthAll (es.map encB)) (encB e).depth < cLine := by
    have := Nat.min_le_right (PyData.depthAll (es.map encB)) (encB e).depth
    omega
  rcases hp with hp | hp
  · obtain ⟨bs, r2⟩ := Dp.reads I (.list (es.map encB)) _ u (.lst (SqL.of hp) (tbs_dp pr)) ry
    exact PySem.SeqAt.in_list_data r2 r1 (lays_B es) (lay_B e) hr (by rw [any_B]; exact ⟨.bl _, H, I, rfl, q⟩)
  · obtain ⟨bs, r2⟩ := Dp.reads I (.tuple (es.map encB)) _ u (.tup (SqT.of hp) (tbs_dp pr)) ry
    exact PySem.SeqAt.in_tuple_data r2 r1 (lays_B es) (lay_B e) hr (by rw [any_B]; exact ⟨.bl _, H, I, rfl, q⟩)
theorem op_notinB (hu : X.A.units + 65 < cLine) : OpR X (compareOp .NotIn) (rInB true) := by
  intro pins s σ H x y v u Q I rx ry h
  obtain ⟨p, xs, es, e, rfl, hp, pr, hx, q⟩ := h
  obtain ⟨as, r1⟩ := Dp.reads I _ x v (tb_dp hx) rx
  have hd := dep_B e
  have hr : X.A.units + 1 + min (PyData.depthAll (es.map encB)) (encB e).depth < cLine := by
    have := Nat.min_le_right (PyData.depthAll (es.map encB)) (encB e).depth
    omega
  rcases hp with hp | hp
  · obtain ⟨bs, r2⟩ := Dp.reads I (.list (es.map encB)) _ u (.lst (SqL.of hp) (tbs_dp pr)) ry
    exact PySem.SeqAt.notIn_list_data r2 r1 (lays_B es) (lay_B e) hr (by rw [any_B]; exact ⟨.bl _, H, I, rfl, q⟩)
  · obtain ⟨bs, r2⟩ := Dp.reads I (.tuple (es.map encB)) _ u (.tup (SqT.of hp) (tbs_dp pr)) ry
    exact PySem.SeqAt.notIn_tuple_data r2 r1 (lays_B es) (lay_B e) hr (by rw [any_B]; exact ⟨.bl _, H, I, rfl, q⟩)
/-- sorted(x), x a list of texts -/
def rSortL : List V → Hp → VK → Prop := fun vs H Q => ∃ (a : Addr) (ks : List Str), vs = [V.ref a] ∧ H a = some (.lst (ks.map V.str)) ∧ ∀ p, H p = none → Q (.ref p) (upd H p (.lst ((ks.mergeSort leS).map V.str)))
theorem sortL (hu : X.A.units + 64 < cLine) : CallR X (.builtin "sorted") rSortL := by
  intro pq s σ H vs us Q Iv r h
  obtain ⟨a, ks, rfl, ha, q⟩ := h
  rw [Vals.ref1 r]
  obtain ⟨its, rv, hl, hz⟩ := Iv.list (SqL.of ha)
  have hil : its.length = ks.length := by have := rv.length; rw [List.length_map] at this; exact this.symm
  rw [List.length_map] at hz
  refine sorted_by Iv hu (fun zs => zs = ks) (fun R hR => ?_) (fun zs p e hp => by rw [e]; exact q p hp)
  refine collect_list hl.isList ?_ (by omega)
  refine hR _ its ks rfl (fun b o e => ?_) ?_ rfl rfl rv hz
  · have hlt := Heap.lt_size e
    exact (Heap.get?_update_ne _ _ _ _ (Nat.ne_of_lt hlt)).trans (Heap.get?_push_of_some _ e)
  · show s.heap.objs.size ≤ _
    simp [Heap.size_update, Heap.size_push]
theorem pgUnl {K : PySem.W.Frag} {es : List Expr} {k : Nat} {t : TGs} {n : Nat} {pos : Pos} (hc : X.calm = true) (h : PGs X es t) (hn : (assignEach es X.env).length = n := by rfl) (hst : (assignEach es X.env).findIdx? (·.1) = none := by rfl) (hk : X.K = K := by rfl) : PG X (.Tuple es k pos) (gUnl K n t) := by
  subst hk; exact pg_unl hc h hn hst
/-- xs[::-1] -/
def rBack (K : PySem.W.Frag) : V → Option Int → Hp → VK → Prop := fun x k H Q => ∃ a xs, x = .ref a ∧ SqL K H a xs ∧ k = some (-1) ∧ ∀ p, H p = none → Q (.ref p) (upd H p (.lst xs.reverse))
theorem pe_back {e st : Expr} {te : TE} {ts : TO} {p2 pos : Pos} (he : PE X e te) (hs : PO X (some st) ts) (hst : ∀ l sl : Value, subscripted (.Slice none none (some st) p2) false l sl = operate [l, sl] (getItem l sl) := by intro _ _; with_unfolding_all rfl) : PE X (.Subscript e (.Slice none none (some st) p2) pos) (fun σ H Q => te σ H fun x H1 => ts σ H1 fun k H2 => rBack X.K x k H2 Q) := by
  refine ⟨fun pins s σ H Q I h => ?_⟩
  refine Subscript_ (thn (he.run pins s σ H _ I h) fun v s1 ⟨x, H1, I1, r1, q1⟩ => ?_)
  refine wpAny_Slice ?_
  rw [evalPart_none]
  refine wpAny_pure (wpAny_pure ?_)
  refine thn (hs.run pins s1 σ H1 _ I1 q1) fun vk s3 ⟨k, H3, I3, pk, q3⟩ => ?_
  have I4 : Inv X pins σ H3 { s3 with heap := s3.heap.push { cls := .type "slice", data := .fields #[.none, .none, vk] } } := I3.kept (t' := s3.toks) fun b ob q => Heap.get?_push_of_some _ q
  obtain ⟨a, xs, rfl, hx, rfl, q⟩ := q3
  cases r1
  obtain ⟨its, r, ht, hz⟩ := I4.list hx
  have hlen := r.length
  refine tail_any (ops := [.ref a, .ref s3.heap.objs.size]) ht.isList.typeIs slot_list_getitem.lookup ?_ (hst _ _)
  refine wpAny_getItem_list_slice ht.isList (Heap.IsSliceOf.new ..) .none .none pk (by decide) ?_ (by rw [List.size_toArray] <;> omega)
  rw [PySem.W.krv_pick]
  refine ⟨.ref _, _, I4.laid (t' := s3.toks) (o := .lst xs.reverse) (fun b ob q => Heap.get?_push_of_some _ q) (Nat.le_refl _) ?_, rfl, q _ (I4.hok.fresh (Nat.le_refl _))⟩
  exact ⟨by rw [List.length_reverse]; exact hz, _, 0, r.reverse, Heap.get?_push_size _ rfl⟩
end
end Hx
namespace K43
open PySem PySem.Spec PyProof.Rows L2 Hx Hd M43
open Evl (pss_cut tCut ex_l ex_t)
/-- the stream at s: the script's list, the cell, the place -/
structure Strm (H : Hp) (s L : Addr) : Prop where
  ex : ∃ (ns : List Int) (c k : Int), H s = some (.lst [.ref L, .int c, .int k]) ∧ H L = some (.lst (ns.map V.int)) ∧ L ≠ s ∧ 0 ≤ c ∧ 0 ≤ k ∧ ns.length ≤ 63
/-- all but s as it was -/
abbrev Kp (s : Addr) (H H' : Hp) : Prop := ∀ a o, a ≠ s → H a = some o → H' a = some o
theorem Kp.refl (s : Addr) (H : Hp) : Kp s H H := fun _ _ _ h => h
theorem Kp.trans {s : Addr} {H H1 H2 : Hp} (a : Kp s H H1) (b : Kp s H1 H2) : Kp s H H2 := fun x o n h => b x o n (a x o n h)
theorem Kp.upd {s : Addr} {H H1 : Hp} {o : HO} (a : Kp s H H1) : Kp s H (upd H1 s o) := fun x u n h => by rw [upd_ne n]; exact a x u n h
def spNext : Sp := fun vs H Q _ => ∃ s L m, vs = [.ref s, .int m] ∧ Strm H s L ∧ 1 ≤ m ∧ m < 2147483648 ∧ ∀ d H2, 0 ≤ d → d < m → Kp s H H2 → Strm H2 s L → Q (.int d) H2
theorem big1 : CMulW ((10 : Int) ^ (64 : Int).toNat) ((10 : Int) ^ (64 : Int).toNat) := wide_mul (a := 300) (b := 300) (by decide +kernel) (by decide +kernel) (by decide) (by decide) (by decide)
theorem big2 : CMulW ((10 : Int) ^ (64 : Int).toNat * (10 : Int) ^ (64 : Int).toNat) ((10 : Int) ^ (64 : Int).toNat) := wide_mul (a := 600) (b := 300) (by decide +kernel) (by decide +kernel) (by decide) (by decide) (by decide)
theorem big3 : (10 : Int) ^ (64 : Int).toNat * (10 : Int) ^ (64 : Int).toNat * (10 : Int) ^ (64 : Int).toNat > 0 := by decide +kernel
theorem kp_seqL {K : PySem.W.Frag} {s r : Addr} {H H' : Hp} {xs : List V} (k : Kp s H H') (hn : r ≠ s) (h : SqL K H r xs) : SqL K H' r xs := by
  rcases h with (h | ⟨o, h⟩) | h
  · exact .inl (.inl (k _ _ hn h))
  · exact .inl (.inr ⟨o, k _ _ hn h⟩)
  · exact .inr h
theorem kp_seqT {K : PySem.W.Frag} {s r : Addr} {H H' : Hp} {xs : List V} (k : Kp s H H') (hn : r ≠ s) (h : SqT K H r xs) : SqT K H' r xs := by
  rcases h with (h | ⟨o, h⟩) | h
  · exact .inl (.inl (k _ _ hn h))
  · exact .inl (.inr ⟨o, k _ _ hn h⟩)
  · exact .inr h
theorem Strm.there {H : Hp} {s L : Addr} (h : Strm H s L) : ∃ o, H s = some o := by
  obtain ⟨ns, c, k, h, _⟩ := h.ex
  exact ⟨_, h⟩
theorem Strm.thereL {H : Hp} {s L : Addr} (h : Strm H s L) : ∃ o, H L = some o := by
  obtain ⟨ns, c, k, _, h, _⟩ := h.ex
  exact ⟨_, h⟩
theorem Strm.keep {H H' : Hp} {s L : Addr} (h : Strm H s L) (e : Ex H H') : Strm H' s L := by
  obtain ⟨ns, c, k, h1, h2, h3⟩ := h.ex
  exact ⟨ns, c, k, e _ _ h1, e _ _ h2, h3⟩
/-- what was not there at the start changes -/
theorem Strm.mut {H H' : Hp} {s L p : Addr} {o : HO} (h : Strm H' s L) (h0 : Strm H s L) (hp : H p = Option.none) : Strm (L2.upd H' p o) s L := by
  obtain ⟨ns, c, k, h1, h2, h3⟩ := h.ex
  obtain ⟨o1, e1⟩ := h0.there
  obtain ⟨o2, e2⟩ := h0.thereL
  exact ⟨ns, c, k, by rw [upd_ne (ne_of_none e1 hp)]; exact h1, by rw [upd_ne (ne_of_none e2 hp)]; exact h2, h3⟩
theorem Kp.none {s p : Addr} {H H' : Hp} (k : Kp s H H') (hs : ∃ o, H' s = some o) (h : H' p = Option.none) : H p = Option.none := by
  cases e : H p with
  | none => rfl
  | some o =>
    by_cases hp : p = s
    · obtain ⟨u, hu⟩ := hs
      rw [hp, hu] at h; cases h
    · rw [k p o hp e] at h; cases h
theorem Kp.new {s p : Addr} {H : Hp} {o : HO} (h : H p = Option.none) : Kp s H (L2.upd H p o) := fun x u _ q => by rw [upd_ne (ne_of_none q h)]; exact q
/-- what is new since H changes -/
theorem Kp.mut {s p : Addr} {H H' : Hp} {o : HO} (k : Kp s H H') (h : H p = Option.none) : Kp s H (L2.upd H' p o) := fun x u n q => by rw [upd_ne (ne_of_none q h)]; exact k x u n q
/-- a step of G beside it -/
theorem stp_kp {s : Addr} {G H H' : Hp} (e : Ex G H) (g : G s = Option.none) (k : Kp s H H') (hs : ∃ o, H' s = some o) : Stp (· = s) G H G H' :=
  ⟨fun a o n h => k a o n h, fun a h => k.none hs h, Evl.Ex.refl _, fun a o h => k a o (fun z => by rw [z, g] at h; cases h) (e a o h), fun _ _ h => h⟩
theorem hu65 {A : Around} {k : Nat} (hr : Room k A) : A.units + 65 < cLine := by have := hr.un; omega
section
variable {P : Program} {w : World} {K : PySem.W.Frag} {mg : Str → Option Value} {base : Heap}
abbrev N_law_next : List Str := ["stream", "many", "k", "cell", "digit"]
theorem sc_law_next : FnScope N_law_next ["stream", "many"] (defScope (top 40)) := ⟨rfl, rfl, rfl, by decide +kernel, rfl, by decide +kernel, by decide +kernel⟩
theorem ok_next (T : Txt K mg) : Cal P w K mg base CX0 1 "_law_next" ["stream", "many"] spNext := by
  refine mkCal T.g__law_next T.d__law_next sc_law_next (fun _ _ _ _ _ _ us hl => match us, hl with | [_, _], _ => rfl) (fun vs H Q E h => ?_) fun cdv A outer s0 H vs Q E hr h => ?_
  · obtain ⟨x, _, d, rfl, _⟩ := h; rfl
  obtain ⟨s, L, m, rfl, st, m1, m2, q⟩ := h
  obtain ⟨ns, c, k, hs, hL, hne, c0, k0, hn⟩ := st.ex
  refine ⟨_, (pss_cut (ps_if (pt_cmpR op_eq (pe_ix (ixL (K := K)) (pv 0) pe_int (fun _ _ => rfl)) pe_int (nomark _)) (pss_cons (ps_set (i := 2) sc_law_next.nd rfl (Or.inl rfl) (pe_ix (ixL (K := K)) (pv 0) pe_int (fun _ _ => rfl)))
      (pss_cons (ps_set (i := 3) sc_law_next.nd rfl (Or.inl rfl) (pe_op op_add pe_int (pv 2)))
      (pss_cut (ps_if (pt_cmpR op_lt (pv 2) (pe_callB (lenL (K := K)) (by rfl) T.n_len PySem.boot_len (pa_cons (pe_ix (ixL (K := K)) (pv 0) pe_int (fun _ _ => rfl)) pa_nil)) (nomark _)) (pss_one (ps_set (i := 3) sc_law_next.nd rfl (Or.inl rfl) (pe_op op_mod (pe_callTy call_int1 (by rfl) T.n_int (by decide +kernel) (pa_cons (pe_callB call_abs (by rfl) T.n_abs (by decide +kernel) (pa_cons (pe_ix (ixL (K := K)) (pe_ix (ixL (K := K)) (pv 0) pe_int (fun _ _ => rfl)) (pv 2) (fun _ _ => rfl)) pa_nil)) pa_nil)) (pe_op op_mulW (pe_op op_mulW (pe_op op_pow pe_int pe_int) (pe_op op_pow pe_int pe_int)) (pe_op op_pow pe_int pe_int))))) pss_nil)
      (pss_cut (ps_if (pt_cmpR op_lt (pv 3) (pe_op op_pow pe_int pe_int) (nomark _)) (pss_cons (ps_set (i := 3) sc_law_next.nd rfl (Or.inl rfl) (pe_op op_mod (pe_callTy call_int1 (by rfl) T.n_int (by decide +kernel) (pa_cons (pe_op op_add (pe_op op_add (pe_op op_mul (pv 3) pe_int) (pe_op op_mul (pv 2) pe_int)) pe_int) pa_nil)) pe_int))
      (pss_one (ps_set (i := 3) sc_law_next.nd rfl (Or.inl rfl) (pe_op op_add (pe_op op_mul (pe_op op_mod (pe_callTy call_int1 (by rfl) T.n_int (by decide +kernel) (pa_cons (pe_op op_add (pe_op op_mul (pv 3) pe_int) pe_int) pa_nil)) pe_int) pe_int) (pv 3))))) pss_nil)
      (pss_cons (ps_asg (pv 3) (pg_sub (pv 0) pe_int set_list))
      (pss_one (ps_asg (pe_op op_add (pv 2) pe_int) (pg_sub (pv 0) pe_int set_list)))))))) pss_nil)
      (pss_cons (ps_set (i := 4) sc_law_next.nd rfl (Or.inl rfl) (pe_op op_mod (pe_callTy call_int1 (by rfl) T.n_int (by decide +kernel) (pa_cons (pe_ix (ixL (K := K)) (pv 0) pe_int (fun _ _ => rfl)) pa_nil)) (pv 1)))
      (pss_cons (ps_asg (pe_op op_fdivW (pe_ix (ixL (K := K)) (pv 0) pe_int (fun _ _ => rfl)) (pv 1)) (pg_sub (pv 0) pe_int set_list))
      (pss_one (ps_ret (pv 4)))))), ?_⟩
  refine ⟨fun σ' H' => ∃ kv cv c' k', σ' = [some (.ref s), some (.int m), kv, cv, none] ∧ 0 ≤ c' ∧ 0 ≤ k' ∧ H' s = some (.lst [.ref L, .int c', .int k']) ∧ Kp s H H', ?_, ?_⟩
  · -- the cell
    refine ⟨_, rfl, s, _, 1, _, rfl, rfl, SqL.of hs, rfl, rfl, _, rfl, ?_⟩
    refine ite2 (fun _ => ?_) (fun _ => ⟨none, none, c, k, rfl, c0, k0, hs, Kp.refl s H⟩)
    refine ⟨_, rfl, s, _, 2, _, rfl, rfl, SqL.of hs, rfl, ?_⟩
    refine ⟨_, rfl, 7, k, rfl, rfl, ?_⟩
    refine ⟨fun σ' H' => ∃ cv, σ' = [some (.ref s), some (.int m), some (.int k), some (.int cv), none] ∧ 0 ≤ cv ∧ H = H', ?_, ?_⟩
    · refine ⟨_, rfl, _, rfl, s, _, 0, _, rfl, rfl, SqL.of hs, rfl, L, _, rfl, .inl (SqL.of hL), k, _, rfl, rfl, _, rfl, ?_⟩
      refine ite2 (fun hk => ?_) (fun _ => ⟨7 + k, rfl, by omega, rfl⟩)
      have hk' : k.toNat < ns.length := by have := of_decide_eq_true hk; rw [List.length_map] at this; omega
      refine ⟨_, rfl, s, _, 0, _, rfl, rfl, SqL.of hs, rfl, _, rfl, L, _, k, .int (ns[k.toNat]'hk'), rfl, rfl, SqL.of hL, at_of (show k = ((k.toNat : Nat) : Int) by omega) (by simp [hk']), ns[k.toNat]'hk', rfl, .inl ⟨_, rfl, ?_⟩⟩
      refine ⟨10, 64, rfl, rfl, ⟨by decide, by decide, by decide⟩, 10, 64, rfl, rfl, ⟨by decide, by decide, by decide⟩, _, _, rfl, rfl, big1, 10, 64, rfl, rfl, ⟨by decide, by decide, by decide⟩, _, _, rfl, rfl, big2, _, _, rfl, rfl, big3, ?_⟩
      exact ⟨_, rfl, Int.emod_nonneg _ (by have := big3; omega), rfl⟩
    · rintro σ' H' ⟨cv, rfl, cv0, rfl⟩
      refine ⟨fun σ' H' => ∃ cv, σ' = [some (.ref s), some (.int m), some (.int k), some (.int cv), none] ∧ 0 ≤ cv ∧ H = H', ?_, ?_⟩
      · refine ⟨_, rfl, 10, 18, rfl, rfl, ⟨by decide, by decide, by decide⟩, cv, _, rfl, rfl, _, rfl, ?_⟩
        refine ite2 (fun hc => ?_) (fun _ => ⟨cv, rfl, cv0, rfl⟩)
        refine ⟨_, rfl, cv, 48271, rfl, rfl, .inr (by decide), _, rfl, k, 69621, rfl, rfl, .inr (by decide), _, _, rfl, rfl, _, 11, rfl, rfl, .inl ⟨_, rfl, _, 2147483647, rfl, rfl, (show (0 : Int) < 2147483647 by decide), ?_⟩⟩
        refine ⟨_, rfl, _, 16807, rfl, rfl, .inr (by decide), _, 13, rfl, rfl, .inl ⟨_, rfl, _, 2147483647, rfl, rfl, (show (0 : Int) < 2147483647 by decide), _, 65537, rfl, rfl, .inr (by decide), _, rfl, _, _, rfl, rfl, ?_⟩⟩
        refine ⟨_, rfl, ?_, rfl⟩
        have e1 := Int.emod_nonneg ((cv * 48271 + k * 69621 + 11) % 2147483647 * 16807 + 13) (show (2147483647 : Int) ≠ 0 by decide)
        have e2 := Int.emod_nonneg (cv * 48271 + k * 69621 + 11) (show (2147483647 : Int) ≠ 0 by decide)
        show 0 ≤ ((cv * 48271 + k * 69621 + 11) % 2147483647 * 16807 + 13) % 2147483647 * 65537 + (cv * 48271 + k * 69621 + 11) % 2147483647
        omega
      · rintro σ' H' ⟨cv, rfl, cv0, rfl⟩
        refine ⟨_, rfl, _, rfl, s, _, 1, 1, rfl, rfl, hs, rfl, ?_⟩
        refine ⟨_, rfl, k, 1, rfl, rfl, _, rfl, s, _, 2, 2, rfl, rfl, upd_same, rfl, ?_⟩
        exact ⟨_, _, cv, k + 1, rfl, cv0, by omega, upd_same, (Kp.upd (Kp.upd (Kp.refl s _)))⟩
  · rintro σ' H' ⟨kv, cv, c', k', rfl, c0', k0', hs', kp⟩
    refine ⟨_, rfl, s, _, 1, _, rfl, rfl, SqL.of hs', rfl, .inl ⟨_, rfl, _, rfl, _, m, rfl, rfl, by omega, ?_⟩⟩
    refine ⟨_, rfl, s, _, 1, _, rfl, rfl, SqL.of hs', rfl, _, rfl, _, m, rfl, rfl, wide_div (b := 31) (by omega) (by omega) (by decide) (by decide), _, rfl, s, _, 1, 1, rfl, rfl, hs', rfl, ?_⟩
    refine ⟨_, rfl, q _ _ (Int.emod_nonneg _ (by omega)) (Int.emod_lt_of_pos _ (by omega)) (Kp.upd kp) ⟨ns, c' / m, k', upd_same, ?_, hne, Int.ediv_nonneg c0' (by omega), k0', hn⟩⟩
    rw [upd_ne hne]
    exact kp L _ hne hL
def spStream (K : PySem.W.Frag) : Sp := fun vs H Q _ => ∃ (a : Addr) (ns : List Int), vs = [.ref a] ∧ SqL K H a (ns.map V.int) ∧ ns.length ≤ 63 ∧ ∀ s L H2, H s = none → H L = none → Ex H H2 → Strm H2 s L → Q (.ref s) H2
abbrev N_law_stream : List Str := ["script"]
theorem sc_law_stream : FnScope N_law_stream ["script"] (defScope (top 39)) := ⟨rfl, rfl, rfl, by decide +kernel, rfl, by decide +kernel, by decide +kernel⟩
theorem ok_stream (T : Txt K mg) : Cal P w K mg base CX0 1 "_law_stream" ["script"] (spStream K) := by
  refine mkCal T.g__law_stream T.d__law_stream sc_law_stream (fun _ _ _ _ _ _ us hl => match us, hl with | [_], _ => rfl) (fun vs H Q E h => ?_) fun cdv A outer s0 H vs Q E hr h => ?_
  · obtain ⟨x, d, rfl, _⟩ := h; rfl
  obtain ⟨a, ns, rfl, hs, hn, q⟩ := h
  refine ⟨_, (pss_one (ps_ret (pe_lst (pa_cons (pe_callTy (listOf (K := K)) (by rfl) T.n_list (by decide +kernel) (pa_cons (pv 0) pa_nil)) (pa_cons pe_int (pa_cons pe_int pa_nil)))))), ?_⟩
  refine ⟨_, rfl, a, _, rfl, .inl hs, fun L hL => ⟨by show 3 ≤ sizeLine; decide, fun s h2 => ?_⟩⟩
  have hne : L ≠ s := ne_of_none upd_same h2
  have hs0 : H s = none := by rw [upd_ne (Ne.symm hne)] at h2; exact h2
  exact q s L _ hs0 hL ((Evl.Ex.new hL).trans (Evl.Ex.new h2)) ⟨ns, 0, 0, upd_same, by rw [upd_ne hne]; exact upd_same, hne, by decide, by decide, hn⟩
def spPick (K : PySem.W.Frag) : Sp := fun vs H Q _ => ∃ s L r xs, vs = [.ref s, .ref r] ∧ Strm H s L ∧ (SqL K H r xs ∨ SqT K H r xs) ∧ r ≠ s ∧ 1 ≤ xs.length ∧ xs.length < 1073741824 ∧ ∀ (i : Nat) x H2, xs[i]? = some x → Kp s H H2 → Strm H2 s L → Q x H2
abbrev N_law_pick : List Str := ["stream", "rows"]
theorem sc_law_pick : FnScope N_law_pick ["stream", "rows"] (defScope (top 41)) := ⟨rfl, rfl, rfl, by decide +kernel, rfl, by decide +kernel, by decide +kernel⟩
theorem ok_pick (T : Txt K mg) (C__law_next : Cal P w K mg base CX0 1 "_law_next" ["stream", "many"] spNext) : Cal P w K mg base CX0 2 "_law_pick" ["stream", "rows"] (spPick K) := by
  refine mkCal T.g__law_pick T.d__law_pick sc_law_pick (fun _ _ _ _ _ _ us hl => match us, hl with | [_, _], _ => rfl) (fun vs H Q E h => ?_) fun cdv A outer s0 H vs Q E hr h => ?_
  · obtain ⟨x, _, d, _, rfl, _⟩ := h; rfl
  obtain ⟨s, L, r, xs, rfl, st, hx, hne, h1, h2, q⟩ := h
  refine ⟨_, (pss_one (ps_ret (pe_ix (ixS (K := K)) (pv 1) (pe_cal (E := E0) C__law_next (hr.mono (by decide)) pass0 (pa_cons (pv 0) (pa_cons (pe_callB (lenL (K := K)) (by rfl) T.n_len PySem.boot_len (pa_cons (pv 1) pa_nil)) pa_nil))) (fun _ _ => rfl)))), ?_⟩
  refine ⟨_, rfl, _, rfl, _, rfl, r, xs, rfl, hx, s, L, _, rfl, st, by omega, by omega, fun d H2 d0 d1 kp st2 => ?_⟩
  have hd : d.toNat < xs.length := by omega
  have ha : atI xs d = some xs[d.toNat] := at_of (show d = ((d.toNat : Nat) : Int) by omega) (by simp [hd])
  rcases hx with hx | hx
  · exact .inl ⟨r, xs, d, _, rfl, rfl, kp_seqL kp hne hx, ha, q d.toNat _ H2 (by simp [hd]) kp st2⟩
  · exact .inr ⟨r, xs, d, _, rfl, rfl, kp_seqT kp hne hx, ha, q d.toNat _ H2 (by simp [hd]) kp st2⟩
def spPickS : Sp := fun vs H Q _ => ∃ s L z, vs = [.ref s, .str z] ∧ Strm H s L ∧ 1 ≤ z.cps.size ∧ z.cps.size < 1000 ∧ ∀ c H2, Kp s H H2 → Strm H2 s L → Q (.str ⟨#[c]⟩) H2
theorem ok_pickS (T : Txt K mg) (C__law_next : Cal P w K mg base CX0 1 "_law_next" ["stream", "many"] spNext) : Cal P w K mg base CX0 2 "_law_pick" ["stream", "rows"] spPickS := by
  refine mkCal T.g__law_pick T.d__law_pick sc_law_pick (fun _ _ _ _ _ _ us hl => match us, hl with | [_, _], _ => rfl) (fun vs H Q E h => ?_) fun cdv A outer s0 H vs Q E hr h => ?_
  · obtain ⟨x, _, d, rfl, _⟩ := h; rfl
  obtain ⟨s, L, z, rfl, st, h1, h2, q⟩ := h
  refine ⟨_, (pss_one (ps_ret (pe_item_str (pv 1) (pe_cal (E := E0) C__law_next (hr.mono (by decide)) pass0 (pa_cons (pv 0) (pa_cons (pe_callB call_len_str (by rfl) T.n_len PySem.boot_len (pa_cons (pv 1) pa_nil)) pa_nil))) (fun _ _ => rfl)))), ?_⟩
  have hz : z.length = z.cps.size := rfl
  refine ⟨_, rfl, _, rfl, _, rfl, z, rfl, (by rw [hz]; exact Nat.le_trans (Nat.le_of_lt h2) (by decide)), s, L, _, rfl, st, (by rw [hz]; omega), (by rw [hz]; omega), fun d H2 d0 d1 kp st2 => ?_⟩
  rw [hz] at d1
  have hd : d.toNat < z.cps.size := by omega
  exact ⟨z, d, z.cps[d.toNat], rfl, rfl, d0, by omega, by rw [hz]; exact d1, by simp [hd], q _ _ kp st2⟩
def spShuf (K : PySem.W.Frag) : Sp := fun vs H Q _ => ∃ s L r xs, vs = [.ref s, .ref r] ∧ Strm H s L ∧ SqL K H r xs ∧ r ≠ s ∧ xs.length < 1000000 ∧ ∀ p ys H2, H p = none → Kp s H H2 → Strm H2 s L → H2 p = some (.lst ys) → ys.Perm xs → Q (.ref p) H2
abbrev N_law_shuffled : List Str := ["stream", "rows", "left", "found", "turn"]
theorem sc_law_shuffled : FnScope N_law_shuffled ["stream", "rows"] (defScope (top 43)) := ⟨rfl, rfl, rfl, by decide +kernel, rfl, by decide +kernel, by decide +kernel⟩
theorem ok_shuf (T : Txt K mg) (C__law_next : Cal P w K mg base CX0 1 "_law_next" ["stream", "many"] spNext) : Cal P w K mg base CX0 2 "_law_shuffled" ["stream", "rows"] (spShuf K) := by
  refine mkCal T.g__law_shuffled T.d__law_shuffled sc_law_shuffled (fun _ _ _ _ _ _ us hl => match us, hl with | [_, _], _ => rfl) (fun vs H Q E h => ?_) fun cdv A outer s0 H vs Q E hr h => ?_
  · obtain ⟨x, _, d, _, rfl, _⟩ := h; rfl
  obtain ⟨s, L, r, xs, rfl, st, hx, hne, h2, q⟩ := h
  refine ⟨_, (pss_cons (ps_set (i := 2) sc_law_shuffled.nd rfl (Or.inl rfl) (pe_callTy (listOf (K := K)) (by rfl) T.n_list (by decide +kernel) (pa_cons (pv 1) pa_nil)))
      (pss_cons (ps_set (i := 3) sc_law_shuffled.nd rfl (Or.inl rfl) (pe_lst pa_nil))
      (pss_cons (ps_for PassesOwn.never rfl (pi_range1 (by rfl) T.n_range (pa_cons (pe_callB (lenL (K := K)) (by rfl) T.n_len PySem.boot_len (pa_cons (pv 1) pa_nil)) pa_nil)) (pg_name (i := 4) sc_law_shuffled.nd rfl (Or.inl rfl)) (pss_one (ps_expr (pe_bm PySem.F.plainAttrs_list PySem.F.slot_list_append PySem.F.type_list_append mt_append (pv 3) (pa_cons (pe_bm PySem.F.plainAttrs_list PySem.F.slot_list_pop PySem.F.type_list_pop mt_popAt (pv 2) (pa_cons (pe_cal (E := E0) C__law_next (hr.mono (by decide)) pass0 (pa_cons (pv 0) (pa_cons (pe_callB (lenL (K := K)) (by rfl) T.n_len PySem.boot_len (pa_cons (pv 2) pa_nil)) pa_nil))) pa_nil)) pa_nil)))))
      (pss_one (ps_ret (pv 3)))))), ?_⟩
  refine ⟨_, rfl, r, xs, rfl, .inl hx, fun l hl => ⟨Nat.zero_le _, fun f hf => ?_⟩⟩
  have nlf : l ≠ f := ne_of_none upd_same hf
  have hf0 : H f = none := by rw [upd_ne (Ne.symm nlf)] at hf; exact hf
  have nls : s ≠ l := ne_of_none st.there.choose_spec hl
  have nfs : s ≠ f := ne_of_none st.there.choose_spec hf0
  have ex0 : Ex H (upd (upd H l (.lst xs)) f (.lst [])) := (Evl.Ex.new hl).trans (Evl.Ex.new hf)
  refine ⟨_, rfl, r, xs, rfl, .inl (ex_l ex0 hx), xs.length, rfl, by omega, by omega, ?_⟩
  refine for_it walk_range (fun i σ' H' => ∃ tv left found, σ' = [some (.ref s), some (.ref r), some (.ref l), some (.ref f), tv] ∧ Kp s H H' ∧ Strm H' s L ∧ H' l = some (.lst left) ∧ H' f = some (.lst found) ∧ (left ++ found).Perm xs ∧ left.length + i = xs.length)
    ⟨none, xs, [], rfl, fun a o _ h => ex0 a o h, st.keep ex0, by rw [upd_ne nlf]; exact upd_same, upd_same, by rw [List.append_nil], by omega⟩ (fun _ _ _ _ _ => trivial) ?_ ?_
  · rintro i x σ' H' H'' hi ⟨tv, left, found, rfl, kp, st', hl', hf', pm, hlen⟩ ⟨rfl, rfl⟩
    have hi' : i < xs.length := by simpa using hi
    refine ⟨_, rfl, .inl ⟨rfl, _, SqL.of hf'⟩, _, rfl, .inl ⟨rfl, _, SqL.of hl'⟩, _, rfl, _, rfl, l, left, rfl, (.inl (SqL.of hl')), s, L, _, rfl, st', by omega, by omega, fun d H2 d0 d1 kp2 st2 => ?_⟩
    have hd : d.toNat < left.length := by omega
    refine ⟨l, left, d, d.toNat, left[d.toNat], rfl, rfl, kp2 _ _ nls.symm hl', by omega, by omega, ?_, by simp [hd], ?_⟩
    · exact (ixN_seq (by unfold ixN; rw [if_pos d0, if_pos d1])).1
    have hf2 := kp2 _ _ nfs.symm hf'
    refine ⟨f, found, _, rfl, rfl, by rw [upd_ne (Ne.symm nlf)]; exact hf2, Nat.lt_of_le_of_lt (show found.length ≤ 1000000 by have := pm.length_eq; rw [List.length_append] at this; omega) (by decide), ?_⟩
    refine ⟨_, left.eraseIdx d.toNat, found ++ [left[d.toNat]], rfl, ((kp.trans kp2).mut hl).mut hf0, ?_, ?_, upd_same, ?_, ?_⟩
    · exact (st2.mut st hl).mut st hf0
    · rw [upd_ne nlf, upd_same]
    · have e := erase_perm left d.toNat _ (List.getElem?_eq_getElem hd)
      refine List.Perm.trans ?_ pm
      refine List.Perm.trans ?_ (List.Perm.append_right found e)
      rw [← List.append_assoc]
      exact (List.perm_append_singleton _ _)
    · rw [List.length_eraseIdx, if_pos hd]; omega
  · rintro σ' H' ⟨tv, left, found, rfl, kp, st', hl', hf', pm, hlen⟩
    have e0 : left = [] := List.eq_nil_of_length_eq_zero (by have : (xs.length : Int).toNat = xs.length := by omega
                                                             omega)
    subst e0
    exact ⟨_, rfl, q f found H' hf0 kp st' hf' (by simpa using pm)⟩
def spFrom : Sp := fun vs H Q _ => ∃ s L lo hi, vs = [.ref s, .int lo, .int hi] ∧ Strm H s L ∧ lo ≤ hi ∧ hi - lo < 1000000 ∧ ∀ d H2, lo ≤ d → d ≤ hi → Kp s H H2 → Strm H2 s L → Q (.int d) H2
abbrev N_law_from : List Str := ["stream", "low", "high"]
theorem sc_law_from : FnScope N_law_from ["stream", "low", "high"] (defScope (top 42)) := ⟨rfl, rfl, rfl, by decide +kernel, rfl, by decide +kernel, by decide +kernel⟩
theorem ok_from (T : Txt K mg) (C__law_next : Cal P w K mg base CX0 1 "_law_next" ["stream", "many"] spNext) : Cal P w K mg base CX0 2 "_law_from" ["stream", "low", "high"] spFrom := by
  refine mkCal T.g__law_from T.d__law_from sc_law_from (fun _ _ _ _ _ _ us hl => match us, hl with | [_, _, _], _ => rfl) (fun vs H Q E h => ?_) fun cdv A outer s0 H vs Q E hr h => ?_
  · obtain ⟨x, _, d, _, rfl, _⟩ := h; rfl
  obtain ⟨s, L, lo, hi, rfl, st, h1, h2, q⟩ := h
  refine ⟨_, (pss_one (ps_ret (pe_op op_add (pv 1) (pe_cal (E := E0) C__law_next (hr.mono (by decide)) pass0 (pa_cons (pv 0) (pa_cons (pe_op op_add (pe_op op_sub (pv 2) (pv 1)) pe_int) pa_nil)))))), ?_⟩
  refine ⟨_, rfl, _, rfl, _, rfl, _, rfl, hi, lo, rfl, rfl, _, 1, rfl, rfl, s, L, _, rfl, st, by omega, by omega, fun d H2 d0 d1 kp st2 => ?_⟩
  exact ⟨lo, d, rfl, rfl, q _ _ (by omega) (by omega) kp st2⟩
end
end K43
namespace K43
open PySem PySem.Spec PyProof.Rows L2 Hx Hd M43
open Evl (pss_cut tCut ex_l ex_t)
section
variable {P : Program} {w : World} {K : PySem.W.Frag} {mg : Str → Option Value} {base : Heap}
/-! the law's small judges -/
def spLNum (K : PySem.W.Frag) : Sp := fun vs H Q _ => ∃ x lo hi d, vs = [x, lo, hi] ∧ Dt H x d ∧ (isNum d = false → Q (.bl false) H) ∧ (∀ i, d = .int i → ∃ l h, lo = .int l ∧ hi = .int h ∧ Q (.bl (decide (l ≤ i) && decide (i ≤ h))) H)
abbrev N_law_number : List Str := ["value", "low", "high"]
theorem sc_law_number : FnScope N_law_number ["value", "low", "high"] (defScope (top 44)) := ⟨rfl, rfl, rfl, by decide +kernel, rfl, by decide +kernel, by decide +kernel⟩
theorem ok_lnum (T : Txt K mg) : Cal P w K mg base CX0 1 "_law_number" ["value", "low", "high"] (spLNum K) := by
  refine mkCal T.g__law_number T.d__law_number sc_law_number (fun _ _ _ _ _ _ us hl => match us, hl with | [_, _, _], _ => rfl) (fun vs H Q E h => ?_) fun cdv A outer s H vs Q E hr h => ?_
  · obtain ⟨x, _, _, d, rfl, _⟩ := h; rfl
  obtain ⟨x, lo, hi, d, rfl, hd, q1, q2⟩ := h
  refine ⟨_, (pss_cut (ps_if (PW.pt (pw_or (pt_not (pt_val (pe_callB (isiR (K := K)) (by rfl) T.n_isinstance (by decide +kernel) (pa_cons (pv 0) (pa_cons (pe_bltn (v := .ty "int") rfl T.n_int (by decide +kernel) rfl) pa_nil))))) (pw_or1 (pt_val (pe_callB (isiR (K := K)) (by rfl) T.n_isinstance (by decide +kernel) (pa_cons (pv 0) (pa_cons (pe_bltn (v := .ty "bool") rfl T.n_bool (by decide +kernel) rfl) pa_nil))))))) (pss_one (ps_ret pe_bl)) pss_nil)
      (pss_one (ps_ret (pe_and (pe_cmpR op_le (pv 1) (pv 0) (nomark _)) (pe_one (pe_cmpR op_le (pv 0) (pv 2) (nomark _))))))), ?_⟩
  refine ⟨fun σ' H' => ∃ i, d = .int i ∧ σ' = [some x, some lo, some hi] ∧ H = H', ?_, ?_⟩
  · refine ⟨_, rfl, x, _, _, _, _, rfl, .ty "int", ty_dt hd, kit_ty (kit_int d), _, rfl, ?_⟩
    cases h1 : isT "int" d with
    | false => exact q1 (by cases d <;> first | rfl | (exfalso; revert h1; simp [isT]))
    | true =>
      refine ⟨_, rfl, x, _, _, _, _, rfl, .ty "bool", ty_dt hd, kit_ty (kit_bool d), _, rfl, ?_⟩
      cases h2 : isT "bool" d with
      | true => exact q1 (by cases d <;> first | rfl | (exfalso; revert h2; simp [isT]))
      | false =>
        obtain ⟨i, rfl⟩ : ∃ i, d = .int i := by cases d <;> first | exact ⟨_, rfl⟩ | (exfalso; revert h1 h2; simp [isT])
        exact ⟨i, rfl, rfl, rfl⟩
  · rintro σ' H' ⟨i, rfl, rfl, rfl⟩
    obtain ⟨l, h, rfl, rfl, q⟩ := q2 i rfl
    cases hd
    refine ⟨_, rfl, _, rfl, l, i, rfl, rfl, _, rfl, ?_⟩
    refine ite2 (fun h1 => ?_) (fun h1 => ?_)
    · rw [h1] at q
      exact ⟨_, rfl, _, rfl, i, h, rfl, rfl, q⟩
    · have h1 : decide (l ≤ i) = false := by simpa using h1
      rw [h1] at q
      exact q
def isWord (z : Str) (d : PyData) : Bool := match d with | .str y => decide (y = z) | _ => false
def spWord (K : PySem.W.Frag) : Sp := fun vs H Q _ => ∃ x z d, vs = [x, .str z] ∧ Dt H x d ∧ Q (.bl (isWord z d)) H
abbrev N_law_is_word : List Str := ["value", "word"]
theorem sc_law_is_word : FnScope N_law_is_word ["value", "word"] (defScope (top 45)) := ⟨rfl, rfl, rfl, by decide +kernel, rfl, by decide +kernel, by decide +kernel⟩
theorem ok_word (T : Txt K mg) : Cal P w K mg base CX0 1 "_law_is_word" ["value", "word"] (spWord K) := by
  refine mkCal T.g__law_is_word T.d__law_is_word sc_law_is_word (fun _ _ _ _ _ _ us hl => match us, hl with | [_, _], _ => rfl) (fun vs H Q E h => ?_) fun cdv A outer s H vs Q E hr h => ?_
  · obtain ⟨x, _, d, rfl, _⟩ := h; rfl
  obtain ⟨x, z, d, rfl, hd, q⟩ := h
  refine ⟨_, (pss_one (ps_ret (pe_and (pe_callB (isiR (K := K)) (by rfl) T.n_isinstance (by decide +kernel) (pa_cons (pv 0) (pa_cons (pe_bltn (v := .ty "str") rfl T.n_str (by decide +kernel) rfl) pa_nil))) (pe_one (pe_cmpR op_eq (pv 0) (pv 1) (nomark _)))))), ?_⟩
  refine ⟨_, rfl, x, _, _, _, _, rfl, .ty "str", ty_dt hd, kit_ty (kit_str d), _, rfl, ?_⟩
  cases h1 : isT "str" d with
  | false =>
    have e : isWord z d = false := by cases d <;> first | rfl | (exfalso; revert h1; simp [isT])
    rw [e] at q; exact q
  | true =>
    obtain ⟨y, rfl⟩ := isT_str h1
    cases hd
    refine ⟨_, rfl, _, rfl, rfl, ?_⟩
    rw [dec_str]
    exact q
def isTupN (m : Int) (d : PyData) : Bool := match d with | .tuple ds => decide ((ds.length : Int) = m) | _ => false
def isLstN (m : Int) (d : PyData) : Bool := match d with | .list ds => decide ((ds.length : Int) = m) | _ => false
def spRow (K : PySem.W.Frag) : Sp := fun vs H Q _ => ∃ x z m d, vs = [x, .str z, .int m] ∧ Dt H x d ∧ ((z = Str.ofString "T" ∧ Q (.bl (isTupN m d)) H) ∨ (z = Str.ofString "L" ∧ Q (.bl (isLstN m d)) H))
abbrev N_law_is_row : List Str := ["value", "kind", "many"]
theorem sc_law_is_row : FnScope N_law_is_row ["value", "kind", "many"] (defScope (top 46)) := ⟨rfl, rfl, rfl, by decide +kernel, rfl, by decide +kernel, by decide +kernel⟩
theorem ok_row (T : Txt K mg) : Cal P w K mg base CX0 1 "_law_is_row" ["value", "kind", "many"] (spRow K) := by
  refine mkCal T.g__law_is_row T.d__law_is_row sc_law_is_row (fun _ _ _ _ _ _ us hl => match us, hl with | [_, _, _], _ => rfl) (fun vs H Q E h => ?_) fun cdv A outer s H vs Q E hr h => ?_
  · obtain ⟨x, _, _, d, rfl, _⟩ := h; rfl
  obtain ⟨x, z, m, d, rfl, hd, q⟩ := h
  refine ⟨_, (pss_cut (ps_if (PW.pt (pw_and (pt_cmpR op_eq (pv 1) pe_str (nomark _)) (pw_and1 (pt_not (pt_val (pe_callB (isiR (K := K)) (by rfl) T.n_isinstance (by decide +kernel) (pa_cons (pv 0) (pa_cons (pe_bltn (v := .ty "list") rfl T.n_list (by decide +kernel) rfl) pa_nil)))))))) (pss_one (ps_ret pe_bl)) pss_nil)
      (pss_cut (ps_if (PW.pt (pw_and (pt_cmpR op_eq (pv 1) pe_str (nomark _)) (pw_and1 (pt_not (pt_val (pe_callB (isiR (K := K)) (by rfl) T.n_isinstance (by decide +kernel) (pa_cons (pv 0) (pa_cons (pe_bltn (v := .ty "tuple") rfl T.n_tuple (by decide +kernel) rfl) pa_nil)))))))) (pss_one (ps_ret pe_bl)) pss_nil)
      (pss_one (ps_ret (pe_or (pe_cmpR op_isN (pv 2) pe_non (nomark _)) (pe_one (pe_cmpR op_eq (pe_callB (lenL (K := K)) (by rfl) T.n_len PySem.boot_len (pa_cons (pv 0) pa_nil)) (pv 2) (nomark _)))))))), ?_⟩
  refine ⟨fun σ' H' => σ' = [some x, some (.str z), some (.int m)] ∧ H = H' ∧ (z = Str.ofString "L" → isT "list" d = true), ?_, ?_⟩
  · refine ⟨_, rfl, rfl, _, rfl, ?_⟩
    rw [dec_str]
    rcases q with ⟨rfl, q⟩ | ⟨rfl, q⟩
    · exact ⟨rfl, rfl, fun h => absurd h (by decide +kernel)⟩
    · refine ⟨_, rfl, x, _, _, _, _, rfl, .ty "list", ty_dt hd, kit_ty (kit_list d), _, rfl, ?_⟩
      cases h1 : isT "list" d with
      | false =>
        have e : isLstN m d = false := by cases d <;> first | rfl | (exfalso; revert h1; simp [isT])
        rw [e] at q; exact q
      | true => exact ⟨rfl, rfl, fun _ => rfl⟩
  rintro σ' H' ⟨rfl, rfl, hL⟩
  refine ⟨fun σ' H' => σ' = [some x, some (.str z), some (.int m)] ∧ H = H' ∧ (z = Str.ofString "T" → isT "tuple" d = true), ?_, ?_⟩
  · refine ⟨_, rfl, rfl, _, rfl, ?_⟩
    rw [dec_str]
    rcases q with ⟨rfl, q⟩ | ⟨rfl, q⟩
    · refine ⟨_, rfl, x, _, _, _, _, rfl, .ty "tuple", ty_dt hd, kit_ty (kit_tup d), _, rfl, ?_⟩
      cases h1 : isT "tuple" d with
      | false =>
        have e : isTupN m d = false := by cases d <;> first | rfl | (exfalso; revert h1; simp [isT])
        rw [e] at q; exact q
      | true => exact ⟨rfl, rfl, fun _ => rfl⟩
    · exact ⟨rfl, rfl, fun h => absurd h (by decide +kernel)⟩
  rintro σ' H' ⟨rfl, rfl, hT⟩
  refine ⟨_, rfl, rfl, _, rfl, ?_⟩
  rcases q with ⟨rfl, q⟩ | ⟨rfl, q⟩
  · obtain ⟨ds, rfl⟩ := isT_tup (hT rfl)
    obtain ⟨b, ys, rfl, hs, ha⟩ := dt_tup hd
    refine ⟨_, rfl, b, ys, rfl, .inr (SqT.of hs), _, rfl, rfl, ?_⟩
    rw [dec_int, dta_len ha]
    have e : ((ds.length : Int) == m) = isTupN m (.tuple ds) := by rw [Bool.eq_iff_iff, beq_iff_eq]; exact decide_eq_true_iff.symm
    rw [e]; exact q
  · obtain ⟨ds, rfl⟩ := isT_list (hL rfl)
    obtain ⟨b, ys, rfl, hs, ha⟩ := dt_list hd
    refine ⟨_, rfl, b, ys, rfl, .inl (SqL.of hs), _, rfl, rfl, ?_⟩
    rw [dec_int, dta_len ha]
    have e : ((ds.length : Int) == m) = isLstN m (.list ds) := by rw [Bool.eq_iff_iff, beq_iff_eq]; exact decide_eq_true_iff.symm
    rw [e]; exact q
end
end K43
namespace K43
open PySem PySem.Spec PyProof.Rows L2 Hx Hd M43
open Evl (pss_cut tCut ex_l ex_t)
mutual
def nodes : PyData → Nat
  | .list ds => nodesL ds + 1
  | .tuple ds => nodesL ds + 1
  | .dict es => es.length + 1
  | _ => 1
def nodesL : List PyData → Nat
  | [] => 0
  | d :: ds => nodes d + nodesL ds
end
theorem nodes_pos : ∀ d, 1 ≤ nodes d
  | .none => by simp [nodes]
  | .bool _ => by simp [nodes]
  | .int _ => by simp [nodes]
  | .str _ => by simp [nodes]
  | .list ds => by simp [nodes]
  | .tuple ds => by simp [nodes]
  | .dict es => by simp [nodes]
theorem nodesL_app : ∀ (a b : List PyData), nodesL (a ++ b) = nodesL a + nodesL b
  | [], b => by simp [nodesL]
  | d :: a, b => by rw [List.cons_append, nodesL, nodesL, nodesL_app a b]; omega
theorem nodesL_len : ∀ (a : List PyData), a.length ≤ nodesL a
  | [] => by simp
  | d :: a => by
    have := nodesL_len a
    have := nodes_pos d
    rw [nodesL, List.length_cons]
    omega
theorem pss_no {X : Cx} {st : List Stmt} : PSs X st (fun _ _ _ => False) := ⟨fun _ _ _ _ _ _ h => h.elim⟩
theorem isi_k {K : PySem.W.Frag} {H : Hp} {v : V} {tn T : String} {b : Bool} {Q : VK} (t : TyX K H v (.type tn)) (k : kitB tn T = some b) (q : Q (.bl b) H) : rIsi K [v, .ty T] H Q :=
  ⟨v, .ty T, .type tn, .type T, _, rfl, .ty T, t, kit_ty k, q⟩
theorem paired_last {α β : Type} {F : α → β → Prop} : ∀ {as : List α} {bs : List β}, Paired F as bs → as ≠ [] → ∃ ai a bi b, as = ai ++ [a] ∧ bs = bi ++ [b] ∧ Paired F ai bi ∧ F a b
  | [], _, .nil, h => absurd rfl h
  | a :: as, b :: bs, .cons r t, _ => by
    by_cases h : as = []
    · subst h
      cases t
      exact ⟨[], a, [], b, rfl, rfl, .nil, r⟩
    · obtain ⟨ai, a', bi, b', rfl, rfl, p, f⟩ := paired_last t h
      exact ⟨a :: ai, a', b :: bi, b', rfl, rfl, .cons r p, f⟩
theorem ne_self {x : V} : V.bl (!decide (x = x)) = V.bl false := by simp
/-- a pair of two of the same data -/
abbrev Pr2 (G : Hp) (v : V) (d : PyData) : Prop := ∃ r x y, v = .ref r ∧ G r = some (.tup [x, y]) ∧ Dt G x d ∧ Dt G y d
theorem pr2_mono {G G' : Hp} (e : Ex G G') {v : V} {d : PyData} (h : Pr2 G v d) : Pr2 G' v d := by
  obtain ⟨r, x, y, rfl, h1, h2, h3⟩ := h
  exact ⟨r, x, y, rfl, e _ _ h1, ex_dt e _ _ h2, ex_dt e _ _ h3⟩
theorem sel_pr {G : Hp} {ds : List PyData} {zs : List V} (h : Sel (fun j y G => Pr2 G y (ds.getD j .none)) (fun _ => true) ds.length zs G) : Paired (Pr2 G) zs ds := by
  have gen : ∀ {as : List Nat} {bs : List V}, Paired (fun j y => Pr2 G y (ds.getD j .none)) as bs → Paired (Pr2 G) bs (as.map fun j => ds.getD j .none) := by
    intro as bs p
    induction p with
    | nil => exact .nil
    | cons r t ih => exact .cons r ih
  have z := gen h
  rw [List.filter_eq_self.mpr fun _ _ => rfl] at z
  have e : (List.range ds.length).map (fun j => ds.getD j PyData.none) = ds := by
    apply List.ext_getElem
    · simp
    · intro i h1 h2
      simp [List.getD_eq_getElem?_getD, h2]
  rw [e] at z
  exact z
theorem dkv_key : ∀ {kvs : List (Key × V)} {es : List (PyData × PyData)}, DKV kvs es → ∀ {i : Nat} {k : Key} {v : V}, kvs[i]? = some (k, v) → ∃ z, k = Sum.inr z ∧ (valV kvs k).isSome = true
  | [], _, _, i, k, v, h => by cases h
  | p :: kvs, _, .cons r t, i, k, v, h => by
    obtain ⟨z, h1, h2, h3⟩ := r
    cases i with
    | zero =>
      have e : p = (k, v) := Option.some.inj h
      subst e
      exact ⟨z, h1, by rw [valV_pos rfl]; rfl⟩
    | succ i =>
      obtain ⟨z', e, hs⟩ := dkv_key t (i := i) (k := k) (v := v) h
      refine ⟨z', e, ?_⟩
      by_cases hk : p.1 = k
      · rw [valV_pos hk]; rfl
      · rw [valV_neg hk]; exact hs
theorem dkv_both {kx ky : List (Key × V)} {es : List (PyData × PyData)} (hx : DKV kx es) (hy : DKV ky es) {i : Nat} {k : Key} {v : V} (h : ky[i]? = some (k, v)) : ∃ z vx vy d, k = Sum.inr z ∧ valV kx k = some vx ∧ valV ky k = some vy ∧ FV vx d ∧ FV vy d := by
  obtain ⟨z, rfl, hs⟩ := dkv_key hy h
  rcases dkv_look hy z with ⟨e1, _⟩ | ⟨vy, d, e1, e2, f⟩
  · rw [e1] at hs; cases hs
  · rcases dkv_look hx z with ⟨_, e4⟩ | ⟨vx, d', e3, e4, f'⟩
    · rw [e2] at e4; cases e4
    · rw [e2] at e4
      obtain rfl := Option.some.inj e4
      exact ⟨z, vx, vy, d, rfl, e3, e1, f', f⟩
theorem fv_dt {H : Hp} {v : V} {d : PyData} (h : FV v d) : Dt H v d := by
  cases h with
  | int i => exact .int i
  | bl b => exact .bl b
theorem fv_one {v : V} {d : PyData} (h : FV v d) : nodes d = 1 := by cases h <;> simp [nodes]
theorem dget_kr {H : Hp} {a : Addr} {kvs : List (Key × V)} {k : Key} (e : Rd H a (.dK kvs)) : DGet H a (kV k) (valV kvs k) := .inl ⟨kvs, k, e, rfl, rfl⟩
theorem turn_key {M : Addr → Prop} {G H : Hp} {kvs : List (Key × V)} {j i : Nat} {x : V} {k : Key} {v : V} {G' H' H'' : Hp} {σ0 : L2.St} {Q : L2.St → Hp → Prop} (a : Stp M G H G' H') (y : H'' = H' ∧ ∃ k v, kvs[i]? = some (k, v) ∧ x = kV k) (hv : kvs[i]? = some (k, v)) (q : ∀ G2 H2, Stp M G' H' G2 H2 → Q (σ0.set j (some (kV k))) H2) : gName j x σ0 H'' Q := by
  obtain ⟨rfl, k', v', hk, rfl⟩ := y
  rw [hv] at hk
  have e := Option.some.inj hk
  injection e with e1 e2
  subst e1
  exact q G' _ (Stp.refl a.gh)
section
variable {P : Program} {w : World} {K : PySem.W.Frag} {mg : Str → Option Value} {base : Heap}
def spSame (K : PySem.W.Frag) : Sp := fun vs H Q _ => ∃ x y d, vs = [x, y] ∧ Dt H x d ∧ Dt H y d ∧ nodes d ≤ 100000 ∧ ∀ H2, Ex H H2 → Q (.bl true) H2
abbrev N_law_same : List Str := ["actual", "due", "left", "turn", "one", "other", "at", "key"]
theorem sc_law_same : FnScope N_law_same ["actual", "due"] (defScope (top 47)) := ⟨rfl, rfl, rfl, by decide +kernel, rfl, by decide +kernel, by decide +kernel⟩
theorem ok_same (T : Txt K mg) : Cal P w K mg base CX0 1 "_law_same" ["actual", "due"] (spSame K) := by
  refine mkCal T.g__law_same T.d__law_same sc_law_same (fun _ _ _ _ _ _ us hl => match us, hl with | [_, _], _ => rfl) (fun vs H Q E h => ?_) fun cdv A outer s H vs Q E hr h => ?_
  · obtain ⟨x, _, d, rfl, _⟩ := h; rfl
  obtain ⟨x0, y0, d0, rfl, hx0, hy0, hsz, q⟩ := h
  refine ⟨_, (pss_cons (ps_set (i := 2) sc_law_same.nd rfl (Or.inl rfl) (pe_lst (pa_cons (pe_tup (pa_cons (pv 0) (pa_cons (pv 1) pa_nil))) pa_nil)))
      (pss_cons (ps_for PassesOwn.never rfl (pi_range1 (by rfl) T.n_range (pa_cons (pe_op op_pow pe_int pe_int) pa_nil)) (pg_name (i := 3) sc_law_same.nd rfl (Or.inl rfl)) (pss_cons (ps_if (pt_cmpR op_eq (pe_callB (lenL (K := K)) (by rfl) T.n_len PySem.boot_len (pa_cons (pv 2) pa_nil)) pe_int (nomark _)) (pss_one (ps_ret pe_bl)) pss_nil)
      (pss_cons (ps_asg (pe_bm0 PySem.F.plainAttrs_list PySem.F.slot_list_pop PySem.F.type_list_pop mt_pop (pv 2)) (pgTup (K := K) rfl (pgs_cons (pg_name (i := 4) sc_law_same.nd rfl (Or.inr rfl)) (pgs_cons (pg_name (i := 5) sc_law_same.nd rfl (Or.inr rfl)) pgs_nil))))
      (pss_one (ps_if (PW.pt (pw_or (pt_val (pe_callB (isiR (K := K)) (by rfl) T.n_isinstance (by decide +kernel) (pa_cons (pv 5) (pa_cons (pe_bltn (v := .ty "tuple") rfl T.n_tuple (by decide +kernel) rfl) pa_nil)))) (pw_or1 (pt_val (pe_callB (isiR (K := K)) (by rfl) T.n_isinstance (by decide +kernel) (pa_cons (pv 5) (pa_cons (pe_bltn (v := .ty "list") rfl T.n_list (by decide +kernel) rfl) pa_nil))))))) (pss_cut (ps_if (PW.pt (pw_or (pt_cmpR op_ne (pe_callB (isiR (K := K)) (by rfl) T.n_isinstance (by decide +kernel) (pa_cons (pv 5) (pa_cons (pe_bltn (v := .ty "tuple") rfl T.n_tuple (by decide +kernel) rfl) pa_nil))) (pe_callB (isiR (K := K)) (by rfl) T.n_isinstance (by decide +kernel) (pa_cons (pv 4) (pa_cons (pe_bltn (v := .ty "tuple") rfl T.n_tuple (by decide +kernel) rfl) pa_nil))) (nomark _)) (pw_or (pt_cmpR op_ne (pe_callB (isiR (K := K)) (by rfl) T.n_isinstance (by decide +kernel) (pa_cons (pv 5) (pa_cons (pe_bltn (v := .ty "list") rfl T.n_list (by decide +kernel) rfl) pa_nil))) (pe_callB (isiR (K := K)) (by rfl) T.n_isinstance (by decide +kernel) (pa_cons (pv 4) (pa_cons (pe_bltn (v := .ty "list") rfl T.n_list (by decide +kernel) rfl) pa_nil))) (nomark _)) (pw_or1 (pt_cmpR op_ne (pe_callB (lenL (K := K)) (by rfl) T.n_len PySem.boot_len (pa_cons (pv 4) pa_nil)) (pe_callB (lenL (K := K)) (by rfl) T.n_len PySem.boot_len (pa_cons (pv 5) pa_nil)) (nomark _)))))) (pss_one (ps_ret pe_bl)) pss_nil)
      (pss_one (ps_expr (pe_bm PySem.F.plainAttrs_list PySem.F.slot_list_extend PySem.F.type_list_extend mt_extend (pv 2) (pa_cons (pe_lc (own := [("at", 6)]) (g := gName 6) rfl sc_law_same.nd (pi_range1 (by rfl) T.n_range (pa_cons (pe_callB (lenL (K := K)) (by rfl) T.n_len PySem.boot_len (pa_cons (pv 5) pa_nil)) pa_nil)) (blkOk_by (N := N_law_same) (sc := defScope (top 47)) (by decide +kernel)) (fun _ _ _ _ _ => (pg_name (i := 6) sc_law_same.nd rfl (Or.inl rfl))) (fun _ _ _ _ _ => pts_nil) (fun _ _ _ _ _ => (pe_tup (pa_cons (pe_ix (ixS (K := K)) (pv 4) (pv 6) (fun _ _ => rfl)) (pa_cons (pe_ix (ixS (K := K)) (pv 5) (pv 6) (fun _ _ => rfl)) pa_nil))))) pa_nil))))) (pss_one (ps_if (pt_val (pe_callB (isiR (K := K)) (by rfl) T.n_isinstance (by decide +kernel) (pa_cons (pv 5) (pa_cons (pe_bltn (v := .ty "dict") rfl T.n_dict (by decide +kernel) rfl) pa_nil)))) (pss_cut (ps_if (PW.pt (pw_or (pt_not (pt_val (pe_callB (isiR (K := K)) (by rfl) T.n_isinstance (by decide +kernel) (pa_cons (pv 4) (pa_cons (pe_bltn (v := .ty "dict") rfl T.n_dict (by decide +kernel) rfl) pa_nil))))) (pw_or (pt_cmpR op_ne (pe_callB call_lenK (by rfl) T.n_len PySem.boot_len (pa_cons (pv 4) pa_nil)) (pe_callB call_lenK (by rfl) T.n_len PySem.boot_len (pa_cons (pv 5) pa_nil)) (nomark _)) (pw_or1 (pt_cmpR op_gt (pe_callB (lenL (K := K)) (by rfl) T.n_len PySem.boot_len (pa_cons (pe_lock (pe_lc (own := [("key", 7)]) (g := gName 7) rfl sc_law_same.nd (pi_keys (pv 5)) (blkOk_by (N := N_law_same) (sc := defScope (top 47)) (by decide +kernel)) (fun _ _ _ _ _ => (pg_name (i := 7) sc_law_same.nd rfl (Or.inl rfl))) (fun _ _ _ _ _ => pts_one (pt_cmp (pc_dnotin (hu_of hr) (pv 7) (pv 4)))) (fun _ _ _ _ _ => (pv 7)))) pa_nil)) pe_int (nomark _)))))) (pss_one (ps_ret pe_bl)) pss_nil)
      (pss_one (ps_expr (pe_bm PySem.F.plainAttrs_list PySem.F.slot_list_extend PySem.F.type_list_extend mt_extend (pv 2) (pa_cons (pe_lock (pe_lc (own := [("key", 7)]) (g := gName 7) rfl sc_law_same.nd (pi_keys (pv 5)) (blkOk_by (N := N_law_same) (sc := defScope (top 47)) (by decide +kernel)) (fun _ _ _ _ _ => (pg_name (i := 7) sc_law_same.nd rfl (Or.inl rfl))) (fun _ _ _ _ _ => pts_nil) (fun _ _ _ _ _ => (pe_tup (pa_cons (pe_dget (hu_of hr) (pv 4) (pv 7) (fun _ _ => rfl)) (pa_cons (pe_dget (hu_of hr) (pv 5) (pv 7) (fun _ _ => rfl)) pa_nil)))))) pa_nil))))) (pss_one (ps_if (PW.pt (pw_or (pt_val (pe_callB (isiR (K := K)) (by rfl) T.n_isinstance (by decide +kernel) (pa_cons (pv 5) (pa_cons (pe_bltn (v := .ty "bool") rfl T.n_bool (by decide +kernel) rfl) pa_nil)))) (pw_or1 (pt_val (pe_callB (isiR (K := K)) (by rfl) T.n_isinstance (by decide +kernel) (pa_cons (pv 5) (pa_cons (pe_bltn (v := .ty "str") rfl T.n_str (by decide +kernel) rfl) pa_nil))))))) (pss_one (ps_if (PW.pt (pw_or (pt_cmpR op_ne (pe_callB (isiR (K := K)) (by rfl) T.n_isinstance (by decide +kernel) (pa_cons (pv 4) (pa_cons (pe_bltn (v := .ty "bool") rfl T.n_bool (by decide +kernel) rfl) pa_nil))) (pe_callB (isiR (K := K)) (by rfl) T.n_isinstance (by decide +kernel) (pa_cons (pv 5) (pa_cons (pe_bltn (v := .ty "bool") rfl T.n_bool (by decide +kernel) rfl) pa_nil))) (nomark _)) (pw_or (pt_cmpR op_ne (pe_callB (isiR (K := K)) (by rfl) T.n_isinstance (by decide +kernel) (pa_cons (pv 4) (pa_cons (pe_bltn (v := .ty "str") rfl T.n_str (by decide +kernel) rfl) pa_nil))) (pe_callB (isiR (K := K)) (by rfl) T.n_isinstance (by decide +kernel) (pa_cons (pv 5) (pa_cons (pe_bltn (v := .ty "str") rfl T.n_str (by decide +kernel) rfl) pa_nil))) (nomark _)) (pw_or1 (pt_cmpR op_ne (pv 4) (pv 5) (nomark _)))))) (pss_one (ps_ret pe_bl)) pss_nil)) (pss_one (ps_if (pt_val (pe_callB (isiR (K := K)) (by rfl) T.n_isinstance (by decide +kernel) (pa_cons (pv 5) (pa_cons (pe_bltn (v := .ty "int") rfl T.n_int (by decide +kernel) rfl) pa_nil)))) (pss_one (ps_if (PW.pt (pw_or (pt_not (pt_val (pe_callB (isiR (K := K)) (by rfl) T.n_isinstance (by decide +kernel) (pa_cons (pv 4) (pa_cons (pe_bltn (v := .ty "int") rfl T.n_int (by decide +kernel) rfl) pa_nil))))) (pw_or (pt_val (pe_callB (isiR (K := K)) (by rfl) T.n_isinstance (by decide +kernel) (pa_cons (pv 4) (pa_cons (pe_bltn (v := .ty "bool") rfl T.n_bool (by decide +kernel) rfl) pa_nil)))) (pw_or1 (pt_cmpR op_ne (pv 4) (pv 5) (nomark _)))))) (pss_one (ps_ret pe_bl)) pss_nil)) (pss_one (ps_if (pt_cmpR op_notN (pv 4) pe_non (nomark _)) (pss_one (ps_ret pe_bl)) pss_nil)))))))))))))
      (pss_one (ps_ret pe_bl)))), ?_⟩
  have hz : ∀ m : Nat, m ≤ 100000 → m ≤ sizeLine := fun m h => Nat.le_trans h (by decide)
  refine ⟨_, rfl, _, rfl, hz 2 (by omega), fun t ht => ⟨hz 1 (by omega), fun p hp => ?_⟩⟩
  have hp0 : H p = none := Evl.fresh_back (Evl.Ex.new ht) hp
  refine ⟨10, 9, rfl, rfl, ⟨by decide, by decide, by decide⟩, _, rfl, by decide +kernel, by decide +kernel, ?_⟩
  refine for_it walk_range (fun i σ' H' => ∃ tv ov uv G stk dsk, σ' = [some x0, some y0, some (.ref p), tv, ov, uv, none, none] ∧ Ex H G ∧ Ex G H' ∧ G p = none ∧ H' p = some (.lst stk) ∧ Paired (Pr2 G) stk dsk ∧ nodesL dsk + i = nodes d0)
    ⟨none, none, none, upd H t (.tup [x0, y0]), [.ref t], [d0], rfl, Evl.Ex.new ht, Evl.Ex.new hp, hp, upd_same, .cons ⟨t, x0, y0, rfl, upd_same, ex_dt (Evl.Ex.new ht) _ _ hx0, ex_dt (Evl.Ex.new ht) _ _ hy0⟩ .nil, by simp [nodesL]⟩ (fun _ _ _ _ _ => trivial) ?_ ?_
  · rintro i v σ' H' H'' hi ⟨tv, ov, uv, G, stk, dsk, rfl, eG, eH, gp, hp', pr, hsum⟩ ⟨rfl, rfl⟩
    refine ⟨_, rfl, p, stk, rfl, .inl (SqL.of hp'), rfl, _, rfl, ?_⟩
    rw [dec_int]
    have ens : ∀ (xs : List V), ((xs.length : Int) == 0) = true → xs = [] := fun xs h => List.eq_nil_of_length_eq_zero (by rw [beq_iff_eq] at h; omega)
    refine ite2 (fun h => q _ (eG.trans eH)) (fun hne => ?_)
    have hne' : stk ≠ [] := fun z => hne (by rw [z]; rfl)
    obtain ⟨ai, a, bi, d, rfl, rfl, pr', r, x, y, rfl, hr1, hx1, hy1⟩ := paired_last pr hne'
    have hlai : ai.length ≤ nodesL bi := by rw [pr'.length]; exact nodesL_len bi
    rw [nodesL_app] at hsum
    have hsum : nodesL bi + nodes d + i = nodes d0 := by simpa [nodesL] using hsum
    have hlast : (ai ++ [V.ref r])[(ai ++ [V.ref r]).length - 1]? = some (V.ref r) := by simp
    have hdl : (ai ++ [V.ref r]).dropLast = ai := by simp
    refine ⟨_, rfl, .inl ⟨rfl, _, SqL.of hp'⟩, p, _, V.ref r, rfl, rfl, hp', hlast, ?_⟩
    rw [hdl]
    have eH1 : Ex G (upd H'' p (.lst ai)) := fun b o hb => by
      rw [upd_ne (fun z => by rw [z, gp] at hb; cases hb)]; exact eH b o hb
    have hp1 : upd H'' p (.lst ai) p = some (.lst ai) := upd_same
    generalize upd H'' p (.lst ai) = H1 at eH1 hp1 ⊢
    refine ⟨r, [x, y], rfl, SqT.of (eH1 _ _ hr1), rfl, _, _, rfl, _, _, rfl, rfl, ?_⟩
    have hx := ex_dt eH1 _ _ hx1
    have hy := ex_dt eH1 _ _ hy1
    have done : nodes d = 1 → ∃ tv ov uv G stk dsk, [some x0, some y0, some (.ref p), some (.int (0 + (i : Int))), some x, some y, none, none] = [some x0, some y0, some (V.ref p), tv, ov, uv, none, none] ∧ Ex H G ∧ Ex G H1 ∧ G p = none ∧ H1 p = some (.lst stk) ∧ Paired (Pr2 G) stk dsk ∧ nodesL dsk + (i + 1) = nodes d0 := fun e =>
      ⟨_, _, _, G, ai, bi, rfl, eG, eH1, gp, hp1, pr', by omega⟩
    have kids : ∀ (ds : List PyData), nodes d = nodesL ds + 1 → ∀ (zs : List V) (b : Addr) (G2 H2 : Hp), Stp NoM G H1 G2 H2 → H2 b = some (.lst zs) → Paired (Pr2 G2) zs ds →
        zs.length = ds.length → ∃ l b' xs zs', (V.ref p) = .ref l ∧ [V.ref b] = [.ref b'] ∧ H2 l = some (.lst xs) ∧ H2 b' = some (.lst zs') ∧ xs.length + zs'.length ≤ sizeLine ∧
          ∃ tv ov uv G stk dsk, [some x0, some y0, some (.ref p), some (.int (0 + (i : Int))), some x, some y, none, none] = [some x0, some y0, some (V.ref p), tv, ov, uv, none, none] ∧ Ex H G ∧ Ex G (upd H2 l (.lst (xs ++ zs'))) ∧ G p = none ∧ (upd H2 l (.lst (xs ++ zs'))) p = some (.lst stk) ∧ Paired (Pr2 G) stk dsk ∧ nodesL dsk + (i + 1) = nodes d0 := by
      intro ds hn zs b G2 H2 st hb hpz hzl
      have h2p : H2 p = some (.lst ai) := st.hh p _ (fun h => h) hp1
      have g2p : G2 p = none := st.fr p (some_ne hp1) gp
      have hdl := nodesL_len ds
      refine ⟨p, b, ai, zs, rfl, rfl, h2p, hb, hz _ (by omega), _, _, _, G2, ai ++ zs, bi ++ ds, rfl, eG.trans st.gg, fun c o hc => ?_, g2p, upd_same, ?_, ?_⟩
      · rw [upd_ne (fun z => by rw [z, g2p] at hc; cases hc)]; exact st.gh c o hc
      · exact paired_app (Paired.mapP pr' fun v d h => pr2_mono st.gg h) hpz
      · rw [nodesL_app]; omega
    cases d with
    | dict es =>
      obtain ⟨ax, kx, rfl, sx1, hkx⟩ := dt_dict hx1
      obtain ⟨ay, ky, rfl, sy1, hky⟩ := dt_dict hy1
      have sx := eH1 _ _ sx1
      have sy := eH1 _ _ sy1
      have hlx := hkx.length
      have hly := hky.length
      have hnd : nodes (.dict es) = es.length + 1 := by simp [nodes]
      have hn0 : es.length ≤ 100000 := by omega
      have tyy : TyX K H1 (.ref ay) (.type "dict") := ty_dt hy
      have tyx : TyX K H1 (.ref ax) (.type "dict") := ty_dt hx
      let G0 : ∀ od : Obj, Hp := fun od a => if a = ay then some (.frz od (.dK ky)) else Option.none
      have hG0 : ∀ (od : Obj) (H2 : Hp), Ex (G0 od) (upd H2 ay (.frz od (.dK ky))) := fun od H2 a o h => by
        by_cases ha : a = ay
        · have h : (if a = ay then some (HO.frz od (.dK ky)) else Option.none) = some o := h
          rw [if_pos ha] at h
          rw [ha, upd_same]; exact h
        · have h : (if a = ay then some (HO.frz od (.dK ky)) else Option.none) = some o := h
          rw [if_neg ha] at h; cases h
      have hG0y : ∀ od : Obj, G0 od ay = some (.frz od (.dK ky)) := fun od => if_pos rfl
      have hG0n : ∀ (od : Obj) (a : Addr), a ≠ ay → G0 od a = Option.none := fun od a h => if_neg h
      have rdx : ∀ (od : Obj) (H2 H3 : Hp), H2 ax = some (.dK kx) → H2 ay = some (.dK ky) → (∀ a o, upd H2 ay (.frz od (.dK ky)) a = some o → H3 a = some o) → Rd H3 ax (.dK kx) := fun od H2 H3 h1 h2 h => by
        by_cases ha : ax = ay
        · rw [ha, h2] at h1
          have e := Option.some.inj h1
          injection e with e
          exact .inr ⟨od, by rw [ha, ← e]; exact h _ _ upd_same⟩
        · exact .inl (h _ _ (by rw [upd_ne ha]; exact h1))
      refine ⟨_, rfl, (.ref ay), _, _, _, _, rfl, .ty "tuple", tyy, kit_ty (r := false) (by decide +kernel), _, rfl, _, rfl, (.ref ay), _, _, _, _, rfl, .ty "list", tyy, kit_ty (r := false) (by decide +kernel), _, rfl, _, rfl, (.ref ay), _, _, _, _, rfl, .ty "dict", tyy, kit_ty (r := true) (by decide +kernel), _, rfl, ?_⟩
      refine ⟨fun σ' H' => σ' = [some x0, some y0, some (.ref p), some (.int (0 + (i : Int))), some (.ref ax), some (.ref ay), none, none] ∧ Ex H1 H', ?_, ?_⟩
      · refine ⟨_, rfl, (.ref ax), _, _, _, _, rfl, .ty "dict", tyx, kit_ty (r := true) (by decide +kernel), _, rfl, _, rfl, ax, kx, rfl, sx, _, rfl, ay, ky, rfl, sy, rfl, false, ?_, ?_⟩
        · rw [hlx, hly]; exact ne_self
        refine ⟨ay, _, sy, True.intro, fun od => ?_⟩
        refine ⟨_, rfl, ay, od, rfl, .inl ⟨ky, upd_same, fun D hD => ?_⟩⟩
        refine lcW (M := NoM) walk_keys (hG0 od H1) (fun H' e => e _ _ (hG0y od)) (by omega) (fun j y G => True) (fun _ _ _ _ e h => h) (fun _ => false) (fun j => [some x0, some y0, some (.ref p), some (.int (0 + (i : Int))), some (.ref ax), some (.ref ay), none, some (kV (ky.getD j (Sum.inl 0, .non)).1)])
          (fun j y G' H' H'' hj a' yy Q q => turn_key (σ0 := [some x0, some y0, some (.ref p), some (.int (0 + (i : Int))), some (.ref ax), some (.ref ay), none, none]) (j := 7) a' yy (v := (ky.getD j (Sum.inl 0, .non)).2) (by rw [List.getD_eq_getElem?_getD, List.getElem?_eq_getElem hj]; rfl) q) (fun _ _ => rfl) (fun j G' H' hj a' Q q => ?_) (fun j G' H' hj hf a' Q q => by cases hf) (fun _ _ h => h) hD (fun zs G' H' a' gD hl' hsel => ?_)
        · have hkj : ky[j]? = some (ky.getD j (Sum.inl 0, .non)) := by rw [List.getD_eq_getElem?_getD, List.getElem?_eq_getElem hj]; rfl
          obtain ⟨z, vx, vy, d, e1, e3, e4, f1, f2⟩ := dkv_both hkx hky (k := (ky.getD j (Sum.inl 0, .non)).1) (v := (ky.getD j (Sum.inl 0, .non)).2) hkj
          have g := dget_kr (k := (ky.getD j (Sum.inl 0, .non)).1) (rdx od H1 H' sx sy fun a o h => a'.hh a o (fun h => h) h)
          rw [e3] at g
          have q := q G' H' (Stp.refl a'.gh)
          refine ⟨_, rfl, _, rfl, ax, _, rfl, g, _, rfl, ?_⟩
          exact q
        · have hz : zs = [] := by
            have hsel : Paired (fun i y => True) ((List.range ky.length).filter fun _ => false) zs := hsel
            rw [List.filter_eq_nil_iff.mpr (fun _ _ => by simp)] at hsel
            cases hsel; rfl
          subst hz
          have hfr : H' ay = some (.frz od (.dK ky)) := a'.hh _ _ (fun h => h) upd_same
          refine ⟨hfr, D, _, rfl, .inl (SqL.of (by rw [upd_ne (fun z => by rw [z, hfr] at hl'; cases hl')]; exact hl')), _, 0, rfl, rfl, false, rfl, rfl, fun a o h => ?_⟩
          by_cases ha : a = ay
          · rw [ha, upd_same, ← sy, ← ha]; exact h
          · rw [upd_ne ha]; exact a'.hh _ _ (fun h => h) (by rw [upd_ne ha]; exact h)
      · rintro σ' H2 ⟨rfl, e2⟩
        have sx2 := e2 _ _ sx
        have sy2 := e2 _ _ sy
        have hp2 := e2 _ _ hp1
        refine ⟨_, rfl, .inl ⟨rfl, _, SqL.of hp2⟩, ay, _, sy2, True.intro, fun od => ?_⟩
        refine ⟨_, rfl, ay, od, rfl, .inl ⟨ky, upd_same, fun D hD => ?_⟩⟩
        refine lcW (M := NoM) walk_keys (hG0 od H2) (fun H' e => e _ _ (hG0y od)) (by omega) (fun j y G => ∃ r x y' d, y = .ref r ∧ G r = some (.tup [x, y']) ∧ FV x d ∧ FV y' d) (fun _ _ _ _ e ⟨r, x, y', d, h1, h2, h3⟩ => ⟨r, x, y', d, h1, e _ _ h2, h3⟩) (fun _ => true) (fun j => [some x0, some y0, some (.ref p), some (.int (0 + (i : Int))), some (.ref ax), some (.ref ay), none, some (kV (ky.getD j (Sum.inl 0, .non)).1)])
          (fun j y G' H' H'' hj a' yy Q q => turn_key (σ0 := [some x0, some y0, some (.ref p), some (.int (0 + (i : Int))), some (.ref ax), some (.ref ay), none, none]) (j := 7) a' yy (v := (ky.getD j (Sum.inl 0, .non)).2) (by rw [List.getD_eq_getElem?_getD, List.getElem?_eq_getElem hj]; rfl) q) (fun _ _ => rfl) (fun j G' H' hj a' Q q => yes_t a'.gh q) (fun j G' H' hj hf a' Q q => ?_) (fun _ _ h => h) hD (fun zs G' H' a' gD hl' hsel => ?_)
        · have hkj : ky[j]? = some (ky.getD j (Sum.inl 0, .non)) := by rw [List.getD_eq_getElem?_getD, List.getElem?_eq_getElem hj]; rfl
          obtain ⟨z, vx, vy, d, e1, e3, e4, f1, f2⟩ := dkv_both hkx hky (k := (ky.getD j (Sum.inl 0, .non)).1) (v := (ky.getD j (Sum.inl 0, .non)).2) hkj
          have g := dget_kr (k := (ky.getD j (Sum.inl 0, .non)).1) (rdx od H2 H' sx2 sy2 fun a o h => a'.hh a o (fun h => h) h)
          have g' := dget_kr (k := (ky.getD j (Sum.inl 0, .non)).1) (kvs := ky) (show Rd H' ay (.dK ky) from .inr ⟨od, a'.hh _ _ (fun h => h) upd_same⟩)
          rw [e3] at g
          rw [e4] at g'
          refine ⟨_, rfl, _, rfl, ax, _, rfl, g, _, rfl, _, rfl, ay, _, rfl, g', hz 2 (by omega), fun t ht => ?_⟩
          exact q _ _ _ (Stp.new a'.gh ht (o := .tup [vx, vy])) ⟨t, _, _, d, rfl, upd_same, f1, f2⟩
        · have hfr : H' ay = some (.frz od (.dK ky)) := a'.hh _ _ (fun h => h) upd_same
          have hDy : D ≠ ay := fun z => by rw [z, hfr] at hl'; cases hl'
          have keep : ∀ a o, a ≠ ay → H2 a = some o → H' a = some o := fun a o n h => a'.hh a o (fun h => h) (by rw [upd_ne n]; exact h)
          obtain ⟨G2, hG2⟩ : ∃ G2 : Hp, G2 = fun a => if (G a).isSome = true then G a else if a = ay then Option.none else G' a := ⟨_, rfl⟩
          have G2s : ∀ a o, G a = some o → G2 a = some o := fun a o h => by
            rw [hG2]; show (if (G a).isSome = true then G a else _) = some o; rw [if_pos (by rw [h]; rfl)]; exact h
          have G2n : ∀ a, G a = Option.none → a ≠ ay → G2 a = G' a := fun a h n => by
            rw [hG2]; show (if (G a).isSome = true then G a else if a = ay then Option.none else G' a) = G' a
            rw [if_neg (by rw [h]; exact fun z => by cases z), if_neg n]
          have G2y : G ay = Option.none → G2 ay = Option.none := fun h => by
            rw [hG2]; show (if (G ay).isSome = true then G ay else if ay = ay then Option.none else G' ay) = Option.none
            rw [if_neg (by rw [h]; exact fun z => by cases z), if_pos rfl]
          have eG2 : Ex G H2 := eH1.trans e2
          have st : Stp NoM G H2 G2 (upd H' ay (.dK ky)) := by
            refine ⟨fun a o _ h => ?_, fun a h => ?_, fun a o h => G2s a o h, fun a o h => ?_, fun a h1 h2 => ?_⟩
            · by_cases n : a = ay
              · rw [n, upd_same, ← sy2, ← n]; exact h
              · rw [upd_ne n]; exact keep a o n h
            · by_cases n : a = ay
              · rw [n, upd_same] at h; cases h
              · rw [upd_ne n] at h
                have := a'.dm a h
                rw [upd_ne n] at this; exact this
            · cases hg : G a with
              | some o' =>
                rw [G2s a o' hg] at h
                obtain rfl := Option.some.inj h
                have h2 := eG2 a o' hg
                by_cases n : a = ay
                · rw [n, upd_same, ← sy2, ← n]; exact h2
                · rw [upd_ne n]; exact keep a o' n h2
              | none =>
                by_cases n : a = ay
                · rw [n] at hg h
                  rw [G2y hg] at h; cases h
                · rw [G2n a hg n] at h
                  rw [upd_ne n]; exact a'.gh a o h
            · by_cases n : a = ay
              · rw [n] at h2 ⊢; exact G2y h2
              · rw [G2n a h2 n]
                exact a'.fr a (by rw [upd_ne n]; exact h1) (hG0n od a n)
          have gen : ∀ {as : List Nat} {bs : List V}, Paired (fun (j : Nat) y => ∃ r x y' d, y = .ref r ∧ G' r = some (.tup [x, y']) ∧ FV x d ∧ FV y' d) as bs → ∃ ds, Paired (Pr2 G2) bs ds ∧ nodesL ds = bs.length ∧ ds.length = bs.length ∧ bs.length = as.length := by
            intro as bs pq
            induction pq with
            | nil => exact ⟨[], .nil, by simp [nodesL], rfl, rfl⟩
            | cons r t ih =>
              obtain ⟨ds, h1, h2, h3, h4⟩ := ih
              obtain ⟨r, x, y', d, rfl, hr, f1, f2⟩ := r
              have nry : r ≠ ay := fun z => by rw [z, a'.gg _ _ (hG0y od)] at hr; cases hr
              have hgr : G r = Option.none := by
                cases hg : G r with
                | none => rfl
                | some o =>
                  have := a'.fr r (by rw [upd_ne nry, eG2 r o hg]; exact fun z => by cases z) (hG0n od r nry)
                  rw [this] at hr; cases hr
              refine ⟨d :: ds, .cons ⟨r, x, y', rfl, by rw [G2n r hgr nry]; exact hr, fv_dt f1, fv_dt f2⟩ h1, ?_, by simp [h3], by simp [h4]⟩
              rw [nodesL, fv_one f1, h2, List.length_cons]; omega
          obtain ⟨ds, h1, h2, h3, h4⟩ := gen hsel
          rw [List.filter_eq_self.mpr fun _ _ => rfl, List.length_range] at h4
          refine ⟨hfr, kids ds (by omega) zs D G2 _ ((Stp.of eH1 e2).trans st) (by rw [upd_ne hDy]; exact hl') h1 h3.symm⟩
    | none =>
      cases hx1; cases hy1
      exact ⟨_, rfl, .non, _, _, _, _, rfl, .ty "tuple", .base .non, kit_ty (r := false) (by decide +kernel), _, rfl, _, rfl, .non, _, _, _, _, rfl, .ty "list", .base .non, kit_ty (r := false) (by decide +kernel), _, rfl, _, rfl, .non, _, _, _, _, rfl, .ty "dict", .base .non, kit_ty (r := false) (by decide +kernel), _, rfl, _, rfl, .non, _, _, _, _, rfl, .ty "bool", .base .non, kit_ty (r := false) (by decide +kernel), _, rfl, _, rfl, .non, _, _, _, _, rfl, .ty "str", .base .non, kit_ty (r := false) (by decide +kernel), _, rfl, _, rfl, .non, _, _, _, _, rfl, .ty "int", .base .non, kit_ty (r := false) (by decide +kernel), _, rfl, _, rfl, rfl, _, rfl, done (by simp [nodes])⟩
    | bool k =>
      cases hx1; cases hy1
      exact ⟨_, rfl, (.bl k), _, _, _, _, rfl, .ty "tuple", .base (.bl k), kit_ty (r := false) (by decide +kernel), _, rfl, _, rfl, (.bl k), _, _, _, _, rfl, .ty "list", .base (.bl k), kit_ty (r := false) (by decide +kernel), _, rfl, _, rfl, (.bl k), _, _, _, _, rfl, .ty "dict", .base (.bl k), kit_ty (r := false) (by decide +kernel), _, rfl, _, rfl, (.bl k), _, _, _, _, rfl, .ty "bool", .base (.bl k), kit_ty (r := true) (by decide +kernel), _, rfl, _, rfl, (.bl k), _, _, _, _, rfl, .ty "bool", .base (.bl k), kit_ty (r := true) (by decide +kernel), _, rfl, (.bl k), _, _, _, _, rfl, .ty "bool", .base (.bl k), kit_ty (r := true) (by decide +kernel), rfl, false, ne_self, _, rfl, (.bl k), _, _, _, _, rfl, .ty "str", .base (.bl k), kit_ty (r := false) (by decide +kernel), _, rfl, (.bl k), _, _, _, _, rfl, .ty "str", .base (.bl k), kit_ty (r := false) (by decide +kernel), rfl, false, ne_self, _, rfl, _, rfl, rfl, false, ne_self, done (by simp [nodes])⟩
    | str z =>
      cases hx1; cases hy1
      exact ⟨_, rfl, (.str z), _, _, _, _, rfl, .ty "tuple", .base (.str z), kit_ty (r := false) (by decide +kernel), _, rfl, _, rfl, (.str z), _, _, _, _, rfl, .ty "list", .base (.str z), kit_ty (r := false) (by decide +kernel), _, rfl, _, rfl, (.str z), _, _, _, _, rfl, .ty "dict", .base (.str z), kit_ty (r := false) (by decide +kernel), _, rfl, _, rfl, (.str z), _, _, _, _, rfl, .ty "bool", .base (.str z), kit_ty (r := false) (by decide +kernel), _, rfl, _, rfl, (.str z), _, _, _, _, rfl, .ty "str", .base (.str z), kit_ty (r := true) (by decide +kernel), _, rfl, _, rfl, (.str z), _, _, _, _, rfl, .ty "bool", .base (.str z), kit_ty (r := false) (by decide +kernel), _, rfl, (.str z), _, _, _, _, rfl, .ty "bool", .base (.str z), kit_ty (r := false) (by decide +kernel), rfl, false, ne_self, _, rfl, (.str z), _, _, _, _, rfl, .ty "str", .base (.str z), kit_ty (r := true) (by decide +kernel), _, rfl, (.str z), _, _, _, _, rfl, .ty "str", .base (.str z), kit_ty (r := true) (by decide +kernel), rfl, false, ne_self, _, rfl, _, rfl, rfl, false, ne_self, done (by simp [nodes])⟩
    | int z =>
      cases hx1; cases hy1
      exact ⟨_, rfl, (.int z), _, _, _, _, rfl, .ty "tuple", .base (.int z), kit_ty (r := false) (by decide +kernel), _, rfl, _, rfl, (.int z), _, _, _, _, rfl, .ty "list", .base (.int z), kit_ty (r := false) (by decide +kernel), _, rfl, _, rfl, (.int z), _, _, _, _, rfl, .ty "dict", .base (.int z), kit_ty (r := false) (by decide +kernel), _, rfl, _, rfl, (.int z), _, _, _, _, rfl, .ty "bool", .base (.int z), kit_ty (r := false) (by decide +kernel), _, rfl, _, rfl, (.int z), _, _, _, _, rfl, .ty "str", .base (.int z), kit_ty (r := false) (by decide +kernel), _, rfl, _, rfl, (.int z), _, _, _, _, rfl, .ty "int", .base (.int z), kit_ty (r := true) (by decide +kernel), _, rfl, _, rfl, (.int z), _, _, _, _, rfl, .ty "int", .base (.int z), kit_ty (r := true) (by decide +kernel), _, rfl, _, rfl, (.int z), _, _, _, _, rfl, .ty "bool", .base (.int z), kit_ty (r := false) (by decide +kernel), _, rfl, _, rfl, _, rfl, rfl, false, ne_self, done (by simp [nodes])⟩
    | list ds =>
      obtain ⟨ax, xs, rfl, sx1, hxa⟩ := dt_list hx1
      obtain ⟨ay, ys, rfl, sy1, hya⟩ := dt_list hy1
      have sx := SqL.of (K := K) (eH1 _ _ sx1)
      have sy := SqL.of (K := K) (eH1 _ _ sy1)
      have hxl := dta_len hxa
      have hyl := dta_len hya
      have hnd : nodes (.list ds) = nodesL ds + 1 := by simp [nodes]
      have hdl := nodesL_len ds
      refine ⟨_, rfl, (.ref ay), _, _, _, _, rfl, .ty "tuple", ty_l sy, kit_ty (r := false) (by decide +kernel), _, rfl, _, rfl, (.ref ay), _, _, _, _, rfl, .ty "list", ty_l sy, kit_ty (r := true) (by decide +kernel), _, rfl, ?_⟩
      refine ⟨fun σ' H' => σ' = [some x0, some y0, some (.ref p), some (.int (0 + (i : Int))), some (.ref ax), some (.ref ay), none, none] ∧ H1 = H', ?_, ?_⟩
      · refine ⟨_, rfl, (.ref ay), _, _, _, _, rfl, .ty "tuple", ty_l sy, kit_ty (r := false) (by decide +kernel), _, rfl, (.ref ax), _, _, _, _, rfl, .ty "tuple", ty_l sx, kit_ty (r := false) (by decide +kernel), rfl, false, ne_self, _, rfl, (.ref ay), _, _, _, _, rfl, .ty "list", ty_l sy, kit_ty (r := true) (by decide +kernel), _, rfl, (.ref ax), _, _, _, _, rfl, .ty "list", ty_l sx, kit_ty (r := true) (by decide +kernel), rfl, false, ne_self, _, rfl, ax, xs, rfl, .inl sx, _, rfl, ay, ys, rfl, .inl sy, rfl, false, ?_, rfl, rfl⟩
        rw [hxl, hyl]; exact ne_self
      · rintro σ' H' ⟨rfl, rfl⟩
        refine ⟨_, rfl, .inl ⟨rfl, _, SqL.of hp1⟩, _, rfl, ay, ys, rfl, .inl sy, _, rfl, by omega, by omega, fun D hD => ?_⟩
        rw [Int.toNat_natCast, hyl]
        refine lcW (M := NoM) walk_range eH1 (fun _ _ => trivial) (by omega) (fun j y G => Pr2 G y (ds.getD j .none)) (fun _ _ _ _ e h => pr2_mono e h) (fun _ => true) (fun j => [some x0, some y0, some (.ref p), some (.int (0 + (i : Int))), some (.ref ax), some (.ref ay), some (.int (j : Nat)), none])
          (fun j y G' H' H'' hj a' yy Q q => turn_range0 (σ0 := [some x0, some y0, some (.ref p), some (.int (0 + (i : Int))), some (.ref ax), some (.ref ay), none, none]) (j := 6) a' yy q) (fun _ _ => rfl) (fun j G' H' hj a' Q q => yes_t a'.gh q) (fun j G' H' hj _ a' Q q => ?_) (fun _ _ h => h) hD (fun zs G' H' a' gD hl' hsel => ?_)
        · have e2 := a'.gg.trans a'.gh
          have hjx : xs[j]? = some (xs.getD j .non) := by rw [List.getD_eq_getElem?_getD, List.getElem?_eq_getElem (by omega)]; rfl
          have hjy : ys[j]? = some (ys.getD j .non) := by rw [List.getD_eq_getElem?_getD, List.getElem?_eq_getElem (by omega)]; rfl
          obtain ⟨d1, f1, g1⟩ := dta_get hxa hjx
          obtain ⟨d2, f2, g2⟩ := dta_get hya hjy
          rw [f1] at f2
          obtain rfl := Option.some.inj f2
          refine ⟨_, rfl, _, rfl, .inl ⟨ax, xs, _, _, rfl, rfl, SqL.of ((a'.gg.trans a'.gh) _ _ sx1), at_nat hjx, _, rfl, _, rfl, .inl ⟨ay, ys, _, _, rfl, rfl, SqL.of ((a'.gg.trans a'.gh) _ _ sy1), at_nat hjy, hz 2 (by omega), fun t ht => ?_⟩⟩⟩
          have gt : G' t = none := Evl.fresh_back a'.gh ht
          refine q _ _ _ (Stp.new a'.gh ht (o := .tup [xs.getD j .non, ys.getD j .non])) ⟨t, _, _, rfl, upd_same, ?_, ?_⟩
          · rw [getD_of f1]; exact ex_dt (a'.gg.trans (Evl.Ex.new gt)) _ _ g1
          · rw [getD_of f1]; exact ex_dt (a'.gg.trans (Evl.Ex.new gt)) _ _ g2
        · exact kids ds hnd zs D G' H' a' hl' (sel_pr hsel) (by have := sel_all hsel; exact this.1)
    | tuple ds =>
      obtain ⟨ax, xs, rfl, sx1, hxa⟩ := dt_tup hx1
      obtain ⟨ay, ys, rfl, sy1, hya⟩ := dt_tup hy1
      have sx := SqT.of (K := K) (eH1 _ _ sx1)
      have sy := SqT.of (K := K) (eH1 _ _ sy1)
      have hxl := dta_len hxa
      have hyl := dta_len hya
      have hnd : nodes (.tuple ds) = nodesL ds + 1 := by simp [nodes]
      have hdl := nodesL_len ds
      refine ⟨_, rfl, (.ref ay), _, _, _, _, rfl, .ty "tuple", ty_t sy, kit_ty (r := true) (by decide +kernel), _, rfl, ?_⟩
      refine ⟨fun σ' H' => σ' = [some x0, some y0, some (.ref p), some (.int (0 + (i : Int))), some (.ref ax), some (.ref ay), none, none] ∧ H1 = H', ?_, ?_⟩
      · refine ⟨_, rfl, (.ref ay), _, _, _, _, rfl, .ty "tuple", ty_t sy, kit_ty (r := true) (by decide +kernel), _, rfl, (.ref ax), _, _, _, _, rfl, .ty "tuple", ty_t sx, kit_ty (r := true) (by decide +kernel), rfl, false, ne_self, _, rfl, (.ref ay), _, _, _, _, rfl, .ty "list", ty_t sy, kit_ty (r := false) (by decide +kernel), _, rfl, (.ref ax), _, _, _, _, rfl, .ty "list", ty_t sx, kit_ty (r := false) (by decide +kernel), rfl, false, ne_self, _, rfl, ax, xs, rfl, .inr sx, _, rfl, ay, ys, rfl, .inr sy, rfl, false, ?_, rfl, rfl⟩
        rw [hxl, hyl]; exact ne_self
      · rintro σ' H' ⟨rfl, rfl⟩
        refine ⟨_, rfl, .inl ⟨rfl, _, SqL.of hp1⟩, _, rfl, ay, ys, rfl, .inr sy, _, rfl, by omega, by omega, fun D hD => ?_⟩
        rw [Int.toNat_natCast, hyl]
        refine lcW (M := NoM) walk_range eH1 (fun _ _ => trivial) (by omega) (fun j y G => Pr2 G y (ds.getD j .none)) (fun _ _ _ _ e h => pr2_mono e h) (fun _ => true) (fun j => [some x0, some y0, some (.ref p), some (.int (0 + (i : Int))), some (.ref ax), some (.ref ay), some (.int (j : Nat)), none])
          (fun j y G' H' H'' hj a' yy Q q => turn_range0 (σ0 := [some x0, some y0, some (.ref p), some (.int (0 + (i : Int))), some (.ref ax), some (.ref ay), none, none]) (j := 6) a' yy q) (fun _ _ => rfl) (fun j G' H' hj a' Q q => yes_t a'.gh q) (fun j G' H' hj _ a' Q q => ?_) (fun _ _ h => h) hD (fun zs G' H' a' gD hl' hsel => ?_)
        · have e2 := a'.gg.trans a'.gh
          have hjx : xs[j]? = some (xs.getD j .non) := by rw [List.getD_eq_getElem?_getD, List.getElem?_eq_getElem (by omega)]; rfl
          have hjy : ys[j]? = some (ys.getD j .non) := by rw [List.getD_eq_getElem?_getD, List.getElem?_eq_getElem (by omega)]; rfl
          obtain ⟨d1, f1, g1⟩ := dta_get hxa hjx
          obtain ⟨d2, f2, g2⟩ := dta_get hya hjy
          rw [f1] at f2
          obtain rfl := Option.some.inj f2
          refine ⟨_, rfl, _, rfl, .inr ⟨ax, xs, _, _, rfl, rfl, SqT.of ((a'.gg.trans a'.gh) _ _ sx1), at_nat hjx, _, rfl, _, rfl, .inr ⟨ay, ys, _, _, rfl, rfl, SqT.of ((a'.gg.trans a'.gh) _ _ sy1), at_nat hjy, hz 2 (by omega), fun t ht => ?_⟩⟩⟩
          have gt : G' t = none := Evl.fresh_back a'.gh ht
          refine q _ _ _ (Stp.new a'.gh ht (o := .tup [xs.getD j .non, ys.getD j .non])) ⟨t, _, _, rfl, upd_same, ?_, ?_⟩
          · rw [getD_of f1]; exact ex_dt (a'.gg.trans (Evl.Ex.new gt)) _ _ g1
          · rw [getD_of f1]; exact ex_dt (a'.gg.trans (Evl.Ex.new gt)) _ _ g2
        · exact kids ds hnd zs D G' H' a' hl' (sel_pr hsel) (by have := sel_all hsel; exact this.1)
  · rintro σ' H' ⟨tv, ov, uv, G, stk, dsk, rfl, eG, eH, gp, hp', pr, hsum⟩
    exfalso
    have : (((10 : Int) ^ (9 : Int).toNat).toNat) = 1000000000 := by decide +kernel
    omega
end
end K43
namespace K43
open PySem PySem.Spec PyProof.Rows L2 Hx Hd M43
open Evl (pss_cut tCut ex_l ex_t)
def Fit : Nat → PyData → Prop
  | 0, d => (∀ ds, d ≠ .list ds ∧ d ≠ .tuple ds) ∧ ∀ es, d ≠ .dict es
  | n + 1, d => (∀ ds, (d = .list ds ∨ d = .tuple ds) → ds.length ≤ 100000 ∧ ∀ e ∈ ds, Fit n e) ∧ ∀ es, d = .dict es → es.length ≤ 100000 ∧ (es.map (·.1)).Nodup
theorem dkv_mem : ∀ {kvs : List (Key × V)} {es : List (PyData × PyData)}, DKV kvs es → ∀ z : Str, (Sum.inr z : Key) ∈ kvs.map (·.1) → PyData.str z ∈ es.map (·.1)
  | [], _, .nil, z, h => by cases h
  | p :: kvs, _, .cons r t, z, h => by
    obtain ⟨y, h1, h2, h3⟩ := r
    rw [List.map_cons, List.mem_cons] at h ⊢
    rcases h with h | h
    · rw [h1] at h
      rw [h2, Sum.inr.inj h]
      exact .inl rfl
    · exact .inr (dkv_mem t z h)
theorem dkv_nodup : ∀ {kvs : List (Key × V)} {es : List (PyData × PyData)}, DKV kvs es → (es.map (·.1)).Nodup → (kvs.map (·.1)).Nodup
  | [], _, .nil, _ => List.nodup_nil
  | p :: kvs, _, .cons r t, h => by
    obtain ⟨y, h1, h2, h3⟩ := r
    rw [List.map_cons, List.nodup_cons] at h ⊢
    refine ⟨fun hm => ?_, dkv_nodup t h.2⟩
    rw [h1] at hm
    have := dkv_mem t y hm
    rw [h2] at h
    exact h.1 this
theorem val_none {kvs : List (Key × V)} {k : Key} (h : k ∉ kvs.map (·.1)) : valV kvs k = none := by
  induction kvs with
  | nil => rfl
  | cons p l ih =>
    rw [List.map_cons, List.mem_cons, not_or] at h
    rw [valV_neg fun e => h.1 e.symm]
    exact ih h.2
theorem dt_mono {f : Nat → PyData} : ∀ (i : Nat) (v : V) (G G' : Hp), Ex G G' → Dt G v (f i) → Dt G' v (f i) := fun _ _ _ _ e h => ex_dt e _ _ h
theorem sel_dta1 {enc : Nat → PyData} {n : Nat} {ys : List V} {G : Hp} (h : Sel (fun i y G => Dt G y (enc i)) (fun _ => true) n ys G) : DtAll G ys ((List.range n).map enc) := by
  have gen : ∀ {as : List Nat} {bs : List V}, Paired (fun i y => Dt G y (enc i)) as bs → DtAll G bs (as.map enc) := by
    intro as bs p
    induction p with
    | nil => exact .nil
    | cons r t ih => exact .cons r ih
  have z := gen h
  rwa [List.filter_eq_self.mpr fun _ _ => rfl] at z
theorem fit_int (i : Int) : ∀ n, Fit n (.int i)
  | 0 => ⟨fun ds => ⟨(fun h => by cases h), (fun h => by cases h)⟩, (fun es h => by cases h)⟩
  | n + 1 => ⟨(fun ds h => by rcases h with h | h <;> cases h), (fun es h => by cases h)⟩
theorem fit_bool (i : Bool) : ∀ n, Fit n (.bool i)
  | 0 => ⟨fun ds => ⟨(fun h => by cases h), (fun h => by cases h)⟩, (fun es h => by cases h)⟩
  | n + 1 => ⟨(fun ds h => by rcases h with h | h <;> cases h), (fun es h => by cases h)⟩
theorem fit_str (i : Str) : ∀ n, Fit n (.str i)
  | 0 => ⟨fun ds => ⟨(fun h => by cases h), (fun h => by cases h)⟩, (fun es h => by cases h)⟩
  | n + 1 => ⟨(fun ds h => by rcases h with h | h <;> cases h), (fun es h => by cases h)⟩
theorem fit_none : ∀ n, Fit n .none
  | 0 => ⟨fun ds => ⟨(fun h => by cases h), (fun h => by cases h)⟩, (fun es h => by cases h)⟩
  | n + 1 => ⟨(fun ds h => by rcases h with h | h <;> cases h), (fun es h => by cases h)⟩
theorem fit_flat {v : V} {d : PyData} (f : FV v d) (n : Nat) : Fit n d := by
  cases f with
  | int i => exact fit_int i n
  | bl b => exact fit_bool b n
theorem take_at {kvs : List (Key × V)} {i : Nat} {p : Key × V} (h : kvs[i]? = some p) : kvs.take (i + 1) = kvs.take i ++ [p] := by
  rw [List.take_add_one, h]; rfl
theorem nd_at {kvs : List (Key × V)} (hn : (kvs.map (·.1)).Nodup) {i : Nat} {k : Key} {v : V} (h : kvs[i]? = some (k, v)) : valV (kvs.take i) k = none ∧ valV kvs k = some v := by
  have hi : i < kvs.length := (List.getElem?_eq_some_iff.mp h).1
  have hd : kvs = kvs.take i ++ (k, v) :: kvs.drop (i + 1) := by
    have h2 : kvs[i] = (k, v) := (List.getElem?_eq_some_iff.mp h).2
    rw [← h2, ← List.drop_eq_getElem_cons hi, List.take_append_drop]
  have e1 : valV (kvs.take i) k = none := by
    refine val_none fun hm => ?_
    rw [hd, List.map_append, List.nodup_append] at hn
    exact hn.2.2 k hm k (by simp) rfl
  refine ⟨e1, ?_⟩
  have gen : ∀ (l : List (Key × V)), valV l k = none → valV (l ++ (k, v) :: kvs.drop (i + 1)) k = some v := by
    intro l
    induction l with
    | nil => intro _; exact valV_pos rfl
    | cons q l ih =>
      intro hq
      by_cases hk : q.1 = k
      · rw [valV_pos hk] at hq; cases hq
      · rw [valV_neg hk] at hq
        rw [List.cons_append, valV_neg hk]
        exact ih hq
  rw [hd]
  have := gen _ e1
  rwa [← hd] at this ⊢
theorem range_id (ds : List PyData) : (List.range ds.length).map (fun j => ds.getD j PyData.none) = ds := by
  apply List.ext_getElem
  · simp
  · intro i h1 h2
    simp [List.getD_eq_getElem?_getD, h2]
section
variable {P : Program} {w : World} {K : PySem.W.Frag} {mg : Str → Option Value} {base : Heap}
def spCopy (n : Nat) (K : PySem.W.Frag) : Sp := fun vs H Q _ => ∃ x d G, vs = [x] ∧ Ex G H ∧ Dt G x d ∧ Fit n d ∧ ∀ v G2 H2, Stp NoM G H G2 H2 → Dt G2 v d → Q v H2
abbrev N_law_copy : List Str := ["value", "found", "key", "item"]
theorem sc_law_copy : FnScope N_law_copy ["value"] (defScope (top 48)) := ⟨rfl, rfl, rfl, by decide +kernel, rfl, by decide +kernel, by decide +kernel⟩
theorem ok_copy0 (T : Txt K mg) : Cal P w K mg base CX0 1 "_law_copy" ["value"] (spCopy 0 K) := by
  refine mkCal T.g__law_copy T.d__law_copy sc_law_copy (fun _ _ _ _ _ _ us hl => match us, hl with | [_], _ => rfl) (fun vs H Q E h => ?_) fun cdv A outer s H vs Q E hr h => ?_
  · obtain ⟨x, _, d, rfl, _⟩ := h; rfl
  obtain ⟨x, d, G, rfl, e, hd, hf, q⟩ := h
  refine ⟨_, (pss_cons (ps_if (pt_val (pe_callB (isiR (K := K)) (by rfl) T.n_isinstance (by decide +kernel) (pa_cons (pv 0) (pa_cons (pe_bltn (v := .ty "dict") rfl T.n_dict (by decide +kernel) rfl) pa_nil)))) pss_no pss_nil)
      (pss_cons (ps_if (pt_val (pe_callB (isiR (K := K)) (by rfl) T.n_isinstance (by decide +kernel) (pa_cons (pv 0) (pa_cons (pe_bltn (v := .ty "list") rfl T.n_list (by decide +kernel) rfl) pa_nil)))) pss_no pss_nil)
      (pss_cons (ps_if (pt_val (pe_callB (isiR (K := K)) (by rfl) T.n_isinstance (by decide +kernel) (pa_cons (pv 0) (pa_cons (pe_bltn (v := .ty "tuple") rfl T.n_tuple (by decide +kernel) rfl) pa_nil)))) pss_no pss_nil)
      (pss_one (ps_ret (pv 0)))))), ?_⟩
  have ht := ty_dt (K := K) (ex_dt e _ _ hd)
  have fin := q x G H (Stp.refl e) hd
  refine ⟨_, rfl, x, _, _, _, _, rfl, .ty "dict", ht, kit_ty (kit_dict d), _, rfl, ?_⟩
  cases h1 : isT "dict" d with
  | true =>
    obtain ⟨es, rfl⟩ := isT_dict h1
    exact absurd rfl (hf.2 es)
  | false =>
    refine ⟨_, rfl, x, _, _, _, _, rfl, .ty "list", ht, kit_ty (kit_list d), _, rfl, ?_⟩
    cases h2 : isT "list" d with
    | true =>
      obtain ⟨ds, rfl⟩ := isT_list h2
      exact absurd rfl (hf.1 ds).1
    | false =>
      refine ⟨_, rfl, x, _, _, _, _, rfl, .ty "tuple", ht, kit_ty (kit_tup d), _, rfl, ?_⟩
      cases h3 : isT "tuple" d with
      | true =>
        obtain ⟨ds, rfl⟩ := isT_tup h3
        exact absurd rfl (hf.1 ds).2
      | false => exact ⟨_, rfl, fin⟩
theorem ok_copyS (T : Txt K mg) {n : Nat} (C__law_copy : Cal P w K mg base CX0 (n + 1) "_law_copy" ["value"] (spCopy n K)) : Cal P w K mg base CX0 (n + 2) "_law_copy" ["value"] (spCopy (n + 1) K) := by
  refine mkCal T.g__law_copy T.d__law_copy sc_law_copy (fun _ _ _ _ _ _ us hl => match us, hl with | [_], _ => rfl) (fun vs H Q E h => ?_) fun cdv A outer s H vs Q E hr h => ?_
  · obtain ⟨x, _, d, rfl, _⟩ := h; rfl
  obtain ⟨x, d, G, rfl, e, hd, hf, q⟩ := h
  refine ⟨_, (pss_cons (ps_if (pt_val (pe_callB (isiR (K := K)) (by rfl) T.n_isinstance (by decide +kernel) (pa_cons (pv 0) (pa_cons (pe_bltn (v := .ty "dict") rfl T.n_dict (by decide +kernel) rfl) pa_nil)))) (pss_cons (ps_set (i := 1) sc_law_copy.nd rfl (Or.inl rfl) pe_dnewK)
      (pss_cons (ps_lock (ps_for PassesOwn.never rfl (pi_keys (pv 0)) (pg_name (i := 2) sc_law_copy.nd rfl (Or.inl rfl)) (pss_one (ps_dput (hu_of hr) (pv 1) (pv 2) (pe_cal (E := E0) C__law_copy (hr.mono (Nat.le_refl _)) pass0 (pa_cons (pe_dget (hu_of hr) (pv 0) (pv 2) (fun _ _ => rfl)) pa_nil)) rfl))))
      (pss_one (ps_ret (pv 1))))) pss_nil)
      (pss_cons (ps_if (pt_val (pe_callB (isiR (K := K)) (by rfl) T.n_isinstance (by decide +kernel) (pa_cons (pv 0) (pa_cons (pe_bltn (v := .ty "list") rfl T.n_list (by decide +kernel) rfl) pa_nil)))) (pss_one (ps_ret (pe_lc (own := [("item", 3)]) (g := gName 3) rfl sc_law_copy.nd (piL (K := K) (pv 0)) (blkOk_by (N := N_law_copy) (sc := defScope (top 48)) (by decide +kernel)) (fun _ _ _ _ _ => (pg_name (i := 3) sc_law_copy.nd rfl (Or.inl rfl))) (fun _ _ _ _ _ => pts_nil) (fun _ _ _ _ _ => (pe_cal (E := E0) C__law_copy (hr.mono (Nat.le_refl _)) pass0 (pa_cons (pv 3) pa_nil)))))) pss_nil)
      (pss_cons (ps_if (pt_val (pe_callB (isiR (K := K)) (by rfl) T.n_isinstance (by decide +kernel) (pa_cons (pv 0) (pa_cons (pe_bltn (v := .ty "tuple") rfl T.n_tuple (by decide +kernel) rfl) pa_nil)))) (pss_one (ps_ret (pe_callTy (tupOf (K := K)) (by rfl) T.n_tuple (by decide +kernel) (pa_cons (pe_lc (own := [("item", 3)]) (g := gName 3) rfl sc_law_copy.nd (piT (K := K) (pv 0)) (blkOk_by (N := N_law_copy) (sc := defScope (top 48)) (by decide +kernel)) (fun _ _ _ _ _ => (pg_name (i := 3) sc_law_copy.nd rfl (Or.inl rfl))) (fun _ _ _ _ _ => pts_nil) (fun _ _ _ _ _ => (pe_cal (E := E0) C__law_copy (hr.mono (Nat.le_refl _)) pass0 (pa_cons (pv 3) pa_nil)))) pa_nil)))) pss_nil)
      (pss_one (ps_ret (pv 0)))))), ?_⟩
  have ht := ty_dt (K := K) (ex_dt e _ _ hd)
  have fin := q x G H (Stp.refl e) hd
  refine ⟨_, rfl, x, _, _, _, _, rfl, .ty "dict", ht, kit_ty (kit_dict d), _, rfl, ?_⟩
  cases h1 : isT "dict" d with
  | true =>
    obtain ⟨es, rfl⟩ := isT_dict h1
    obtain ⟨hn0, hnd⟩ := hf.2 es rfl
    obtain ⟨ay, ky, rfl, sy0, hky⟩ := dt_dict hd
    have sy := e _ _ sy0
    have hly := hky.length
    have hkn := dkv_nodup hky hnd
    intro D hD
    have nyD : ay ≠ D := ne_of_none sy hD
    refine ⟨ay, .dK ky, (by rw [upd_ne nyD]; exact sy), True.intro, fun od => ?_⟩
    refine ⟨_, rfl, ay, od, rfl, .inl ⟨ky, upd_same, ?_⟩⟩
    refine for_it walk_keys (fun i σ' H' => ∃ kv iv, σ' = [some (.ref ay), some (.ref D), kv, iv] ∧ H' ay = some (.frz od (.dK ky)) ∧ H' D = some (.dK (ky.take i)) ∧ (∀ a o, a ≠ ay → H a = some o → H' a = some o) ∧ (∀ a, H' a = none → H a = none))
      ⟨none, none, rfl, upd_same, (by rw [upd_ne nyD.symm]; exact upd_same), fun a o n h => (by rw [upd_ne n, upd_ne (ne_of_none h hD)]; exact h), fun a h => (by
        by_cases n : a = ay
        · rw [n, upd_same] at h; cases h
        · rw [upd_ne n] at h
          by_cases n2 : a = D
          · rw [n2]; exact hD
          · rwa [upd_ne n2] at h)⟩ (fun i σ' H' hi ⟨_, _, _, h, _⟩ => h) ?_ ?_
    · rintro i x σ' H' H'' hi ⟨kv, iv, rfl, h1, h2, h3, h4⟩ ⟨rfl, k, v, hk, rfl⟩
      obtain ⟨z, vx, vy, d, rfl, e3, e4, f1, f2⟩ := dkv_both hky hky hk
      obtain ⟨hn1, hn2⟩ := nd_at hkn hk
      have hv : v = vy := by rw [e4] at hn2; exact (Option.some.inj hn2).symm
      have g := dget_kr (k := (Sum.inr z : Key)) (show Rd H'' ay (.dK ky) from .inr ⟨od, h1⟩)
      rw [e4] at g
      refine ⟨_, rfl, _, rfl, ay, _, rfl, g, vy, d, fun _ => none, rfl, fun _ _ h => (by cases h), fv_dt f2, fit_flat f2 n, fun v' G2 H2 st hd2 => ?_⟩
      have hv' : v' = vy := by cases f2 <;> cases hd2 <;> rfl
      subst hv'
      have hD2 := st.hh D _ (fun h => h) h2
      refine ⟨_, rfl, _, rfl, D, _, rfl, DPut.k (k := (Sum.inr z : Key)) hD2 (sz _ (by rw [List.length_take]; omega)), ?_⟩
      refine ⟨_, _, rfl, (by rw [upd_ne nyD]; exact st.hh ay _ (fun h => h) h1), (by rw [upd_same, putK_new _ hn1, take_at hk, hv]), fun a o n h => ?_, fun a h => ?_⟩
      · rw [upd_ne (ne_of_none h hD)]
        exact st.hh a _ (fun h => h) (h3 a o n h)
      · by_cases n2 : a = D
        · rw [n2]; exact hD
        · rw [upd_ne n2] at h
          exact h4 a (st.dm a h)
    · rintro σ' H' ⟨kv, iv, rfl, h1, h2, h3, h4⟩
      rw [List.take_length] at h2
      have gD : G D = none := Evl.fresh_back e hD
      refine ⟨h1, _, rfl, q (.ref D) (upd G D (.dK ky)) _ ?_ (.dct upd_same hky)⟩
      refine ⟨fun a o _ h => ?_, fun a h => ?_, Evl.Ex.new gD, fun a o h => ?_, fun a h1 h2 => ?_⟩
      · by_cases n : a = ay
        · rw [n, upd_same, ← sy, ← n]; exact h
        · rw [upd_ne n]; exact h3 a o n h
      · by_cases n : a = ay
        · rw [n, upd_same] at h; cases h
        · rw [upd_ne n] at h; exact h4 a h
      · by_cases n2 : a = D
        · rw [n2, upd_same] at h
          rw [n2, upd_ne nyD.symm, h2]; exact h
        · rw [upd_ne n2] at h
          have h := e a o h
          by_cases n : a = ay
          · rw [n, upd_same, ← sy, ← n]; exact h
          · rw [upd_ne n]; exact h3 a o n h
      · rw [upd_ne (fun z => h1 (by rw [z]; exact hD))]; exact h2
  | false =>
    refine ⟨_, rfl, x, _, _, _, _, rfl, .ty "list", ht, kit_ty (kit_list d), _, rfl, ?_⟩
    cases h2 : isT "list" d with
    | true =>
      obtain ⟨ds, rfl⟩ := isT_list h2
      obtain ⟨a, xs, rfl, hs, ha⟩ := dt_list hd
      obtain ⟨hz, hfd⟩ := hf.1 ds (.inl rfl)
      have hl := dta_len ha
      refine ⟨_, rfl, a, rfl, ⟨xs, SqL.of (e _ _ hs)⟩, fun D hD => ?_⟩
      refine lcW (M := NoM) walk_list e (fun H' e => SqL.of (e _ _ hs)) (by omega) (fun i y G => Dt G y (ds.getD i .none)) dt_mono (fun _ => true) (fun i => [some (.ref a), none, none, some (xs.getD i .non)])
        (fun i y G' H' H'' hi a' yy Q q => turn_name (σ0 := [some (.ref a), none, none, none]) (j := 3) a' yy (by rw [List.getD_eq_getElem?_getD]; simp [hi]) q) (fun _ _ => rfl) (fun i G' H' hi a' Q q => yes_t a'.gh q) (fun i G' H' hi _ a' Q q => ?_) (fun _ _ h => h) hD (fun ys G' H' a' gD hl' hsel => ?_)
      · obtain ⟨d1, e1, g1⟩ := dta_get ha (i := i) (v := xs.getD i .non) (by rw [List.getD_eq_getElem?_getD]; simp [hi])
        refine ⟨_, rfl, _, d1, G', rfl, a'.gh, ex_dt a'.gg _ _ g1, hfd d1 (List.mem_of_getElem? e1), fun v G2 H2 st hv => q _ _ _ st ?_⟩
        rw [getD_of e1]; exact hv
      · rw [hl] at hsel
        have hy := sel_dta1 (enc := fun i => ds.getD i .none) hsel
        rw [range_id] at hy
        exact q _ _ _ (a'.fix hD hl') (.lst upd_same (ex_dta (Evl.Ex.new gD) hy))
    | false =>
      refine ⟨_, rfl, x, _, _, _, _, rfl, .ty "tuple", ht, kit_ty (kit_tup d), _, rfl, ?_⟩
      cases h3 : isT "tuple" d with
      | false => exact ⟨_, rfl, fin⟩
      | true =>
        obtain ⟨ds, rfl⟩ := isT_tup h3
        obtain ⟨a, xs, rfl, hs, ha⟩ := dt_tup hd
        obtain ⟨hz, hfd⟩ := hf.1 ds (.inr rfl)
        have hl := dta_len ha
        refine ⟨_, rfl, a, rfl, ⟨xs, SqT.of (e _ _ hs)⟩, fun D hD => ?_⟩
        refine lcW (M := NoM) walk_tup e (fun H' e => SqT.of (e _ _ hs)) (by omega) (fun i y G => Dt G y (ds.getD i .none)) dt_mono (fun _ => true) (fun i => [some (.ref a), none, none, some (xs.getD i .non)])
          (fun i y G' H' H'' hi a' yy Q q => turn_name (σ0 := [some (.ref a), none, none, none]) (j := 3) a' yy (by rw [List.getD_eq_getElem?_getD]; simp [hi]) q) (fun _ _ => rfl) (fun i G' H' hi a' Q q => yes_t a'.gh q) (fun i G' H' hi _ a' Q q => ?_) (fun _ _ h => h) hD (fun ys G' H' a' gD hl' hsel => ?_)
        · obtain ⟨d1, e1, g1⟩ := dta_get ha (i := i) (v := xs.getD i .non) (by rw [List.getD_eq_getElem?_getD]; simp [hi])
          refine ⟨_, rfl, _, d1, G', rfl, a'.gh, ex_dt a'.gg _ _ g1, hfd d1 (List.mem_of_getElem? e1), fun v G2 H2 st hv => q _ _ _ st ?_⟩
          rw [getD_of e1]; exact hv
        · rw [hl] at hsel
          have hy := sel_dta1 (enc := fun i => ds.getD i .none) hsel
          rw [range_id] at hy
          refine ⟨D, ys, rfl, .inl ⟨SqL.of hl', fun l hl2 => ?_⟩⟩
          have gl : G' l = none := Evl.fresh_back a'.gh hl2
          exact q _ _ _ (a'.trans (Stp.new a'.gh hl2 (o := .tup ys))) (.tup upd_same (ex_dta (Evl.Ex.new gl) hy))
end
end K43
namespace K43
open PySem PySem.Spec PyProof.Rows L2 Hx Hd M43
open Evl (pss_cut tCut ex_l ex_t)
theorem Strm.free {H : Hp} {s L : Addr} (h : Strm H s L) : ∀ D, H D = none → ¬ D = s := fun D hD e => by
  obtain ⟨o, ho⟩ := h.there
  rw [e, ho] at hD; cases hD
/-- a call that moves the stream alone -/
theorem stp_go {s L : Addr} {G0 H0 G H H2 : Hp} (a : Stp (· = s) G0 H0 G H) (g : G s = none) (k : Kp s H H2) (st2 : Strm H2 s L) : Stp (· = s) G0 H0 G H2 := a.trans (stp_kp a.gh g k st2.there)
theorem str_small (d : Int) (h0 : 0 ≤ d) (h1 : d < 1000) : d.natAbs.log2 < 1920 ∧ (toString d : Str).length ≤ 100 := by
  refine ⟨Nat.lt_of_le_of_lt (Nat.log2_le_self _) (by omega), ?_⟩
  have gen : ∀ i : Fin 1000, (toString ((i.val : Nat) : Int) : Str).length ≤ 100 := by decide +kernel
  have := gen ⟨d.toNat, by omega⟩
  rwa [show ((d.toNat : Nat) : Int) = d by omega] at this
theorem cat_len (a b : Str) : (a ++ b).length = a.length + b.length := by
  show (a.cps ++ b.cps).size = _
  rw [Array.size_append]; rfl
section
variable {P : Program} {w : World} {K : PySem.W.Frag} {mg : Str → Option Value} {base : Heap}
def spOdd : Sp := fun vs H Q _ => ∃ s L m G, vs = [.ref s, .int ((m : Nat) : Int)] ∧ Strm H s L ∧ Ex G H ∧ G s = none ∧ m ≤ 100 ∧ ∀ p (ns : List Str) G2 H2, Stp (· = s) G H G2 H2 → G2 p = some (.lst (ns.map V.str)) → ns.length = m → Strm H2 s L → Q (.ref p) H2
abbrev N_law_odd_names : List Str := ["stream", "many", "odd", "found", "turn", "word"]
theorem sc_law_odd_names : FnScope N_law_odd_names ["stream", "many"] (defScope (top 52)) := ⟨rfl, rfl, rfl, by decide +kernel, rfl, by decide +kernel, by decide +kernel⟩
theorem ok_odd (T : Txt K mg) (C__law_next : Cal P w K mg base CX0 1 "_law_next" ["stream", "many"] spNext) (C__law_pick : Cal P w K mg base CX0 2 "_law_pick" ["stream", "rows"] (spPick K)) (C__law_pickS : Cal P w K mg base CX0 2 "_law_pick" ["stream", "rows"] spPickS) : Cal P w K mg base CX0 3 "_law_odd_names" ["stream", "many"] spOdd := by
  refine mkCal T.g__law_odd_names T.d__law_odd_names sc_law_odd_names (fun _ _ _ _ _ _ us hl => match us, hl with | [_, _], _ => rfl) (fun vs H Q E h => ?_) fun cdv A outer s0 H vs Q E hr h => ?_
  · obtain ⟨x, _, d, _, rfl, _⟩ := h; rfl
  obtain ⟨s, L, m, G, rfl, st, eG, gs, hm, q⟩ := h
  refine ⟨_, (pss_cons (ps_set (i := 2) sc_law_odd_names.nd rfl (Or.inl rfl) (pe_tup (pa_cons pe_str (pa_cons pe_str (pa_cons pe_str (pa_cons pe_str (pa_cons pe_str (pa_cons pe_str (pa_cons pe_str (pa_cons pe_str pa_nil))))))))))
      (pss_cons (ps_set (i := 3) sc_law_odd_names.nd rfl (Or.inl rfl) (pe_lst pa_nil))
      (pss_cons (ps_for PassesOwn.never rfl (pi_range1 (by rfl) T.n_range (pa_cons (pv 1) pa_nil)) (pg_name (i := 4) sc_law_odd_names.nd rfl (Or.inl rfl)) (pss_cut (ps_set (i := 5) sc_law_odd_names.nd rfl (Or.inl rfl) (pe_ifExp (pt_cmpR op_eq (pe_cal (E := E0) C__law_next (hr.mono (by decide)) pass0 (pa_cons (pv 0) (pa_cons pe_int pa_nil))) pe_int (nomark _)) (pe_cal (E := E0) C__law_pick (hr.mono (by decide)) pass0 (pa_cons (pv 0) (pa_cons (pv 2) pa_nil))) (pe_op op_add_str (pe_cal (E := E0) C__law_pickS (hr.mono (by decide)) pass0 (pa_cons (pv 0) (pa_cons pe_str pa_nil))) (pe_callTy call_str_int (by rfl) T.n_str (by decide +kernel) (pa_cons (pe_cal (E := E0) C__law_next (hr.mono (by decide)) pass0 (pa_cons (pv 0) (pa_cons pe_int pa_nil))) pa_nil)))))
      (pss_one (ps_expr (pe_bm PySem.F.plainAttrs_list PySem.F.slot_list_append PySem.F.type_list_append mt_append (pv 3) (pa_cons (pe_ifExp (pt_cmpR (inL (K := K)) (pv 5) (pv 3) (by rfl)) (pe_op op_add_str (pe_op op_add_str pe_str (pe_callTy call_str_int (by rfl) T.n_str (by decide +kernel) (pa_cons (pv 4) pa_nil))) pe_str) (pv 5)) pa_nil))))))
      (pss_one (ps_ret (pv 3)))))), ?_⟩
  refine ⟨Nat.le_of_lt (sz 8 (by omega)), fun t ht => ⟨Nat.zero_le _, fun f hf => ?_⟩⟩
  have a1 : Stp (· = s) G H _ _ := Stp.new eG ht (o := .tup (["", "0", " ", "x - y", "a", "A", "b b", "-1"].map fun z => V.str (Str.ofString z)))
  have a2 := a1.trans (Stp.lay (o := .lst []) a1.gh hf)
  have hf0 : H f = none := a1.dm f hf
  have nts : t ≠ s := fun e => st.free t ht e
  have g1s : upd G t (.tup (["", "0", " ", "x - y", "a", "A", "b b", "-1"].map fun z => V.str (Str.ofString z))) s = none := a1.fr s (some_ne st.there.choose_spec) gs
  refine ⟨_, rfl, m, rfl, by omega, by omega, ?_⟩
  refine for_it walk_range (fun i σ' H' => ∃ tv wv, ∃ ns : List Str, σ' = [some (.ref s), some (.int (m : Nat)), some (.ref t), some (.ref f), tv, wv] ∧ Stp (· = s) G H (upd G t (.tup (["", "0", " ", "x - y", "a", "A", "b b", "-1"].map fun z => V.str (Str.ofString z)))) H' ∧ H' f = some (.lst (ns.map V.str)) ∧ ns.length = i ∧ Strm H' s L)
    ⟨none, none, [], rfl, a2, upd_same, rfl, (st.keep (Evl.Ex.new ht)).keep (Evl.Ex.new hf)⟩ (fun _ _ _ _ _ => trivial) ?_ ?_
  · rintro i x σ' H' H'' hi ⟨tv, wv, ns, rfl, a, hf', hl, st'⟩ ⟨rfl, rfl⟩
    have hi' : i < m := by simpa using hi
    have nfs : f ≠ s := fun e => st.free f hf0 e
    refine ⟨fun σ' H' => ∃ z, ∃ ns : List Str, σ' = [some (.ref s), some (.int (m : Nat)), some (.ref t), some (.ref f), some (.int (i : Nat)), some (.str z)] ∧ Stp (· = s) G H (upd G t (.tup (["", "0", " ", "x - y", "a", "A", "b b", "-1"].map fun z => V.str (Str.ofString z)))) H' ∧ H' f = some (.lst (ns.map V.str)) ∧ ns.length = i ∧ Strm H' s L, ?_, ?_⟩
    · refine ⟨_, rfl, s, L, _, rfl, st', by omega, by omega, fun d H2 d0 d1 kp st2 => ⟨rfl, _, rfl, ?_⟩⟩
      have a2 := stp_go a g1s kp st2
      have hf2 := kp f _ nfs hf'
      refine ite2 (fun _ => ?_) (fun _ => ?_)
      · refine ⟨_, rfl, _, rfl, s, L, t, _, rfl, st2, .inr (SqT.of (a2.gh _ _ upd_same)), nts, by decide, by decide, fun j x H3 hx kp3 st3 => ?_⟩
        obtain ⟨z, rfl⟩ : ∃ z, x = V.str z := by
          rw [List.getElem?_map] at hx
          obtain ⟨y, _, e⟩ := Option.map_eq_some_iff.mp hx
          exact ⟨_, e.symm⟩
        exact ⟨z, ns, (by simp), stp_go a2 g1s kp3 st3, kp3 f _ nfs hf2, hl, st3⟩
      · refine ⟨_, rfl, s, L, _, rfl, st2, by decide, by decide, fun c H3 kp3 st3 => ?_⟩
        refine ⟨_, rfl, s, L, _, rfl, st3, by omega, by omega, fun d2 H4 d20 d21 kp4 st4 => ?_⟩
        obtain ⟨z1, z2⟩ := str_small d2 d20 (by omega)
        refine ⟨d2, rfl, z1, _, _, rfl, rfl, ?_, ?_⟩
        · have : (⟨#[c]⟩ : Str).length = 1 := rfl
          exact Nat.le_trans (show _ ≤ 1000 by omega) (by decide)
        · exact ⟨_, ns, (by simp; rfl), stp_go (stp_go a2 g1s kp3 st3) g1s kp4 st4, kp4 f _ nfs (kp3 f _ nfs hf2), hl, st4⟩
    · rintro σ' H3 ⟨z, ns, rfl, a3, hf3, hl3, st3⟩
      have gfn : upd G t (.tup (["", "0", " ", "x - y", "a", "A", "b b", "-1"].map fun z => V.str (Str.ofString z))) f = none := Evl.fresh_back a1.gh hf
      have fin : ∀ z' : Str, ∃ tv wv, ∃ ns' : List Str, [some (V.ref s), some (.int (m : Nat)), some (.ref t), some (.ref f), some (.int (i : Nat)), some (V.str z)] = [some (.ref s), some (.int (m : Nat)), some (.ref t), some (.ref f), tv, wv] ∧ Stp (· = s) G H (upd G t (.tup (["", "0", " ", "x - y", "a", "A", "b b", "-1"].map fun z => V.str (Str.ofString z)))) (upd H3 f (.lst (ns.map V.str ++ [.str z']))) ∧ (upd H3 f (.lst (ns.map V.str ++ [.str z']))) f = some (.lst (ns'.map V.str)) ∧ ns'.length = i + 1 ∧ Strm (upd H3 f (.lst (ns.map V.str ++ [.str z']))) s L := fun z' =>
        ⟨_, _, ns ++ [z'], rfl, a3.mut (.inl hf0) gfn, (by rw [upd_same, List.map_append]; rfl), by simp [hl3], st3.mut st hf0⟩
      have hnl : ns.length < 1000 := by omega
      refine ⟨_, rfl, .inl ⟨rfl, _, SqL.of hf3⟩, _, rfl, _, rfl, f, _, rfl, .inl (SqL.of hf3), rfl, flat_strs ns, _, rfl, ?_⟩
      refine ite2 (fun _ => ?_) (fun _ => ?_)
      · obtain ⟨z1, z2⟩ := str_small (i : Nat) (by omega) (by omega)
        refine ⟨_, rfl, _, rfl, z1, _, _, rfl, rfl, ?_, _, _, rfl, rfl, ?_, f, _, _, rfl, rfl, hf3, (by rw [List.length_map]; exact sz _ (by omega)), fin _⟩
        · have : (Str.ofString "n").length = 1 := by decide +kernel
          exact Nat.le_trans (show _ ≤ 1000 by omega) (by decide)
        · have h1 : (Str.ofString "n").length = 1 := by decide +kernel
          have h2 : (Str.ofString "_").length = 1 := by decide +kernel
          rw [cat_len]
          exact Nat.le_trans (show _ ≤ 1000 by omega) (by decide)
      · exact ⟨_, rfl, f, _, _, rfl, rfl, hf3, (by rw [List.length_map]; exact sz _ (by omega)), fin _⟩
  · rintro σ' H' ⟨tv, wv, ns, rfl, a, hf', hl, st'⟩
    refine ⟨_, rfl, q f ns _ _ (a.fix hf0 hf') upd_same (by simpa using hl) st'⟩
end
end K43
namespace K43
open PySem PySem.Spec PyProof.Rows L2 Hx Hd M43
open Evl (pss_cut tCut ex_l ex_t)
theorem paired_snocB {H : Hp} {xs : List V} {es : List Bd} {x : V} {e : Bd} (h : Paired (Tb H) xs es) (hx : Tb H x e) : Paired (Tb H) (xs ++ [x]) (es ++ [e]) := paired_app h (.cons hx .nil)
theorem paired_exB {H H' : Hp} (e : Ex H H') {xs : List V} {es : List Bd} (h : Paired (Tb H) xs es) : Paired (Tb H') xs es := Paired.mapP h fun v b t => tb_ex e t
section
variable {P : Program} {w : World} {K : PySem.W.Frag} {mg : Str → Option Value} {base : Heap}
def spLoose : Sp := fun vs H Q _ => ∃ s L an, ∃ ns : List Str, ∃ m sz' lo G, vs = [.ref s, .ref an, .int ((m : Nat) : Int), .int sz', .int lo] ∧ Strm H s L ∧ Ex G H ∧ G s = none ∧ G an = some (.lst (ns.map V.str)) ∧ 1 ≤ ns.length ∧ ns.length ≤ 100 ∧ m ≤ 1000 ∧ 1 ≤ sz' ∧ sz' ≤ 2000000000 ∧ 1 ≤ lo ∧ lo ≤ 1000 ∧
  ∀ p xs (es : List Bd) G2 H2, H p = none → G2 p = none → Stp (· = s) G H G2 H2 → H2 p = some (.lst xs) → Paired (Tb G2) xs es → es.length = m → Strm H2 s L → Q (.ref p) H2
abbrev N_law_loose_bounds : List Str := ["stream", "names", "many", "size", "loose", "hidden", "name", "found", "turn", "one", "other"]
theorem sc_law_loose_bounds : FnScope N_law_loose_bounds ["stream", "names", "many", "size", "loose"] (defScope (top 53)) := ⟨rfl, rfl, rfl, by decide +kernel, rfl, by decide +kernel, by decide +kernel⟩
theorem ok_loose (T : Txt K mg) (C__law_next : Cal P w K mg base CX0 1 "_law_next" ["stream", "many"] spNext) (C__law_pick : Cal P w K mg base CX0 2 "_law_pick" ["stream", "rows"] (spPick K)) : Cal P w K mg base CX0 3 "_law_loose_bounds" ["stream", "names", "many", "size", "loose"] spLoose := by
  refine mkCal T.g__law_loose_bounds T.d__law_loose_bounds sc_law_loose_bounds (fun _ _ _ _ _ _ us hl => match us, hl with | [_, _, _, _, _], _ => rfl) (fun vs H Q E h => ?_) fun cdv A outer s0 H vs Q E hr h => ?_
  · obtain ⟨x, _, d, _, _, _, _, _, rfl, _⟩ := h; rfl
  obtain ⟨s, L, an, ns, m, sz', lo, G, rfl, st, eG, gs, han, hn1, hn2, hm, h1, h2, h3, h4, q⟩ := h
  refine ⟨_, (pss_cons (ps_set (i := 5) sc_law_loose_bounds.nd rfl (Or.inl rfl) pe_dnewK)
      (pss_cons (ps_for PassesOwn.never rfl (piL (K := K) (pv 1)) (pg_name (i := 6) sc_law_loose_bounds.nd rfl (Or.inl rfl)) (pss_one (ps_dput (hu_of hr) (pv 5) (pv 6) (pe_op op_sub (pe_cal (E := E0) C__law_next (hr.mono (by decide)) pass0 (pa_cons (pv 0) (pa_cons (pv 3) pa_nil))) (pe_op op_fdiv (pv 3) pe_int)) rfl)))
      (pss_cons (ps_set (i := 7) sc_law_loose_bounds.nd rfl (Or.inl rfl) (pe_lst pa_nil))
      (pss_cons (ps_for PassesOwn.never rfl (pi_range1 (by rfl) T.n_range (pa_cons (pv 2) pa_nil)) (pg_name (i := 8) sc_law_loose_bounds.nd rfl (Or.inl rfl)) (pss_cons (ps_set (i := 9) sc_law_loose_bounds.nd rfl (Or.inl rfl) (pe_cal (E := E0) C__law_pick (hr.mono (by decide)) pass0 (pa_cons (pv 0) (pa_cons (pv 1) pa_nil))))
      (pss_cons (ps_set (i := 10) sc_law_loose_bounds.nd rfl (Or.inl rfl) (pe_cal (E := E0) C__law_pick (hr.mono (by decide)) pass0 (pa_cons (pv 0) (pa_cons (pv 1) pa_nil))))
      (pss_one (ps_expr (pe_bm PySem.F.plainAttrs_list PySem.F.slot_list_append PySem.F.type_list_append mt_append (pv 7) (pa_cons (pe_tup (pa_cons (pv 9) (pa_cons (pv 10) (pa_cons (pe_op op_add (pe_op op_sub (pe_dget (hu_of hr) (pv 5) (pv 9) (fun _ _ => rfl)) (pe_dget (hu_of hr) (pv 5) (pv 10) (fun _ _ => rfl))) (pe_cal (E := E0) C__law_next (hr.mono (by decide)) pass0 (pa_cons (pv 0) (pa_cons (pv 4) pa_nil)))) pa_nil)))) pa_nil)))))))
      (pss_one (ps_ret (pv 7))))))), ?_⟩
  intro hd hhd
  have ns' : an ≠ s := fun e => by rw [e, gs] at han; cases han
  refine ⟨_, rfl, an, rfl, ⟨_, SqL.of (by rw [upd_ne (ne_of_none (eG _ _ han) hhd)]; exact eG _ _ han)⟩, ?_⟩
  refine for_it walk_list (fun i σ' H' => ∃ nv kvs, σ' = [some (.ref s), some (.ref an), some (.int (m : Nat)), some (.int sz'), some (.int lo), some (.ref hd), nv, none, none, none, none] ∧ Stp (· = s) G H G H' ∧ H' hd = some (.dK kvs) ∧ kvs.length ≤ i ∧ (∀ z ∈ ns.take i, ∃ k, valV kvs (Sum.inr z) = some (.int k)) ∧ Strm H' s L)
    ⟨none, [], rfl, Stp.lay eG hhd, upd_same, Nat.le_refl _, (fun z h => by cases h), st.keep (Evl.Ex.new hhd)⟩ (fun i σ' H' hi ⟨_, _, _, a, _⟩ => SqL.of (a.gh _ _ han)) ?_ ?_
  · rintro i x σ' H' H'' hi ⟨nv, kvs, rfl, a, hk, hkl, hkv, st'⟩ ⟨rfl, hx⟩
    have hi' : i < ns.length := by simpa using hi
    have hz : ns[i]? = some (ns.getD i Str.empty) := by rw [List.getD_eq_getElem?_getD, List.getElem?_eq_getElem hi']; rfl
    rw [List.getElem?_map, hz] at hx
    have hx : V.str (ns.getD i Str.empty) = x := Option.some.inj hx
    subst hx
    refine ⟨_, rfl, _, rfl, s, L, _, rfl, st', h1, by omega, fun d H2 d0 d1 kp st2 => ?_⟩
    have a2 := stp_go a gs kp st2
    have hk2 := kp hd _ (fun e => st.free hd hhd e) hk
    refine ⟨_, rfl, _, 2, rfl, rfl, ⟨by decide, by decide⟩, _, _, rfl, rfl, _, rfl, _, rfl, hd, _, rfl, DPut.k (k := (Sum.inr (ns.getD i Str.empty) : Key)) hk2 (sz _ (by omega)), ?_⟩
    refine ⟨_, _, rfl, a2.mut (.inl hhd) (Evl.fresh_back eG hhd), upd_same, Nat.le_trans (length_putK _ _ _) (by omega), fun z hz2 => ?_, st2.mut st hhd⟩
    rw [valV_put]
    by_cases hzz : (Sum.inr z : Key) = Sum.inr (ns.getD i Str.empty)
    · rw [if_pos hzz]; exact ⟨_, rfl⟩
    · rw [if_neg hzz]
      rw [List.take_add_one, hz] at hz2
      rcases List.mem_append.mp hz2 with hz2 | hz2
      · exact hkv z hz2
      · exact absurd (by rw [List.mem_singleton.mp hz2]) hzz
  · rintro σ' H1 ⟨nv, kvs, rfl, a1, hk, hkl, hkv, st1⟩
    rw [List.length_map, List.take_length] at hkv
    refine ⟨Nat.zero_le _, fun f hf => ?_⟩
    have hf0 : H f = none := a1.dm f hf
    have hhf : hd ≠ f := ne_of_none hk hf
    refine ⟨_, rfl, m, rfl, by omega, by omega, ?_⟩
    refine for_it walk_range (fun i σ' H' => ∃ nv tv ov pv' xs G', ∃ es : List Bd, σ' = [some (.ref s), some (.ref an), some (.int (m : Nat)), some (.int sz'), some (.int lo), some (.ref hd), nv, some (.ref f), tv, ov, pv'] ∧ Stp (· = s) G H G' H' ∧ G' f = none ∧ G' hd = none ∧ H' hd = some (.dK kvs) ∧ H' f = some (.lst xs) ∧ Paired (Tb G') xs es ∧ es.length = i ∧ Strm H' s L)
      ⟨nv, none, none, none, [], G, [], rfl, a1.trans (Stp.lay a1.gh hf), Evl.fresh_back eG hf0, Evl.fresh_back eG hhd, (by rw [upd_ne hhf]; exact hk), upd_same, .nil, rfl, st1.keep (Evl.Ex.new hf)⟩ (fun _ _ _ _ _ => trivial) ?_ ?_
    · rintro i x σ' H' H'' hi ⟨nv, tv, ov, pv', xs, G', es, rfl, a, gf, gh, hk', hf', pr, hl, st'⟩ ⟨rfl, rfl⟩
      have hi' : i < m := by simpa using hi
      have nfs : f ≠ s := fun e => st.free f hf0 e
      have nhs : hd ≠ s := fun e => st.free hd hhd e
      have gs' : G' s = none := a.fr s (some_ne st.there.choose_spec) gs
      have pick : ∀ {j : Nat} {x : V}, (ns.map V.str)[j]? = some x → ∃ z k, x = .str z ∧ valV kvs (Sum.inr z) = some (.int k) := fun {j x} hx => by
        rw [List.getElem?_map] at hx
        obtain ⟨z, hz, e⟩ := Option.map_eq_some_iff.mp hx
        obtain ⟨k, hk⟩ := hkv z (List.mem_of_getElem? hz)
        exact ⟨z, k, e.symm, hk⟩
      have han' := (a.gg.trans a.gh) _ _ han
      refine ⟨_, rfl, _, rfl, s, L, an, _, rfl, st', .inl (SqL.of han'), ns', by rw [List.length_map]; omega, by rw [List.length_map]; omega, fun j1 x1 H2 hx1 kp2 st2 => ?_⟩
      obtain ⟨z1, k1, rfl, hk1⟩ := pick hx1
      refine ⟨_, rfl, _, rfl, s, L, an, _, rfl, st2, .inl (SqL.of (kp2 _ _ ns' han')), ns', by rw [List.length_map]; omega, by rw [List.length_map]; omega, fun j2 x2 H3 hx2 kp3 st3 => ?_⟩
      obtain ⟨z2, k2, rfl, hk2⟩ := pick hx2
      have hk3 := kp3 _ _ nhs (kp2 _ _ nhs hk')
      have hf3 := kp3 _ _ nfs (kp2 _ _ nfs hf')
      have g1 := DGet.k (k := (Sum.inr z1 : Key)) hk3
      have g2 := DGet.k (k := (Sum.inr z2 : Key)) hk3
      rw [hk1] at g1
      rw [hk2] at g2
      have a3 := stp_go (stp_go a gs' kp2 st2) gs' kp3 st3
      refine ⟨_, rfl, .inl ⟨rfl, _, SqL.of hf3⟩, _, rfl, _, rfl, _, rfl, _, rfl, hd, _, rfl, g1, _, rfl, _, rfl, hd, _, rfl, g2, _, _, rfl, rfl, _, rfl, _, rfl, s, L, _, rfl, st3, h3, by omega, fun d H4 d0 d1 kp4 st4 => ⟨_, _, rfl, rfl, Nat.le_of_lt (sz 3 (by omega)), fun t ht => ?_⟩⟩
      have a4 := stp_go a3 gs' kp4 st4
      have hf4 := kp4 _ _ nfs hf3
      have a5 := a4.trans (Stp.new a4.gh ht (o := .tup [.str z1, .str z2, .int (k1 - k2 + d)]))
      have ntf : f ≠ t := ne_of_none hf4 ht
      have nth : hd ≠ t := ne_of_none (kp4 _ _ nhs hk3) ht
      have gt : G' t = none := Evl.fresh_back a4.gh ht
      have hxl := pr.length
      refine ⟨f, xs, _, rfl, rfl, (by rw [upd_ne ntf]; exact hf4), sz _ (by omega), ?_⟩
      refine ⟨_, _, _, _, xs ++ [.ref t], _, es ++ [(z1, z2, k1 - k2 + d)], rfl, a5.mut (.inl hf0) (by rw [upd_ne ntf]; exact gf), (by rw [upd_ne ntf]; exact gf), (by rw [upd_ne nth]; exact gh), (by rw [upd_ne hhf, upd_ne nth]; exact kp4 _ _ nhs hk3), upd_same, paired_snocB (paired_exB (Evl.Ex.new gt) pr) ⟨t, rfl, upd_same⟩, by simp [hl], ((st4.keep (Evl.Ex.new ht)).mut st hf0)⟩
    · rintro σ' H' ⟨nv, tv, ov, pv', xs, G', es, rfl, a, gf, gh, hk', hf', pr, hl, st'⟩
      exact ⟨_, rfl, q f xs es G' H' hf0 gf a hf' pr (by simpa using hl) st'⟩
end
end K43
namespace K43
open PySem PySem.Spec PyProof.Rows L2 Hx Hd M43
open Evl (pss_cut tCut ex_l ex_t)
theorem strs_all : ∀ {xs : List V}, (∀ x ∈ xs, ∃ z, x = V.str z) → ∃ l : List Str, xs = l.map V.str
  | [], _ => ⟨[], rfl⟩
  | x :: xs, h => by
    obtain ⟨z, rfl⟩ := h x (List.mem_cons_self ..)
    obtain ⟨l, rfl⟩ := strs_all fun y hy => h y (List.mem_cons_of_mem _ hy)
    exact ⟨z :: l, rfl⟩
theorem cutV_mem {xs : List V} {lo hi : Option Int} {x : V} (h : x ∈ cutV xs lo hi) : x ∈ xs := by
  unfold cutV at h
  exact List.mem_of_mem_drop (List.mem_of_mem_take h)
theorem kp_of {s : Addr} {H H' : Hp} (e : Ex H H') : Kp s H H' := fun a o _ h => e a o h
section
variable {P : Program} {w : World} {K : PySem.W.Frag} {mg : Str → Option Value} {base : Heap}
def spClosed : Sp := fun vs H Q _ => ∃ s L an, ∃ ns : List Str, ∃ sz' to G, vs = [.ref s, .ref an, .int sz', .int to] ∧ Strm H s L ∧ Ex G H ∧ G s = none ∧ G an = some (.lst (ns.map V.str)) ∧ 1 ≤ ns.length ∧ ns.length ≤ 100 ∧ 1 ≤ sz' ∧ sz' ≤ 2000000000 ∧
  ∀ p xs (es : List Bd) G2 H2, H p = none → G2 p = none → Stp (· = s) G H G2 H2 → H2 p = some (.lst xs) → Paired (Tb G2) xs es → es.length ≤ ns.length → Strm H2 s L → Q (.ref p) H2
abbrev N_law_closed : List Str := ["stream", "names", "size", "total", "rows", "found", "left", "at", "k"]
theorem sc_law_closed : FnScope N_law_closed ["stream", "names", "size", "total"] (defScope (top 54)) := ⟨rfl, rfl, rfl, by decide +kernel, rfl, by decide +kernel, by decide +kernel⟩
theorem ok_closed (T : Txt K mg) (C__law_next : Cal P w K mg base CX0 1 "_law_next" ["stream", "many"] spNext) (C__law_shuffled : Cal P w K mg base CX0 2 "_law_shuffled" ["stream", "rows"] (spShuf K)) (C__law_from : Cal P w K mg base CX0 2 "_law_from" ["stream", "low", "high"] spFrom) : Cal P w K mg base CX0 3 "_law_closed" ["stream", "names", "size", "total"] spClosed := by
  refine mkCal T.g__law_closed T.d__law_closed sc_law_closed (fun _ _ _ _ _ _ us hl => match us, hl with | [_, _, _, _], _ => rfl) (fun vs H Q E h => ?_) fun cdv A outer s0 H vs Q E hr h => ?_
  · obtain ⟨x, _, d, _, _, _, _, rfl, _⟩ := h; rfl
  obtain ⟨s, L, an, ns, sz', to, G, rfl, st, eG, gs, han, hn1, hn2, h1, h2, q⟩ := h
  refine ⟨_, (pss_cons (ps_set (i := 4) sc_law_closed.nd rfl (Or.inl rfl) (pe_slice (slL (K := K)) (pe_cal (E := E0) C__law_shuffled (hr.mono (by decide)) pass0 (pa_cons (pv 0) (pa_cons (pv 1) pa_nil))) po_none (po_some (pe_cal (E := E0) C__law_from (hr.mono (by decide)) pass0 (pa_cons (pv 0) (pa_cons pe_int (pa_cons (pe_callB (lenL (K := K)) (by rfl) T.n_len PySem.boot_len (pa_cons (pv 1) pa_nil)) pa_nil)))))))
      (pss_cons (ps_set (i := 5) sc_law_closed.nd rfl (Or.inl rfl) (pe_lst pa_nil))
      (pss_cons (ps_set (i := 6) sc_law_closed.nd rfl (Or.inl rfl) (pv 3))
      (pss_cons (ps_for PassesOwn.never rfl (pi_range1 (by rfl) T.n_range (pa_cons (pe_callB (lenL (K := K)) (by rfl) T.n_len PySem.boot_len (pa_cons (pv 4) pa_nil)) pa_nil)) (pg_name (i := 7) sc_law_closed.nd rfl (Or.inl rfl)) (pss_cut (ps_set (i := 8) sc_law_closed.nd rfl (Or.inl rfl) (pe_ifExp (pt_cmpR op_lt (pv 7) (pe_op op_sub (pe_callB (lenL (K := K)) (by rfl) T.n_len PySem.boot_len (pa_cons (pv 4) pa_nil)) pe_int) (nomark _)) (pe_op op_sub (pe_cal (E := E0) C__law_next (hr.mono (by decide)) pass0 (pa_cons (pv 0) (pa_cons (pv 2) pa_nil))) (pe_op op_fdiv (pv 2) pe_int)) (pv 6)))
      (pss_cons (ps_set (i := 6) sc_law_closed.nd rfl (Or.inl rfl) (pe_op op_sub (pv 6) (pv 8)))
      (pss_one (ps_expr (pe_bm PySem.F.plainAttrs_list PySem.F.slot_list_append PySem.F.type_list_append mt_append (pv 5) (pa_cons (pe_tup (pa_cons (pe_ix (ixL (K := K)) (pv 4) (pv 7) (fun _ _ => rfl)) (pa_cons (pe_ix (ixL (K := K)) (pv 4) (pe_op op_mod (pe_callTy call_int1 (by rfl) T.n_int (by decide +kernel) (pa_cons (pe_op op_add (pv 7) pe_int) pa_nil)) (pe_callB (lenL (K := K)) (by rfl) T.n_len PySem.boot_len (pa_cons (pv 4) pa_nil))) (fun _ _ => rfl)) (pa_cons (pv 8) pa_nil)))) pa_nil)))))))
      (pss_one (ps_ret (pv 5))))))), ?_⟩
  have ns' : an ≠ s := fun e => by rw [e, gs] at han; cases han
  refine ⟨_, rfl, _, rfl, s, L, an, _, rfl, st, SqL.of (eG _ _ han), ns', by rw [List.length_map]; omega, fun p0 ys H1 hp0 kp1 st1 hy pm => ?_⟩
  refine ⟨_, rfl, _, rfl, an, _, rfl, .inl (SqL.of (kp1 _ _ ns' (eG _ _ han))), s, L, _, _, rfl, st1, by rw [List.length_map]; omega, by rw [List.length_map]; omega, fun d H2 d0 d1 kp2 st2 => ?_⟩
  have p0s : p0 ≠ s := fun e => st.free p0 hp0 e
  have a2 := stp_go (stp_go (Stp.refl (M := (· = s)) eG) gs kp1 st1) gs kp2 st2
  refine ⟨d, rfl, p0, ys, rfl, SqL.of (kp2 _ _ p0s hy), fun r hr => ?_⟩
  obtain ⟨l, hl⟩ : ∃ l : List Str, cutV ys none (some d) = l.map V.str := strs_all fun x hx => by
    obtain ⟨z, _, e⟩ := List.mem_map.mp (pm.mem_iff.mp (cutV_mem hx))
    exact ⟨z, e.symm⟩
  have hln : l.length ≤ ns.length := by
    have h1 := cutV_length ys none (some d)
    have h2 := pm.length_eq
    rw [hl, List.length_map] at h1
    rw [List.length_map] at h2
    omega
  rw [hl]
  have hr0 := a2.dm r hr
  have a3 := a2.trans (Stp.new a2.gh hr (o := .lst (l.map V.str)))
  have g3s : upd G r (.lst (l.map V.str)) s = none := a3.fr s (some_ne st.there.choose_spec) gs
  refine ⟨Nat.zero_le _, fun f hf => ?_⟩
  have hf0 := a3.dm f hf
  have st3 := (st2.keep (Evl.Ex.new hr (o := .lst (l.map V.str)))).keep (Evl.Ex.new hf (o := .lst []))
  have gf3 : upd G r (.lst (l.map V.str)) f = none := Evl.fresh_back a3.gh hf
  refine ⟨_, rfl, ?_⟩
  refine ⟨_, rfl, r, _, rfl, .inl (SqL.of (by rw [upd_ne (ne_of_none upd_same hf)]; exact upd_same)), _, rfl, by rw [List.length_map]; omega, by rw [List.length_map]; omega, ?_⟩
  rw [Int.toNat_natCast, List.length_map]
  refine for_it walk_range (fun i σ' H' => ∃ le tv kv xs G', ∃ es : List Bd, σ' = [some (.ref s), some (.ref an), some (.int sz'), some (.int to), some (.ref r), some (.ref f), some (.int le), tv, kv] ∧ Stp (· = s) G H G' H' ∧ G' f = none ∧ G' r = some (.lst (l.map V.str)) ∧ H' f = some (.lst xs) ∧ Paired (Tb G') xs es ∧ es.length = i ∧ Strm H' s L)
    ⟨to, none, none, [], _, [], rfl, a3.trans (Stp.lay a3.gh hf), gf3, upd_same, upd_same, .nil, rfl, st3⟩ (fun _ _ _ _ _ => trivial) ?_ ?_
  · rintro i x σ' H' H'' hi ⟨le, tv, kv, xs, G', es, rfl, a, gf, gr, hf', pr, hel, st'⟩ ⟨rfl, rfl⟩
    have nfs : f ≠ s := fun e => st.free f hf0 e
    have gs' : G' s = none := a.fr s (some_ne st.there.choose_spec) gs
    have hrr := SqL.of (K := K) (a.gh _ _ gr)
    refine ⟨fun σ' H' => ∃ kk, σ' = [some (.ref s), some (.ref an), some (.int sz'), some (.int to), some (.ref r), some (.ref f), some (.int le), some (.int (i : Nat)), some (.int kk)] ∧ Stp (· = s) G H G' H' ∧ H' f = some (.lst xs) ∧ Strm H' s L, ?_, ?_⟩
    · refine ⟨_, rfl, _, rfl, r, _, rfl, .inl hrr, _, 1, rfl, rfl, _, _, rfl, rfl, _, rfl, ?_⟩
      refine ite2 (fun _ => ?_) (fun _ => ?_)
      · refine ⟨_, rfl, _, rfl, s, L, _, rfl, st', h1, by omega, fun d2 H4 d20 d21 kp4 st4 => ?_⟩
        exact ⟨_, rfl, _, 2, rfl, rfl, ⟨by decide, by decide⟩, _, _, rfl, rfl, _, (by simp; rfl), stp_go a gs' kp4 st4, kp4 _ _ nfs hf', st4⟩
      · exact ⟨_, rfl, le, (by simp), a, hf', st'⟩
    · rintro σ' H3 ⟨kk, rfl, a4, hf4, st4⟩
      refine ⟨_, rfl, _, rfl, _, _, rfl, rfl, ?_⟩
      have hrr := SqL.of (K := K) (a4.gh _ _ gr)
      have g1 : ∀ j, j < l.length → (l.map V.str)[j]? = some (.str (l.getD j Str.empty)) := fun j hj => by
        rw [List.getElem?_map, List.getD_eq_getElem?_getD, List.getElem?_eq_getElem hj]; rfl
      have hm0 : 0 ≤ (((i : Nat) : Int) + 1) % ((l.map V.str).length : Int) := Int.emod_nonneg _ (by rw [List.length_map]; omega)
      have hm1 : (((i : Nat) : Int) + 1) % ((l.map V.str).length : Int) < ((l.map V.str).length : Int) := Int.emod_lt_of_pos _ (by rw [List.length_map]; omega)
      have hxl := pr.length
      refine ⟨_, rfl, .inl ⟨rfl, _, SqL.of hf4⟩, _, rfl, _, rfl, r, _, _, _, rfl, rfl, hrr, at_nat (g1 i hi), _, rfl, _, rfl, _, 1, rfl, rfl, .inl ⟨_, rfl, _, rfl, r, _, rfl, .inl hrr, _, _, rfl, rfl, (by rw [List.length_map]; omega), r, _, _, _, rfl, rfl, hrr, at_of (show _ = (((((i : Nat) : Int) + 1) % ((l.map V.str).length : Int)).toNat : Int) by omega) (g1 _ (by rw [List.length_map] at hm1; rw [List.length_map] at hm0 ⊢; omega)), _, rfl, Nat.le_of_lt (sz 3 (by omega)), fun t ht => ?_⟩⟩
      have a5 := a4.trans (Stp.new a4.gh ht (o := .tup [.str (l.getD i Str.empty), .str (l.getD (((((i : Nat) : Int) + 1) % ((l.map V.str).length : Int)).toNat) Str.empty), .int kk]))
      have ntf : f ≠ t := ne_of_none hf4 ht
      have gt : G' t = none := Evl.fresh_back a4.gh ht
      have ntr : r ≠ t := ne_of_none (a4.gh _ _ gr) ht
      refine ⟨f, xs, _, rfl, rfl, (by rw [upd_ne ntf]; exact hf4), sz _ (by omega), ?_⟩
      exact ⟨_, _, _, xs ++ [.ref t], _, es ++ [(l.getD i Str.empty, l.getD (((((i : Nat) : Int) + 1) % ((l.map V.str).length : Int)).toNat) Str.empty, kk)], rfl, a5.mut (.inl hf0) (by rw [upd_ne ntf]; exact gf), (by rw [upd_ne ntf]; exact gf), (by rw [upd_ne ntr]; exact gr), upd_same, paired_snocB (paired_exB (Evl.Ex.new gt) pr) ⟨t, rfl, upd_same⟩, by simp [hel], ((st4.keep (Evl.Ex.new ht)).mut st hf0)⟩
  · rintro σ' H' ⟨le, tv, kv, xs, G', es, rfl, a, gf, gr, hf', pr, hel, st'⟩
    exact ⟨_, rfl, q f xs es G' H' hf0 gf a hf' pr (by omega) st'⟩
end
end K43
namespace K43
open PySem PySem.Spec PyProof.Rows L2 Hx Hd M43
open Evl (pss_cut tCut ex_l ex_t)
theorem paired_of : ∀ {H : Hp} {ys : List V}, (∀ y ∈ ys, ∃ e, Tb H y e) → ∃ es : List Bd, Paired (Tb H) ys es
  | _, [], _ => ⟨[], .nil⟩
  | H, y :: ys, h => by
    obtain ⟨e, he⟩ := h y (List.mem_cons_self ..)
    obtain ⟨es, p⟩ := paired_of fun z hz => h z (List.mem_cons_of_mem _ hz)
    exact ⟨e :: es, .cons he p⟩
theorem paired_all {H : Hp} : ∀ {ys : List V} {es : List Bd}, Paired (Tb H) ys es → ∀ y ∈ ys, ∃ e ∈ es, Tb H y e
  | _, _, .nil, y, h => by cases h
  | _, _, .cons r t, y, h => by
    rcases List.mem_cons.mp h with rfl | h
    · exact ⟨_, List.mem_cons_self .., r⟩
    · obtain ⟨e, he, h2⟩ := paired_all t y h
      exact ⟨e, List.mem_cons_of_mem _ he, h2⟩
theorem paired_perm {H : Hp} {xs ys : List V} {es : List Bd} (h : Paired (Tb H) xs es) (pm : ys.Perm xs) : ∃ es', Paired (Tb H) ys es' ∧ es'.length = es.length := by
  obtain ⟨es', p⟩ := paired_of (H := H) (ys := ys) fun y hy => by
    obtain ⟨e, _, h2⟩ := paired_all h y (pm.mem_iff.mp hy)
    exact ⟨e, h2⟩
  exact ⟨es', p, by rw [← p.length, pm.length_eq, h.length]⟩
theorem paired_set {H : Hp} {x : V} {e : Bd} (he : Tb H x e) : ∀ {xs : List V} {es : List Bd}, Paired (Tb H) xs es → ∀ j, Paired (Tb H) (xs.set j x) (es.set j e)
  | _, _, .nil, j => .nil
  | _, _, .cons r t, 0 => .cons he t
  | _, _, .cons r t, j + 1 => .cons r (paired_set he t j)
section
variable {P : Program} {w : World} {K : PySem.W.Frag} {mg : Str → Option Value} {base : Heap}
def spScene : Sp := fun vs H Q _ => ∃ s L m mo G, vs = [.ref s, .int ((m : Nat) : Int), .int mo] ∧ Strm H s L ∧ Ex G H ∧ G s = none ∧ 1 ≤ m ∧ m ≤ 100 ∧ 1 ≤ mo ∧ mo ≤ 300 ∧
  ∀ t an b c, ∀ ns : List Str, ∀ (es cl : List Bd) G2 H2, Stp (· = s) G H G2 H2 → G2 t = some (.lst [.ref an, .ref b, .ref c]) → G2 an = some (.lst (ns.map V.str)) → Bds G2 b es → Bds G2 c cl → ns.length = m → es.length ≤ 400 → cl.length ≤ 100 → Strm H2 s L → Q (.ref t) H2
abbrev N_law_scene : List Str := ["stream", "many", "most", "names", "size", "bounds", "kind", "closed", "at"]
theorem sc_law_scene : FnScope N_law_scene ["stream", "many", "most"] (defScope (top 55)) := ⟨rfl, rfl, rfl, by decide +kernel, rfl, by decide +kernel, by decide +kernel⟩
theorem ok_scene (T : Txt K mg) (C__law_next : Cal P w K mg base CX0 1 "_law_next" ["stream", "many"] spNext) (C__law_pick : Cal P w K mg base CX0 2 "_law_pick" ["stream", "rows"] (spPick K)) (C__law_shuffled : Cal P w K mg base CX0 2 "_law_shuffled" ["stream", "rows"] (spShuf K))
    (C__law_odd_names : Cal P w K mg base CX0 3 "_law_odd_names" ["stream", "many"] spOdd) (C__law_loose_bounds : Cal P w K mg base CX0 3 "_law_loose_bounds" ["stream", "names", "many", "size", "loose"] spLoose) (C__law_closed : Cal P w K mg base CX0 3 "_law_closed" ["stream", "names", "size", "total"] spClosed) : Cal P w K mg base CX0 4 "_law_scene" ["stream", "many", "most"] spScene := by
  refine mkCal T.g__law_scene T.d__law_scene sc_law_scene (fun _ _ _ _ _ _ us hl => match us, hl with | [_, _, _], _ => rfl) (fun vs H Q E h => ?_) fun cdv A outer s0 H vs Q E hr h => ?_
  · obtain ⟨x, _, d, _, _, rfl, _⟩ := h; rfl
  obtain ⟨s, L, m, mo, G, rfl, st, eG, gs, hm1, hm2, h1, h2, q⟩ := h
  refine ⟨_, (pss_cons (ps_set (i := 3) sc_law_scene.nd rfl (Or.inl rfl) (pe_cal (E := E0) C__law_odd_names (hr.mono (by decide)) pass0 (pa_cons (pv 0) (pa_cons (pv 1) pa_nil))))
      (pss_cons (ps_set (i := 4) sc_law_scene.nd rfl (Or.inl rfl) (pe_cal (E := E0) C__law_pick (hr.mono (by decide)) pass0 (pa_cons (pv 0) (pa_cons (pe_tup (pa_cons pe_int (pa_cons pe_int (pa_cons pe_int pa_nil)))) pa_nil))))
      (pss_cons (ps_set (i := 5) sc_law_scene.nd rfl (Or.inl rfl) (pe_cal (E := E0) C__law_loose_bounds (hr.mono (by decide)) pass0 (pa_cons (pv 0) (pa_cons (pv 3) (pa_cons (pe_cal (E := E0) C__law_next (hr.mono (by decide)) pass0 (pa_cons (pv 0) (pa_cons (pv 2) pa_nil))) (pa_cons (pv 4) (pa_cons (pe_cal (E := E0) C__law_pick (hr.mono (by decide)) pass0 (pa_cons (pv 0) (pa_cons (pe_tup (pa_cons pe_int (pa_cons pe_int (pa_cons pe_int pa_nil)))) pa_nil))) pa_nil)))))))
      (pss_cons (ps_set (i := 6) sc_law_scene.nd rfl (Or.inl rfl) (pe_cal (E := E0) C__law_next (hr.mono (by decide)) pass0 (pa_cons (pv 0) (pa_cons pe_int pa_nil))))
      (pss_cons (ps_set (i := 7) sc_law_scene.nd rfl (Or.inl rfl) (pe_cal (E := E0) C__law_closed (hr.mono (by decide)) pass0 (pa_cons (pv 0) (pa_cons (pv 3) (pa_cons (pv 4) (pa_cons (pe_op op_sub (pe_ix (ixT (K := K)) (pe_tup (pa_cons pe_int (pa_cons pe_int (pa_cons (pe_un un_neg pe_int) pa_nil)))) (pe_op op_mod (pe_callTy call_int1 (by rfl) T.n_int (by decide +kernel) (pa_cons (pv 6) pa_nil)) pe_int) (fun _ _ => rfl)) (pe_op op_mul (pe_cal (E := E0) C__law_pick (hr.mono (by decide)) pass0 (pa_cons (pv 0) (pa_cons (pe_tup (pa_cons pe_int (pa_cons pe_int (pa_cons pe_int (pa_cons pe_int pa_nil))))) pa_nil))) (pv 6))) pa_nil))))))
      (pss_cut (ps_if (pt_cmpR op_lt (pv 6) pe_int (nomark _)) (pss_one (ps_set (i := 5) sc_law_scene.nd rfl (Or.inl rfl) (pe_op op_cat (pv 5) (pv 7)))) pss_nil)
      (pss_cut (ps_if (PW.pt (pw_and (pt_cmpR op_eq (pv 6) pe_int (nomark _)) (pw_and1 (pt_cmpR op_gt (pe_callB (lenL (K := K)) (by rfl) T.n_len PySem.boot_len (pa_cons (pv 5) pa_nil)) pe_int (nomark _))))) (pss_cons (ps_set (i := 8) sc_law_scene.nd rfl (Or.inl rfl) (pe_cal (E := E0) C__law_next (hr.mono (by decide)) pass0 (pa_cons (pv 0) (pa_cons (pe_callB (lenL (K := K)) (by rfl) T.n_len PySem.boot_len (pa_cons (pv 5) pa_nil)) pa_nil))))
      (pss_one (ps_asg (pe_tup (pa_cons (pe_ix (ixT (K := K)) (pe_ix (ixL (K := K)) (pv 5) (pv 8) (fun _ _ => rfl)) pe_int (fun _ _ => rfl)) (pa_cons (pe_ix (ixT (K := K)) (pe_ix (ixL (K := K)) (pv 5) (pv 8) (fun _ _ => rfl)) pe_int (fun _ _ => rfl)) (pa_cons (pe_op op_sub (pe_op op_sub (pe_ix (ixT (K := K)) (pe_ix (ixL (K := K)) (pv 5) (pv 8) (fun _ _ => rfl)) pe_int (fun _ _ => rfl)) pe_int) (pe_cal (E := E0) C__law_next (hr.mono (by decide)) pass0 (pa_cons (pv 0) (pa_cons pe_int pa_nil)))) pa_nil)))) (pg_sub (pv 5) (pv 8) set_list)))) pss_nil)
      (pss_one (ps_ret (pe_lst (pa_cons (pv 3) (pa_cons (pe_cal (E := E0) C__law_shuffled (hr.mono (by decide)) pass0 (pa_cons (pv 0) (pa_cons (pv 5) pa_nil))) (pa_cons (pv 7) pa_nil))))))))))))), ?_⟩
  -- names
  refine ⟨_, rfl, _, rfl, s, L, m, G, rfl, st, eG, gs, hm2, fun an ns G1 H1 a1 han hnl st1 => ?_⟩
  have gs1 := a1.fr s (some_ne st.there.choose_spec) gs
  -- size
  refine ⟨_, rfl, Nat.le_of_lt (sz 3 (by omega)), fun t2 ht2 => ?_⟩
  have b2 := Stp.new (M := (· = s)) a1.gh ht2 (o := .tup [.int 3, .int 12, .int 2000000000])
  have gs2 : upd G1 t2 (.tup [.int 3, .int 12, .int 2000000000]) s = none := b2.fr s (some_ne st1.there.choose_spec) gs1
  refine ⟨s, L, t2, _, rfl, st1.keep (Evl.Ex.new ht2), .inr (SqT.of upd_same), (fun e => st1.free t2 ht2 e), by simp, by simp, fun j x H2 hx kp2 st2 => ?_⟩
  obtain ⟨sz', rfl, hs1, hs2⟩ : ∃ k, x = V.int k ∧ 1 ≤ k ∧ k ≤ 2000000000 := by
    have hm := List.mem_of_getElem? hx
    simp only [List.mem_cons, List.not_mem_nil, or_false] at hm
    rcases hm with rfl | rfl | rfl <;> exact ⟨_, rfl, by omega, by omega⟩
  have a2 := stp_go (a1.trans b2) gs2 kp2 st2
  generalize hG2 : upd G1 t2 (.tup [.int 3, .int 12, .int 2000000000]) = G2 at b2 gs2 a2
  have han2 : G2 an = some (.lst (ns.map V.str)) := b2.gg _ _ han
  -- bounds
  refine ⟨_, rfl, _, rfl, _, rfl, _, rfl, s, L, _, rfl, st2, h1, by omega, fun d H3 d0 d1 kp3 st3 => ?_⟩
  have a3 := stp_go a2 gs2 kp3 st3
  refine ⟨_, rfl, _, rfl, Nat.le_of_lt (sz 3 (by omega)), fun t4 ht4 => ?_⟩
  have b4 := Stp.new (M := (· = s)) a3.gh ht4 (o := .tup [.int 1, .int 2, .int 5])
  have gs4 := b4.fr s (some_ne st3.there.choose_spec) gs2
  refine ⟨s, L, t4, _, rfl, st3.keep (Evl.Ex.new ht4), .inr (SqT.of upd_same), (fun e => st3.free t4 ht4 e), by simp, by simp, fun j x H4 hx kp4 st4 => ?_⟩
  obtain ⟨lo, rfl, hl1, hl2⟩ : ∃ k, x = V.int k ∧ 1 ≤ k ∧ k ≤ 1000 := by
    have hm := List.mem_of_getElem? hx
    simp only [List.mem_cons, List.not_mem_nil, or_false] at hm
    rcases hm with rfl | rfl | rfl <;> exact ⟨_, rfl, by omega, by omega⟩
  have a4 := stp_go (a3.trans b4) gs4 kp4 st4
  have han4 := b4.gg _ _ han2
  generalize upd G2 t4 (.tup [.int 1, .int 2, .int 5]) = G4 at b4 gs4 a4 han4
  obtain ⟨dn, rfl⟩ := Int.eq_ofNat_of_zero_le d0
  refine ⟨s, L, an, ns, dn, sz', lo, G4, rfl, st4, a4.gh, gs4, han4, by omega, by omega, by omega, hs1, hs2, hl1, hl2, fun b bs es G5 H5 hb0 gb5 a5 hb5 pr5 hes5 st5 => ?_⟩
  have gs5 := a5.fr s (some_ne st4.there.choose_spec) gs4
  have han5 := a5.gg _ _ han4
  have bH : H b = none := a4.dm b hb0
  have a05 := a4.trans a5
  -- kind
  refine ⟨_, rfl, s, L, _, rfl, st5, by omega, by omega, fun kd H6 kd0 kd1 kp6 st6 => ?_⟩
  have nbs : b ≠ s := fun e => st.free b bH e
  have a6 := stp_go a05 gs5 kp6 st6
  have hb6 := kp6 _ _ nbs hb5
  -- closed
  refine ⟨_, rfl, _, rfl, _, rfl, 1, rfl, Nat.le_of_lt (sz 3 (by omega)), fun t7 ht7 => ?_⟩
  have b7 := Stp.new (M := (· = s)) a6.gh ht7 (o := .tup [.int 0, .int 0, .int (-1)])
  have gs7 := b7.fr s (some_ne st6.there.choose_spec) gs5
  have nb7 : b ≠ t7 := ne_of_none hb6 ht7
  have hb7 : upd H6 t7 (.tup [.int 0, .int 0, .int (-1)]) b = some (.lst bs) := by rw [upd_ne nb7]; exact hb6
  have gb7 : upd G5 t7 (.tup [.int 0, .int 0, .int (-1)]) b = none := by rw [upd_ne nb7]; exact gb5
  have ht7s := SqT.of (K := K) (show upd H6 t7 (.tup [.int 0, .int 0, .int (-1)]) t7 = some (.tup [.int 0, .int 0, .int (-1)]) from upd_same)
  have han7 := b7.gg _ _ han5
  have st7 := st6.keep (Evl.Ex.new ht7 (o := .tup [.int 0, .int 0, .int (-1)]))
  have pr7 := paired_exB b7.gg pr5
  have a7 := a6.trans b7
  generalize upd G5 t7 (.tup [.int 0, .int 0, .int (-1)]) = G7 at b7 gs7 gb7 han7 a7 pr7
  generalize upd H6 t7 (.tup [.int 0, .int 0, .int (-1)]) = H7 at b7 hb7 ht7s st7 a7
  have hk3 : kd % 3 = 0 ∨ kd % 3 = 1 ∨ kd % 3 = 2 := by omega
  obtain ⟨tv, htv⟩ : ∃ tv, atI [V.int 0, V.int 0, V.int (-1)] (kd % 3) = some (V.int tv) := by
    rcases hk3 with h | h | h <;> rw [h]
    · exact ⟨0, rfl⟩
    · exact ⟨0, rfl⟩
    · exact ⟨-1, rfl⟩
  refine ⟨_, rfl, .inl ⟨_, rfl, _, 3, rfl, rfl, (show (0 : Int) < 3 by decide), t7, _, _, _, rfl, rfl, ht7s, htv, ?_⟩⟩
  refine ⟨_, rfl, Nat.le_of_lt (sz 4 (by omega)), fun t8 ht8 => ?_⟩
  have b8 := Stp.new (M := (· = s)) a7.gh ht8 (o := .tup [.int 0, .int 0, .int 0, .int 4])
  have gs8 := b8.fr s (some_ne st7.there.choose_spec) gs7
  have nb8 : b ≠ t8 := ne_of_none hb7 ht8
  refine ⟨s, L, t8, _, rfl, st7.keep (Evl.Ex.new ht8), .inr (SqT.of upd_same), (fun e => st7.free t8 ht8 e), by simp, by simp, fun j x H8 hx kp8 st8 => ?_⟩
  obtain ⟨k8, rfl⟩ : ∃ k, x = V.int k := by
    have hm := List.mem_of_getElem? hx
    simp only [List.mem_cons, List.not_mem_nil, or_false] at hm
    rcases hm with rfl | rfl | rfl | rfl <;> exact ⟨_, rfl⟩
  have a8 := stp_go (a7.trans b8) gs8 kp8 st8
  have hb8 : H8 b = some (.lst bs) := kp8 _ _ nbs (by rw [upd_ne nb8]; exact hb7)
  have gb8 : upd G7 t8 (.tup [.int 0, .int 0, .int 0, .int 4]) b = none := by rw [upd_ne nb8]; exact gb7
  have han8 := b8.gg _ _ han7
  have pr8 := paired_exB b8.gg pr7
  generalize upd G7 t8 (.tup [.int 0, .int 0, .int 0, .int 4]) = G8 at b8 gs8 gb8 han8 a8 pr8
  refine ⟨_, rfl, _, _, rfl, rfl, .inr (by omega), _, _, rfl, rfl, ?_⟩
  refine ⟨s, L, an, ns, sz', _, G8, rfl, st8, a8.gh, gs8, han8, by omega, by omega, hs1, hs2, fun c cs cl G9 H9 hc0 gc9 a9' hc9 prc hcl st9 => ?_⟩
  have a9 := a8.trans a9'
  have cH : H c = none := a8.dm c hc0
  have nbc : b ≠ c := ne_of_none hb8 hc0
  have hb9 : H9 b = some (.lst bs) := a9'.hh b _ nbs hb8
  have gb9 : G9 b = none := a9'.fr b (some_ne hb8) gb8
  have pr9 := paired_exB a9'.gg pr8
  have han9 := a9'.gg _ _ han8
  have a10 := a9.fix cH hc9
  have gb10 : upd G9 c (.lst cs) b = none := by rw [upd_ne nbc]; exact gb9
  have hBc : Bds (upd G9 c (.lst cs)) c cl := ⟨cs, upd_same, paired_exB (Evl.Ex.new gc9) prc⟩
  have han10 := (Evl.Ex.new gc9 (o := .lst cs)) _ _ han9
  have pr10 := paired_exB (Evl.Ex.new gc9 (o := .lst cs)) pr9
  have gs10 : upd G9 c (.lst cs) s = none := a10.fr s (some_ne st.there.choose_spec) gs
  generalize upd G9 c (.lst cs) = G10 at a10 gb10 hBc han10 pr10 gs10
  have hbl := pr10.length
  have hcll := prc.length
  refine ⟨fun σ' H' => ∃ b xs, ∃ es : List Bd, σ' = [some (.ref s), some (.int (m : Nat)), some (.int mo), some (.ref an), some (.int sz'), some (.ref b), some (.int kd), some (.ref c), none] ∧ Stp (· = s) G H G10 H' ∧ H b = none ∧ G10 b = none ∧ H' b = some (.lst xs) ∧ Paired (Tb G10) xs es ∧ es.length ≤ 400 ∧ Strm H' s L, ?_, ?_⟩
  · refine ⟨_, rfl, _, _, rfl, rfl, _, rfl, ?_⟩
    refine ite2 (fun _ => ?_) (fun _ => ⟨b, bs, es, rfl, a10, bH, gb10, hb9, pr10, by omega, st9⟩)
    refine ⟨_, rfl, _, rfl, b, c, _, _, rfl, rfl, hb9, hc9, Nat.le_of_lt (sz _ (by omega)), fun p hp => ?_⟩
    exact ⟨p, bs ++ cs, es ++ cl, rfl, a10.trans (Stp.lay a10.gh hp), a10.dm p hp, Evl.fresh_back a10.gh hp, upd_same, paired_app pr10 (by obtain ⟨cs', h1, h2⟩ := hBc; rw [a10.gh _ _ h1] at hc9; cases hc9; exact h2), by rw [List.length_append]; omega, st9.keep (Evl.Ex.new hp)⟩
  rintro σ' H11 ⟨b, xs, es, rfl, a11, bH, gb, hb, pr, hel, st11⟩
  have nbs : b ≠ s := fun e => st.free b bH e
  have hxl := pr.length
  refine ⟨fun σ' H' => ∃ av xs G', ∃ es : List Bd, σ' = [some (.ref s), some (.int (m : Nat)), some (.int mo), some (.ref an), some (.int sz'), some (.ref b), some (.int kd), some (.ref c), av] ∧ Stp (· = s) G H G' H' ∧ Ex G10 G' ∧ G' b = none ∧ H' b = some (.lst xs) ∧ Paired (Tb G') xs es ∧ es.length ≤ 400 ∧ Strm H' s L, ?_, ?_⟩
  · refine ⟨_, rfl, rfl, _, rfl, ?_⟩
    refine ite2 (fun _ => ?_) (fun _ => ⟨none, xs, G10, es, rfl, a11, Evl.Ex.refl _, gb, hb, pr, hel, st11⟩)
    refine ⟨_, rfl, b, _, rfl, .inl (SqL.of hb), _, _, rfl, rfl, _, rfl, ?_⟩
    refine ite2 (fun hpos => ?_) (fun _ => ⟨none, xs, G10, es, rfl, a11, Evl.Ex.refl _, gb, hb, pr, hel, st11⟩)
    have hpos := of_decide_eq_true hpos
    refine ⟨_, rfl, _, rfl, b, _, rfl, .inl (SqL.of hb), s, L, _, rfl, st11, by omega, by omega, fun d H12 d0 d1 kp12 st12 => ?_⟩
    have a12 := stp_go a11 gs10 kp12 st12
    have hb12 := kp12 _ _ nbs hb
    have hdn : d.toNat < xs.length := by omega
    have hx : xs[d.toNat]? = some (xs.getD d.toNat .non) := by rw [List.getD_eq_getElem?_getD, List.getElem?_eq_getElem hdn]; rfl
    obtain ⟨e, he, r, hr, hr1⟩ := paired_at pr hx
    rw [hr] at hx
    have ha : atI xs d = some (.ref r) := at_of (show d = ((d.toNat : Nat) : Int) by omega) hx
    have hrr := SqT.of (K := K) (a12.gh _ _ hr1)
    have hbb := SqL.of (K := K) hb12
    refine ⟨_, rfl, _, rfl, b, _, _, _, rfl, rfl, hbb, ha, r, _, 0, _, rfl, rfl, hrr, rfl, _, rfl, _, rfl, b, _, _, _, rfl, rfl, hbb, ha, r, _, 1, _, rfl, rfl, hrr, rfl, _, rfl, _, rfl, b, _, _, _, rfl, rfl, hbb, ha, r, _, 2, _, rfl, rfl, hrr, rfl, _, 1, rfl, rfl, ?_⟩
    refine ⟨_, rfl, s, L, _, rfl, st12, by omega, by omega, fun d2 H13 d20 d21 kp13 st13 => ⟨_, _, rfl, rfl, Nat.le_of_lt (sz 3 (by omega)), fun t ht => ?_⟩⟩
    have a13 := stp_go a12 gs10 kp13 st13
    have hb13 := kp13 _ _ nbs hb12
    have nbt : b ≠ t := ne_of_none hb13 ht
    have a14 := a13.trans (Stp.new a13.gh ht (o := .tup [.str e.1, .str e.2.1, .int (e.2.2 - 1 - d2)]))
    have gt : G10 t = none := Evl.fresh_back a13.gh ht
    have hb14 : upd H13 t (.tup [.str e.1, .str e.2.1, .int (e.2.2 - 1 - d2)]) b = some (.lst xs) := by rw [upd_ne nbt]; exact hb13
    refine ⟨_, rfl, _, rfl, b, xs, d, d.toNat, rfl, rfl, hb14, ?_, ?_⟩
    · unfold ixN; rw [if_pos d0, if_pos d1]
    · refine ⟨_, xs.set d.toNat (.ref t), _, es.set d.toNat (e.1, e.2.1, e.2.2 - 1 - d2), rfl, a14.mut (.inl bH) (by rw [upd_ne nbt]; exact gb), Evl.Ex.new gt, (by rw [upd_ne nbt]; exact gb), upd_same, paired_set (e := (e.1, e.2.1, e.2.2 - 1 - d2)) ⟨t, rfl, upd_same⟩ (paired_exB (Evl.Ex.new gt) pr) _, (by rw [List.length_set]; exact hel), ((st13.keep (Evl.Ex.new ht)).mut st bH)⟩
  · rintro σ' H12 ⟨av, xs, G', es, rfl, a12, ex12, gb, hb, pr, hel, st12⟩
    have hxl := pr.length
    refine ⟨_, rfl, _, rfl, _, rfl, s, L, b, xs, rfl, st12, SqL.of hb, nbs, by omega, fun p ys H13 hp0 kp13 st13 hy pm => ?_⟩
    have gs12 := a12.fr s (some_ne st.there.choose_spec) gs
    have a13 := stp_go a12 gs12 kp13 st13
    have hpH := a12.dm p hp0
    obtain ⟨es', pre, hel'⟩ := paired_perm pr pm
    have a14 := a13.fix hpH hy
    have gp : G' p = none := Evl.fresh_back a12.gh hp0
    refine ⟨_, rfl, Nat.le_of_lt (sz 3 (by omega)), fun t ht => ?_⟩
    have a15 := a14.trans (Stp.new a14.gh ht (o := .lst [.ref an, .ref p, .ref c]))
    have gt : upd G' p (.lst ys) t = none := Evl.fresh_back a14.gh ht
    have e1 : Ex G' (upd (upd G' p (.lst ys)) t (.lst [.ref an, .ref p, .ref c])) := (Evl.Ex.new gp).trans (Evl.Ex.new gt)
    refine q t an p c ns es' cl _ _ a15 upd_same (e1 _ _ (ex12 _ _ han10)) ?_ ((hBc.ex ex12).ex e1) hnl (by omega) (by omega) (st13.keep (Evl.Ex.new ht))
    exact ⟨ys, (Evl.Ex.new gt) _ _ upd_same, paired_exB e1 pre⟩
end
end K43
namespace K43
open PySem PySem.Spec PyProof.Rows L2 Hx Hd M43
open Evl (pss_cut tCut ex_l ex_t)
theorem cut_to {xs : List V} {i : Nat} (h : i ≤ xs.length) : cutV xs none (some (i : Int)) = xs.take i := by
  unfold cutV
  rw [HT.sIx_none, HT.sIx_nat, List.drop_zero, Nat.sub_zero, Nat.min_eq_left h]
theorem cut_from {xs : List V} {i : Nat} (h : i ≤ xs.length) : cutV xs (some (i : Int)) none = xs.drop i := by
  unfold cutV
  rw [HT.sIx_none, HT.sIx_nat, Nat.min_eq_left h]
  exact List.take_of_length_le (by rw [List.length_drop]; exact Nat.le_refl _)
/-- a comprehension with a test, plain values: nothing but what a turn leaves behind is laid -/
theorem lcF {K : PySem.W.Frag} {H : Hp} {σ : L2.St} {g : TG} {tt : TT} {te : TE} {vs : List Nat} {J : It} {n : Nat} {Wg : Hp → Prop} {Y : Nat → Hp → V → Hp → Prop} (W : Walk J n Wg Y) (hWg : ∀ H', Ex H H' → Wg H') (hn : n ≤ 1000000) (f : Nat → Bool) (v : Nat → V) (σt : Nat → L2.St)
    (hg : ∀ i x G' H' H'', i < n → Stp NoM H H G' H' → Y i H' x H'' → ∀ Q : L2.St → Hp → Prop, (∀ G2 H2, Stp NoM G' H' G2 H2 → Q (σt i) H2) → g x (wipe σ vs) H'' Q) (hw : ∀ i, i < n → wipe (σt i) vs = wipe σ vs)
    (ht : ∀ i H', i < n → Ex H H' → ∀ Q : Bool → Hp → Prop, (∀ H2, Ex H' H2 → Q (f i) H2) → tt (σt i) H' Q)
    (he : ∀ i H', i < n → f i = true → Ex H H' → ∀ Q : VK, (∀ H2, Ex H' H2 → Q (v i) H2) → te (σt i) H' Q) {D : Addr} (hD : H D = none) {Qd : Hp → Prop}
    (hd : ∀ H', Ex H H' → SqL K H' D (((List.range n).filter f).map v) → H' D = some (.lst (((List.range n).filter f).map v)) → Qd H') :
    ∃ W : Nat → Nat → Hp → Prop, (∃ m, W 0 m (upd H D (.lst []))) ∧ ∀ i m H, W i m H →
      (J.stop i H ∧ Qd H) ∨ (J.go i H ∧ ∃ Nx : Hp → Prop, (∀ H', Nx H' → ∃ m', m' < m ∧ W (i + 1) m' H') ∧ ∀ x H', J.yld i H x H' → g x (wipe σ vs) H' fun σ2 H2 => wipe σ2 vs = wipe σ vs ∧ tt σ2 H2 fun b H3 =>
        if b = true then te σ2 H3 fun y H4 => ∃ acc, H4 D = some (.lst acc) ∧ acc.length < sizeLine ∧ Nx (upd H4 D (.lst (acc ++ [y]))) else Nx H3) := by
  refine lcW (M := NoM) W (Evl.Ex.refl H) hWg hn (fun i y _ => y = v i) (fun _ _ _ _ _ h => h) f σt hg hw (fun i G' H' hi a' Q q => ht i H' hi (a'.gg.trans a'.gh) Q fun H2 e => q G' H2 (Stp.of a'.gh e))
    (fun i G' H' hi hf a' Q q => he i H' hi hf (a'.gg.trans a'.gh) Q fun H2 e => q _ G' H2 (Stp.of a'.gh e) rfl) (fun _ _ h => h) hD (fun ys G' H' a' gD hl' hsel => ?_)
  rw [sel_flat hsel] at hl'
  exact hd H' (a'.gg.trans a'.gh) (SqL.of hl') hl'
theorem filt_map {α β : Type} (l : List α) (d : α) (p : α → Bool) (v : α → β) : ((List.range l.length).filter fun i => p (l.getD i d)).map (fun i => v (l.getD i d)) = (l.filter p).map v := by
  have e := range_map l d (fun x => x)
  rw [List.map_id'] at e
  conv => rhs; rw [← e, List.filter_map, List.map_map]
  rfl
theorem filt_len {α : Type} (l : List α) (d : α) (p : α → Bool) : ((List.range l.length).filter fun i => p (l.getD i d)).length = (l.filter p).length := by
  have e := congrArg List.length (filt_map l d p (fun x => x))
  simpa using e
theorem any_pos {α : Type} (l : List α) (p : α → Bool) : decide ((0 : Int) < ((l.filter p).length : Int)) = l.any p := by
  rw [Bool.eq_iff_iff, decide_eq_true_iff, List.any_eq_true]
  constructor
  · intro h
    obtain ⟨x, hx⟩ := List.exists_mem_of_length_pos (show 0 < (l.filter p).length by omega)
    exact ⟨x, List.mem_filter.mp hx⟩
  · rintro ⟨x, hx, hp⟩
    have := List.length_pos_of_mem (List.mem_filter.mpr ⟨hx, hp⟩)
    omega
theorem any_zero {α : Type} (l : List α) (p : α → Bool) : decide (V.int ((l.filter p).length : Nat) = V.int 0) = !l.any p := by
  rw [← any_pos, Bool.eq_iff_iff, decide_eq_true_iff]
  constructor
  · intro h
    injection h with h
    rw [decide_eq_false (show ¬ (0 : Int) < ((l.filter p).length : Int) by omega)]; rfl
  · intro h
    have : ¬ (0 : Int) < ((l.filter p).length : Int) := by simpa using h
    rw [show (((l.filter p).length : Nat) : Int) = 0 by omega]
/-- each one once -/
def uniq (l : List Str) : List Str := ((List.range l.length).filter fun i => !decide (l.getD i Str.empty ∈ l.take i)).map fun i => l.getD i Str.empty
theorem uniq_snoc (l : List Str) (x : Str) : uniq (l ++ [x]) = uniq l ++ if x ∈ l then [] else [x] := by
  unfold uniq
  rw [List.length_append, List.length_singleton, List.range_succ, List.filter_append, List.map_append]
  congr 1
  · have e : (List.range l.length).filter (fun i => !decide ((l ++ [x]).getD i Str.empty ∈ (l ++ [x]).take i)) = (List.range l.length).filter fun i => !decide (l.getD i Str.empty ∈ l.take i) := by
      refine List.filter_congr fun i hi => ?_
      have hi := List.mem_range.mp hi
      rw [List.getD_eq_getElem?_getD, List.getElem?_append_left hi, ← List.getD_eq_getElem?_getD, List.take_append_of_le_length (Nat.le_of_lt hi)]
    rw [e]
    refine List.map_congr_left fun i hi => ?_
    have hi := List.mem_range.mp (List.mem_filter.mp hi).1
    rw [List.getD_eq_getElem?_getD, List.getElem?_append_left hi, ← List.getD_eq_getElem?_getD]
  · have e1 : (l ++ [x]).getD l.length Str.empty = x := by rw [List.getD_eq_getElem?_getD]; simp
    have e2 : (l ++ [x]).take l.length = l := by simp
    rw [List.filter_cons, e1, e2]
    by_cases h : x ∈ l
    · rw [decide_eq_true h, if_pos h]; rfl
    · rw [decide_eq_false h, if_neg h]
      show [(l ++ [x]).getD l.length Str.empty] = [x]
      rw [e1]
theorem uniq_spec (l : List Str) : (uniq l).Nodup ∧ ∀ z, z ∈ uniq l ↔ z ∈ l := by
  have gen : ∀ n (l : List Str), l.length = n → (uniq l).Nodup ∧ ∀ z, z ∈ uniq l ↔ z ∈ l := by
    intro n
    induction n with
    | zero =>
      intro l hl
      rw [List.eq_nil_of_length_eq_zero hl]
      exact ⟨List.nodup_nil, fun z => by simp [uniq]⟩
    | succ n ih =>
      intro l hl
      obtain ⟨l', x, rfl⟩ : ∃ l' x, l = l' ++ [x] := ⟨l.dropLast, l.getLast (by intro h; rw [h] at hl; cases hl), (List.dropLast_concat_getLast _).symm⟩
      obtain ⟨h1, h2⟩ := ih l' (by rw [List.length_append] at hl; simpa using hl)
      rw [uniq_snoc]
      by_cases h : x ∈ l'
      · rw [if_pos h, List.append_nil]
        refine ⟨h1, fun z => ?_⟩
        rw [h2, List.mem_append, List.mem_singleton]
        exact ⟨.inl, fun | .inl h => h | .inr e => e ▸ h⟩
      · rw [if_neg h]
        refine ⟨List.nodup_append.mpr ⟨h1, List.nodup_cons.mpr ⟨List.not_mem_nil, List.nodup_nil⟩, fun a ha b hb => ?_⟩, fun z => by rw [List.mem_append, List.mem_append, h2]⟩
        rw [List.mem_singleton.mp hb]
        exact fun e => h (e ▸ (h2 a).mp ha)
  exact gen _ l rfl
section
variable {P : Program} {w : World} {K : PySem.W.Frag} {mg : Str → Option Value} {base : Heap}
def spInB : Sp := fun vs H Q _ => ∃ a es, vs = [.ref a] ∧ Bds H a es ∧ es.length ≤ 100000 ∧ ∀ p H2, H p = none → Ex H H2 → H2 p = some (.lst ((nms es).map V.str)) → Q (.ref p) H2
abbrev N_law_in_bounds : List Str := ["bounds", "found", "one", "other", "k", "name", "at"]
theorem sc_law_in_bounds : FnScope N_law_in_bounds ["bounds"] (defScope (top 56)) := ⟨rfl, rfl, rfl, by decide +kernel, rfl, by decide +kernel, by decide +kernel⟩
theorem ok_inb (T : Txt K mg) : Cal P w K mg base CX0 1 "_law_in_bounds" ["bounds"] spInB := by
  refine mkCal T.g__law_in_bounds T.d__law_in_bounds sc_law_in_bounds (fun _ _ _ _ _ _ us hl => match us, hl with | [_], _ => rfl) (fun vs H Q E h => ?_) fun cdv A outer s0 H vs Q E hr h => ?_
  · obtain ⟨x, d, rfl, _⟩ := h; rfl
  obtain ⟨a, es, rfl, ⟨xs, hx, pr⟩, hn, q⟩ := h
  refine ⟨_, (pss_cons (ps_set (i := 1) sc_law_in_bounds.nd rfl (Or.inr rfl) (pe_lst pa_nil))
      (pss_cons (ps_for PassesOwn.never rfl (piL (K := K) (pv 0)) (pgTup (K := K) rfl (pgs_cons (pg_name (i := 2) sc_law_in_bounds.nd rfl (Or.inl rfl)) (pgs_cons (pg_name (i := 3) sc_law_in_bounds.nd rfl (Or.inl rfl)) (pgs_cons (pg_name (i := 4) sc_law_in_bounds.nd rfl (Or.inl rfl)) pgs_nil)))) (pss_one (ps_set (i := 1) sc_law_in_bounds.nd rfl (Or.inr rfl) (pe_op op_cat (pv 1) (pe_lc (own := [("name", 5)]) (g := gName 5) rfl sc_law_in_bounds.nd (piT (K := K) (pe_tup (pa_cons (pv 2) (pa_cons (pv 3) pa_nil)))) (blkOk_by (N := N_law_in_bounds) (sc := defScope (top 56)) (by decide +kernel)) (fun _ _ _ _ _ => (pg_name (i := 5) sc_law_in_bounds.nd rfl (Or.inl rfl))) (fun _ _ _ _ _ => pts_one (pt_cmpR (ninL (K := K)) (pv 5) (pv 1) (by rfl))) (fun _ _ _ _ _ => (pv 5)))))))
      (pss_one (ps_ret (pe_callB (sortL hr.units) (by rfl) T.n_sorted (by decide +kernel) (pa_cons (pe_lc (own := [("at", 6)]) (g := gName 6) rfl sc_law_in_bounds.nd (pi_range1 (by rfl) T.n_range (pa_cons (pe_callB (lenL (K := K)) (by rfl) T.n_len PySem.boot_len (pa_cons (pv 1) pa_nil)) pa_nil)) (blkOk_by (N := N_law_in_bounds) (sc := defScope (top 56)) (by decide +kernel)) (fun _ _ _ _ _ => (pg_name (i := 6) sc_law_in_bounds.nd rfl (Or.inl rfl))) (fun _ _ _ _ _ => pts_one (pt_cmpR (ninL (K := K)) (pe_ix (ixL (K := K)) (pv 1) (pv 6) (fun _ _ => rfl)) (pe_slice (slL (K := K)) (pv 1) po_none (po_some (pv 6))) (by rfl))) (fun _ _ _ _ _ => (pe_ix (ixL (K := K)) (pv 1) (pv 6) (fun _ _ => rfl)))) pa_nil)))))), ?_⟩
  have hxl := pr.length
  refine ⟨Nat.zero_le _, fun f0 hf0 => ?_⟩
  refine ⟨_, rfl, a, rfl, ⟨xs, SqL.of (Evl.Ex.new hf0 _ _ hx)⟩, ?_⟩
  refine for_it walk_list (fun i σ' H' => ∃ f ov tv kv, ∃ fnd : List Str, σ' = [some (.ref a), some (.ref f), ov, tv, kv, none, none] ∧ Ex H H' ∧ H' f = some (.lst (fnd.map V.str)) ∧ fnd.length ≤ 2 * i ∧ ∀ z, z ∈ fnd ↔ ∃ e ∈ es.take i, z = e.1 ∨ z = e.2.1)
    ⟨f0, none, none, none, [], rfl, Evl.Ex.new hf0, upd_same, Nat.zero_le _, fun z => by simp⟩ (fun i σ' H' hi ⟨_, _, _, _, _, _, e', _⟩ => SqL.of (e' _ _ hx)) ?_ ?_
  · rintro i x σ' H' H'' hi ⟨f, ov, tv, kv, fnd, rfl, e', hf, hfl, hfm⟩ ⟨rfl, hy1⟩
    obtain ⟨e, he, r, rfl, hr1⟩ := paired_at pr hy1
    have hr2 := e' _ _ hr1
    refine ⟨r, _, rfl, SqT.of hr2, rfl, _, _, rfl, _, _, rfl, _, _, rfl, rfl, ?_⟩
    refine ⟨_, rfl, _, rfl, _, rfl, Nat.le_of_lt (sz 2 (by omega)), fun t ht => ?_⟩
    refine ⟨t, rfl, ⟨_, SqT.of upd_same⟩, fun D hD => ?_⟩
    have hf1 := (Evl.Ex.new ht (o := .tup [.str e.1, .str e.2.1])) _ _ hf
    refine lcF (K := K) walk_tup (fun H' e => SqT.of (e _ _ upd_same)) (by show 2 ≤ 1000000; decide) (fun j => !decide ([e.1, e.2.1].getD j Str.empty ∈ fnd)) (fun j => .str ([e.1, e.2.1].getD j Str.empty)) (fun j => [some (.ref a), some (.ref f), some (.str e.1), some (.str e.2.1), some (.int e.2.2), some (.str ([e.1, e.2.1].getD j Str.empty)), none])
      (fun j y G' H' H'' hj a' yy Q q => turn_name (σ0 := [some (.ref a), some (.ref f), some (.str e.1), some (.str e.2.1), some (.int e.2.2), none, none]) (j := 5) a' yy (match j, hj with | 0, _ => rfl | 1, _ => rfl) q) (fun _ _ => rfl) (fun j H' hj e Q q => ?_) (fun j H' hj hf e Q q => ⟨_, rfl, q H' (Evl.Ex.refl H')⟩) hD (fun H' e' hl' hl2 => ?_)
    · refine ⟨_, rfl, _, rfl, f, _, rfl, .inl (SqL.of (e _ _ hf1)), rfl, flat_strs fnd, _, rfl, ?_⟩
      rw [inV_str]
      exact q H' (Evl.Ex.refl H')
    · have hfd : (((List.range [V.str e.1, V.str e.2.1].length).filter fun j => !decide ([e.1, e.2.1].getD j Str.empty ∈ fnd)).map fun j => V.str ([e.1, e.2.1].getD j Str.empty)) = ([e.1, e.2.1].filter fun z => !decide (z ∈ fnd)).map V.str := filt_map [e.1, e.2.1] Str.empty (fun z => !decide (z ∈ fnd)) V.str
      rw [hfd] at hl2
      have hlf : ([e.1, e.2.1].filter fun z => !decide (z ∈ fnd)).length ≤ 2 := List.length_filter_le _ _
      refine ⟨f, D, _, _, rfl, rfl, e' _ _ hf1, hl2, (by rw [List.length_map, List.length_map]; exact Nat.le_of_lt (sz _ (by omega))), fun p hp => ?_⟩
      refine ⟨p, _, _, _, fnd ++ [e.1, e.2.1].filter fun z => !decide (z ∈ fnd), rfl, ?_, (by rw [upd_same, List.map_append]), by rw [List.length_append]; omega, fun z => ?_⟩
      · exact (‹Ex H H''›.trans (Evl.Ex.new ht)).trans (e'.trans (Evl.Ex.new hp))
      · rw [List.mem_append, List.mem_filter, List.take_add_one, he]
        simp only [Option.toList_some, List.mem_append, List.mem_singleton, List.mem_cons, List.not_mem_nil, or_false]
        constructor
        · rintro (h0 | ⟨h1, _⟩)
          · obtain ⟨e0, h1, h2⟩ := (hfm z).mp h0
            exact ⟨e0, .inl h1, h2⟩
          · exact ⟨e, .inr rfl, h1⟩
        · rintro ⟨e0, h1 | rfl, h2⟩
          · exact .inl ((hfm z).mpr ⟨e0, h1, h2⟩)
          · by_cases hz : z ∈ fnd
            · exact .inl hz
            · exact .inr ⟨h2, by rw [decide_eq_false hz]; rfl⟩
  · rintro σ' H' ⟨f, ov, tv, kv, fnd, rfl, e', hf, hfl, hfm⟩
    rw [hxl, List.take_length] at hfm
    refine ⟨_, rfl, f, _, rfl, .inl (SqL.of hf), _, rfl, by rw [List.length_map]; omega, by rw [List.length_map]; omega, fun D hD => ?_⟩
    rw [Int.toNat_natCast, List.length_map]
    have g1 : ∀ j, j < fnd.length → (fnd.map V.str)[j]? = some (.str (fnd.getD j Str.empty)) := fun j hj => by
      rw [List.getElem?_map, List.getD_eq_getElem?_getD, List.getElem?_eq_getElem hj]; rfl
    refine lcF (K := K) walk_range (fun _ _ => trivial) (by omega) (fun j => !decide (fnd.getD j Str.empty ∈ fnd.take j)) (fun j => .str (fnd.getD j Str.empty)) (fun j => [some (.ref a), some (.ref f), ov, tv, kv, none, some (.int (j : Nat))])
      (fun j y G' H' H'' hj a' yy Q q => turn_range0 (σ0 := [some (.ref a), some (.ref f), ov, tv, kv, none, none]) (j := 6) a' yy q) (fun _ _ => rfl) (fun j H' hj e Q q => ?_) (fun j H' hj hf' e Q q => ?_) hD (fun H' e2 hl' hl2 => ?_)
    · have hff := SqL.of (K := K) (e _ _ hf)
      refine ⟨_, rfl, _, rfl, f, _, _, _, rfl, rfl, hff, at_nat (g1 j hj), _, rfl, _, rfl, _, rfl, f, _, rfl, hff, fun p hp => ?_⟩
      rw [cut_to (by rw [List.length_map]; omega), ← List.map_take]
      refine ⟨p, _, rfl, .inl (SqL.of upd_same), rfl, flat_strs _, _, rfl, ?_⟩
      rw [inV_str]
      exact q _ (Evl.Ex.new hp)
    · exact ⟨_, rfl, _, rfl, f, _, _, _, rfl, rfl, SqL.of (e _ _ hf), at_nat (g1 j hj), q H' (Evl.Ex.refl H')⟩
    · have hu : (((List.range fnd.length).filter fun j => !decide (fnd.getD j Str.empty ∈ fnd.take j)).map fun j => V.str (fnd.getD j Str.empty)) = (uniq fnd).map V.str := by unfold uniq; rw [List.map_map]; rfl
      rw [hu] at hl2
      obtain ⟨u1, u2⟩ := uniq_spec fnd
      refine ⟨D, uniq fnd, rfl, hl2, fun p hp => ?_⟩
      have hm : (uniq fnd).mergeSort leS = nms es := nms_of u1 fun z => by rw [u2, hfm]
      rw [hm]
      exact q p _ (Evl.fresh_back (e'.trans e2) hp) ((e'.trans e2).trans (Evl.Ex.new hp)) upd_same
end
end K43
namespace K43
open PySem PySem.Spec PyProof.Rows L2 Hx Hd M43
open Evl (pss_cut tCut ex_l ex_t)
section
variable {P : Program} {w : World} {K : PySem.W.Frag} {mg : Str → Option Value} {base : Heap}
def spLSum (K : PySem.W.Frag) : Sp := fun vs H Q _ => ∃ a es v d x0 y0, vs = [.ref a, v, x0, y0] ∧ Bds H a es ∧ es.length ≤ 100000 ∧ Dt H v d ∧
  ((∃ x y, x0 = .str x ∧ y0 = .str y ∧ ∀ H2, Ex H H2 → Q (oInt (sumJ es d x y)) H2) ∨ (∃ d0 r, d = .tuple (d0 :: r) ∧ isBd d0 = false ∧ ∀ H2, Ex H H2 → Q .non H2))
abbrev N_law_sum_of : List Str := ["bounds", "way", "one", "other", "total", "at", "bound"]
theorem sc_law_sum_of : FnScope N_law_sum_of ["bounds", "way", "one", "other"] (defScope (top 60)) := ⟨rfl, rfl, rfl, by decide +kernel, rfl, by decide +kernel, by decide +kernel⟩
theorem ok_lsum (T : Txt K mg) (C__law_is_row : Cal P w K mg base CX0 1 "_law_is_row" ["value", "kind", "many"] (spRow K)) (C__law_number : Cal P w K mg base CX0 1 "_law_number" ["value", "low", "high"] (spLNum K)) : Cal P w K mg base CX0 2 "_law_sum_of" ["bounds", "way", "one", "other"] (spLSum K) := by
  refine mkCal T.g__law_sum_of T.d__law_sum_of sc_law_sum_of (fun _ _ _ _ _ _ us hl => match us, hl with | [_, _, _, _], _ => rfl) (fun vs H Q E h => ?_) fun cdv A outer s0 H vs Q E hr h => ?_
  · obtain ⟨_, _, _, _, _, _, rfl, _⟩ := h; rfl
  obtain ⟨a, es, v, d, x0, y0, rfl, ⟨xs, hx, pr⟩, hes, hd, q⟩ := h
  refine ⟨_, (pss_cons (ps_if (pt_not (pt_val (pe_callB (isiR (K := K)) (by rfl) T.n_isinstance (by decide +kernel) (pa_cons (pv 1) (pa_cons (pe_bltn (v := .ty "tuple") rfl T.n_tuple (by decide +kernel) rfl) pa_nil))))) (pss_one (ps_ret pe_non)) pss_nil)
      (pss_cons (ps_set (i := 4) sc_law_sum_of.nd rfl (Or.inl rfl) pe_int)
      (pss_cons (ps_set (i := 5) sc_law_sum_of.nd rfl (Or.inl rfl) (pv 2))
      (pss_cons (ps_for PassesOwn.never rfl (piT (K := K) (pv 1)) (pg_name (i := 6) sc_law_sum_of.nd rfl (Or.inl rfl)) (pss_cut (ps_if (PW.pt (pw_or (pt_not (pt_val (pe_cal (E := E0) C__law_is_row (hr.mono (by decide)) pass0 (pa_cons (pv 6) (pa_cons pe_str (pa_cons pe_int pa_nil)))))) (pw_or (pt_not (pt_val (pe_callB (isiR (K := K)) (by rfl) T.n_isinstance (by decide +kernel) (pa_cons (pe_ix (ixT (K := K)) (pv 6) pe_int (fun _ _ => rfl)) (pa_cons (pe_bltn (v := .ty "str") rfl T.n_str (by decide +kernel) rfl) pa_nil))))) (pw_or1 (pt_not (pt_val (pe_callB (isiR (K := K)) (by rfl) T.n_isinstance (by decide +kernel) (pa_cons (pe_ix (ixT (K := K)) (pv 6) pe_int (fun _ _ => rfl)) (pa_cons (pe_bltn (v := .ty "str") rfl T.n_str (by decide +kernel) rfl) pa_nil))))))))) (pss_one (ps_ret pe_non)) pss_nil)
      (pss_cut (ps_if (PW.pt (pw_or (pt_not (pt_val (pe_cal (E := E0) C__law_number (hr.mono (by decide)) pass0 (pa_cons (pe_ix (ixT (K := K)) (pv 6) pe_int (fun _ _ => rfl)) (pa_cons (pe_ix (ixT (K := K)) (pv 6) pe_int (fun _ _ => rfl)) (pa_cons (pe_ix (ixT (K := K)) (pv 6) pe_int (fun _ _ => rfl)) pa_nil)))))) (pw_or (pt_cmpR (op_notinB (hu65 hr)) (pv 6) (pv 0) (by first | exact nomark _ | rfl)) (pw_or1 (pt_cmpR op_ne (pe_ix (ixT (K := K)) (pv 6) pe_int (fun _ _ => rfl)) (pv 5) (nomark _)))))) (pss_one (ps_ret pe_non)) pss_nil)
      (pss_cons (ps_set (i := 4) sc_law_sum_of.nd rfl (Or.inl rfl) (pe_op op_add (pv 4) (pe_ix (ixT (K := K)) (pv 6) pe_int (fun _ _ => rfl))))
      (pss_one (ps_set (i := 5) sc_law_sum_of.nd rfl (Or.inl rfl) (pe_ix (ixT (K := K)) (pv 6) pe_int (fun _ _ => rfl))))))))
      (pss_one (ps_ret (pe_ifExp (pt_cmpR op_eq (pv 5) (pv 3) (nomark _)) (pv 4) pe_non))))))), ?_⟩
  refine ⟨_, rfl, v, _, _, _, _, rfl, .ty "tuple", ty_dt hd, kit_ty (kit_tup d), _, rfl, ?_⟩
  cases h1 : isT "tuple" d with
  | false =>
    rcases q with ⟨x, y, rfl, rfl, q⟩ | ⟨d0, r, rfl, _⟩
    · have e : sumJ es d x y = none := by cases d <;> first | rfl | (exfalso; revert h1; simp [isT])
      rw [e] at q
      exact q H (Evl.Ex.refl H)
    · cases h1
  | true =>
  obtain ⟨ds, rfl⟩ := isT_tup h1
  obtain ⟨b, ys, rfl, hb, hys⟩ := dt_tup hd
  have hyl := dta_len hys
  refine ⟨_, rfl, ?_⟩
  refine ⟨_, rfl, b, rfl, ⟨ys, SqT.of hb⟩, ?_⟩
  refine for_it walk_tup (fun i σ' H' => ∃ bv tot at_, σ' = [some (.ref a), some (.ref b), some x0, some y0, some (.int tot), some at_, bv] ∧ Ex H H' ∧
      ((∃ x y z, x0 = .str x ∧ y0 = .str y ∧ at_ = .str z ∧ (∀ H2, Ex H H2 → Q (oInt (sumJ es (.tuple ds) x y)) H2) ∧ gone es x ds = (gone es z (ds.drop i)).map (fun q => (q.1, tot + q.2))) ∨ (i = 0 ∧ ∃ d0 r, ds = d0 :: r ∧ isBd d0 = false ∧ ∀ H2, Ex H H2 → Q .non H2)))
    ⟨none, 0, x0, rfl, Evl.Ex.refl _, by
      rcases q with ⟨x, y, rfl, rfl, q⟩ | ⟨d0, r, e, hb, q⟩
      · refine .inl ⟨x, y, x, rfl, rfl, rfl, q, ?_⟩
        rw [List.drop_zero]
        cases gone es x ds with
        | none => rfl
        | some q => simp
      · refine .inr ⟨rfl, d0, r, ?_, hb, q⟩
        injection e⟩ (fun i σ' H' hi ⟨_, _, _, _, e', _⟩ => SqT.of (e' _ _ hb)) ?_ ?_
  · rintro i u σ' H' H'' hi ⟨bv, tot, at_, rfl, e', hg⟩ ⟨rfl, hy1⟩
    obtain ⟨dd, hdd, hdt⟩ := dta_get hys hy1
    have hdt' := ex_dt e' _ _ hdt
    have hdrop : ds.drop i = dd :: ds.drop (i + 1) := by
      have hi' : i < ds.length := (List.getElem?_eq_some_iff.mp hdd).1
      rw [List.drop_eq_getElem_cons hi']
      rw [List.getElem?_eq_getElem hi'] at hdd
      rw [Option.some.inj hdd]
    have no : isBd dd = false → ∀ H2, Ex H H2 → Q .non H2 := fun hbd => by
      rcases hg with ⟨x, y, z, rfl, rfl, rfl, q, hg⟩ | ⟨_, d0, r, _, _, q⟩
      · rw [hdrop, gone_bad hbd] at hg
        have e : sumJ es (.tuple ds) x y = none := by rw [sumJ_tup, hg]; rfl
        rw [e] at q; exact q
      · exact q
    refine ⟨fun σ' H' => (∃ z1 z2 d3, dd = .tuple [.str z1, .str z2, d3]) ∧ σ' = [some (.ref a), some (.ref b), some x0, some y0, some (.int tot), some at_, some u] ∧ Ex H H', ?_, ?_⟩
    · refine ⟨_, rfl, u, _, 3, dd, rfl, hdt', .inl ⟨rfl, _, rfl, ?_⟩⟩
      cases hrow : isTupN 3 dd with
      | false =>
        have e : isBd dd = false := by
          cases hbd : isBd dd with
          | false => rfl
          | true =>
            obtain ⟨e, rfl⟩ := isBd_enc hbd
            cases hrow
        exact no e _ e'
      | true =>
        obtain ⟨ds3, rfl⟩ : ∃ ds, dd = .tuple ds := by cases dd <;> first | exact ⟨_, rfl⟩ | cases hrow
        have hl3 : ds3.length = 3 := by have := of_decide_eq_true hrow; omega
        obtain ⟨d1, d2, d3, rfl⟩ : ∃ d1 d2 d3, ds3 = [d1, d2, d3] := match ds3, hl3 with | [d1, d2, d3], _ => ⟨d1, d2, d3, rfl⟩
        obtain ⟨r, us, rfl, hr1, hu⟩ := dt_tup hdt'
        cases hu with
        | cons g1 hu => cases hu with
          | cons g2 hu => cases hu with
            | cons g3 hu =>
              cases hu
              refine ⟨_, rfl, r, _, 0, _, rfl, rfl, SqT.of hr1, rfl, _, _, _, _, _, rfl, .ty "str", ty_dt g1, kit_ty (kit_str d1), _, rfl, ?_⟩
              cases hs1 : isT "str" d1 with
              | false => exact no (by cases d1 <;> first | rfl | (exfalso; revert hs1; simp [isT])) _ e'
              | true =>
                obtain ⟨z1, rfl⟩ := isT_str hs1
                refine ⟨_, rfl, r, _, 1, _, rfl, rfl, SqT.of hr1, rfl, _, _, _, _, _, rfl, .ty "str", ty_dt g2, kit_ty (kit_str d2), _, rfl, ?_⟩
                cases hs2 : isT "str" d2 with
                | false => exact no (by cases d2 <;> first | rfl | (exfalso; revert hs2; simp [isT])) _ e'
                | true =>
                  obtain ⟨z2, rfl⟩ := isT_str hs2
                  exact ⟨⟨z1, z2, d3, rfl⟩, rfl, e'⟩
    rintro σ' H3 ⟨⟨z1, z2, d3, rfl⟩, rfl, e3⟩
    obtain ⟨r, us, rfl, hr1, hu⟩ := dt_tup (ex_dt e3 _ _ hdt)
    cases hu with
    | cons g1 hu => cases hu with
      | cons g2 hu => cases hu with
        | cons g3 hu =>
          cases hu
          cases g1; cases g2
          refine ⟨fun σ' H' => (∃ k, d3 = .int k ∧ (z1, z2, k) ∈ es ∧ at_ = .str z1) ∧ σ' = [some (.ref a), some (.ref b), some x0, some y0, some (.int tot), some at_, some (.ref r)] ∧ Ex H H' ∧ H3 = H', ?_, ?_⟩
          · have hrr := SqT.of (K := K) hr1
            refine ⟨_, rfl, r, _, 2, _, rfl, rfl, hrr, rfl, _, rfl, r, _, 2, _, rfl, rfl, hrr, rfl, _, rfl, r, _, 2, _, rfl, rfl, hrr, rfl, _, _, _, d3, rfl, g3, (fun hn => ⟨_, rfl, no (by cases d3 <;> first | rfl | cases hn) _ e3⟩), fun k hk => ?_⟩
            subst hk
            cases g3
            refine ⟨k, k, rfl, rfl, _, rfl, ?_⟩
            rw [decide_eq_true (Int.le_refl k)]
            refine ite2 (fun h => absurd h (by decide)) (fun _ => ?_)
            obtain ⟨xs3, hx3, pr3⟩ := (show Bds H3 a es from Bds.ex e3 ⟨xs, hx, pr⟩)
            refine ⟨_, rfl, _, rfl, a, xs3, es, (z1, z2, k), rfl, .inl hx3, pr3, ⟨r, rfl, hr1⟩, _, rfl, ?_⟩
            by_cases hin : (z1, z2, k) ∈ es
            · rw [decide_eq_true hin]
              refine ite2 (fun h => absurd h (by decide)) (fun _ => ?_)
              rcases hg with ⟨x, y, z, rfl, rfl, rfl, q, hg⟩ | ⟨h0, d0, r', hds, hb0, q⟩
              · refine ⟨_, rfl, r, _, 0, _, rfl, rfl, hrr, rfl, _, rfl, rfl, _, rfl, ?_⟩
                by_cases hz : z1 = z
                · subst hz
                  refine ite2 (fun h => absurd h (by simp)) (fun _ => ⟨⟨k, rfl, hin, rfl⟩, rfl, e3, rfl⟩)
                · refine ite2 (fun _ => ?_) (fun h => ?_)
                  · have e : sumJ es (.tuple ds) x y = none := by rw [sumJ_tup, hg, hdrop, show (.tuple [.str z1, .str z2, .int k] : PyData) = encB (z1, z2, k) from rfl, gone_bd, if_neg fun h => hz h.2]; rfl
                    rw [e] at q
                    exact q _ e3
                  · exfalso
                    refine h ?_
                    show (!decide (V.str z1 = V.str z)) = true
                    rw [decide_eq_false fun e => hz (by injection e)]; rfl
              · exfalso
                rw [h0, hds] at hdd
                cases hdd
                cases hb0
            · rw [decide_eq_false hin]
              refine ite2 (fun _ => ?_) (fun h => absurd h (by decide))
              rcases hg with ⟨x, y, z, rfl, rfl, rfl, q, hg⟩ | ⟨h0, d0, r', hds, hb0, q⟩
              · have e : sumJ es (.tuple ds) x y = none := by rw [sumJ_tup, hg, hdrop, show (.tuple [.str z1, .str z2, .int k] : PyData) = encB (z1, z2, k) from rfl, gone_bd, if_neg fun z => hin z.1]; rfl
                rw [e] at q
                exact q _ e3
              · exact q _ e3
          · rintro σ' H4 ⟨⟨k, rfl, hin, rfl⟩, rfl, e4, rfl⟩
            cases g3
            refine ⟨_, rfl, _, rfl, r, _, 2, _, rfl, rfl, SqT.of hr1, rfl, _, _, rfl, rfl, ?_⟩
            refine ⟨_, rfl, r, _, 1, _, rfl, rfl, SqT.of hr1, rfl, ?_⟩
            refine ⟨_, _, _, rfl, e4, ?_⟩
            rcases hg with ⟨x, y, z, rfl, rfl, hz, q, hg⟩ | ⟨h0, d0, r', hds, hb0, q⟩
            · injection hz with hz
              subst hz
              refine .inl ⟨x, y, z2, rfl, rfl, rfl, q, ?_⟩
              rw [hg, hdrop, show (.tuple [.str z1, .str z2, .int k] : PyData) = encB (z1, z2, k) from rfl, gone_bd, if_pos ⟨hin, rfl⟩]
              show Option.map _ (Option.map _ (gone es z2 (ds.drop (i + 1)))) = _
              cases gone es z2 (ds.drop (i + 1)) with
              | none => rfl
              | some q => simp [Int.add_assoc]
            · exfalso
              rw [h0, hds] at hdd
              cases hdd
              cases hb0
  · rintro σ' H' ⟨bv, tot, at_, rfl, e', hg⟩
    rcases hg with ⟨x, y, z, rfl, rfl, rfl, q, hg⟩ | ⟨h0, d0, r, hds, _, _⟩
    · rw [hyl, List.drop_length] at hg
      have hg : gone es x ds = some (z, tot) := by rw [hg]; simp [gone]
      have hs : sumJ es (.tuple ds) x y = if z = y then some tot else none := by rw [sumJ_tup, hg]; rfl
      rw [hs] at q
      refine ⟨_, rfl, _, rfl, rfl, _, rfl, ?_⟩
      by_cases hxy : z = y
      · rw [if_pos hxy] at q
        refine ite2 (fun _ => ⟨_, rfl, q _ e'⟩) (fun h => absurd h (by simp [hxy]))
      · rw [if_neg hxy] at q
        refine ite2 (fun h => absurd h (by simp [hxy])) (fun _ => q _ e')
    · rw [hyl, hds] at h0
      cases h0
end
end K43
namespace K43
open PySem PySem.Spec PyProof.Rows L2 Hx Hd M43
open Evl (pss_cut tCut ex_l ex_t)
theorem ent_look {kvs : List (Key × V)} {ks : List (PyData × PyData)} (h : DKV kvs ks) (z : Str) (hs : (valV kvs (Sum.inr z)).isSome = false) : entNum ks z = false := by
  rcases dkv_look h z with ⟨e1, e2⟩ | ⟨v, d, e1, e2, f⟩
  · unfold entNum; rw [e2]
  · rw [e1] at hs; cases hs
section
variable {P : Program} {w : World} {K : PySem.W.Frag} {mg : Str → Option Value} {base : Heap}
abbrev N_law_ring_right : List Str := ["bounds", "value", "total"]
theorem sc_law_ring_right : FnScope N_law_ring_right ["bounds", "value"] (defScope (top 61)) := ⟨rfl, rfl, rfl, by decide +kernel, rfl, by decide +kernel, by decide +kernel⟩
theorem ok_lring (T : Txt K mg) (C__law_is_row : Cal P w K mg base CX0 1 "_law_is_row" ["value", "kind", "many"] (spRow K)) (C__law_sum_of : Cal P w K mg base CX0 2 "_law_sum_of" ["bounds", "way", "one", "other"] (spLSum K)) : Cal P w K mg base CX0 3 "_law_ring_right" ["bounds", "value"] (spIsRing K) := by
  refine mkCal T.g__law_ring_right T.d__law_ring_right sc_law_ring_right (fun _ _ _ _ _ _ us hl => match us, hl with | [_, _], _ => rfl) (fun vs H Q E h => ?_) fun cdv A outer s0 H vs Q E hr h => ?_
  · obtain ⟨_, _, _, _, rfl, _⟩ := h; rfl
  obtain ⟨a, es, v, d, rfl, hb, hes, hd, q⟩ := h
  refine ⟨_, (pss_cut (ps_if (PW.pt (pw_or (pt_not (pt_val (pe_callB (isiR (K := K)) (by rfl) T.n_isinstance (by decide +kernel) (pa_cons (pv 1) (pa_cons (pe_bltn (v := .ty "tuple") rfl T.n_tuple (by decide +kernel) rfl) pa_nil))))) (pw_or (pt_cmpR op_eq (pe_callB (lenL (K := K)) (by rfl) T.n_len PySem.boot_len (pa_cons (pv 1) pa_nil)) pe_int (nomark _)) (pw_or1 (pt_not (pt_val (pe_cal (E := E0) C__law_is_row (hr.mono (by decide)) pass0 (pa_cons (pe_ix (ixT (K := K)) (pv 1) pe_int (fun _ _ => rfl)) (pa_cons pe_str (pa_cons pe_int pa_nil)))))))))) (pss_one (ps_ret pe_bl)) pss_nil)
      (pss_cons (ps_set (i := 2) sc_law_ring_right.nd rfl (Or.inl rfl) (pe_cal (E := E0) C__law_sum_of (hr.mono (by decide)) pass0 (pa_cons (pv 0) (pa_cons (pv 1) (pa_cons (pe_ix (ixT (K := K)) (pe_ix (ixT (K := K)) (pv 1) pe_int (fun _ _ => rfl)) pe_int (fun _ _ => rfl)) (pa_cons (pe_ix (ixT (K := K)) (pe_ix (ixT (K := K)) (pv 1) pe_int (fun _ _ => rfl)) pe_int (fun _ _ => rfl)) pa_nil))))))
      (pss_one (ps_ret (pe_and (pe_cmpR op_notN (pv 2) pe_non (nomark _)) (pe_one (pe_cmpR op_lt (pv 2) pe_int (nomark _)))))))), ?_⟩
  refine ⟨fun σ' H' => (∃ d1 d2 d3 r, d = .tuple (.tuple [d1, d2, d3] :: r)) ∧ σ' = [some (.ref a), some v, none] ∧ H = H', ?_, ?_⟩
  · refine ⟨_, rfl, v, _, _, _, _, rfl, .ty "tuple", ty_dt hd, kit_ty (kit_tup d), _, rfl, ?_⟩
    cases h1 : isT "tuple" d with
    | false =>
      have e : rngJ es d = false := by cases d <;> first | rfl | (exfalso; revert h1; simp [isT])
      rw [e] at q
      exact q H (Evl.Ex.refl H)
    | true =>
      obtain ⟨ds, rfl⟩ := isT_tup h1
      obtain ⟨b, ys, rfl, hs, hy⟩ := dt_tup hd
      have hl := dta_len hy
      refine ⟨_, rfl, b, ys, rfl, .inr (SqT.of hs), rfl, _, rfl, ?_⟩
      cases hy with
      | nil => exact q H (Evl.Ex.refl H)
      | cons g1 gr =>
        rename_i v0 vr d0 r
        refine ite2 (fun h => absurd h (by simp; omega)) (fun _ => ?_)
        refine ⟨_, rfl, b, _, 0, _, rfl, rfl, SqT.of hs, at_of (show (0 : Int) = ((0 : Nat) : Int) from rfl) rfl, v0, _, 3, d0, rfl, g1, .inl ⟨rfl, _, rfl, ?_⟩⟩
        cases hrow : isTupN 3 d0 with
        | false =>
          have e : rngJ es (.tuple (d0 :: r)) = false := by
            have hb0 : isBd d0 = false := by
              cases hbd : isBd d0 with
              | false => rfl
              | true =>
                obtain ⟨e, rfl⟩ := isBd_enc hbd
                cases hrow
            show (isBd d0 && _) = false; rw [hb0]; rfl
          rw [e] at q
          exact q H (Evl.Ex.refl H)
        | true =>
          obtain ⟨ds3, rfl⟩ : ∃ ds, d0 = .tuple ds := by cases d0 <;> first | exact ⟨_, rfl⟩ | cases hrow
          have hl3 : ds3.length = 3 := by have := of_decide_eq_true hrow; omega
          obtain ⟨d1, d2, d3, rfl⟩ : ∃ d1 d2 d3, ds3 = [d1, d2, d3] := match ds3, hl3 with | [d1, d2, d3], _ => ⟨d1, d2, d3, rfl⟩
          exact ⟨⟨d1, d2, d3, r, rfl⟩, rfl, rfl⟩
  · rintro σ' H' ⟨⟨d1, d2, d3, r, rfl⟩, rfl, rfl⟩
    obtain ⟨b, ys, rfl, hs, hy⟩ := dt_tup hd
    cases hy with
    | cons g1 gr =>
      obtain ⟨r0, us, rfl, hr0, hu⟩ := dt_tup g1
      cases hu with
      | cons u1 hu =>
        have a0 : ∀ (v : V) vs, atI (v :: vs) 0 = some v := fun v vs => at_of (show (0 : Int) = ((0 : Nat) : Int) from rfl) rfl
        refine ⟨_, rfl, _, rfl, _, rfl, b, _, 0, _, rfl, rfl, SqT.of hs, a0 _ _, r0, _, 0, _, rfl, rfl, SqT.of hr0, a0 _ _, _, rfl, b, _, 0, _, rfl, rfl, SqT.of hs, a0 _ _, r0, _, 0, _, rfl, rfl, SqT.of hr0, a0 _ _, ?_⟩
        refine ⟨a, es, .ref b, _, _, _, rfl, hb, hes, hd, ?_⟩
        cases hbd : isBd (.tuple [d1, d2, d3]) with
        | false =>
          have e : rngJ es (.tuple (.tuple [d1, d2, d3] :: r)) = false := by show (isBd (.tuple [d1, d2, d3]) && _) = false; rw [hbd]; rfl
          rw [e] at q
          exact .inr ⟨_, _, rfl, hbd, fun H2 e2 => ⟨_, rfl, rfl, _, rfl, q H2 e2⟩⟩
        | true =>
          obtain ⟨e, he⟩ := isBd_enc hbd
          injection he with he
          injection he with e1 he
          injection he with e2 he
          injection he with e3 he
          subst e1; subst e2; subst e3
          cases u1
          refine .inl ⟨e.1, e.1, rfl, rfl, fun H2 ex2 => ?_⟩
          have er : rngJ es (.tuple (encB e :: r)) = match sumJ es (.tuple (encB e :: r)) e.1 e.1 with | some t => decide (t < 0) | none => false := rfl
          have q : ∀ H2, Ex H H2 → Q (.bl (rngJ es (.tuple (encB e :: r)))) H2 := q
          rw [er] at q
          refine ⟨_, rfl, rfl, _, rfl, ?_⟩
          show (if (!decide (oInt (sumJ es (.tuple (encB e :: r)) e.1 e.1) = V.non)) = true then _ else _)
          cases hs2 : sumJ es (.tuple (encB e :: r)) e.1 e.1 with
          | none =>
            rw [hs2] at q
            exact q H2 ex2
          | some t =>
            rw [hs2] at q
            exact ⟨_, rfl, _, _, rfl, rfl, q H2 ex2⟩
def spLNums (K : PySem.W.Frag) : Sp := fun vs H Q _ => ∃ an ns a es v d, vs = [.ref an, .ref a, v] ∧ H an = some (.lst (ns.map V.str)) ∧ ns.length ≤ 100000 ∧ Bds H a es ∧ es.length ≤ 100000 ∧ ends es ns ∧ Dt H v d ∧ ∀ H2, Ex H H2 → Q (.bl (areNum ns d && metJ es d)) H2
abbrev N_law_numbers_right : List Str := ["names", "bounds", "value", "name", "one", "other", "k"]
theorem sc_law_numbers_right : FnScope N_law_numbers_right ["names", "bounds", "value"] (defScope (top 62)) := ⟨rfl, rfl, rfl, by decide +kernel, rfl, by decide +kernel, by decide +kernel⟩
theorem ok_lnums (T : Txt K mg) (C__law_number : Cal P w K mg base CX0 1 "_law_number" ["value", "low", "high"] (spLNum K)) : Cal P w K mg base CX0 2 "_law_numbers_right" ["names", "bounds", "value"] (spLNums K) := by
  refine mkCal T.g__law_numbers_right T.d__law_numbers_right sc_law_numbers_right (fun _ _ _ _ _ _ us hl => match us, hl with | [_, _, _], _ => rfl) (fun vs H Q E h => ?_) fun cdv A outer s0 H vs Q E hr h => ?_
  · obtain ⟨_, _, _, _, _, _, rfl, _⟩ := h; rfl
  obtain ⟨an, ns, a, es, v, d, rfl, han, hn, hb, hes, hends, hd, q⟩ := h
  refine ⟨_, (pss_cut (ps_if (PW.pt (pw_or (pt_not (pt_val (pe_callB (isiR (K := K)) (by rfl) T.n_isinstance (by decide +kernel) (pa_cons (pv 2) (pa_cons (pe_bltn (v := .ty "dict") rfl T.n_dict (by decide +kernel) rfl) pa_nil))))) (pw_or (pt_cmpR op_ne (pe_callB call_lenK (by rfl) T.n_len PySem.boot_len (pa_cons (pv 2) pa_nil)) (pe_callB (lenL (K := K)) (by rfl) T.n_len PySem.boot_len (pa_cons (pv 0) pa_nil)) (nomark _)) (pw_or1 (pt_cmpR op_gt (pe_callB (lenL (K := K)) (by rfl) T.n_len PySem.boot_len (pa_cons (pe_lc (own := [("name", 3)]) (g := gName 3) rfl sc_law_numbers_right.nd (piL (K := K) (pv 0)) (blkOk_by (N := N_law_numbers_right) (sc := defScope (top 62)) (by decide +kernel)) (fun _ _ _ _ _ => (pg_name (i := 3) sc_law_numbers_right.nd rfl (Or.inl rfl))) (fun _ _ _ _ _ => pts_one (pt_cmp (pc_dnotin (hu_of hr) (pv 3) (pv 2)))) (fun _ _ _ _ _ => (pv 3))) pa_nil)) pe_int (nomark _)))))) (pss_one (ps_ret pe_bl)) pss_nil)
      (pss_cons (ps_if (pt_cmpR op_gt (pe_callB (lenL (K := K)) (by rfl) T.n_len PySem.boot_len (pa_cons (pe_lc (own := [("name", 3)]) (g := gName 3) rfl sc_law_numbers_right.nd (piL (K := K) (pv 0)) (blkOk_by (N := N_law_numbers_right) (sc := defScope (top 62)) (by decide +kernel)) (fun _ _ _ _ _ => (pg_name (i := 3) sc_law_numbers_right.nd rfl (Or.inl rfl))) (fun _ _ _ _ _ => pts_one (pt_not (pt_val (pe_cal (E := E0) C__law_number (hr.mono (by decide)) pass0 (pa_cons (pe_dget (hu_of hr) (pv 2) (pv 3) (fun _ _ => rfl)) (pa_cons (pe_dget (hu_of hr) (pv 2) (pv 3) (fun _ _ => rfl)) (pa_cons (pe_dget (hu_of hr) (pv 2) (pv 3) (fun _ _ => rfl)) pa_nil))))))) (fun _ _ _ _ _ => (pv 3))) pa_nil)) pe_int (nomark _)) (pss_one (ps_ret pe_bl)) pss_nil)
      (pss_one (ps_ret (pe_cmpR op_eq (pe_callB (lenL (K := K)) (by rfl) T.n_len PySem.boot_len (pa_cons (pe_lc (own := [("one", 4), ("other", 5), ("k", 6)]) (g := gTup K 3 (gCons (gName 4) (gCons (gName 5) (gCons (gName 6) gNil)))) rfl sc_law_numbers_right.nd (piL (K := K) (pv 1)) (blkOk_by (N := N_law_numbers_right) (sc := defScope (top 62)) (by decide +kernel)) (fun _ _ _ _ _ => (pgTup (K := K) rfl (pgs_cons (pg_name (i := 4) sc_law_numbers_right.nd rfl (Or.inl rfl)) (pgs_cons (pg_name (i := 5) sc_law_numbers_right.nd rfl (Or.inl rfl)) (pgs_cons (pg_name (i := 6) sc_law_numbers_right.nd rfl (Or.inl rfl)) pgs_nil))))) (fun _ _ _ _ _ => pts_one (pt_cmpR op_gt (pe_op op_sub (pe_dget (hu_of hr) (pv 2) (pv 4) (fun _ _ => rfl)) (pe_dget (hu_of hr) (pv 2) (pv 5) (fun _ _ => rfl))) (pv 6) (nomark _))) (fun _ _ _ _ _ => pe_int)) pa_nil)) pe_int (nomark _)))))), ?_⟩
  have g1 : ∀ j, j < ns.length → (ns.map V.str)[j]? = some (.str (ns.getD j Str.empty)) := fun j hj => by
    rw [List.getElem?_map, List.getD_eq_getElem?_getD, List.getElem?_eq_getElem hj]; rfl
  refine ⟨fun σ' H' => (∃ ks, d = .dict ks ∧ ks.length = ns.length ∧ ∀ (kvs : List (Key × V)), DKV kvs ks → ∀ z ∈ ns, (valV kvs (Sum.inr z)).isSome = true) ∧ σ' = [some (.ref an), some (.ref a), some v, none, none, none, none] ∧ Ex H H', ?_, ?_⟩
  · refine ⟨_, rfl, v, _, _, _, _, rfl, .ty "dict", ty_dt hd, kit_ty (kit_dict d), _, rfl, ?_⟩
    cases h1 : isT "dict" d with
    | false =>
      have e : (areNum ns d && metJ es d) = false := by cases d <;> first | rfl | (exfalso; revert h1; simp [isT])
      rw [e] at q
      exact q H (Evl.Ex.refl H)
    | true =>
      obtain ⟨ks, rfl⟩ := isT_dict h1
      obtain ⟨b, kvs, rfl, hs, hk⟩ := dt_dict hd
      have hkl : kvs.length = ks.length := hk.length
      refine ⟨_, rfl, b, kvs, rfl, hs, _, rfl, an, _, rfl, .inl (SqL.of han), rfl, _, rfl, ?_⟩
      refine ite2 (fun h2 => ?_) (fun h2 => ?_)
      · have h2' : ¬ ks.length = ns.length := fun z => by rw [List.length_map, hkl, z] at h2; simp at h2
        have e : (areNum ns (.dict ks) && metJ es (.dict ks)) = false := by
          show ((decide _ && _) && _) = false; rw [decide_eq_false h2']; rfl
        rw [e] at q
        exact q H (Evl.Ex.refl H)
      · have hlen : ks.length = ns.length := by
          apply Classical.byContradiction
          intro z
          refine h2 ?_
          rw [List.length_map, hkl]
          show (!decide (V.int ks.length = V.int ns.length)) = true
          rw [decide_eq_false fun e => z (by injection e with e; omega)]; rfl
        refine ⟨_, rfl, an, rfl, ⟨_, SqL.of han⟩, fun D hD => ?_⟩
        refine lcF (K := K) walk_list (fun H' e => SqL.of (e _ _ han)) (by rw [List.length_map]; omega) (fun j => !(valV kvs (Sum.inr (ns.getD j Str.empty))).isSome) (fun j => .str (ns.getD j Str.empty)) (fun j => [some (.ref an), some (.ref a), some (.ref b), some (.str (ns.getD j Str.empty)), none, none, none])
          (fun j y G' H' H'' hj a' yy Q q => turn_name (σ0 := [some (.ref an), some (.ref a), some (.ref b), none, none, none, none]) (j := 3) a' yy (g1 j (by rwa [List.length_map] at hj)) q) (fun _ _ => rfl) (fun j H' hj e Q q => ?_) (fun j H' hj hf' e Q q => ?_) hD (fun H' e2 hl' hl2 => ?_)
        · exact ⟨_, rfl, _, rfl, b, _, rfl, DGet.k (k := Sum.inr (ns.getD j Str.empty)) (e _ _ hs), _, rfl, q H' (Evl.Ex.refl H')⟩
        · exact ⟨_, rfl, q H' (Evl.Ex.refl H')⟩
        · refine ⟨D, _, rfl, .inl hl', _, 0, rfl, rfl, _, rfl, ?_⟩
          rw [List.length_map, List.length_map, filt_len ns Str.empty (fun z => !(valV kvs (Sum.inr z)).isSome), any_pos]
          cases ha : ns.any fun z => !(valV kvs (Sum.inr z)).isSome with
          | true =>
            obtain ⟨z, hz, hz2⟩ := List.any_eq_true.mp ha
            have e : (areNum ns (.dict ks) && metJ es (.dict ks)) = false := by
              have : ns.all (entNum ks) = false := by
                rw [List.all_eq_false]
                exact ⟨z, hz, by rw [ent_look hk z (by simpa using hz2)]; exact fun h => by cases h⟩
              show ((decide _ && ns.all (entNum ks)) && _) = false; rw [this, Bool.and_false]; rfl
            rw [e] at q
            exact q H' e2
          | false =>
            refine ⟨⟨ks, rfl, hlen, fun kvs' hk' z hz => ?_⟩, rfl, e2⟩
            have h3 : (valV kvs (Sum.inr z)).isSome = true := by
              cases hh : (valV kvs (Sum.inr z)).isSome with
              | true => rfl
              | false => exact absurd (by rw [hh]; rfl) (List.any_eq_false.mp ha z hz)
            rcases dkv_look hk z with ⟨e1, e2⟩ | ⟨v, d, e1, e2, f⟩
            · rw [e1] at h3; cases h3
            · rcases dkv_look hk' z with ⟨e3, e4⟩ | ⟨v', d', e3, e4, f'⟩
              · rw [e2] at e4; cases e4
              · rw [e3]; rfl
  · rintro σ' H1 ⟨⟨ks, rfl, hlen, hall⟩, rfl, e1⟩
    obtain ⟨b, kvs, rfl, hs, hk⟩ := dt_dict hd
    have hin := hall kvs hk
    have han1 := e1 _ _ han
    refine ⟨_, rfl, an, rfl, ⟨_, SqL.of han1⟩, fun D hD => ?_⟩
    refine lcF (K := K) walk_list (fun H' e => SqL.of (e _ _ han1)) (by rw [List.length_map]; omega) (fun j => !(entNum ks (ns.getD j Str.empty))) (fun j => .str (ns.getD j Str.empty)) (fun j => [some (.ref an), some (.ref a), some (.ref b), some (.str (ns.getD j Str.empty)), none, none, none])
      (fun j y G' H' H'' hj a' yy Q q => turn_name (σ0 := [some (.ref an), some (.ref a), some (.ref b), none, none, none, none]) (j := 3) a' yy (g1 j (by rwa [List.length_map] at hj)) q) (fun _ _ => rfl) (fun j H' hj e Q q => ?_) (fun j H' hj hf' e Q q => ?_) hD (fun H2 e2 hl' hl2 => ?_)
    · have hg := DGet.k (k := Sum.inr (ns.getD j Str.empty)) (e _ _ (e1 _ _ hs))
      rw [List.length_map] at hj
      have hm : ns.getD j Str.empty ∈ ns := by rw [List.getD_eq_getElem?_getD, List.getElem?_eq_getElem hj]; exact List.getElem_mem hj
      rcases dkv_look hk (ns.getD j Str.empty) with ⟨e3, e4⟩ | ⟨v, d, e3, e4, f⟩
      · have := hin _ hm
        rw [e3] at this; cases this
      · rw [e3] at hg
        have en : entNum ks (ns.getD j Str.empty) = isNum d := by unfold entNum; rw [e4]
        have q := q H' (Evl.Ex.refl H')
        rw [en] at q
        refine ⟨_, rfl, _, rfl, b, _, rfl, hg, _, rfl, _, rfl, b, _, rfl, hg, _, rfl, _, rfl, b, _, rfl, hg, v, _, _, d, rfl, fv_dt f, (fun hn => ?_), fun i hi => ?_⟩
        · rw [hn] at q
          exact ⟨_, rfl, q⟩
        · subst hi
          cases f
          refine ⟨_, _, rfl, rfl, _, rfl, ?_⟩
          rw [decide_eq_true (Int.le_refl i)]
          exact q
    · exact ⟨_, rfl, q H' (Evl.Ex.refl H')⟩
    · refine ⟨D, _, rfl, .inl hl', _, 0, rfl, rfl, _, rfl, ?_⟩
      rw [List.length_map, List.length_map, filt_len ns Str.empty (fun z => !(entNum ks z)), any_pos]
      cases ha : ns.any fun z => !(entNum ks z) with
      | true =>
        obtain ⟨z, hz, hz2⟩ := List.any_eq_true.mp ha
        have e : (areNum ns (.dict ks) && metJ es (.dict ks)) = false := by
          have : ns.all (entNum ks) = false := by
            rw [List.all_eq_false]
            exact ⟨z, hz, fun h => by rw [h] at hz2; cases hz2⟩
          show ((decide _ && ns.all (entNum ks)) && _) = false; rw [this, Bool.and_false]; rfl
        rw [e] at q
        exact q H2 (e1.trans e2)
      | false =>
        have hks : ∀ z ∈ ns, entNum ks z = true := fun z hz => by
          cases hh : entNum ks z with
          | true => rfl
          | false => exact absurd (by rw [hh]; rfl) (List.any_eq_false.mp ha z hz)
        have e : (areNum ns (.dict ks) && metJ es (.dict ks)) = metB (numOf ks) es := by
          have : ns.all (entNum ks) = true := List.all_eq_true.mpr hks
          show ((decide _ && ns.all (entNum ks)) && _) = _; rw [this, decide_eq_true hlen]; rfl
        rw [e] at q
        have e12 := e1.trans e2
        obtain ⟨xs, hxs, pr⟩ := hb.ex e12
        have hxl := pr.length
        have hs2 := e12 _ _ hs
        let d0 : Bd := (Str.empty, Str.empty, 0)
        refine ite2 (fun h => absurd h (by decide)) (fun _ => ?_)
        refine ⟨_, rfl, a, rfl, ⟨xs, SqL.of hxs⟩, fun D2 hD2 => ?_⟩
        refine lcF (K := K) walk_list (fun H' e => SqL.of (e _ _ hxs)) (by omega) (fun j => decide ((es.getD j d0).2.2 < numOf ks (es.getD j d0).1 - numOf ks (es.getD j d0).2.1)) (fun _ => .int 1) (fun j => [some (.ref an), some (.ref a), some (.ref b), none, some (.str (es.getD j d0).1), some (.str (es.getD j d0).2.1), some (.int (es.getD j d0).2.2)])
          (fun j y G' H' H'' hj a' yy Q q => ?_) (fun _ _ => rfl) (fun j H' hj e Q q => ?_) (fun j H' hj hf' e Q q => q H' (Evl.Ex.refl H')) hD2 (fun H4 e4 hl4 hl5 => ?_)
        · obtain ⟨rfl, hy1⟩ := yy
          obtain ⟨ed, he, r, rfl, hr1⟩ := paired_at pr hy1
          rw [getD_of he] at q
          exact ⟨r, _, rfl, SqT.of ((a'.gg.trans a'.gh) _ _ hr1), rfl, _, _, rfl, _, _, rfl, _, _, rfl, rfl, q G' _ (Stp.refl a'.gh)⟩
        · have hm : es.getD j d0 ∈ es := by rw [List.getD_eq_getElem?_getD, List.getElem?_eq_getElem (by omega)]; exact List.getElem_mem _
          obtain ⟨n1, n2⟩ := hends _ hm
          have gx := DGet.k (k := Sum.inr (es.getD j d0).1) (e _ _ hs2)
          have gy := DGet.k (k := Sum.inr (es.getD j d0).2.1) (e _ _ hs2)
          rw [num_at hk (hks _ n1)] at gx
          rw [num_at hk (hks _ n2)] at gy
          exact ⟨_, rfl, _, rfl, b, _, rfl, gx, _, rfl, _, rfl, b, _, rfl, gy, _, _, rfl, rfl, _, rfl, _, _, rfl, rfl, _, rfl, q H' (Evl.Ex.refl H')⟩
        · refine ⟨D2, _, rfl, .inl hl4, rfl, ?_⟩
          have hc : (((List.range xs.length).filter fun j => decide ((es.getD j d0).2.2 < numOf ks (es.getD j d0).1 - numOf ks (es.getD j d0).2.1)).map fun _ => V.int 1).length = (es.filter fun e => decide (e.2.2 < numOf ks e.1 - numOf ks e.2.1)).length := by
            rw [List.length_map, hxl]
            exact filt_len es d0 (fun e => decide (e.2.2 < numOf ks e.1 - numOf ks e.2.1))
          rw [hc, any_zero]
          have hm : metB (numOf ks) es = !es.any fun e => decide (e.2.2 < numOf ks e.1 - numOf ks e.2.1) := by
            unfold metB
            rw [List.all_eq_not_any_not]
            congr 1
            refine congrArg (fun f => es.any f) (funext fun e => ?_)
            rw [Bool.eq_iff_iff]
            simp
          rw [← hm]
          exact q H4 (e12.trans e4)
end
end K43
namespace K43
open PySem PySem.Spec PyProof.Rows L2 Hx Hd M43
open Evl (pss_cut tCut ex_l ex_t)
theorem ans_word (d0 : PyData) (r : List PyData) (z : Str) (m : Int) : ansJ (.tuple (d0 :: r)) z m = (decide ((r.length : Int) + 1 = m) && isWord z d0) := by
  cases d0 <;> first | rfl | (show false = (_ && false); rw [Bool.and_false])
section
variable {P : Program} {w : World} {K : PySem.W.Frag} {mg : Str → Option Value} {base : Heap}
def spRSet : Sp := fun vs H Q _ => ∃ a es v d, vs = [.ref a, v] ∧ Bds H a es ∧ es.length ≤ 40000 ∧ Dt H v d ∧ ∀ H2, Ex H H2 → Q (.bl (setJ es d)) H2
abbrev N_law_right_settled : List Str := ["bounds", "value"]
theorem sc_law_right_settled : FnScope N_law_right_settled ["bounds", "value"] (defScope (top 63)) := ⟨rfl, rfl, rfl, by decide +kernel, rfl, by decide +kernel, by decide +kernel⟩
theorem ok_rset (T : Txt K mg) (C__law_is_row : Cal P w K mg base CX0 1 "_law_is_row" ["value", "kind", "many"] (spRow K)) (C__law_is_word : Cal P w K mg base CX0 1 "_law_is_word" ["value", "word"] (spWord K)) (C__law_ring_right : Cal P w K mg base CX0 3 "_law_ring_right" ["bounds", "value"] (spIsRing K)) (C__law_numbers_right : Cal P w K mg base CX0 2 "_law_numbers_right" ["names", "bounds", "value"] (spLNums K)) (C__law_in_bounds : Cal P w K mg base CX0 1 "_law_in_bounds" ["bounds"] spInB) : Cal P w K mg base CX0 4 "_law_right_settled" ["bounds", "value"] spRSet := by
  refine mkCal T.g__law_right_settled T.d__law_right_settled sc_law_right_settled (fun _ _ _ _ _ _ us hl => match us, hl with | [_, _], _ => rfl) (fun vs H Q E h => ?_) fun cdv A outer s0 H vs Q E hr h => ?_
  · obtain ⟨_, _, _, _, rfl, _⟩ := h; rfl
  obtain ⟨a, es, v, d, rfl, hb, hes, hd, q⟩ := h
  refine ⟨_, (pss_cons (ps_if (pt_not (pt_val (pe_cal (E := E0) C__law_is_row (hr.mono (by decide)) pass0 (pa_cons (pv 1) (pa_cons pe_str (pa_cons pe_int pa_nil)))))) (pss_one (ps_ret pe_bl)) pss_nil)
      (pss_cons (ps_if (pt_val (pe_cal (E := E0) C__law_is_word (hr.mono (by decide)) pass0 (pa_cons (pe_ix (ixT (K := K)) (pv 1) pe_int (fun _ _ => rfl)) (pa_cons pe_str pa_nil)))) (pss_one (ps_ret (pe_cal (E := E0) C__law_ring_right (hr.mono (by decide)) pass0 (pa_cons (pv 0) (pa_cons (pe_ix (ixT (K := K)) (pv 1) pe_int (fun _ _ => rfl)) pa_nil))))) pss_nil)
      (pss_one (ps_ret (pe_and (pe_cal (E := E0) C__law_is_word (hr.mono (by decide)) pass0 (pa_cons (pe_ix (ixT (K := K)) (pv 1) pe_int (fun _ _ => rfl)) (pa_cons pe_str pa_nil))) (pe_one (pe_cal (E := E0) C__law_numbers_right (hr.mono (by decide)) pass0 (pa_cons (pe_cal (E := E0) C__law_in_bounds (hr.mono (by decide)) pass0 (pa_cons (pv 0) pa_nil)) (pa_cons (pv 0) (pa_cons (pe_ix (ixT (K := K)) (pv 1) pe_int (fun _ _ => rfl)) pa_nil)))))))))), ?_⟩
  refine ⟨_, rfl, v, _, 2, d, rfl, hd, .inl ⟨rfl, _, rfl, ?_⟩⟩
  cases hrow : isTupN 2 d with
  | false =>
    have e : setJ es d = false := by
      have h1 : ∀ z, ansJ d z 2 = false := fun z => by
        cases d <;> first | rfl | skip
        rename_i ds
        cases ds with
        | nil => rfl
        | cons d0 r =>
          rw [ans_word]
          have : ¬ ((r.length : Int) + 1 = 2) := fun h => by
            have : isTupN 2 (.tuple (d0 :: r)) = decide (((d0 :: r).length : Int) = 2) := rfl
            rw [hrow, List.length_cons] at this
            have := of_decide_eq_false this.symm
            omega
          rw [decide_eq_false this]; rfl
      unfold setJ; rw [h1, h1]; rfl
    rw [e] at q
    exact q H (Evl.Ex.refl H)
  | true =>
    obtain ⟨ds2, rfl⟩ : ∃ ds, d = .tuple ds := by cases d <;> first | exact ⟨_, rfl⟩ | cases hrow
    have hl2 : ds2.length = 2 := by have := of_decide_eq_true hrow; omega
    obtain ⟨d0, d1, rfl⟩ : ∃ d0 d1, ds2 = [d0, d1] := match ds2, hl2 with | [d0, d1], _ => ⟨d0, d1, rfl⟩
    obtain ⟨t, ys, rfl, ht, hy⟩ := dt_tup hd
    cases hy with
    | cons g0 hy => cases hy with
      | cons g1 hy =>
        cases hy
        have a0 : ∀ (v : V) vs, atI (v :: vs) 0 = some v := fun v vs => at_of (show (0 : Int) = ((0 : Nat) : Int) from rfl) rfl
        have w1 : ansJ (.tuple [d0, d1]) (Str.ofString "ring") 2 = isWord (Str.ofString "ring") d0 := by rw [ans_word]; rfl
        have w2 : ansJ (.tuple [d0, d1]) (Str.ofString "numbers") 2 = isWord (Str.ofString "numbers") d0 := by rw [ans_word]; rfl
        refine ⟨_, rfl, t, _, 0, _, rfl, rfl, SqT.of ht, a0 _ _, _, _, d0, rfl, g0, _, rfl, ?_⟩
        cases h1 : isWord (Str.ofString "ring") d0 with
        | true =>
          have e : setJ es (.tuple [d0, d1]) = rngJ es d1 := by unfold setJ; rw [w1, h1]; rfl
          rw [e] at q
          exact ⟨_, rfl, _, rfl, t, _, 1, _, rfl, rfl, SqT.of ht, rfl, a, es, _, d1, rfl, hb, by omega, g1, q⟩
        | false =>
          refine ite2 (fun h => absurd h (by decide)) (fun _ => ?_)
          refine ⟨_, rfl, t, _, 0, _, rfl, rfl, SqT.of ht, a0 _ _, _, _, d0, rfl, g0, _, rfl, ?_⟩
          cases h2 : isWord (Str.ofString "numbers") d0 with
          | false =>
            have e : setJ es (.tuple [d0, d1]) = false := by unfold setJ; rw [w1, h1, w2, h2]; rfl
            rw [e] at q
            exact q H (Evl.Ex.refl H)
          | true =>
            have e : setJ es (.tuple [d0, d1]) = (areNum (nms es) d1 && metJ es d1) := by unfold setJ; rw [w1, h1, w2, h2]; rfl
            rw [e] at q
            have nl := nms_len es
            refine ⟨_, rfl, a, es, rfl, hb, by omega, fun p H2 hp e2 hp2 => ?_⟩
            exact ⟨_, rfl, _, rfl, t, _, 1, _, rfl, rfl, SqT.of (e2 _ _ ht), rfl, p, nms es, a, es, _, d1, rfl, hp2, by omega, hb.ex e2, by omega, nms_ends es, ex_dt e2 _ _ g1, fun H3 e3 => q H3 (e2.trans e3)⟩
def spRising : Sp := fun vs H Q _ => ∃ an ns a es v d x y, vs = [.ref an, .ref a, v, .str x, .str y] ∧ H an = some (.lst (ns.map V.str)) ∧ Bds H a es ∧ es.length ≤ 100000 ∧ Dt H v d ∧ (∀ ds, d = .list ds → (∃ l : List Str, ds = l.map PyData.str) ∧ ds.length ≤ 100000) ∧ ∀ H2, Ex H H2 → Q (.bl (riseJ es ns d x y)) H2
abbrev N_law_rising : List Str := ["names", "bounds", "value", "x", "y", "name", "at", "one", "other", "k"]
theorem sc_law_rising : FnScope N_law_rising ["names", "bounds", "value", "x", "y"] (defScope (top 64)) := ⟨rfl, rfl, rfl, by decide +kernel, rfl, by decide +kernel, by decide +kernel⟩
theorem ok_rising (T : Txt K mg) : Cal P w K mg base CX0 1 "_law_rising" ["names", "bounds", "value", "x", "y"] spRising := by
  refine mkCal T.g__law_rising T.d__law_rising sc_law_rising (fun _ _ _ _ _ _ us hl => match us, hl with | [_, _, _, _, _], _ => rfl) (fun vs H Q E h => ?_) fun cdv A outer s0 H vs Q E hr h => ?_
  · obtain ⟨_, _, _, _, _, _, _, _, rfl, _⟩ := h; rfl
  obtain ⟨an, ns, a, es, v, d, x, y, rfl, han, hb, hes, hd, hz, q⟩ := h
  refine ⟨_, (pss_cut (ps_if (PW.pt (pw_or (pt_not (pt_val (pe_callB (isiR (K := K)) (by rfl) T.n_isinstance (by decide +kernel) (pa_cons (pv 2) (pa_cons (pe_bltn (v := .ty "list") rfl T.n_list (by decide +kernel) rfl) pa_nil))))) (pw_or (pt_cmpR op_gt (pe_callB (lenL (K := K)) (by rfl) T.n_len PySem.boot_len (pa_cons (pe_lc (own := [("name", 5)]) (g := gName 5) rfl sc_law_rising.nd (piL (K := K) (pv 2)) (blkOk_by (N := N_law_rising) (sc := defScope (top 64)) (by decide +kernel)) (fun _ _ _ _ _ => (pg_name (i := 5) sc_law_rising.nd rfl (Or.inl rfl))) (fun _ _ _ _ _ => pts_one (pt_cmpR (ninL (K := K)) (pv 5) (pv 0) (by rfl))) (fun _ _ _ _ _ => pe_int)) pa_nil)) pe_int (nomark _)) (pw_or (pt_cmpR (ninL (K := K)) (pv 3) (pv 2) (by rfl)) (pw_or1 (pt_cmpR (inL (K := K)) (pv 4) (pv 2) (by rfl))))))) (pss_one (ps_ret pe_bl)) pss_nil)
      (pss_cons (ps_if (pt_cmpR op_gt (pe_callB (lenL (K := K)) (by rfl) T.n_len PySem.boot_len (pa_cons (pe_lc (own := [("at", 6)]) (g := gName 6) rfl sc_law_rising.nd (pi_range1 (by rfl) T.n_range (pa_cons (pe_op op_sub (pe_callB (lenL (K := K)) (by rfl) T.n_len PySem.boot_len (pa_cons (pv 2) pa_nil)) pe_int) pa_nil)) (blkOk_by (N := N_law_rising) (sc := defScope (top 64)) (by decide +kernel)) (fun _ _ _ _ _ => (pg_name (i := 6) sc_law_rising.nd rfl (Or.inl rfl))) (fun _ _ _ _ _ => pts_one (pt_cmpR op_ge_str (pe_ix (ixL (K := K)) (pv 2) (pv 6) (fun _ _ => rfl)) (pe_ix (ixL (K := K)) (pv 2) (pe_op op_add (pv 6) pe_int) (fun _ _ => rfl)) (nomark _))) (fun _ _ _ _ _ => (pv 6))) pa_nil)) pe_int (nomark _)) (pss_one (ps_ret pe_bl)) pss_nil)
      (pss_one (ps_ret (pe_cmpR op_eq (pe_callB (lenL (K := K)) (by rfl) T.n_len PySem.boot_len (pa_cons (pe_lc (own := [("one", 7), ("other", 8), ("k", 9)]) (g := gTup K 3 (gCons (gName 7) (gCons (gName 8) (gCons (gName 9) gNil)))) rfl sc_law_rising.nd (piL (K := K) (pv 1)) (blkOk_by (N := N_law_rising) (sc := defScope (top 64)) (by decide +kernel)) (fun _ _ _ _ _ => (pgTup (K := K) rfl (pgs_cons (pg_name (i := 7) sc_law_rising.nd rfl (Or.inl rfl)) (pgs_cons (pg_name (i := 8) sc_law_rising.nd rfl (Or.inl rfl)) (pgs_cons (pg_name (i := 9) sc_law_rising.nd rfl (Or.inl rfl)) pgs_nil))))) (fun _ _ _ _ _ => pts_one (PW.pt (pw_and (pt_cmpR (inL (K := K)) (pv 7) (pv 2) (by rfl)) (pw_and1 (pt_cmpR (ninL (K := K)) (pv 8) (pv 2) (by rfl)))))) (fun _ _ _ _ _ => pe_int)) pa_nil)) pe_int (nomark _)))))), ?_⟩
  refine ⟨fun σ' H' => (∃ l : List Str, d = .list (l.map PyData.str) ∧ l.length ≤ 100000 ∧ (l.all fun z => decide (z ∈ ns)) = true ∧ decide (x ∈ l) = true ∧ decide (y ∈ l) = false) ∧ σ' = [some (.ref an), some (.ref a), some v, some (.str x), some (.str y), none, none, none, none, none] ∧ Ex H H', ?_, ?_⟩
  · refine ⟨_, rfl, v, _, _, _, _, rfl, .ty "list", ty_dt hd, kit_ty (kit_list d), _, rfl, ?_⟩
    cases h1 : isT "list" d with
    | false =>
      have e : riseJ es ns d x y = false := by cases d <;> first | rfl | (exfalso; revert h1; simp [isT])
      rw [e] at q
      exact q H (Evl.Ex.refl H)
    | true =>
      obtain ⟨ds, rfl⟩ := isT_list h1
      obtain ⟨⟨l, rfl⟩, hzl⟩ := hz ds rfl
      rw [List.length_map] at hzl
      obtain ⟨b, ys, rfl, hs, hy⟩ := dt_list hd
      have hyl := dta_strs hy
      subst hyl
      rw [riseJ_list] at q
      have g1 : ∀ j, j < l.length → (l.map V.str)[j]? = some (.str (l.getD j Str.empty)) := fun j hj => by
        rw [List.getElem?_map, List.getD_eq_getElem?_getD, List.getElem?_eq_getElem hj]; rfl
      refine ⟨_, rfl, b, rfl, ⟨_, SqL.of hs⟩, fun D hD => ?_⟩
      refine lcF (K := K) walk_list (fun H' e => SqL.of (e _ _ hs)) (by rw [List.length_map]; omega) (fun j => !decide (l.getD j Str.empty ∈ ns)) (fun j => .int 1) (fun j => [some (.ref an), some (.ref a), some (.ref b), some (.str x), some (.str y), some (.str (l.getD j Str.empty)), none, none, none, none])
        (fun j u G' H' H'' hj a' yy Q q => turn_name (σ0 := [some (.ref an), some (.ref a), some (.ref b), some (.str x), some (.str y), none, none, none, none, none]) (j := 5) a' yy (g1 j (by rwa [List.length_map] at hj)) q) (fun _ _ => rfl) (fun j H' hj e Q q => ?_) (fun j H' hj hf' e Q q => q H' (Evl.Ex.refl H')) hD (fun H2 e2 hl' hl2 => ?_)
      · refine ⟨_, rfl, _, rfl, an, _, rfl, .inl (SqL.of (e _ _ han)), rfl, flat_strs ns, _, rfl, ?_⟩
        rw [inV_str]
        exact q H' (Evl.Ex.refl H')
      · refine ⟨D, _, rfl, .inl hl', _, 0, rfl, rfl, _, rfl, ?_⟩
        rw [List.length_map, List.length_map, filt_len l Str.empty (fun z => !decide (z ∈ ns)), any_pos]
        cases ha : l.any fun z => !decide (z ∈ ns) with
        | true =>
          have e : riseL es ns l x y = false := by
            unfold riseL
            rw [List.all_eq_not_any_not, ha]; rfl
          rw [e] at q
          exact q H2 e2
        | false =>
          have hall : (l.all fun z => decide (z ∈ ns)) = true := by rw [List.all_eq_not_any_not, ha]; rfl
          have hs2 := SqL.of (K := K) (e2 _ _ hs)
          refine ite2 (fun h => absurd h (by decide)) (fun _ => ?_)
          refine ⟨_, rfl, _, rfl, b, _, rfl, .inl hs2, rfl, flat_strs l, _, rfl, ?_⟩
          rw [inV_str]
          cases hx : decide (x ∈ l) with
          | false =>
            have e : riseL es ns l x y = false := by unfold riseL; rw [hx]; simp
            rw [e] at q
            exact q H2 e2
          | true =>
            refine ite2 (fun h => absurd h (by decide)) (fun _ => ?_)
            refine ⟨_, rfl, _, rfl, b, _, rfl, .inl hs2, rfl, flat_strs l, _, rfl, ?_⟩
            rw [inV_str]
            cases hy : decide (y ∈ l) with
            | true =>
              have e : riseL es ns l x y = false := by unfold riseL; rw [hy]; simp
              rw [e] at q
              exact q H2 e2
            | false => exact ⟨⟨l, rfl, hzl, hall, hx, hy⟩, rfl, e2⟩
  · rintro σ' H1 ⟨⟨l, rfl, hzl, hall, hx, hyl⟩, rfl, e1⟩
    obtain ⟨b, ys, rfl, hs, hy⟩ := dt_list hd
    have hyl2 := dta_strs hy
    subst hyl2
    rw [riseJ_list] at q
    have g1 : ∀ j, j < l.length → (l.map V.str)[j]? = some (.str (l.getD j Str.empty)) := fun j hj => by
      rw [List.getElem?_map, List.getD_eq_getElem?_getD, List.getElem?_eq_getElem hj]; rfl
    have hs1 := e1 _ _ hs
    refine ⟨_, rfl, b, _, rfl, .inl (SqL.of hs1), _, _, rfl, rfl, _, rfl, ?_⟩
    rw [List.length_map]
    refine ⟨by omega, by omega, fun D hD => ?_⟩
    rw [show ((l.length : Int) - 1).toNat = l.length - 1 by omega]
    refine lcF (K := K) walk_range (fun _ _ => trivial) (by omega) (fun i => !ltS (l.getD i Str.empty) (l.getD (i + 1) Str.empty)) (fun i => .int (i : Nat)) (fun i => [some (.ref an), some (.ref a), some (.ref b), some (.str x), some (.str y), none, some (.int (i : Nat)), none, none, none])
      (fun i u G' H' H'' hi a' yy Q q => turn_range0 (σ0 := [some (.ref an), some (.ref a), some (.ref b), some (.str x), some (.str y), none, none, none, none, none]) (j := 6) a' yy q) (fun _ _ => rfl) (fun i H' hi e Q q => ?_) (fun i H' hi hf e Q q => ⟨_, rfl, q H' (Evl.Ex.refl H')⟩) hD (fun H2 e2' hl' hl2 => ?_)
    · have hs' := e _ _ hs1
      exact ⟨_, rfl, _, rfl, b, _, _, _, rfl, rfl, SqL.of hs', at_nat (g1 i (by omega)), _, rfl, _, rfl, _, _, rfl, rfl, b, _, _, _, rfl, rfl, SqL.of hs', at_of (show ((i : Int) + 1) = ((i + 1 : Nat) : Int) by omega) (g1 (i + 1) (by omega)), _, _, rfl, rfl, _, rfl, q H' (Evl.Ex.refl H')⟩
    · refine ⟨D, _, rfl, .inl hl', _, 0, rfl, rfl, _, rfl, ?_⟩
      rw [List.length_map, any_pos]
      have e2 := e1.trans e2'
      have has : ascB l = !((List.range (l.length - 1)).any fun i => !ltS (l.getD i Str.empty) (l.getD (i + 1) Str.empty)) := by unfold ascB; rw [List.all_eq_not_any_not]
      cases ha : (List.range (l.length - 1)).any fun i => !ltS (l.getD i Str.empty) (l.getD (i + 1) Str.empty) with
      | true =>
        have e : riseL es ns l x y = false := by unfold riseL; rw [has, ha]; simp
        rw [e] at q
        exact q H2 e2
      | false =>
        have e : riseL es ns l x y = es.all fun e => !decide (e.1 ∈ l) || decide (e.2.1 ∈ l) := by unfold riseL; rw [hall, has, ha, hx, hyl]; rfl
        rw [e] at q
        refine ite2 (fun h => absurd h (by decide)) (fun _ => ?_)
        obtain ⟨xs, hxs, pr⟩ := hb.ex e2
        have hxl := pr.length
        have hs2 := e2 _ _ hs
        let d0 : Bd := (Str.empty, Str.empty, 0)
        refine ⟨_, rfl, a, rfl, ⟨xs, SqL.of hxs⟩, fun D2 hD2 => ?_⟩
        refine lcF (K := K) walk_list (fun H' e => SqL.of (e _ _ hxs)) (by omega) (fun j => decide ((es.getD j d0).1 ∈ l) && !decide ((es.getD j d0).2.1 ∈ l)) (fun _ => .int 1) (fun j => [some (.ref an), some (.ref a), some (.ref b), some (.str x), some (.str y), none, none, some (.str (es.getD j d0).1), some (.str (es.getD j d0).2.1), some (.int (es.getD j d0).2.2)])
          (fun j y G' H' H'' hj a' yy Q q => ?_) (fun _ _ => rfl) (fun j H' hj e Q q => ?_) (fun j H' hj hf' e Q q => q H' (Evl.Ex.refl H')) hD2 (fun H4 e4 hl4 hl5 => ?_)
        · obtain ⟨rfl, hy1⟩ := yy
          obtain ⟨ed, he, r, rfl, hr1⟩ := paired_at pr hy1
          rw [getD_of he] at q
          exact ⟨r, _, rfl, SqT.of ((a'.gg.trans a'.gh) _ _ hr1), rfl, _, _, rfl, _, _, rfl, _, _, rfl, rfl, q G' _ (Stp.refl a'.gh)⟩
        · have hs3 := SqL.of (K := K) (e _ _ hs2)
          refine ⟨_, rfl, _, rfl, b, _, rfl, .inl hs3, rfl, flat_strs l, _, rfl, ?_⟩
          rw [inV_str]
          cases h1 : decide ((es.getD j d0).1 ∈ l) with
          | false =>
            rw [h1] at q
            exact q H' (Evl.Ex.refl H')
          | true =>
            rw [h1] at q
            refine ⟨_, rfl, _, rfl, b, _, rfl, .inl hs3, rfl, flat_strs l, _, rfl, ?_⟩
            rw [inV_str]
            exact q H' (Evl.Ex.refl H')
        · refine ⟨D2, _, rfl, .inl hl4, rfl, ?_⟩
          have hc : (((List.range xs.length).filter fun j => decide ((es.getD j d0).1 ∈ l) && !decide ((es.getD j d0).2.1 ∈ l)).map fun _ => V.int 1).length = (es.filter fun e => decide (e.1 ∈ l) && !decide (e.2.1 ∈ l)).length := by
            rw [List.length_map, hxl]
            exact filt_len es d0 (fun e => decide (e.1 ∈ l) && !decide (e.2.1 ∈ l))
          rw [hc, any_zero]
          have hm : (es.all fun e => !decide (e.1 ∈ l) || decide (e.2.1 ∈ l)) = !es.any fun e => decide (e.1 ∈ l) && !decide (e.2.1 ∈ l) := by
            rw [List.all_eq_not_any_not]
            congr 1
            refine congrArg (fun f => es.any f) (funext fun e => ?_)
            cases decide (e.1 ∈ l) <;> cases decide (e.2.1 ∈ l) <;> rfl
          rw [← hm]
          exact q H4 (e2.trans e4)
end
end K43
namespace K43
open PySem PySem.Spec PyProof.Rows L2 Hx Hd M43
open Evl (pss_cut tCut ex_l ex_t)
section
variable {P : Program} {w : World} {K : PySem.W.Frag} {mg : Str → Option Value} {base : Heap}
def spRHigh : Sp := fun vs H Q _ => ∃ a es x y v d, vs = [.ref a, .str x, .str y, v] ∧ Bds H a es ∧ es.length ≤ 20000 ∧ Dt H v d ∧ (∀ (d0 d1 : PyData) (ds : List PyData), d = .tuple [d0, d1, .list ds] → (∃ l : List Str, ds = l.map PyData.str) ∧ ds.length ≤ 100000) ∧ ∀ H2, Ex H H2 → Q (.bl (highJ es x y d)) H2
abbrev N_law_right_highest : List Str := ["bounds", "x", "y", "value", "names"]
theorem sc_law_right_highest : FnScope N_law_right_highest ["bounds", "x", "y", "value"] (defScope (top 65)) := ⟨rfl, rfl, rfl, by decide +kernel, rfl, by decide +kernel, by decide +kernel⟩
theorem ok_rhigh (T : Txt K mg) (C__law_number : Cal P w K mg base CX0 1 "_law_number" ["value", "low", "high"] (spLNum K)) (C__law_is_word : Cal P w K mg base CX0 1 "_law_is_word" ["value", "word"] (spWord K)) (C__law_ring_right : Cal P w K mg base CX0 3 "_law_ring_right" ["bounds", "value"] (spIsRing K)) (C__law_numbers_right : Cal P w K mg base CX0 2 "_law_numbers_right" ["names", "bounds", "value"] (spLNums K))
    (C__law_in_bounds : Cal P w K mg base CX0 1 "_law_in_bounds" ["bounds"] spInB) (C__law_rising : Cal P w K mg base CX0 1 "_law_rising" ["names", "bounds", "value", "x", "y"] spRising) (C__law_sum_of : Cal P w K mg base CX0 2 "_law_sum_of" ["bounds", "way", "one", "other"] (spLSum K)) : Cal P w K mg base CX0 4 "_law_right_highest" ["bounds", "x", "y", "value"] spRHigh := by
  refine mkCal T.g__law_right_highest T.d__law_right_highest sc_law_right_highest (fun _ _ _ _ _ _ us hl => match us, hl with | [_, _, _, _], _ => rfl) (fun vs H Q E h => ?_) fun cdv A outer s0 H vs Q E hr h => ?_
  · obtain ⟨_, _, _, _, _, _, rfl, _⟩ := h; rfl
  obtain ⟨a, es, x, y, v, d, rfl, hb, hes, hd, hz, q⟩ := h
  refine ⟨_, (pss_cons (ps_set (i := 4) sc_law_right_highest.nd rfl (Or.inl rfl) (pe_cal (E := E0) C__law_in_bounds (hr.mono (by decide)) pass0 (pa_cons (pe_op op_cat (pv 0) (pe_lst (pa_cons (pe_tup (pa_cons (pv 1) (pa_cons (pv 2) (pa_cons pe_int pa_nil)))) pa_nil))) pa_nil)))
      (pss_cut (ps_if (PW.pt (pw_or (pt_not (pt_val (pe_callB (isiR (K := K)) (by rfl) T.n_isinstance (by decide +kernel) (pa_cons (pv 3) (pa_cons (pe_bltn (v := .ty "tuple") rfl T.n_tuple (by decide +kernel) rfl) pa_nil))))) (pw_or1 (pt_cmpR op_lt (pe_callB (lenL (K := K)) (by rfl) T.n_len PySem.boot_len (pa_cons (pv 3) pa_nil)) pe_int (nomark _))))) (pss_one (ps_ret pe_bl)) pss_nil)
      (pss_cut (ps_if (PW.pt (pw_and (pt_val (pe_cal (E := E0) C__law_is_word (hr.mono (by decide)) pass0 (pa_cons (pe_ix (ixT (K := K)) (pv 3) pe_int (fun _ _ => rfl)) (pa_cons pe_str pa_nil)))) (pw_and1 (pt_cmpR op_eq (pe_callB (lenL (K := K)) (by rfl) T.n_len PySem.boot_len (pa_cons (pv 3) pa_nil)) pe_int (nomark _))))) (pss_one (ps_ret (pe_cal (E := E0) C__law_ring_right (hr.mono (by decide)) pass0 (pa_cons (pv 0) (pa_cons (pe_ix (ixT (K := K)) (pv 3) pe_int (fun _ _ => rfl)) pa_nil))))) pss_nil)
      (pss_cut (ps_if (PW.pt (pw_and (pt_val (pe_cal (E := E0) C__law_is_word (hr.mono (by decide)) pass0 (pa_cons (pe_ix (ixT (K := K)) (pv 3) pe_int (fun _ _ => rfl)) (pa_cons pe_str pa_nil)))) (pw_and1 (pt_cmpR op_eq (pe_callB (lenL (K := K)) (by rfl) T.n_len PySem.boot_len (pa_cons (pv 3) pa_nil)) pe_int (nomark _))))) (pss_one (ps_ret (pe_and (pe_cal (E := E0) C__law_numbers_right (hr.mono (by decide)) pass0 (pa_cons (pv 4) (pa_cons (pv 0) (pa_cons (pe_ix (ixT (K := K)) (pv 3) pe_int (fun _ _ => rfl)) pa_nil)))) (pe_one (pe_cal (E := E0) C__law_rising (hr.mono (by decide)) pass0 (pa_cons (pv 4) (pa_cons (pv 0) (pa_cons (pe_ix (ixT (K := K)) (pv 3) pe_int (fun _ _ => rfl)) (pa_cons (pv 1) (pa_cons (pv 2) pa_nil)))))))))) pss_nil)
      (pss_cut (ps_if (PW.pt (pw_or (pt_not (pt_val (pe_cal (E := E0) C__law_is_word (hr.mono (by decide)) pass0 (pa_cons (pe_ix (ixT (K := K)) (pv 3) pe_int (fun _ _ => rfl)) (pa_cons pe_str pa_nil))))) (pw_or (pt_cmpR op_ne (pe_callB (lenL (K := K)) (by rfl) T.n_len PySem.boot_len (pa_cons (pv 3) pa_nil)) pe_int (nomark _)) (pw_or1 (pt_not (pt_val (pe_cal (E := E0) C__law_number (hr.mono (by decide)) pass0 (pa_cons (pe_ix (ixT (K := K)) (pv 3) pe_int (fun _ _ => rfl)) (pa_cons (pe_ix (ixT (K := K)) (pv 3) pe_int (fun _ _ => rfl)) (pa_cons (pe_ix (ixT (K := K)) (pv 3) pe_int (fun _ _ => rfl)) pa_nil)))))))))) (pss_one (ps_ret pe_bl)) pss_nil)
      (pss_cut (ps_if (PW.pt (pw_or (pt_cmpR op_ne (pe_cal (E := E0) C__law_sum_of (hr.mono (by decide)) pass0 (pa_cons (pv 0) (pa_cons (pe_ix (ixT (K := K)) (pv 3) pe_int (fun _ _ => rfl)) (pa_cons (pv 1) (pa_cons (pv 2) pa_nil))))) (pe_ix (ixT (K := K)) (pv 3) pe_int (fun _ _ => rfl)) (nomark _)) (pw_or1 (pt_not (pt_val (pe_cal (E := E0) C__law_numbers_right (hr.mono (by decide)) pass0 (pa_cons (pv 4) (pa_cons (pv 0) (pa_cons (pe_ix (ixT (K := K)) (pv 3) pe_int (fun _ _ => rfl)) pa_nil))))))))) (pss_one (ps_ret pe_bl)) pss_nil)
      (pss_one (ps_ret (pe_cmpR op_eq (pe_op op_sub (pe_dget (hu_of hr) (pe_ix (ixT (K := K)) (pv 3) pe_int (fun _ _ => rfl)) (pv 1) (fun _ _ => rfl)) (pe_dget (hu_of hr) (pe_ix (ixT (K := K)) (pv 3) pe_int (fun _ _ => rfl)) (pv 2) (fun _ _ => rfl))) (pe_ix (ixT (K := K)) (pv 3) pe_int (fun _ _ => rfl)) (nomark _)))))))))), ?_⟩
  obtain ⟨xs, hxs, pr⟩ := id hb
  have hxl := pr.length
  have nxl := nmx_len es x y
  refine ⟨_, rfl, _, rfl, _, rfl, Nat.le_of_lt (sz 3 (by omega)), fun t1 ht1 => ⟨Nat.le_of_lt (sz 1 (by omega)), fun l1 hl1 => ?_⟩⟩
  have e1 := Evl.Ex.new ht1 (o := .tup [.str x, .str y, .int 0])
  have e2 := Evl.Ex.new hl1 (o := .lst [.ref t1])
  refine ⟨a, l1, _, _, rfl, rfl, e2 _ _ (e1 _ _ hxs), upd_same, Nat.le_of_lt (sz _ (by simp; omega)), fun c hc => ?_⟩
  have e3 := Evl.Ex.new hc (o := .lst (xs ++ [.ref t1]))
  have e03 := (e1.trans e2).trans e3
  have hbc : Bds (upd (upd (upd H t1 (.tup [.str x, .str y, .int 0])) l1 (.lst [.ref t1])) c (.lst (xs ++ [.ref t1]))) c (es ++ [(x, y, 0)]) := ⟨_, upd_same, paired_snocB (paired_exB e03 pr) ⟨t1, rfl, e3 _ _ (e2 _ _ upd_same)⟩⟩
  generalize upd (upd (upd H t1 (.tup [.str x, .str y, .int 0])) l1 (.lst [.ref t1])) c (.lst (xs ++ [.ref t1])) = H3 at e03 hbc ⊢
  refine ⟨c, _, rfl, hbc, by simp; omega, fun p H4 hp e4 hp4 => ?_⟩
  have e04 := e03.trans e4
  have hd4 := ex_dt e04 _ _ hd
  have hb4 := hb.ex e04
  have hends := nmx_ends es x y
  have a0 : ∀ (v : V) vs, atI (v :: vs) 0 = some v := fun v vs => at_of (show (0 : Int) = ((0 : Nat) : Int) from rfl) rfl
  have a1 : ∀ (v u : V) vs, atI (v :: u :: vs) 1 = some u := fun v u vs => at_of (show (1 : Int) = ((1 : Nat) : Int) from rfl) rfl
  refine ⟨fun σ' H' => (∃ d0 d1 r, d = .tuple (d0 :: d1 :: r)) ∧ σ' = [some (.ref a), some (.str x), some (.str y), some v, some (.ref p)] ∧ H4 = H', ?_, ?_⟩
  · refine ⟨_, rfl, v, _, _, _, _, rfl, .ty "tuple", ty_dt hd4, kit_ty (kit_tup d), _, rfl, ?_⟩
    cases h1 : isT "tuple" d with
    | false =>
      have h1 : ∀ z m, ansJ d z m = false := fun z m => by cases d <;> first | rfl | (exfalso; revert h1; simp [isT])
      have e : highJ es x y d = false := by unfold highJ; rw [h1, h1, h1]; rfl
      rw [e] at q
      exact q H4 e04
    | true =>
      obtain ⟨ds, rfl⟩ := isT_tup h1
      obtain ⟨b, ys, rfl, hs, hy⟩ := dt_tup hd4
      have hl := dta_len hy
      refine ⟨_, rfl, b, ys, rfl, .inr (SqT.of hs), _, 2, rfl, rfl, _, rfl, ?_⟩
      refine ite2 (fun h2 => ?_) (fun h2 => ?_)
      · have h2 := of_decide_eq_true h2
        have e : highJ es x y (.tuple ds) = false := by
          have h3 : ∀ z m, 2 ≤ m → ansJ (.tuple ds) z m = false := fun z m hm => by
            cases ds with
            | nil => rfl
            | cons d0 r =>
              rw [ans_word]
              have : ¬ ((r.length : Int) + 1 = m) := fun h => by rw [List.length_cons] at hl; omega
              rw [decide_eq_false this]; rfl
          unfold highJ; rw [h3 _ 2 (by omega), h3 _ 3 (by omega), h3 _ 4 (by omega)]; rfl
        rw [e] at q
        exact q H4 e04
      · have h2 : ¬ ((ys.length : Int) < 2) := fun z => h2 (decide_eq_true z)
        match ds, hl with
        | [], hl => exact absurd hl (by simp; intro h; rw [h] at h2; simp at h2)
        | [d0], hl => exact absurd hl (by simp; intro h; rw [h] at h2; simp at h2)
        | d0 :: d1 :: r, hl => exact ⟨⟨d0, d1, r, rfl⟩, rfl, rfl⟩
  rintro σ' H5 ⟨⟨d0, d1, r, rfl⟩, rfl, rfl⟩
  obtain ⟨t, ys, rfl, ht, hy⟩ := dt_tup hd4
  cases hy with
  | cons g0 hy => cases hy with
    | cons g1 hyr =>
      rename_i v0 v1 vr
      have hvl := dta_len hyr
      have htt := SqT.of (K := K) ht
      have w1 : ansJ (.tuple (d0 :: d1 :: r)) (Str.ofString "ring") 2 = (decide ((((d1 :: r).length : Nat) : Int) + 1 = 2) && isWord (Str.ofString "ring") d0) := ans_word ..
      have w2 : ansJ (.tuple (d0 :: d1 :: r)) (Str.ofString "grows") 3 = (decide ((((d1 :: r).length : Nat) : Int) + 1 = 3) && isWord (Str.ofString "grows") d0) := ans_word ..
      have w3 : ansJ (.tuple (d0 :: d1 :: r)) (Str.ofString "at most") 4 = (decide ((((d1 :: r).length : Nat) : Int) + 1 = 4) && isWord (Str.ofString "at most") d0) := ans_word ..
      have hll : ∀ m : Int, decide (V.int ((v0 :: v1 :: vr).length : Nat) = V.int m) = decide ((((d1 :: r).length : Nat) : Int) + 1 = m) := fun m => by
        rw [Bool.eq_iff_iff, decide_eq_true_iff, decide_eq_true_iff, List.length_cons, List.length_cons, List.length_cons, hvl]
        constructor
        · intro h; injection h with h
        · intro h; rw [← h]; rfl
      refine ⟨fun σ' H' => ansJ (.tuple (d0 :: d1 :: r)) (Str.ofString "ring") 2 = false ∧ σ' = [some (.ref a), some (.str x), some (.str y), some (.ref t), some (.ref p)] ∧ H4 = H', ?_, ?_⟩
      · refine ⟨_, rfl, t, _, 0, _, rfl, rfl, htt, a0 _ _, _, _, d0, rfl, g0, _, rfl, ?_⟩
        cases h1 : isWord (Str.ofString "ring") d0 with
        | false => exact ⟨by rw [w1, h1, Bool.and_false], rfl, rfl⟩
        | true =>
          refine ite2 (fun _ => ?_) (fun h => absurd rfl h)
          refine ⟨_, rfl, t, _, rfl, .inr htt, rfl, _, rfl, ?_⟩
          rw [hll 2]
          cases h2 : decide ((((d1 :: r).length : Nat) : Int) + 1 = 2) with
          | false => exact ⟨by rw [w1, h2]; rfl, rfl, rfl⟩
          | true =>
            have hr : r = [] := List.eq_nil_of_length_eq_zero (by have := of_decide_eq_true h2; rw [List.length_cons] at this; omega)
            subst hr
            have e : highJ es x y (.tuple [d0, d1]) = rngJ es d1 := by unfold highJ; rw [w1, h1, h2]; rfl
            rw [e] at q
            exact ⟨_, rfl, _, rfl, t, _, 1, _, rfl, rfl, htt, a1 _ _ _, a, es, _, d1, rfl, hb4, by omega, g1, fun H6 e6 => q H6 (e04.trans e6)⟩
      rintro σ' H5 ⟨hr1, rfl, rfl⟩
      refine ⟨fun σ' H' => ansJ (.tuple (d0 :: d1 :: r)) (Str.ofString "grows") 3 = false ∧ σ' = [some (.ref a), some (.str x), some (.str y), some (.ref t), some (.ref p)] ∧ H4 = H', ?_, ?_⟩
      · refine ⟨_, rfl, t, _, 0, _, rfl, rfl, htt, a0 _ _, _, _, d0, rfl, g0, _, rfl, ?_⟩
        cases h1 : isWord (Str.ofString "grows") d0 with
        | false => exact ⟨by rw [w2, h1, Bool.and_false], rfl, rfl⟩
        | true =>
          refine ite2 (fun _ => ?_) (fun h => absurd rfl h)
          refine ⟨_, rfl, t, _, rfl, .inr htt, rfl, _, rfl, ?_⟩
          rw [hll 3]
          cases h2 : decide ((((d1 :: r).length : Nat) : Int) + 1 = 3) with
          | false => exact ⟨by rw [w2, h2]; rfl, rfl, rfl⟩
          | true =>
            obtain ⟨d2, rfl⟩ : ∃ d2, r = [d2] := by
              have := of_decide_eq_true h2
              rw [List.length_cons] at this
              exact match r, (show r.length = 1 by omega) with | [d2], _ => ⟨d2, rfl⟩
            have e : highJ es x y (.tuple [d0, d1, d2]) = (areNum (nmx es x y) d1 && (metJ es d1 && riseJ es (nmx es x y) d2 x y)) := by unfold highJ; rw [hr1, w2, h1, h2]; rfl
            rw [e] at q
            cases hyr with
            | cons g2 hy0 =>
              cases hy0
              refine ⟨_, rfl, _, rfl, _, rfl, t, _, 1, _, rfl, rfl, htt, rfl, p, nmx es x y, a, es, _, d1, rfl, hp4, by omega, hb4, by omega, hends, g1, fun H6 e6 => ?_⟩
              refine ⟨_, rfl, ?_⟩
              rw [← Bool.and_assoc] at q
              cases h4 : areNum (nmx es x y) d1 && metJ es d1 with
              | false =>
                rw [h4] at q
                exact q H6 (e04.trans e6)
              | true =>
                rw [h4] at q
                refine ite2 (fun _ => ?_) (fun h => absurd rfl h)
                exact ⟨_, rfl, _, rfl, _, rfl, t, _, 2, _, rfl, rfl, SqT.of (e6 _ _ ht), rfl, _, rfl, _, rfl, p, nmx es x y, a, es, _, d2, x, y, rfl, e6 _ _ hp4, hb4.ex e6, by omega, ex_dt e6 _ _ g2, fun ds hds => hz d0 d1 ds (by rw [hds]), fun H7 e7 => q H7 (e04.trans (e6.trans e7))⟩
      rintro σ' H5 ⟨hr2, rfl, rfl⟩
      refine ⟨fun σ' H' => (∃ k d2 d3, d1 = .int k ∧ r = [d2, d3] ∧ isWord (Str.ofString "at most") d0 = true) ∧ σ' = [some (.ref a), some (.str x), some (.str y), some (.ref t), some (.ref p)] ∧ H4 = H', ?_, ?_⟩
      · refine ⟨_, rfl, t, _, 0, _, rfl, rfl, htt, a0 _ _, _, _, d0, rfl, g0, _, rfl, ?_⟩
        cases h1 : isWord (Str.ofString "at most") d0 with
        | false =>
          have e : highJ es x y (.tuple (d0 :: d1 :: r)) = false := by unfold highJ; rw [hr1, hr2, w3, h1, Bool.and_false]; rfl
          rw [e] at q
          exact q H4 e04
        | true =>
          refine ite2 (fun h => absurd h (by decide)) (fun _ => ?_)
          refine ⟨_, rfl, t, _, rfl, .inr htt, rfl, _, rfl, ?_⟩
          rw [hll 4]
          cases h2 : decide ((((d1 :: r).length : Nat) : Int) + 1 = 4) with
          | false =>
            have e : highJ es x y (.tuple (d0 :: d1 :: r)) = false := by unfold highJ; rw [hr1, hr2, w3, h2]; rfl
            rw [e] at q
            exact q H4 e04
          | true =>
            obtain ⟨d2, d3, rfl⟩ : ∃ d2 d3, r = [d2, d3] := by
              have := of_decide_eq_true h2
              rw [List.length_cons] at this
              exact match r, (show r.length = 2 by omega) with | [d2, d3], _ => ⟨d2, d3, rfl⟩
            refine ite2 (fun h => absurd h (by decide)) (fun _ => ?_)
            refine ⟨_, rfl, t, _, 1, _, rfl, rfl, htt, a1 _ _ _, _, rfl, t, _, 1, _, rfl, rfl, htt, a1 _ _ _, _, rfl, t, _, 1, _, rfl, rfl, htt, a1 _ _ _, _, _, _, d1, rfl, g1, (fun hn => ?_), fun k hk => ?_⟩
            · have e : highJ es x y (.tuple [d0, d1, d2, d3]) = false := by
                unfold highJ; rw [hr1, hr2, w3, h1, h2]
                cases d1 <;> first | rfl | cases hn
              rw [e] at q
              exact ⟨_, rfl, q H4 e04⟩
            · subst hk
              cases g1
              refine ⟨_, _, rfl, rfl, _, rfl, ?_⟩
              rw [decide_eq_true (Int.le_refl k)]
              exact ⟨⟨k, d2, d3, rfl, rfl, rfl⟩, rfl, rfl⟩
      rintro σ' H5 ⟨⟨k, d2, d3, rfl, rfl, h1⟩, rfl, rfl⟩
      have e : highJ es x y (.tuple [d0, .int k, d2, d3]) = (decide (sumJ es d2 x y = some k) && (areNum (nmx es x y) d3 && (metJ es d3 && decide (numD d3 x - numD d3 y = k)))) := by
        unfold highJ; rw [hr1, hr2, w3, h1]; rfl
      rw [e] at q
      cases hyr with
      | cons g2 hy0 => cases hy0 with
        | cons g3 hy0 =>
          cases hy0
          cases g1
          refine ⟨fun σ' H' => sumJ es d2 x y = some k ∧ areNum (nmx es x y) d3 = true ∧ metJ es d3 = true ∧ σ' = [some (.ref a), some (.str x), some (.str y), some (.ref t), some (.ref p)] ∧ Ex H4 H', ?_, ?_⟩
          · refine ⟨_, rfl, _, rfl, t, _, 2, _, rfl, rfl, htt, rfl, _, rfl, _, rfl, a, es, _, d2, _, _, rfl, hb4, by omega, g2, .inl ⟨x, y, rfl, rfl, fun H6 e6 => ?_⟩⟩
            refine ⟨_, rfl, t, _, 1, _, rfl, rfl, SqT.of (e6 _ _ ht), rfl, (by cases sumJ es d2 x y <;> rfl), _, rfl, ?_⟩
            have hoi : (!decide (oInt (sumJ es d2 x y) = V.int k)) = (!decide (sumJ es d2 x y = some k)) := by
              cases sumJ es d2 x y with
              | none => simp [oInt]
              | some z => simp [oInt]
            rw [hoi]
            cases h5 : decide (sumJ es d2 x y = some k) with
            | false =>
              rw [h5] at q
              exact q H6 (e04.trans e6)
            | true =>
              rw [h5] at q
              refine ite2 (fun h => absurd h (by decide)) (fun _ => ?_)
              refine ⟨_, rfl, _, rfl, _, rfl, t, _, 3, _, rfl, rfl, SqT.of (e6 _ _ ht), rfl, p, nmx es x y, a, es, _, d3, rfl, e6 _ _ hp4, by omega, hb4.ex e6, by omega, hends, ex_dt e6 _ _ g3, fun H7 e7 => ⟨_, rfl, ?_⟩⟩
              cases h6 : areNum (nmx es x y) d3 with
              | false =>
                rw [h6] at q
                exact q H7 (e04.trans (e6.trans e7))
              | true =>
                cases h7 : metJ es d3 with
                | false =>
                  rw [h6, h7] at q
                  exact q H7 (e04.trans (e6.trans e7))
                | true => exact ⟨of_decide_eq_true h5, rfl, rfl, rfl, e6.trans e7⟩
          rintro σ' H6 ⟨h5, h6, h7, rfl, e6⟩
          obtain ⟨ks, rfl, hks⟩ := arn_dict h6
          obtain ⟨bd, kvs, rfl, hbk, hkk⟩ := dt_dict g3
          rw [decide_eq_true h5, h6, h7] at q
          have ht8 := SqT.of (K := K) (e6 _ _ ht)
          have hk8 := e6 _ _ hbk
          have gx := DGet.k (k := Sum.inr x) hk8
          have gy := DGet.k (k := Sum.inr y) hk8
          rw [num_at hkk (hks _ (nmx_x es x y))] at gx
          rw [num_at hkk (hks _ (nmx_y es x y))] at gy
          have q := q H6 (e04.trans e6)
          refine ⟨_, rfl, t, _, 3, _, rfl, rfl, ht8, rfl, _, rfl, bd, _, rfl, gx, _, rfl, t, _, 3, _, rfl, rfl, ht8, rfl, _, rfl, bd, _, rfl, gy, _, _, rfl, rfl, _, rfl, t, _, 1, _, rfl, rfl, ht8, rfl, rfl, ?_⟩
          have e : decide (V.int (numOf ks x - numOf ks y) = V.int k) = decide (numD (.dict ks) x - numD (.dict ks) y = k) := by
            rw [Bool.eq_iff_iff, decide_eq_true_iff, decide_eq_true_iff]
            exact ⟨fun h => by injection h, fun h => by rw [show numOf ks x - numOf ks y = k from h]⟩
          rw [e]
          exact q
end
end K43
namespace K43
open PySem PySem.Spec PyProof.Rows L2 Hx Hd M43
open Evl (pss_cut tCut ex_l ex_t)
def zkv (l : List Str) : List (Key × V) := l.map fun v => (Sum.inr v, V.int 0)
theorem zkv_all (L : List Str) : zkv L = nkv L (z0 L) := by
  unfold zkv nkv
  refine List.map_congr_left fun v hv => ?_
  have : num (z0 L) v = 0 := by
    show -((if v ∈ L then some (0 : Int) else none).getD 0) = 0
    rw [if_pos hv]; rfl
  rw [this]
theorem zkv_put {L : List Str} (hn : L.Nodup) {i : Nat} {z : Str} (h : L[i]? = some z) : putK (zkv (L.take i)) (Sum.inr z) (.int 0) = zkv (L.take (i + 1)) := by
  have hnot : z ∉ L.take i := fun hm => by
    have hi : i < L.length := (List.getElem?_eq_some_iff.mp h).1
    have h2 : L[i] = z := (List.getElem?_eq_some_iff.mp h).2
    have hd : L = L.take i ++ z :: L.drop (i + 1) := by rw [← h2, ← List.drop_eq_getElem_cons hi, List.take_append_drop]
    rw [hd, List.nodup_append] at hn
    exact hn.2.2 z hm z (by simp) rfl
  rw [putK_new, List.take_add_one, h]
  · unfold zkv; rw [List.map_append]; rfl
  · refine val_none fun hm => hnot ?_
    unfold zkv at hm
    rw [List.map_map] at hm
    obtain ⟨y, hy, e⟩ := List.mem_map.mp hm
    rw [← Sum.inr.inj e]; exact hy
section
variable {P : Program} {w : World} {K : PySem.W.Frag} {mg : Str → Option Value} {base : Heap}
/-- a list whose bounds stand in G -/
def BdG (G H : Hp) (l : Addr) (way : List Bd) : Prop := ∃ us, H l = some (.lst us) ∧ Paired (Tb G) us way
theorem BdG.ex {G H H' : Hp} (e : Ex H H') {l : Addr} {way : List Bd} (h : BdG G H l way) : BdG G H' l way := let ⟨us, a, b⟩ := h; ⟨us, e _ _ a, b⟩
theorem MK.dgetG {G H : Hp} {pm : Addr} {mk : List (Key × V)} {L : List Str} {s : St43} (h : MK G mk L s) (hm : H pm = some (.dK mk)) {z : Str} {e : Bd} (he : s.m z = some e) : ∃ r, DGet H pm (.str z) (some (.ref r)) ∧ G r = some (.tup [.str e.1, .str e.2.1, .int e.2.2]) := by
  obtain ⟨v, h1, r, rfl, hr⟩ := h.on z e he
  have g := DGet.k (k := Sum.inr z) hm
  rw [h1] at g
  exact ⟨r, g, hr⟩
def spLeast : Sp := fun vs H Q _ => ∃ an a L es G, vs = [.ref an, .ref a] ∧ Ex G H ∧ H an = some (.lst (L.map V.str)) ∧ L.Nodup ∧ L.length ≤ 50000 ∧ Bds G a es ∧ es.length ≤ 50000 ∧ ends es L ∧
  ((run es L.length (z0 L) none).2 = none → ∀ t pn H2, H t = none → H pn = none → Ex H H2 → H2 t = some (.lst [.ref pn, .non]) → H2 pn = some (.dK (nkv L (run es L.length (z0 L) none).1)) → Q (.ref t) H2) ∧
  ((run es L.length (z0 L) none).2 ≠ none → ∀ t l way H2, H t = none → H l = none → Ex H H2 → H2 t = some (.lst [.non, .ref l]) → BdG G H2 l way → 1 ≤ way.length → way.length ≤ L.length + 1 → Q (.ref t) H2)
abbrev N_law_least : List Str := ["names", "bounds", "found", "marks", "last", "name", "turn", "bound", "ring"]
theorem sc_law_least : FnScope N_law_least ["names", "bounds"] (defScope (top 57)) := ⟨rfl, rfl, rfl, by decide +kernel, rfl, by decide +kernel, by decide +kernel⟩
theorem ok_least (T : Txt K mg) : Cal P w K mg base CX0 1 "_law_least" ["names", "bounds"] spLeast := by
  refine mkCal T.g__law_least T.d__law_least sc_law_least (fun _ _ _ _ _ _ us hl => match us, hl with | [_, _], _ => rfl) (fun vs H Q E h => ?_) fun cdv A outer s0 H vs Q E hr h => ?_
  · obtain ⟨_, _, _, _, _, rfl, _⟩ := h; rfl
  obtain ⟨an, a, L, es, G, rfl, eG, han, hnd, hL, ⟨xs, hx, pr⟩, hes, hends, q1, q2⟩ := h
  refine ⟨_, (pss_cons (ps_set (i := 2) sc_law_least.nd rfl (Or.inl rfl) pe_dnewK)
      (pss_cons (ps_set (i := 3) sc_law_least.nd rfl (Or.inl rfl) pe_dnewK)
      (pss_cons (ps_set (i := 4) sc_law_least.nd rfl (Or.inl rfl) pe_non)
      (pss_cons (ps_for PassesOwn.never rfl (piL (K := K) (pv 0)) (pg_name (i := 5) sc_law_least.nd rfl (Or.inl rfl)) (pss_one (ps_dput (hu_of hr) (pv 2) (pv 5) pe_int rfl)))
      (pss_cons (ps_for PassesOwn.never rfl (pi_range1 (by rfl) T.n_range (pa_cons (pe_op op_add (pe_callB (lenL (K := K)) (by rfl) T.n_len PySem.boot_len (pa_cons (pv 0) pa_nil)) pe_int) pa_nil)) (pg_name (i := 6) sc_law_least.nd rfl (Or.inl rfl)) (pss_cons (ps_set (i := 4) sc_law_least.nd rfl (Or.inl rfl) pe_non)
      (pss_cons (ps_for PassesOwn.never rfl (piL (K := K) (pv 1)) (pg_name (i := 7) sc_law_least.nd rfl (Or.inl rfl)) (pss_one (ps_if (pt_cmpR op_gt (pe_op op_sub (pe_dget (hu_of hr) (pv 2) (pe_ix (ixT (K := K)) (pv 7) pe_int (fun _ _ => rfl)) (fun _ _ => rfl)) (pe_ix (ixT (K := K)) (pv 7) pe_int (fun _ _ => rfl))) (pe_dget (hu_of hr) (pv 2) (pe_ix (ixT (K := K)) (pv 7) pe_int (fun _ _ => rfl)) (fun _ _ => rfl)) (nomark _)) (pss_cons (ps_dput (hu_of hr) (pv 2) (pe_ix (ixT (K := K)) (pv 7) pe_int (fun _ _ => rfl)) (pe_op op_sub (pe_dget (hu_of hr) (pv 2) (pe_ix (ixT (K := K)) (pv 7) pe_int (fun _ _ => rfl)) (fun _ _ => rfl)) (pe_ix (ixT (K := K)) (pv 7) pe_int (fun _ _ => rfl))) rfl)
      (pss_cons (ps_dput (hu_of hr) (pv 3) (pe_ix (ixT (K := K)) (pv 7) pe_int (fun _ _ => rfl)) (pv 7) rfl)
      (pss_one (ps_set (i := 4) sc_law_least.nd rfl (Or.inl rfl) (pe_ix (ixT (K := K)) (pv 7) pe_int (fun _ _ => rfl)))))) pss_nil)))
      (pss_one (ps_if (pt_cmpR op_isN (pv 4) pe_non (nomark _)) (pss_one (ps_ret (pe_lst (pa_cons (pv 2) (pa_cons pe_non pa_nil))))) pss_nil)))))
      (pss_cons (ps_for PassesOwn.never rfl (pi_range1 (by rfl) T.n_range (pa_cons (pe_callB (lenL (K := K)) (by rfl) T.n_len PySem.boot_len (pa_cons (pv 0) pa_nil)) pa_nil)) (pg_name (i := 6) sc_law_least.nd rfl (Or.inl rfl)) (pss_one (ps_set (i := 4) sc_law_least.nd rfl (Or.inl rfl) (pe_ix (ixT (K := K)) (pe_dget (hu_of hr) (pv 3) (pv 4) (fun _ _ => rfl)) pe_int (fun _ _ => rfl)))))
      (pss_cons (ps_set (i := 8) sc_law_least.nd rfl (Or.inl rfl) (pe_lst (pa_cons (pe_dget (hu_of hr) (pv 3) (pv 4) (fun _ _ => rfl)) pa_nil)))
      (pss_cons (ps_for PassesOwn.never rfl (pi_range1 (by rfl) T.n_range (pa_cons (pe_callB (lenL (K := K)) (by rfl) T.n_len PySem.boot_len (pa_cons (pv 0) pa_nil)) pa_nil)) (pg_name (i := 6) sc_law_least.nd rfl (Or.inl rfl)) (pss_one (ps_if (pt_cmpR op_ne (pe_ix (ixT (K := K)) (pe_ix (ixL (K := K)) (pv 8) pe_int (fun _ _ => rfl)) pe_int (fun _ _ => rfl)) (pv 4) (nomark _)) (pss_one (ps_set (i := 8) sc_law_least.nd rfl (Or.inl rfl) (pe_op op_cat (pe_lst (pa_cons (pe_dget (hu_of hr) (pv 3) (pe_ix (ixT (K := K)) (pe_ix (ixL (K := K)) (pv 8) pe_int (fun _ _ => rfl)) pe_int (fun _ _ => rfl)) (fun _ _ => rfl)) pa_nil)) (pv 8)))) pss_nil)))
      (pss_one (ps_ret (pe_lst (pa_cons pe_non (pa_cons (pv 8) pa_nil))))))))))))), ?_⟩
  have hxl := pr.length
  intro pn hpn pm hpm
  have hpm0 : H pm = none := Evl.fresh_back (Evl.Ex.new hpn) hpm
  have hne : pn ≠ pm := ne_of_none upd_same hpm
  have e0 : Ex H (upd (upd H pn (.dK [])) pm (.dK [])) := (Evl.Ex.new hpn).trans (Evl.Ex.new hpm)
  refine ⟨_, rfl, an, rfl, ⟨_, SqL.of (e0 _ _ han)⟩, ?_⟩
  refine for_it walk_list (fun i σ' H' => ∃ nv, σ' = [some (.ref an), some (.ref a), some (.ref pn), some (.ref pm), some .non, nv, none, none, none] ∧ Ex H H' ∧ H' pn = some (.dK (zkv (L.take i))) ∧ H' pm = some (.dK []))
    ⟨none, rfl, e0, (by rw [upd_ne hne]; exact upd_same), upd_same⟩ (fun i σ' H' hi ⟨_, _, e', _⟩ => SqL.of (e' _ _ han)) ?_ ?_
  · rintro i x σ' H' H'' hi ⟨nv, rfl, e', h1, h2⟩ ⟨rfl, hy1⟩
    have hi' : i < L.length := by simpa using hi
    have hz : L[i]? = some (L.getD i Str.empty) := by rw [List.getD_eq_getElem?_getD, List.getElem?_eq_getElem hi']; rfl
    rw [List.getElem?_map, hz] at hy1
    have hx : V.str (L.getD i Str.empty) = x := Option.some.inj hy1
    subst hx
    refine ⟨_, rfl, _, rfl, pn, _, rfl, DPut.k (k := Sum.inr (L.getD i Str.empty)) h1 (sz _ (by unfold zkv; rw [List.length_map, List.length_take]; omega)), ?_⟩
    rw [zkv_put hnd hz]
    exact ⟨_, rfl, ex_mut e' hpn, upd_same, by rw [upd_ne hne.symm]; exact h2⟩
  rintro σ' H1 ⟨nv, rfl, e1, hn1, hm1⟩
  rw [List.length_map, List.take_length, zkv_all] at hn1
  have mk0 : MK G [] L (z0 L) := ⟨fun _ _ => rfl, fun z e h => (by cases h), [], rfl, List.nodup_nil, fun _ h => (by cases h)⟩
  refine ⟨_, rfl, an, _, rfl, .inl (SqL.of (e1 _ _ han)), _, 1, rfl, rfl, _, rfl, by rw [List.length_map]; omega, by rw [List.length_map]; omega, ?_⟩
  rw [List.length_map, show ((L.length : Int) + 1).toNat = L.length + 1 by omega]
  let I : List (Option V) → St43 → Option Str → Hp → Prop := fun σ' s l H' => ∃ tv ev mk, σ' = [some (.ref an), some (.ref a), some (.ref pn), some (.ref pm), some (lst l), nv, tv, ev, none] ∧ Ex H H' ∧ H' pn = some (.dK (nkv L s)) ∧ H' pm = some (.dK mk) ∧ MK G mk L s ∧ ∀ v ∈ L, (s.d v).isSome = true
  have z0d : ∀ v ∈ L, ((z0 L).d v).isSome = true := fun v hv => by show (if v ∈ L then some (0 : Int) else none).isSome = true; rw [if_pos hv]; rfl
  refine for_it walk_range (fun i σ' H' => (∀ j, j < i → (rnd es (it es j (z0 L))).2 ≠ none) ∧ ∃ l, I σ' (it es i (z0 L)) l H' ∧ ∀ j, i = j + 1 → l = (rnd es (it es j (z0 L))).2)
    ⟨fun j hj => (by omega), none, ⟨none, none, [], rfl, e1, hn1, hm1, mk0, z0d⟩, fun j h => by omega⟩ (fun _ _ _ _ _ => trivial) ?_ ?_
  · rintro i x σ' H' H'' hi ⟨hbefore, l, ⟨tv, ev, mk, rfl, e', hn', hm', hmk, hd⟩, _⟩ ⟨rfl, rfl⟩
    refine ⟨_, rfl, a, rfl, ⟨xs, SqL.of (e' _ _ (eG _ _ hx))⟩, ?_⟩
    refine for_it walk_list (fun j σ' H' => ∃ ev mk', σ' = [some (.ref an), some (.ref a), some (.ref pn), some (.ref pm), some (lst ((es.take j).foldl stp (it es i (z0 L), none)).2), nv, some (.int (0 + (i : Int))), ev, none] ∧ Ex H H' ∧ H' pn = some (.dK (nkv L ((es.take j).foldl stp (it es i (z0 L), none)).1)) ∧ H' pm = some (.dK mk') ∧ MK G mk' L ((es.take j).foldl stp (it es i (z0 L), none)).1 ∧ ∀ v ∈ L, (((es.take j).foldl stp (it es i (z0 L), none)).1.d v).isSome = true)
      ⟨ev, mk, rfl, e', hn', hm', hmk, hd⟩ (fun i σ' H' hi ⟨_, _, _, e', _⟩ => SqL.of (e' _ _ (eG _ _ hx))) ?_ ?_
    · rintro j y σ' H3 H4 hj ⟨ev, mk', rfl, e', hn1, hm1, hmk1, hd1⟩ ⟨rfl, hy1⟩
      obtain ⟨e, he, r, rfl, hr1⟩ := paired_at pr hy1
      obtain ⟨e1L, e2L⟩ := hends e (List.mem_of_getElem? he)
      have hr2 := e' _ _ (eG _ _ hr1)
      rw [foldl_take he]
      generalize (es.take j).foldl stp (it es i (z0 L), none) = p at hn1 hmk1 hd1 ⊢
      obtain ⟨ps, pl⟩ := p
      have hn1 : H4 pn = some (.dK (nkv L ps)) := hn1
      have hmk1 : MK G mk' L ps := hmk1
      have hd1 : ∀ v ∈ L, (ps.d v).isSome = true := hd1
      have nrn := ne_tup hr2 hn1
      have nrm := ne_tup hr2 hm1
      have g1 := DGet.k (k := Sum.inr e.1) hn1
      have g2 := DGet.k (k := Sum.inr e.2.1) hn1
      rw [nkv_at e1L] at g1
      rw [nkv_at e2L] at g2
      have hrr := SqT.of (K := K) hr2
      refine ⟨_, rfl, _, rfl, r, _, 0, _, rfl, rfl, hrr, rfl, pn, _, rfl, g1, _, rfl, r, _, 2, _, rfl, rfl, hrr, rfl, _, _, rfl, rfl, ?_⟩
      refine ⟨_, rfl, _, rfl, r, _, 1, _, rfl, rfl, hrr, rfl, pn, _, rfl, g2, _, _, rfl, rfl, _, rfl, ?_⟩
      obtain ⟨da, hda⟩ := Option.isSome_iff_exists.mp (hd1 _ e1L)
      obtain ⟨db, hdb⟩ := Option.isSome_iff_exists.mp (hd1 _ e2L)
      have na : num ps e.1 = -da := by unfold num; rw [hda]; rfl
      have nb : num ps e.2.1 = -db := by unfold num; rw [hdb]; rfl
      have hlow : low ps e = decide (da + e.2.2 < db) := by unfold low; rw [hda, hdb]
      refine ite2 (fun h1 => ?_) fun h1 => ?_
      · have h1 := of_decide_eq_true h1
        rw [na, nb] at h1
        have hs : stp (ps, pl) e = (put ps e, some e.2.1) := by unfold stp; rw [if_pos (by rw [hlow]; exact decide_eq_true (by omega))]
        rw [hs]
        have my : (put ps e).m e.2.1 = some e := by simp [put]
        have mn : ∀ v, v ≠ e.2.1 → (put ps e).m v = ps.m v := fun v hv => by simp [put, hv]
        have dy : (put ps e).d e.2.1 = some (da + e.2.2) := by simp [put, hda]
        have dn : ∀ v, v ≠ e.2.1 → (put ps e).d v = ps.d v := fun v hv => by simp [put, hv]
        have hput := nkv_put (L := L) (s := ps) (s' := put ps e) (n := num ps e.1 - e.2.2) e2L (by unfold num; rw [dy, hda]; show -(da + e.2.2) = -da - e.2.2; omega) (fun v hv => by unfold num; rw [dn v hv])
        have hnl : (nkv L ps).length < sizeLine := sz _ (by unfold nkv; rw [List.length_map]; omega)
        refine ⟨_, rfl, _, rfl, r, _, 0, _, rfl, rfl, hrr, rfl, pn, _, rfl, g1, _, rfl, r, _, 2, _, rfl, rfl, hrr, rfl, _, _, rfl, rfl, _, rfl, _, rfl, r, _, 1, _, rfl, rfl, hrr, rfl, pn, _, rfl, DPut.k (k := Sum.inr e.2.1) hn1 hnl, ?_⟩
        rw [hput]
        have hr3 : upd H4 pn (.dK (nkv L (put ps e))) r = some (.tup [.str e.1, .str e.2.1, .int e.2.2]) := by rw [upd_ne nrn]; exact hr2
        have hm3 : upd H4 pn (.dK (nkv L (put ps e))) pm = some (.dK mk') := by rw [upd_ne (Ne.symm hne)]; exact hm1
        refine ⟨_, rfl, _, rfl, _, rfl, r, _, 1, _, rfl, rfl, SqT.of hr3, rfl, pm, _, rfl, DPut.k (k := Sum.inr e.2.1) hm3 (sz _ (by have := hmk1.len; omega)), ?_⟩
        have hr4 : upd (upd H4 pn (.dK (nkv L (put ps e)))) pm (.dK (putK mk' (Sum.inr e.2.1) (.ref r))) r = some (.tup [.str e.1, .str e.2.1, .int e.2.2]) := by rw [upd_ne nrm]; exact hr3
        have kt : ∀ b ys, H4 b = some (.tup ys) → upd (upd H4 pn (.dK (nkv L (put ps e)))) pm (.dK (putK mk' (Sum.inr e.2.1) (.ref r))) b = some (.tup ys) := fun b ys hb => by
          rw [upd_ne (ne_tup hb hm1), upd_ne (ne_tup hb hn1)]; exact hb
        refine ⟨_, rfl, r, _, 1, _, rfl, rfl, SqT.of hr4, rfl, _, _, rfl, ex_mut (ex_mut e' hpn) hpm0, ?_, upd_same, hmk1.put e2L my mn ⟨r, rfl, hr1⟩, fun v hv => ?_⟩
        · rw [upd_ne hne]; exact upd_same
        · show ((put ps e).d v).isSome = true
          by_cases hv2 : v = e.2.1
          · rw [hv2, dy]; rfl
          · rw [dn v hv2]; exact hd1 v hv
      · have h1 : ¬ _ := fun z => h1 (decide_eq_true z)
        rw [na, nb] at h1
        have hs : stp (ps, pl) e = (ps, pl) := by unfold stp; rw [if_neg (by rw [hlow]; intro z; have := of_decide_eq_true z; omega)]
        rw [hs]
        exact ⟨_, mk', rfl, e', hn1, hm1, hmk1, hd1⟩
    · rintro σ' H3 ⟨ev, mk', rfl, e', hn1, hm1, hmk1, hd1⟩
      rw [hxl, List.take_length] at hn1 hmk1 hd1 ⊢
      have hn1 : H3 pn = some (.dK (nkv L (rnd es (it es i (z0 L))).1)) := hn1
      have hmk1 : MK G mk' L (rnd es (it es i (z0 L))).1 := hmk1
      refine ⟨_, rfl, rfl, _, rfl, ?_⟩
      show (if decide (lst (rnd es (it es i (z0 L))).2 = V.non) = true then _ else _)
      cases hc : (rnd es (it es i (z0 L))).2 with
      | none =>
        refine ite2 (fun _ => ?_) (fun h => absurd rfl h)
        have hi : i ≤ L.length := by omega
        obtain ⟨l', er, _, _⟩ := run_skip i (z0 L) none (L.length - i + 1) hbefore
        have e3 : run es (L.length + 1) (z0 L) none = ((rnd es (it es i (z0 L))).1, none) := by
          rw [show L.length + 1 = i + (L.length - i + 1) by omega, er, run_none hc]
        have h0 : (run es L.length (z0 L) none).2 = none := by
          cases hh : (run es L.length (z0 L) none).2 with
          | none => rfl
          | some v =>
            obtain ⟨u, hu⟩ := one_more_ring hends hh
            rw [e3] at hu; cases hu
        have e4 := one_more hends h0
        refine ⟨_, rfl, Nat.le_of_lt (sz 2 (by omega)), fun t ht => ?_⟩
        refine q1 h0 t pn _ (Evl.fresh_back e' ht) hpn (e'.trans (Evl.Ex.new ht)) upd_same ?_
        rw [upd_ne (ne_of_none hn1 ht), ← e4, e3]; exact hn1
      | some v =>
        refine ite2 (fun h => absurd h (by simp [lst])) (fun _ => ?_)
        refine ⟨fun j hj => ?_, some v, ⟨some (.int (0 + (i : Int))), ev, mk', ?_, e', ?_, hm1, ?_, ?_⟩, fun j hj => ?_⟩
        · rcases Nat.lt_succ_iff_lt_or_eq.mp hj with h | h
          · exact hbefore j h
          · rw [h, hc]; exact fun z => by cases z
        · rw [← hc]; rfl
        · rw [it_succ]; exact hn1
        · rw [it_succ]; exact hmk1
        · rw [it_succ]; exact hd1
        · have : j = i := by omega
          rw [this, hc]
  · rintro σ' H2 ⟨hall, l, ⟨tv, ev, mk, rfl, e', hn', hm', hmk, hd⟩, hl⟩
    have hl := hl L.length rfl
    obtain ⟨l', er, _, er3⟩ := run_skip (L.length + 1) (z0 L) none 0 hall
    have er3 := er3 L.length rfl
    have e3 : run es (L.length + 1) (z0 L) none = (it es (L.length + 1) (z0 L), l) := by rw [show L.length + 1 = L.length + 1 + 0 by omega, er, er3, hl]; rfl
    obtain ⟨v, hv⟩ : ∃ v, l = some v := by
      cases hh : l with
      | none => exact absurd (by rw [← hl, hh]) (hall L.length (Nat.lt_succ_self _))
      | some v => exact ⟨v, rfl⟩
    subst hv
    have h0 : (run es L.length (z0 L) none).2 ≠ none := fun h0 => by
      have := one_more hends h0
      rw [e3] at this
      rw [← this] at h0; cases h0
    have rt := ring_there hends (Nat.le_succ L.length) (show (run es (L.length + 1) (z0 L) none).2 = some v by rw [e3])
    rw [e3] at rt
    obtain ⟨hvL, hb, hm, p, hp, cy⟩ := rt
    generalize it es (L.length + 1) (z0 L) = s at hn' hmk hd hb hm cy
    have hm : ∀ j, j < L.length → (s.m (bks s v j)).isSome = true := hm
    have cy : Cyc s (bks s v L.length) p := cy
    have bk1 : ∀ u e, s.m u = some e → bk s u = e.1 := fun u e he => by unfold bk; rw [he]
    refine ⟨_, rfl, an, _, rfl, .inl (SqL.of (e' _ _ han)), _, rfl, by rw [List.length_map]; omega, by rw [List.length_map]; omega, ?_⟩
    rw [List.length_map, Int.toNat_natCast]
    refine for_it walk_range (fun i σ' H' => ∃ tv, σ' = [some (.ref an), some (.ref a), some (.ref pn), some (.ref pm), some (.str (bks s v i)), nv, tv, ev, none] ∧ H2 = H')
      ⟨tv, rfl, rfl⟩ (fun _ _ _ _ _ => trivial) ?_ ?_
    · rintro i x σ' H' H'' hi ⟨iv, rfl, rfl⟩ ⟨rfl, rfl⟩
      obtain ⟨e, he⟩ := Option.isSome_iff_exists.mp (hm i hi)
      obtain ⟨r, g, hr1⟩ := hmk.dgetG hm' he
      have hr1 := (eG.trans e') _ _ hr1
      refine ⟨_, rfl, _, rfl, pm, _, rfl, g, r, _, 0, _, rfl, rfl, SqT.of hr1, rfl, some (.int (0 + (i : Int))), ?_, rfl⟩
      rw [show bks s v (i + 1) = e.1 from bk1 _ _ he]
      rfl
    rintro σ' H' ⟨iv, rfl, rfl⟩
    generalize bks s v L.length = u at cy ⊢
    obtain ⟨e0, he0⟩ := Option.isSome_iff_exists.mp (cy.mks 0)
    obtain ⟨r0, g0, hr0⟩ := hmk.dgetG hm' he0
    have k0 : mkE s u = e0 := by unfold mkE; rw [show s.m u = some e0 from he0]; rfl
    refine ⟨_, rfl, _, rfl, pm, _, rfl, g0, Nat.le_of_lt (sz 1 (by omega)), fun l0 hl0 => ?_⟩
    have st0 : BdG G (upd H2 l0 (.lst [.ref r0])) l0 (rgl s u 1) := ⟨_, upd_same, .cons ⟨r0, rfl, by show _ = some (HO.tup [.str (mkE s u).1, .str (mkE s u).2.1, .int (mkE s u).2.2]); rw [k0]; exact hr0⟩ .nil⟩
    refine ⟨_, rfl, an, _, rfl, .inl (SqL.of ((e'.trans (Evl.Ex.new hl0)) _ _ han)), _, rfl, by rw [List.length_map]; omega, by rw [List.length_map]; omega, ?_⟩
    rw [List.length_map, Int.toNat_natCast]
    refine for_it walk_range (fun i σ' H' => ∃ tv k l, σ' = [some (.ref an), some (.ref a), some (.ref pn), some (.ref pm), some (.str u), nv, tv, ev, some (.ref l)] ∧ 1 ≤ k ∧ k ≤ i + 1 ∧ H2 l = none ∧ Ex H2 H' ∧ BdG G H' l (rgl s u k))
      ⟨iv, 1, l0, rfl, Nat.le_refl _, Nat.le_refl _, hl0, Evl.Ex.new hl0, st0⟩ (fun _ _ _ _ _ => trivial) ?_ ?_
    · rintro i x σ' H' H'' hi ⟨tv, k, l, rfl, k1, ki, hl, eH, xs, hxs, pr⟩ ⟨rfl, rfl⟩
      obtain ⟨k', rfl⟩ : ∃ k', k = k' + 1 := ⟨k - 1, by omega⟩
      cases pr with
      | cons t pr =>
        obtain ⟨r, rfl, hr1⟩ := t
        rename_i xs
        obtain ⟨e, he⟩ := Option.isSome_iff_exists.mp (cy.mks k')
        have ke : mkE s (bks s u k') = e := by unfold mkE; rw [he]; rfl
        rw [ke] at hr1
        have hrG := hr1
        have hr1 := (eG.trans (e'.trans eH)) _ _ hr1
        have hxs' := SqL.of (K := K) hxs
        have eb : bks s u (k' + 1) = e.1 := bk1 _ _ he
        have again : BdG G H'' l (rgl s u (k' + 1)) := ⟨_, hxs, .cons ⟨r, rfl, by rw [ke]; exact hrG⟩ pr⟩
        refine ⟨_, rfl, l, _, 0, _, rfl, rfl, hxs', at_of (show (0 : Int) = ((0 : Nat) : Int) from rfl) rfl, r, _, 0, _, rfl, rfl, SqT.of hr1, rfl, _, rfl, rfl, _, rfl, ?_⟩
        refine ite2 (fun h1 => ?_) fun h1 => ⟨_, k' + 1, l, rfl, by omega, by omega, hl, eH, again⟩
        obtain ⟨f, hf⟩ := Option.isSome_iff_exists.mp (cy.mks (k' + 1))
        have kf : mkE s (bks s u (k' + 1)) = f := by unfold mkE; rw [hf]; rfl
        have hpm' := eH _ _ hm'
        obtain ⟨r2, g2, hr2⟩ := hmk.dgetG hpm' (z := e.1) (e := f) (by rw [← eb]; exact hf)
        refine ⟨_, rfl, _, rfl, l, _, 0, _, rfl, rfl, hxs', at_of (show (0 : Int) = ((0 : Nat) : Int) from rfl) rfl, r, _, 0, _, rfl, rfl, SqT.of hr1, rfl, pm, _, rfl, g2, Nat.le_of_lt (sz 1 (by omega)), fun l1 hl1 => ?_⟩
        have n1 : l ≠ l1 := ne_of_none hxs hl1
        have e2 := Evl.Ex.new hl1 (o := .lst [V.ref r2])
        have hlen : xs.length = k' := by rw [pr.length, rgl_len]
        refine ⟨_, rfl, l1, l, _, _, rfl, rfl, upd_same, (by rw [upd_ne n1]; exact hxs), Nat.le_of_lt (sz _ (by simp; omega)), fun l2 hl2 => ?_⟩
        have e3 := e2.trans (Evl.Ex.new hl2 (o := .lst ([V.ref r2] ++ V.ref r :: xs)))
        refine ⟨_, k' + 2, l2, rfl, by omega, by omega, Evl.fresh_back eH (Evl.fresh_back e2 hl2), eH.trans e3, _, upd_same, .cons ⟨r2, rfl, ?_⟩ (.cons ⟨r, rfl, by rw [ke]; exact hrG⟩ pr)⟩
        rw [kf]; exact hr2
    · rintro σ' H' ⟨tv, k, l, rfl, k1, ki, hl, eH, hb⟩
      refine ⟨_, rfl, Nat.le_of_lt (sz 2 (by omega)), fun t ht => ?_⟩
      have e4 := Evl.Ex.new ht (o := .lst [.non, .ref l])
      exact q2 h0 t l _ _ (Evl.fresh_back (e'.trans eH) ht) (Evl.fresh_back e' hl) ((e'.trans eH).trans e4) upd_same (hb.ex e4) (by rw [rgl_len]; exact k1) (by rw [rgl_len]; omega)
end
end K43
namespace K43
open PySem PySem.Spec PyProof.Rows L2 Hx Hd M43
open Evl (pss_cut tCut ex_l ex_t)
section
variable {P : Program} {w : World} {K : PySem.W.Frag} {mg : Str → Option Value} {base : Heap}
def spReach : Sp := fun vs H Q _ => ∃ a x L es j0 m G, vs = [.ref a, .str x, .int ((m : Nat) : Int)] ∧ Ex G H ∧ Bds G a es ∧ es.length ≤ 100000 ∧ ends es L ∧ x ∈ L ∧ L.length ≤ 100000 ∧ m ≤ 100000 ∧ j0 ≤ m ∧ (∀ i, i < j0 → (rnd es (it es i (w0 x))).2 ≠ none) ∧ (rnd es (it es j0 (w0 x))).2 = none ∧
  ∀ t ps pm sk mk H2, H t = none → H ps = none → H pm = none → Ex H H2 → H2 t = some (.lst [.ref ps, .ref pm]) → H2 ps = some (.dK sk) → SK sk L (it es j0 (w0 x)) → H2 pm = some (.dK mk) → MK G mk L (it es j0 (w0 x)) → Q (.ref t) H2
abbrev N_law_reach : List Str := ["bounds", "start", "many", "found", "marks", "turn", "calm", "bound"]
theorem sc_law_reach : FnScope N_law_reach ["bounds", "start", "many"] (defScope (top 58)) := ⟨rfl, rfl, rfl, by decide +kernel, rfl, by decide +kernel, by decide +kernel⟩
theorem ok_reach (T : Txt K mg) : Cal P w K mg base CX0 1 "_law_reach" ["bounds", "start", "many"] spReach := by
  refine mkCal T.g__law_reach T.d__law_reach sc_law_reach (fun _ _ _ _ _ _ us hl => match us, hl with | [_, _, _], _ => rfl) (fun vs H Q E h => ?_) fun cdv A outer s0 H vs Q E hr h => ?_
  · obtain ⟨x, _, _, _, _, _, _, rfl, _⟩ := h; rfl
  obtain ⟨a, x, L, es, j0, m, G, rfl, eG, ⟨xs, hx, pr⟩, hes, hends, hxL, hL, hm, hjm, hj, hj0, q⟩ := h
  refine ⟨_, (pss_cons (ps_set (i := 3) sc_law_reach.nd rfl (Or.inl rfl) (pe_disp (pps_cons (pv 1) pe_int pps_nil) (by rfl) (by rfl) (fun z => by cases z) (by decide)))
      (pss_cons (ps_set (i := 4) sc_law_reach.nd rfl (Or.inl rfl) pe_dnewK)
      (pss_cons (ps_for PassesOwn.never rfl (pi_range1 (by rfl) T.n_range (pa_cons (pe_op op_add (pv 2) pe_int) pa_nil)) (pg_name (i := 5) sc_law_reach.nd rfl (Or.inl rfl)) (pss_cons (ps_set (i := 6) sc_law_reach.nd rfl (Or.inl rfl) pe_bl)
      (pss_cons (ps_for PassesOwn.never rfl (piL (K := K) (pv 0)) (pg_name (i := 7) sc_law_reach.nd rfl (Or.inl rfl)) (pss_one (ps_if (PW.pt (pw_and (pt_cmp (pc_din (hu_of hr) (pe_ix (ixT (K := K)) (pv 7) pe_int (fun _ _ => rfl)) (pv 3))) (pw_and1 (PW.pt (pw_or (pt_cmp (pc_dnotin (hu_of hr) (pe_ix (ixT (K := K)) (pv 7) pe_int (fun _ _ => rfl)) (pv 3))) (pw_or1 (pt_cmpR op_lt (pe_op op_add (pe_dget (hu_of hr) (pv 3) (pe_ix (ixT (K := K)) (pv 7) pe_int (fun _ _ => rfl)) (fun _ _ => rfl)) (pe_ix (ixT (K := K)) (pv 7) pe_int (fun _ _ => rfl))) (pe_dget (hu_of hr) (pv 3) (pe_ix (ixT (K := K)) (pv 7) pe_int (fun _ _ => rfl)) (fun _ _ => rfl)) (nomark _)))))))) (pss_cons (ps_dput (hu_of hr) (pv 3) (pe_ix (ixT (K := K)) (pv 7) pe_int (fun _ _ => rfl)) (pe_op op_add (pe_dget (hu_of hr) (pv 3) (pe_ix (ixT (K := K)) (pv 7) pe_int (fun _ _ => rfl)) (fun _ _ => rfl)) (pe_ix (ixT (K := K)) (pv 7) pe_int (fun _ _ => rfl))) rfl)
      (pss_cons (ps_dput (hu_of hr) (pv 4) (pe_ix (ixT (K := K)) (pv 7) pe_int (fun _ _ => rfl)) (pv 7) rfl)
      (pss_one (ps_set (i := 6) sc_law_reach.nd rfl (Or.inl rfl) pe_bl)))) pss_nil)))
      (pss_one (ps_if (pt_val (pv 6)) (pss_one ps_break) pss_nil)))))
      (pss_one (ps_ret (pe_lst (pa_cons (pv 3) (pa_cons (pv 4) pa_nil)))))))), ?_⟩
  have hxl := pr.length
  intro ps hps
  refine ⟨_, rfl, upd_same, [(Sum.inr x, .int 0)], rfl, (by show 1 ≤ 15; decide), ?_⟩
  have hs1 : upd (upd H ps (.dK [])) ps (.dK (mergeK [] [(Sum.inr x, .int 0)])) ps = some (.dK [(Sum.inr x, .int 0)]) := upd_same
  have e1 : Ex H (upd (upd H ps (.dK [])) ps (.dK (mergeK [] [(Sum.inr x, .int 0)]))) := ex_mut (Evl.Ex.new hps) hps
  generalize upd (upd H ps (.dK [])) ps (.dK (mergeK [] [(Sum.inr x, .int 0)])) = H1 at hs1 e1 ⊢
  intro pm hpm
  have hpm0 : H pm = none := Evl.fresh_back e1 hpm
  have nsm : ps ≠ pm := ne_of_none hs1 hpm
  have e2 := e1.trans (Evl.Ex.new hpm (o := .dK []))
  have hs2 : upd H1 pm (.dK []) ps = some (.dK [(Sum.inr x, .int 0)]) := by rw [upd_ne nsm]; exact hs1
  have hm2 : upd H1 pm (.dK []) pm = some (.dK []) := upd_same
  generalize upd H1 pm (.dK []) = H2 at e2 hs2 hm2 ⊢
  have mk0 : MK G [] L (w0 x) := ⟨fun _ _ => rfl, fun z e h => (by cases h), [], rfl, List.nodup_nil, fun _ h => (by cases h)⟩
  have sk0 : SK [(Sum.inr x, .int 0)] L (w0 x) := by
    refine ⟨fun z => ?_, [x], rfl, List.nodup_cons.mpr ⟨by simp, List.nodup_nil⟩, fun z hz => by rw [List.mem_singleton.mp hz]; exact hxL⟩
    show _ = (if z = x then some (0 : Int) else none).map V.int
    by_cases hz : z = x
    · rw [hz, if_pos rfl]; exact valV_pos rfl
    · rw [if_neg hz]
      exact (valV_neg fun e => hz (Sum.inr.inj e).symm).trans valV_nil
  refine ⟨_, rfl, _, 1, rfl, rfl, _, rfl, by omega, by omega, ?_⟩
  rw [show ((m : Int) + 1).toNat = m + 1 by omega]
  refine for_it walk_range (fun i σ' H' => i ≤ j0 ∧ ∃ tv cv ev sk mk, σ' = [some (.ref a), some (.str x), some (.int (m : Nat)), some (.ref ps), some (.ref pm), tv, cv, ev] ∧ Ex H H' ∧ H' ps = some (.dK sk) ∧ SK sk L (it es i (w0 x)) ∧ H' pm = some (.dK mk) ∧ MK G mk L (it es i (w0 x)))
    ⟨Nat.zero_le _, none, none, none, _, _, rfl, e2, hs2, sk0, hm2, mk0⟩ (fun _ _ _ _ _ => trivial) ?_ ?_
  · rintro i v σ' H' H'' hi ⟨hij, tv, cv, ev, sk, mk, rfl, e', hs', hsk, hm', hmk⟩ ⟨rfl, rfl⟩
    refine ⟨_, rfl, a, rfl, ⟨xs, SqL.of (e' _ _ (eG _ _ hx))⟩, ?_⟩
    refine for_it walk_list (fun k σ' H' => ∃ ev sk mk, σ' = [some (.ref a), some (.str x), some (.int (m : Nat)), some (.ref ps), some (.ref pm), some (.int (0 + (i : Int))), some (.bl (!((es.take k).foldl stp (it es i (w0 x), none)).2.isSome)), ev] ∧ Ex H H' ∧ H' ps = some (.dK sk) ∧ SK sk L ((es.take k).foldl stp (it es i (w0 x), none)).1 ∧ H' pm = some (.dK mk) ∧ MK G mk L ((es.take k).foldl stp (it es i (w0 x), none)).1)
      ⟨ev, sk, mk, rfl, e', hs', hsk, hm', hmk⟩ (fun i σ' H' hi ⟨_, _, _, _, e', _⟩ => SqL.of (e' _ _ (eG _ _ hx))) ?_ ?_
    · rintro k y σ' H3 H4 hk ⟨ev, sk, mk, rfl, e', hs', hsk, hm', hmk⟩ ⟨rfl, hy1⟩
      obtain ⟨e, he, r, rfl, hr1⟩ := paired_at pr hy1
      obtain ⟨e1L, e2L⟩ := hends e (List.mem_of_getElem? he)
      have hr2 := e' _ _ (eG _ _ hr1)
      rw [foldl_take he]
      generalize (es.take k).foldl stp (it es i (w0 x), none) = p at hsk hmk ⊢
      obtain ⟨qs, pl⟩ := p
      have hsk : SK sk L qs := hsk
      have hmk : MK G mk L qs := hmk
      have nrs := ne_tup hr2 hs'
      have nrm := ne_tup hr2 hm'
      have g1 := DGet.k (k := Sum.inr e.1) hs'
      have g2 := DGet.k (k := Sum.inr e.2.1) hs'
      rw [hsk.get] at g1 g2
      have hrr := SqT.of (K := K) hr2
      have skip : low qs e = false → stp (qs, pl) e = (qs, pl) := fun h => by unfold stp; rw [if_neg (by simp [h])]
      refine ⟨_, rfl, r, _, 0, _, rfl, rfl, hrr, rfl, _, rfl, ps, _, rfl, g1, _, rfl, ?_⟩
      cases hda : qs.d e.1 with
      | none =>
        refine ite2 (fun h => absurd h (by simp)) (fun _ => ?_)
        rw [skip (by unfold low; rw [hda])]
        exact ⟨_, sk, mk, rfl, e', hs', hsk, hm', hmk⟩
      | some da =>
        refine ite2 (fun _ => ?_) (fun h => absurd (by simp) h)
        rw [hda] at g1
        have hd2 : low qs e = (match qs.d e.2.1 with | none => true | some b => decide (da + e.2.2 < b)) := by unfold low; first | (rw [hda]; done) | (rw [hda]; rfl)
        have hsl : sk.length < sizeLine := sz _ (by have := hsk.len; omega)
        have hml : mk.length < sizeLine := sz _ (by have := hmk.len; omega)
        have hr3 : upd H4 ps (.dK (putK sk (Sum.inr e.2.1) (.int (da + e.2.2)))) r = some (.tup [.str e.1, .str e.2.1, .int e.2.2]) := by rw [upd_ne nrs]; exact hr2
        have hm3 : upd H4 ps (.dK (putK sk (Sum.inr e.2.1) (.int (da + e.2.2)))) pm = some (.dK mk) := by rw [upd_ne (Ne.symm nsm)]; exact hm'
        have fin : low qs e = true → ∃ ev sk' mk', [some (V.ref a), some (.str x), some (.int (m : Nat)), some (.ref ps), some (.ref pm), some (.int (0 + (i : Int))), some (.bl false), some (.ref r)] = [some (.ref a), some (.str x), some (.int (m : Nat)), some (.ref ps), some (.ref pm), some (.int (0 + (i : Int))), some (.bl (!(stp (qs, pl) e).2.isSome)), ev] ∧ Ex H (upd (upd H4 ps (.dK (putK sk (Sum.inr e.2.1) (.int (da + e.2.2))))) pm (.dK (putK mk (Sum.inr e.2.1) (.ref r)))) ∧ upd (upd H4 ps (.dK (putK sk (Sum.inr e.2.1) (.int (da + e.2.2))))) pm (.dK (putK mk (Sum.inr e.2.1) (.ref r))) ps = some (.dK sk') ∧ SK sk' L (stp (qs, pl) e).1 ∧ upd (upd H4 ps (.dK (putK sk (Sum.inr e.2.1) (.int (da + e.2.2))))) pm (.dK (putK mk (Sum.inr e.2.1) (.ref r))) pm = some (.dK mk') ∧ MK G mk' L (stp (qs, pl) e).1 := by
          intro hlow
          have hs : stp (qs, pl) e = (put qs e, some e.2.1) := by unfold stp; rw [if_pos (by simp [hlow])]
          rw [hs]
          have my : (put qs e).m e.2.1 = some e := by simp [put]
          have mn : ∀ v, v ≠ e.2.1 → (put qs e).m v = qs.m v := fun v hv => by simp [put, hv]
          have dy : (put qs e).d e.2.1 = some (da + e.2.2) := by simp [put, hda]
          have dn : ∀ v, v ≠ e.2.1 → (put qs e).d v = qs.d v := fun v hv => by simp [put, hv]
          have kt : ∀ b ys, H4 b = some (.tup ys) → upd (upd H4 ps (.dK (putK sk (Sum.inr e.2.1) (.int (da + e.2.2))))) pm (.dK (putK mk (Sum.inr e.2.1) (.ref r))) b = some (.tup ys) := fun b ys hb => by
            rw [upd_ne (ne_tup hb hm'), upd_ne (ne_tup hb hs')]; exact hb
          refine ⟨_, _, _, rfl, ex_mut (ex_mut e' hps) hpm0, ?_, hsk.put e2L dy dn, upd_same, hmk.put e2L my mn ⟨r, rfl, hr1⟩⟩
          rw [upd_ne nsm]; exact upd_same
        refine ⟨_, rfl, r, _, 1, _, rfl, rfl, hrr, rfl, _, rfl, ps, _, rfl, g2, _, rfl, ?_⟩
        cases hdb : qs.d e.2.1 with
        | none =>
          refine ite2 (fun _ => ?_) (fun h => absurd (by simp) h)
          rw [hdb] at hd2
          refine ite2 (fun _ => ?_) (fun h => absurd rfl h)
          refine ⟨_, rfl, _, rfl, r, _, 0, _, rfl, rfl, hrr, rfl, ps, _, rfl, g1, _, rfl, r, _, 2, _, rfl, rfl, hrr, rfl, _, _, rfl, rfl, _, rfl, _, rfl, r, _, 1, _, rfl, rfl, hrr, rfl, ps, _, rfl, DPut.k (k := Sum.inr e.2.1) hs' hsl, ?_⟩
          refine ⟨_, rfl, _, rfl, _, rfl, r, _, 1, _, rfl, rfl, SqT.of hr3, rfl, pm, _, rfl, DPut.k (k := Sum.inr e.2.1) hm3 hml, ?_⟩
          exact fin hd2
        | some db =>
          refine ite2 (fun h => absurd h (by simp)) (fun _ => ?_)
          rw [hdb] at g2 hd2
          refine ⟨_, rfl, _, rfl, r, _, 0, _, rfl, rfl, hrr, rfl, ps, _, rfl, g1, _, rfl, r, _, 2, _, rfl, rfl, hrr, rfl, _, _, rfl, rfl, _, rfl, _, rfl, r, _, 1, _, rfl, rfl, hrr, rfl, ps, _, rfl, g2, _, _, rfl, rfl, _, rfl, ?_⟩
          refine ite2 (fun h1 => ?_) (fun h1 => ?_)
          · refine ⟨_, rfl, _, rfl, r, _, 0, _, rfl, rfl, hrr, rfl, ps, _, rfl, g1, _, rfl, r, _, 2, _, rfl, rfl, hrr, rfl, _, _, rfl, rfl, _, rfl, _, rfl, r, _, 1, _, rfl, rfl, hrr, rfl, ps, _, rfl, DPut.k (k := Sum.inr e.2.1) hs' hsl, ?_⟩
            refine ⟨_, rfl, _, rfl, _, rfl, r, _, 1, _, rfl, rfl, SqT.of hr3, rfl, pm, _, rfl, DPut.k (k := Sum.inr e.2.1) hm3 hml, ?_⟩
            exact fin (hd2.trans h1)
          · rw [skip (hd2.trans (by rw [Bool.not_eq_true] at h1; exact h1))]
            exact ⟨_, sk, mk, rfl, e', hs', hsk, hm', hmk⟩
    · rintro σ' H3 ⟨ev, sk, mk, rfl, e', hs', hsk, hm', hmk⟩
      rw [hxl, List.take_length] at hsk hmk ⊢
      have hsk : SK sk L (rnd es (it es i (w0 x))).1 := hsk
      have hmk : MK G mk L (rnd es (it es i (w0 x))).1 := hmk
      refine ⟨_, rfl, _, rfl, ?_⟩
      show (if (!(rnd es (it es i (w0 x))).2.isSome) = true then _ else _)
      cases hc : (rnd es (it es i (w0 x))).2 with
      | none =>
        refine ite2 (fun _ => ?_) (fun h => absurd rfl h)
        have hji : i = j0 := by
          rcases Nat.eq_or_lt_of_le hij with h | h
          · exact h
          · exact absurd hc (hj i h)
        rw [(rnd_calm hc).1, hji] at hsk hmk
        refine ⟨_, rfl, _, rfl, Nat.le_of_lt (sz 2 (by omega)), fun t ht => ?_⟩
        refine q t ps pm sk mk _ (Evl.fresh_back e' ht) hps hpm0 (e'.trans (Evl.Ex.new ht)) upd_same ?_ hsk ?_ hmk
        · rw [upd_ne (ne_of_none hs' ht)]; exact hs'
        · rw [upd_ne (ne_of_none hm' ht)]; exact hm'
      | some v =>
        refine ite2 (fun h => absurd h (by simp)) (fun _ => ?_)
        have hlt : i < j0 := by
          rcases Nat.eq_or_lt_of_le hij with h | h
          · rw [h, hj0] at hc; cases hc
          · exact h
        refine ⟨hlt, some (.int (0 + (i : Int))), _, ev, sk, mk, rfl, e', hs', ?_, hm', ?_⟩
        · rw [it_succ]; exact hsk
        · rw [it_succ]; exact hmk
  · rintro σ' H' ⟨hij, _⟩
    omega
def spLed : Sp := fun vs H Q _ => ∃ pm x y L s mk p m G, vs = [.ref pm, .str x, .str y, .int ((m : Nat) : Int)] ∧ Ex G H ∧ H pm = some (.dK mk) ∧ MK G mk L s ∧ p ≤ m ∧ m ≤ 100000 ∧ bks s y p = x ∧ (∀ i, i < p → bks s y i ≠ x ∧ (s.m (bks s y i)).isSome = true) ∧
  ∀ l H2, H l = none → Ex H H2 → BdG G H2 l (rgl s y p) → Q (.ref l) H2
abbrev N_law_led : List Str := ["marks", "start", "name", "many", "way", "turn"]
theorem sc_law_led : FnScope N_law_led ["marks", "start", "name", "many"] (defScope (top 59)) := ⟨rfl, rfl, rfl, by decide +kernel, rfl, by decide +kernel, by decide +kernel⟩
theorem ok_led (T : Txt K mg) : Cal P w K mg base CX0 1 "_law_led" ["marks", "start", "name", "many"] spLed := by
  refine mkCal T.g__law_led T.d__law_led sc_law_led (fun _ _ _ _ _ _ us hl => match us, hl with | [_, _, _, _], _ => rfl) (fun vs H Q E h => ?_) fun cdv A outer s0 H vs Q E hr h => ?_
  · obtain ⟨x, _, _, _, _, _, _, _, _, rfl, _⟩ := h; rfl
  obtain ⟨pm, x, y, L, s, mk, p, m, G, rfl, eG, hpm, hmk, hp, hm1, hx, hm, q⟩ := h
  refine ⟨_, (pss_cons (ps_set (i := 4) sc_law_led.nd rfl (Or.inl rfl) (pe_lst pa_nil))
      (pss_cons (ps_for PassesOwn.never rfl (pi_range1 (by rfl) T.n_range (pa_cons (pe_op op_add (pv 3) pe_int) pa_nil)) (pg_name (i := 5) sc_law_led.nd rfl (Or.inl rfl)) (pss_one (ps_if (pt_cmpR op_ne (pv 2) (pv 1) (nomark _)) (pss_cons (ps_set (i := 4) sc_law_led.nd rfl (Or.inl rfl) (pe_op op_cat (pe_lst (pa_cons (pe_dget (hu_of hr) (pv 0) (pv 2) (fun _ _ => rfl)) pa_nil)) (pv 4)))
      (pss_one (ps_set (i := 2) sc_law_led.nd rfl (Or.inl rfl) (pe_ix (ixT (K := K)) (pe_ix (ixL (K := K)) (pv 4) pe_int (fun _ _ => rfl)) pe_int (fun _ _ => rfl))))) pss_nil)))
      (pss_one (ps_ret (pv 4))))), ?_⟩
  have bk1 : ∀ u e, s.m u = some e → bk s u = e.1 := fun u e he => by unfold bk; rw [he]
  refine ⟨Nat.zero_le _, fun l0 hl0 => ?_⟩
  refine ⟨_, rfl, _, 1, rfl, rfl, _, rfl, by omega, by omega, ?_⟩
  rw [show ((m : Int) + 1).toNat = m + 1 by omega]
  refine for_it walk_range (fun i σ' H' => ∃ tv k l, σ' = [some (.ref pm), some (.str x), some (.str (bks s y k)), some (.int (m : Nat)), some (.ref l), tv] ∧ k ≤ p ∧ (k = i ∨ k = p) ∧ H l = none ∧ Ex H H' ∧ BdG G H' l (rgl s y k))
    ⟨none, 0, l0, rfl, Nat.zero_le _, .inl rfl, hl0, Evl.Ex.new hl0, [], upd_same, .nil⟩ (fun _ _ _ _ _ => trivial) ?_ ?_
  · rintro i v σ' H' H'' hi ⟨tv, k, l, rfl, kp, ki, hl, eH, xs, hxs, pr⟩ ⟨rfl, rfl⟩
    refine ⟨_, rfl, _, rfl, rfl, _, rfl, ?_⟩
    refine ite2 (fun h1 => ?_) fun h1 => ?_
    · have hne : bks s y k ≠ x := fun z => by rw [z] at h1; simp at h1
      have hlt : k < p := by
        rcases Nat.eq_or_lt_of_le kp with h | h
        · exact absurd (by rw [h]; exact hx) hne
        · exact h
      obtain ⟨e, he⟩ := Option.isSome_iff_exists.mp (hm k hlt).2
      have ke : mkE s (bks s y k) = e := by unfold mkE; rw [he]; rfl
      have eb : bks s y (k + 1) = e.1 := bk1 _ _ he
      have hpm' := eH _ _ hpm
      obtain ⟨r2, g2, hrG⟩ := hmk.dgetG hpm' (z := bks s y k) (e := e) he
      have hr2 := (eG.trans eH) _ _ hrG
      refine ⟨_, rfl, _, rfl, pm, _, rfl, g2, Nat.le_of_lt (sz 1 (by omega)), fun l1 hl1 => ?_⟩
      have n1 : l ≠ l1 := ne_of_none hxs hl1
      have e2 := Evl.Ex.new hl1 (o := .lst [V.ref r2])
      have hlen : xs.length = k := by rw [pr.length, rgl_len]
      refine ⟨_, rfl, l1, l, _, _, rfl, rfl, upd_same, (by rw [upd_ne n1]; exact hxs), Nat.le_of_lt (sz _ (by simp; omega)), fun l2 hl2 => ?_⟩
      have e3 := e2.trans (Evl.Ex.new hl2 (o := .lst ([V.ref r2] ++ xs)))
      have hr3 := e3 _ _ hr2
      refine ⟨_, rfl, l2, _, 0, _, rfl, rfl, SqL.of upd_same, at_of (show (0 : Int) = ((0 : Nat) : Int) from rfl) rfl, r2, _, 0, _, rfl, rfl, SqT.of hr3, rfl, ?_⟩
      refine ⟨_, k + 1, l2, by rw [eb]; rfl, hlt, (by omega), Evl.fresh_back eH (Evl.fresh_back e2 hl2), eH.trans e3, _, upd_same, .cons ⟨r2, rfl, ?_⟩ pr⟩
      rw [ke]; exact hrG
    · have he1 : bks s y k = x := by
        apply Classical.byContradiction
        intro z
        refine h1 ?_
        show (!decide (V.str (bks s y k) = V.str x)) = true
        rw [decide_eq_false fun e => z (by injection e)]; rfl
      have hkp : k = p := by
        rcases Nat.eq_or_lt_of_le kp with h | h
        · exact h
        · exact absurd he1 (hm k h).1
      exact ⟨_, k, l, rfl, kp, .inr hkp, hl, eH, xs, hxs, pr⟩
  · rintro σ' H' ⟨tv, k, l, rfl, kp, ki, hl, eH, hb⟩
    have : k = p := by omega
    subst this
    exact ⟨_, rfl, q l H' hl eH hb⟩
end
end K43
namespace K43
open PySem PySem.Spec PyProof.Rows L2 Hx Hd M43
open Evl (pss_cut tCut ex_l ex_t)
/-- flat dicts -/
def FK (kvs : List (Key × V)) : Prop := (∀ p ∈ kvs, (∃ z, p.1 = Sum.inr z) ∧ ∃ d, FV p.2 d) ∧ (kvs.map (·.1)).Nodup
theorem FK.dkv {kvs : List (Key × V)} (h : FK kvs) : ∃ es, DKV kvs es ∧ (es.map (·.1)).Nodup ∧ es.length = kvs.length := by
  obtain ⟨h1, h2⟩ := h
  have gen : ∀ {kvs : List (Key × V)}, (∀ p ∈ kvs, (∃ z, p.1 = Sum.inr z) ∧ ∃ d, FV p.2 d) → ∃ es : List (PyData × PyData), DKV kvs es ∧ es.length = kvs.length := by
    intro kvs
    induction kvs with
    | nil => intro _; exact ⟨[], .nil, rfl⟩
    | cons p l ih =>
      intro h
      obtain ⟨es, e1, e2⟩ := ih fun q hq => h q (List.mem_cons_of_mem _ hq)
      obtain ⟨⟨z, hz⟩, d, f⟩ := h p (List.mem_cons_self ..)
      exact ⟨(.str z, d) :: es, .cons ⟨z, hz, rfl, f⟩ e1, by simp [e2]⟩
  obtain ⟨es, e1, e2⟩ := gen h1
  refine ⟨es, e1, ?_, e2⟩
  have mem : ∀ {kvs : List (Key × V)} {es : List (PyData × PyData)}, DKV kvs es → ∀ d ∈ es.map (·.1), ∃ z, d = .str z ∧ (Sum.inr z : Key) ∈ kvs.map (·.1) := by
    intro kvs es h
    induction h with
    | nil => intro d hd; cases hd
    | cons r t ih =>
      intro d hd
      obtain ⟨z, a, b, c⟩ := r
      rw [List.map_cons, List.mem_cons] at hd
      rcases hd with rfl | hd
      · exact ⟨z, b, by rw [List.map_cons, a]; exact List.mem_cons_self ..⟩
      · obtain ⟨z', a', b'⟩ := ih d hd
        exact ⟨z', a', List.mem_cons_of_mem _ b'⟩
  have nd : ∀ {kvs : List (Key × V)} {es : List (PyData × PyData)}, DKV kvs es → (kvs.map (·.1)).Nodup → (es.map (·.1)).Nodup := by
    intro kvs es h
    induction h with
    | nil => intro _; exact List.nodup_nil
    | cons r t ih =>
      intro hn
      obtain ⟨z, a, b, c⟩ := r
      rw [List.map_cons, List.nodup_cons] at hn ⊢
      refine ⟨fun hm => ?_, ih hn.2⟩
      obtain ⟨z', a', b'⟩ := mem t _ hm
      rw [b] at a'
      injection a' with a'
      rw [a, a'] at hn
      exact hn.1 b'
  exact nd e1 h2
theorem FK.nil : FK [] := ⟨(fun p h => by cases h), List.nodup_nil⟩
theorem FK.put {kvs : List (Key × V)} (h : FK kvs) (z : Str) {v : V} {d : PyData} (f : FV v d) : FK (putK kvs (Sum.inr z) v) := by
  unfold putK
  split
  · refine ⟨fun p hp => ?_, ?_⟩
    · obtain ⟨q, hq, rfl⟩ := List.mem_map.mp hp
      by_cases hk : q.1 = Sum.inr z
      · rw [if_pos hk]; exact ⟨⟨z, hk⟩, d, f⟩
      · rw [if_neg hk]; exact h.1 q hq
    · rw [List.map_map]
      have e : ((fun x : Key × V => x.1) ∘ fun kv : Key × V => if kv.1 = Sum.inr z then (kv.1, v) else kv) = fun kv => kv.1 := by
        funext kv
        show (if kv.1 = Sum.inr z then (kv.1, v) else kv).1 = kv.1
        split <;> rfl
      rw [e]; exact h.2
  · rename_i hn
    refine ⟨fun p hp => ?_, ?_⟩
    · rcases List.mem_append.mp hp with hp | hp
      · exact h.1 p hp
      · rw [List.mem_singleton.mp hp]; exact ⟨⟨z, rfl⟩, d, f⟩
    · rw [List.map_append, List.nodup_append]
      refine ⟨h.2, List.nodup_cons.mpr ⟨List.not_mem_nil, List.nodup_nil⟩, fun a ha b hb => ?_⟩
      rw [List.map_singleton, List.mem_singleton] at hb
      subst hb
      intro e
      refine hn ?_
      obtain ⟨q, hq, e2⟩ := List.mem_map.mp ha
      exact List.any_eq_true.mpr ⟨q, hq, decide_eq_true (e2.trans e)⟩
theorem FK.drop {kvs : List (Key × V)} (h : FK kvs) (k : Key) : FK (dropK kvs k) := by
  unfold dropK
  refine ⟨fun p hp => h.1 p (List.mem_filter.mp hp).1, ?_⟩
  exact List.Nodup.sublist (List.Sublist.map _ (List.filter_sublist ..)) h.2
theorem drop_len (kvs : List (Key × V)) (k : Key) : (dropK kvs k).length ≤ kvs.length := List.length_filter_le _ _
def ikv (l : List Str) (N : Str → Int) : List (Key × V) := l.map fun v => (Sum.inr v, V.int (N v))
theorem ikv_fk {l : List Str} {N : Str → Int} (h : l.Nodup) : FK (ikv l N) := by
  refine ⟨fun p hp => ?_, ?_⟩
  · obtain ⟨z, hz, rfl⟩ := List.mem_map.mp hp
    exact ⟨⟨z, rfl⟩, _, .int _⟩
  · have e : (ikv l N).map (·.1) = l.map Sum.inr := by unfold ikv; rw [List.map_map]; rfl
    rw [e]
    exact List.Pairwise.map _ (fun a b hab e => hab (Sum.inr.inj e)) h
theorem ikv_at {l : List Str} {N : Str → Int} : ∀ {z : Str}, z ∈ l → valV (ikv l N) (Sum.inr z) = some (.int (N z)) := by
  induction l with
  | nil => intro z h; cases h
  | cons y l ih =>
    intro z h
    by_cases hy : y = z
    · subst hy; exact valV_pos rfl
    · have : valV (ikv (y :: l) N) (Sum.inr z) = valV (ikv l N) (Sum.inr z) := valV_neg fun e => hy (Sum.inr.inj e)
      rw [this]
      exact ih (by rcases List.mem_cons.mp h with e | h; exact absurd e.symm hy; exact h)
/-- what spoilt numbers are -/
def SpN (d : PyData) : Prop := (∃ es, d = .dict es ∧ es.length ≤ 20000 ∧ (es.map (·.1)).Nodup) ∨ (∃ l : List Str, d = .list (l.map .str) ∧ l.length ≤ 20000) ∨ d = .none
/-- such values at such addresses -/
structure Sp1 (G : Hp) (xs : List V) (ds : List PyData) : Prop where
  dt : DtAll G xs ds
  sp : ∀ d ∈ ds, SpN d
theorem Sp1.ex {G G' : Hp} (e : Ex G G') {xs : List V} {ds : List PyData} (h : Sp1 G xs ds) : Sp1 G' xs ds := ⟨ex_dta e h.dt, h.sp⟩
theorem Sp1.nil {G : Hp} : Sp1 G [] [] := ⟨.nil, (fun d h => by cases h)⟩
theorem Sp1.app {G : Hp} {xs ys : List V} {ds es : List PyData} (h : Sp1 G xs ds) (h' : Sp1 G ys es) : Sp1 G (xs ++ ys) (ds ++ es) := ⟨dta_app h.dt h'.dt, fun d hd => by rcases List.mem_append.mp hd with hd | hd; exact h.sp d hd; exact h'.sp d hd⟩
theorem sp1_fk {G : Hp} {p : Addr} {kvs : List (Key × V)} (h : G p = some (.dK kvs)) (f : FK kvs) (hl : kvs.length ≤ 20000) : ∃ d, Sp1 G [.ref p] [d] := by
  obtain ⟨es, e1, e2, e3⟩ := f.dkv
  exact ⟨.dict es, .cons (.dct h e1) .nil, fun d hd => by rw [List.mem_singleton.mp hd]; exact .inl ⟨es, rfl, by omega, e2⟩⟩
theorem strs_dta {G : Hp} : ∀ l : List Str, DtAll G (l.map V.str) (l.map PyData.str)
  | [] => .nil
  | z :: l => .cons (.str z) (strs_dta l)
theorem sp1_l {G : Hp} {p : Addr} {l : List Str} (h : G p = some (.lst (l.map V.str))) (hl : l.length ≤ 20000) : Sp1 G [.ref p] [.list (l.map .str)] := ⟨.cons (.lst h (strs_dta l)) .nil, fun d hd => by rw [List.mem_singleton.mp hd]; exact .inr (.inl ⟨l, rfl, hl⟩)⟩
theorem sp1_n {G : Hp} : Sp1 G [.non] [.none] := ⟨.cons .non .nil, fun d hd => by rw [List.mem_singleton.mp hd]; exact .inr (.inr rfl)⟩
section
variable {P : Program} {w : World} {K : PySem.W.Frag} {mg : Str → Option Value} {base : Heap}
def spSpN : Sp := fun vs H Q _ => ∃ s L pn l N G, vs = [.ref s, .ref pn] ∧ Strm H s L ∧ Ex G H ∧ G s = none ∧ G pn = some (.dK (ikv l N)) ∧ l.Nodup ∧ l.length ≤ 10000 ∧
  ∀ p xs ds G2 H2, Stp (· = s) G H G2 H2 → G2 p = some (.lst xs) → Sp1 G2 xs ds → Strm H2 s L → xs.length ≤ 20 → Q (.ref p) H2
abbrev N_law_spoilt_numbers : List Str := ["stream", "numbers", "shifted", "by", "name", "found", "names", "change", "one", "rest", "more", "truth"]
theorem sc_law_spoilt_numbers : FnScope N_law_spoilt_numbers ["stream", "numbers"] (defScope (top 66)) := ⟨rfl, rfl, rfl, by decide +kernel, rfl, by decide +kernel, by decide +kernel⟩
theorem ok_spn (T : Txt K mg) (C__law_next : Cal P w K mg base CX0 1 "_law_next" ["stream", "many"] spNext) (C__law_pick : Cal P w K mg base CX0 2 "_law_pick" ["stream", "rows"] (spPick K)) : Cal P w K mg base CX0 3 "_law_spoilt_numbers" ["stream", "numbers"] spSpN := by
  refine mkCal T.g__law_spoilt_numbers T.d__law_spoilt_numbers sc_law_spoilt_numbers (fun _ _ _ _ _ _ us hl => match us, hl with | [_, _], _ => rfl) (fun vs H Q E h => ?_) fun cdv A outer s0 H vs Q E hr h => ?_
  · obtain ⟨x, _, d, _, _, _, rfl, _⟩ := h; rfl
  obtain ⟨s, L, pn, l, N, G, rfl, st, eG, gs, hpn, hnd, hll, q⟩ := h
  refine ⟨_, (pss_cons (ps_set (i := 2) sc_law_spoilt_numbers.nd rfl (Or.inl rfl) pe_dnewK)
      (pss_cons (ps_set (i := 3) sc_law_spoilt_numbers.nd rfl (Or.inl rfl) (pe_op op_sub (pe_cal (E := E0) C__law_next (hr.mono (by decide)) pass0 (pa_cons (pv 0) (pa_cons pe_int pa_nil))) pe_int))
      (pss_cons (ps_lock (ps_for PassesOwn.never rfl (pi_keys (pv 1)) (pg_name (i := 4) sc_law_spoilt_numbers.nd rfl (Or.inl rfl)) (pss_one (ps_dput (hu_of hr) (pv 2) (pv 4) (pe_op op_add (pe_dget (hu_of hr) (pv 1) (pv 4) (fun _ _ => rfl)) (pv 3)) rfl))))
      (pss_cons (ps_set (i := 5) sc_law_spoilt_numbers.nd rfl (Or.inl rfl) (pe_lst (pa_cons (pe_callTy call_dictK (by rfl) T.n_dict (by decide +kernel) (pa_cons (pv 1) pa_nil)) (pa_cons (pv 2) pa_nil))))
      (pss_cons (ps_set (i := 6) sc_law_spoilt_numbers.nd rfl (Or.inl rfl) (pe_callTy (call_list_dK rfl) (by rfl) T.n_list (by decide +kernel) (pa_cons (pv 1) pa_nil)))
      (pss_cons (ps_if (pt_cmpR op_eq (pe_callB (lenL (K := K)) (by rfl) T.n_len PySem.boot_len (pa_cons (pv 6) pa_nil)) pe_int (nomark _)) (pss_one (ps_ret (pe_op op_cat (pv 5) (pe_lst (pa_cons (pe_disp (pps_cons pe_str pe_int pps_nil) (by rfl) (by rfl) (fun z => by cases z) (by decide)) (pa_cons pe_non pa_nil)))))) pss_nil)
      (pss_cons (ps_set (i := 4) sc_law_spoilt_numbers.nd rfl (Or.inl rfl) (pe_cal (E := E0) C__law_pick (hr.mono (by decide)) pass0 (pa_cons (pv 0) (pa_cons (pv 6) pa_nil))))
      (pss_cons (ps_for PassesOwn.never rfl (piT (K := K) (pe_tup (pa_cons (pe_un un_neg pe_int) (pa_cons pe_int (pa_cons pe_int pa_nil))))) (pg_name (i := 7) sc_law_spoilt_numbers.nd rfl (Or.inl rfl)) (pss_cons (ps_set (i := 8) sc_law_spoilt_numbers.nd rfl (Or.inl rfl) (pe_callTy call_dictK (by rfl) T.n_dict (by decide +kernel) (pa_cons (pv 1) pa_nil)))
      (pss_cons (ps_dput (hu_of hr) (pv 8) (pv 4) (pe_op op_add (pe_dget (hu_of hr) (pv 8) (pv 4) (fun _ _ => rfl)) (pv 7)) rfl)
      (pss_one (ps_expr (pe_bm PySem.F.plainAttrs_list PySem.F.slot_list_append PySem.F.type_list_append mt_append (pv 5) (pa_cons (pv 8) pa_nil)))))))
      (pss_cons (ps_set (i := 9) sc_law_spoilt_numbers.nd rfl (Or.inl rfl) (pe_callTy call_dictK (by rfl) T.n_dict (by decide +kernel) (pa_cons (pv 1) pa_nil)))
      (pss_cons (ps_expr (pe_dpop1 (pv 9) (pv 4) ⟨rfl, rfl, rfl, rfl⟩))
      (pss_cons (ps_set (i := 10) sc_law_spoilt_numbers.nd rfl (Or.inl rfl) (pe_callTy call_dictK (by rfl) T.n_dict (by decide +kernel) (pa_cons (pv 1) pa_nil)))
      (pss_cons (ps_dput (hu_of hr) (pv 10) pe_str pe_int rfl)
      (pss_cons (ps_set (i := 11) sc_law_spoilt_numbers.nd rfl (Or.inl rfl) (pe_callTy call_dictK (by rfl) T.n_dict (by decide +kernel) (pa_cons (pv 1) pa_nil)))
      (pss_cons (ps_dput (hu_of hr) (pv 11) (pv 4) (pe_cmpR op_gt (pe_dget (hu_of hr) (pv 11) (pv 4) (fun _ _ => rfl)) pe_int (nomark _)) rfl)
      (pss_one (ps_ret (pe_op op_cat (pv 5) (pe_lst (pa_cons (pv 9) (pa_cons (pv 10) (pa_cons (pv 11) (pa_cons (pe_callTy (listOf (K := K)) (by rfl) T.n_list (by decide +kernel) (pa_cons (pv 6) pa_nil)) (pa_cons pe_non pa_nil))))))))))))))))))))))), ?_⟩
  have fk0 := ikv_fk (N := N) hnd
  have hkl : (ikv l N).length = l.length := by unfold ikv; rw [List.length_map]
  intro sd hsd
  have sds : sd ≠ s := fun e => st.free sd hsd e
  have pns : pn ≠ s := fun e => by rw [e, gs] at hpn; cases hpn
  have a1 := Stp.lay (M := (· = s)) eG hsd (o := .dK [])
  refine ⟨_, rfl, s, L, _, rfl, st.keep (Evl.Ex.new hsd), by omega, by omega, fun by_ H1 by0 by1 kp1 st1 => ⟨_, 4, rfl, rfl, ?_⟩⟩
  have a2 := stp_go a1 gs kp1 st1
  have hpn1 := a2.gh _ _ hpn
  have hsd1 : H1 sd = some (.dK []) := kp1 _ _ sds upd_same
  have npd : pn ≠ sd := fun e => by rw [e] at hpn; rw [eG _ _ hpn] at hsd; cases hsd
  refine ⟨pn, .dK (ikv l N), hpn1, True.intro, fun od => ?_⟩
  refine ⟨_, rfl, pn, od, rfl, .inl ⟨ikv l N, upd_same, ?_⟩⟩
  refine for_it walk_keys (fun i σ' H' => ∃ nv sh, σ' = [some (.ref s), some (.ref pn), some (.ref sd), some (.int (by_ - 4)), nv, none, none, none, none, none, none, none] ∧ H' pn = some (.frz od (.dK (ikv l N))) ∧ H' sd = some (.dK sh) ∧ FK sh ∧ sh.length ≤ i ∧ (∀ a o, a ≠ pn → a ≠ sd → H1 a = some o → H' a = some o) ∧ (∀ a, H' a = none → H1 a = none))
    ⟨none, [], rfl, upd_same, (by rw [upd_ne npd.symm]; exact hsd1), FK.nil, Nat.le_refl _, fun a o n1 n2 h => (by rw [upd_ne n1]; exact h), fun a h => (by
      by_cases n : a = pn
      · rw [n, upd_same] at h; cases h
      · rwa [upd_ne n] at h)⟩ (fun i σ' H' hi ⟨_, _, _, h, _⟩ => h) ?_ ?_
  · rintro i x σ' H' H'' hi ⟨nv, sh, rfl, h1, h2, h3, h4, h5, h6⟩ ⟨rfl, k, v, hk, rfl⟩
    have hm := List.mem_of_getElem? hk
    obtain ⟨z, hz, e⟩ := List.mem_map.mp hm
    obtain ⟨rfl, rfl⟩ := Prod.mk.inj e
    have g := dget_kr (k := (Sum.inr z : Key)) (show Rd H'' pn (.dK (ikv l N)) from .inr ⟨od, h1⟩)
    rw [ikv_at hz] at g
    rw [hkl] at hi
    refine ⟨_, rfl, _, rfl, pn, _, rfl, g, _, rfl, _, _, rfl, rfl, _, rfl, _, rfl, sd, _, rfl, DPut.k (k := (Sum.inr z : Key)) h2 (sz _ (by omega)), ?_⟩
    refine ⟨_, _, rfl, (by rw [upd_ne npd]; exact h1), upd_same, h3.put z (.int _), Nat.le_trans (length_putK _ _ _) (by omega), fun a o n1 n2 h => (by rw [upd_ne n2]; exact h5 a o n1 n2 h), fun a h => ?_⟩
    by_cases n : a = sd
    · rw [n, upd_same] at h; cases h
    · rw [upd_ne n] at h; exact h6 a h
  rintro σ' H' ⟨nv, sh, rfl, h1, h2, h3, h4, h5, h6⟩
  rw [hkl] at h4
  refine ⟨h1, ?_⟩
  have a3 : Stp (· = s) G H G (upd H' pn (.dK (ikv l N))) := by
    refine ⟨fun a o n h => ?_, fun a h => ?_, Evl.Ex.refl _, fun a o h => ?_, fun a h1 h2 => h2⟩
    · have n2 : a ≠ sd := ne_of_none h hsd
      have h := a2.hh a o n h
      by_cases n1 : a = pn
      · rw [n1, upd_same, ← hpn1, ← n1]; exact h
      · rw [upd_ne n1]; exact h5 a o n1 n2 h
    · by_cases n1 : a = pn
      · rw [n1, upd_same] at h; cases h
      · rw [upd_ne n1] at h; exact a2.dm a (h6 a h)
    · by_cases n1 : a = pn
      · rw [n1, upd_same, ← hpn, ← n1]; exact h
      · rw [upd_ne n1]
        have n2 : a ≠ sd := fun e => by rw [e, Evl.fresh_back eG hsd] at h; cases h
        exact h5 a o n1 n2 (a2.gh a o h)
  have hs3 : upd H' pn (.dK (ikv l N)) sd = some (.dK sh) := by rw [upd_ne npd.symm]; exact h2
  have st3 : Strm (upd H' pn (.dK (ikv l N))) s L := by
    obtain ⟨ns, c, k, w1, w2, w3⟩ := st1.ex
    obtain ⟨o1, x1⟩ := st.there
    obtain ⟨o2, x2⟩ := st.thereL
    have nL : L ≠ pn := fun e => by rw [e, hpn1] at w2; cases w2
    exact ⟨ns, c, k, (by rw [upd_ne pns.symm]; exact h5 s _ pns.symm (ne_of_none x1 hsd) w1), (by rw [upd_ne nL]; exact h5 L _ nL (ne_of_none x2 hsd) w2), w3⟩
  generalize upd H' pn (.dK (ikv l N)) = H3 at a3 hs3 st3
  have gsd : G sd = none := Evl.fresh_back eG hsd
  -- shifted stands
  have a4 := a3.fix hsd hs3
  obtain ⟨dS, hS⟩ := sp1_fk (G := upd G sd (.dK sh)) upd_same h3 (by omega)
  have x4 : Ex G (upd G sd (.dK sh)) := Evl.Ex.new gsd
  have hpn4 := x4 _ _ hpn
  have gs4 := a4.fr s (some_ne st.there.choose_spec) gs
  generalize upd G sd (.dK sh) = G4 at a4 hS x4 hpn4 gs4
  have there : ∀ {X}, st.there = X → True := fun _ => trivial
  -- found
  refine ⟨_, rfl, pn, _, rfl, a4.gh _ _ hpn4, fun c hc => ?_⟩
  have a5 := a4.trans (Stp.new a4.gh hc (o := .dK (ikv l N)))
  have gc : G4 c = none := Evl.fresh_back a4.gh hc
  obtain ⟨dC, hC⟩ := sp1_fk (G := upd G4 c (.dK (ikv l N))) upd_same fk0 (by omega)
  have x5 : Ex G4 (upd G4 c (.dK (ikv l N))) := Evl.Ex.new gc
  have h5S := (hC.app (hS.ex x5))
  have hpn5 := x5 _ _ hpn4
  have gs5 := a5.fr s (some_ne st.there.choose_spec) gs
  have st5 := st3.keep (Evl.Ex.new hc (o := .dK (ikv l N)))
  generalize upd G4 c (.dK (ikv l N)) = G5 at a5 h5S hpn5 gs5
  generalize upd H3 c (.dK (ikv l N)) = H5 at a5 st5
  refine ⟨_, rfl, Nat.le_of_lt (sz 2 (by omega)), fun f hf => ?_⟩
  have hf0 := a5.dm f hf
  have gf5 : G5 f = none := Evl.fresh_back a5.gh hf
  have a6 := a5.trans (Stp.lay a5.gh hf (o := .lst [.ref c, .ref sd]))
  have st6 := st5.keep (Evl.Ex.new hf (o := .lst [.ref c, .ref sd]))
  have hf6 : upd H5 f (.lst [.ref c, .ref sd]) f = some (.lst [.ref c, .ref sd]) := upd_same
  generalize upd H5 f (.lst [.ref c, .ref sd]) = H6 at a6 st6 hf6
  -- names
  refine ⟨_, rfl, pn, _, rfl, a6.gh _ _ hpn5, fun nl hnl => ?_⟩
  have hkk : ((ikv l N).map fun kv => kV kv.1) = l.map V.str := by unfold ikv; rw [List.map_map]; rfl
  rw [hkk]
  have a7 := a6.trans (Stp.new a6.gh hnl (o := .lst (l.map V.str)))
  have gnl : G5 nl = none := Evl.fresh_back a6.gh hnl
  have x7 : Ex G5 (upd G5 nl (.lst (l.map V.str))) := Evl.Ex.new gnl
  have nfl : f ≠ nl := ne_of_none hf6 hnl
  have h7S := h5S.ex x7
  have hpn7 := x7 _ _ hpn5
  have hnl7 : upd G5 nl (.lst (l.map V.str)) nl = some (.lst (l.map V.str)) := upd_same
  have gs7 := a7.fr s (some_ne st.there.choose_spec) gs
  have gf7 : upd G5 nl (.lst (l.map V.str)) f = none := by rw [upd_ne nfl]; exact gf5
  have st7 := st6.keep (Evl.Ex.new hnl (o := .lst (l.map V.str)))
  have hf7 : upd H6 nl (.lst (l.map V.str)) f = some (.lst [.ref c, .ref sd]) := by rw [upd_ne nfl]; exact hf6
  generalize upd G5 nl (.lst (l.map V.str)) = G7 at a7 h7S hpn7 hnl7 gs7 gf7
  generalize upd H6 nl (.lst (l.map V.str)) = H7 at a7 st7 hf7
  refine ⟨_, rfl, nl, _, rfl, .inl (SqL.of (a7.gh _ _ hnl7)), rfl, _, rfl, ?_⟩
  rw [List.length_map]
  refine ite2 (fun h0 => ?_) (fun h0 => ?_)
  · refine ⟨_, rfl, ?_⟩
    intro e0 he0
    refine ⟨upd_same, [(Sum.inr (Str.ofString "a"), .int 0)], rfl, (by show 1 ≤ 15; decide), ?_⟩
    have hs1 : upd (upd H7 e0 (.dK [])) e0 (.dK (mergeK [] [(Sum.inr (Str.ofString "a"), .int 0)])) e0 = some (.dK [(Sum.inr (Str.ofString "a"), .int 0)]) := upd_same
    have ha1 := (a7.trans (Stp.lay a7.gh he0 (o := .dK []))).mut (o := .dK (mergeK [] [(Sum.inr (Str.ofString "a"), .int 0)])) (p := e0) (.inl (a7.dm e0 he0)) (Evl.fresh_back a7.gh he0)
    have nfe : f ≠ e0 := ne_of_none hf7 he0
    have hfe : upd (upd H7 e0 (.dK [])) e0 (.dK (mergeK [] [(Sum.inr (Str.ofString "a"), .int 0)])) f = some (.lst [.ref c, .ref sd]) := by rw [upd_ne nfe, upd_ne nfe]; exact hf7
    have ste := (st7.keep (Evl.Ex.new he0 (o := .dK []))).mut (o := .dK (mergeK [] [(Sum.inr (Str.ofString "a"), .int 0)])) st (a7.dm e0 he0)
    generalize upd (upd H7 e0 (.dK [])) e0 (.dK (mergeK [] [(Sum.inr (Str.ofString "a"), .int 0)])) = He at hs1 ha1 hfe ste ⊢
    have hb := ha1.fix (a7.dm e0 he0) hs1
    have ge0 : G7 e0 = none := Evl.fresh_back a7.gh he0
    have xe : Ex G7 (upd G7 e0 (.dK [(Sum.inr (Str.ofString "a"), .int 0)])) := Evl.Ex.new ge0
    obtain ⟨dA, hA⟩ := sp1_fk (G := upd G7 e0 (.dK [(Sum.inr (Str.ofString "a"), .int 0)])) upd_same (FK.nil.put (Str.ofString "a") (.int 0)) (by decide)
    have hall := (h7S.ex xe).app (hA.app sp1_n)
    refine ⟨Nat.le_of_lt (sz 2 (by omega)), fun t ht => ?_⟩
    have nft : f ≠ t := ne_of_none hfe ht
    refine ⟨f, t, [.ref c, .ref sd], _, rfl, rfl, (by rw [upd_ne nft]; exact hfe), upd_same, Nat.le_of_lt (show 4 < sizeLine from sz 4 (by omega)), fun p hp => ?_⟩
    have hc1 := hb.trans (Stp.lay hb.gh ht (o := .lst [.ref e0, .non]))
    have hc2 := hc1.trans (Stp.new hc1.gh hp (o := .lst ([.ref c, .ref sd] ++ [.ref e0, .non])))
    exact q p _ _ _ _ hc2 upd_same (hall.ex (Evl.Ex.new (Evl.fresh_back hc1.gh hp))) ((ste.keep (Evl.Ex.new ht)).keep (Evl.Ex.new hp)) (show 4 ≤ 20 by decide)
  have hl0 : 1 ≤ l.length := by
    apply Classical.byContradiction
    intro z
    refine h0 ?_
    rw [show l.length = 0 by omega]; rfl
  have nls : nl ≠ s := fun e => by rw [e, gs7] at hnl7; cases hnl7
  refine ⟨_, rfl, _, rfl, s, L, nl, _, rfl, st7, .inl (SqL.of (a7.gh _ _ hnl7)), nls, by rw [List.length_map]; exact hl0, by rw [List.length_map]; omega, fun j x H8 hx kp8 st8 => ?_⟩
  obtain ⟨z, rfl, hz⟩ : ∃ z, x = V.str z ∧ z ∈ l := by
    rw [List.getElem?_map] at hx
    obtain ⟨z, hz, e⟩ := Option.map_eq_some_iff.mp hx
    exact ⟨z, e.symm, List.mem_of_getElem? hz⟩
  have a8 := stp_go a7 gs7 kp8 st8
  have nfs : f ≠ s := fun e => st.free f hf0 e
  have hf8 := kp8 f _ nfs hf7
  refine ⟨1, rfl, Nat.le_of_lt (sz 3 (by omega)), fun t ht => ?_⟩
  have a9 := a8.trans (Stp.new a8.gh ht (o := .tup [.int (-1), .int 1, .int 2]))
  have gt : G7 t = none := Evl.fresh_back a8.gh ht
  have x9 : Ex G7 (upd G7 t (.tup [.int (-1), .int 1, .int 2])) := Evl.Ex.new gt
  have nft : f ≠ t := ne_of_none hf8 ht
  have h9S := h7S.ex x9
  have hpn9 := x9 _ _ hpn7
  have hnl9 := x9 _ _ hnl7
  have ht9 : upd G7 t (.tup [.int (-1), .int 1, .int 2]) t = some (.tup [.int (-1), .int 1, .int 2]) := upd_same
  have gf9 : upd G7 t (.tup [.int (-1), .int 1, .int 2]) f = none := by rw [upd_ne nft]; exact gf7
  have hf9 : upd H8 t (.tup [.int (-1), .int 1, .int 2]) f = some (.lst [.ref c, .ref sd]) := by rw [upd_ne nft]; exact hf8
  have st9 := st8.keep (Evl.Ex.new ht (o := .tup [.int (-1), .int 1, .int 2]))
  generalize upd G7 t (.tup [.int (-1), .int 1, .int 2]) = G9 at a9 h9S hpn9 hnl9 ht9 gf9
  generalize hH9 : upd H8 t (.tup [.int (-1), .int 1, .int 2]) = H9 at a9 st9 hf9
  refine ⟨t, rfl, ⟨[.int (-1), .int 1, .int 2], SqT.of (a9.gh _ _ ht9)⟩, ?_⟩
  have hzv : valV (ikv l N) (Sum.inr z) = some (.int (N z)) := ikv_at hz
  refine for_it walk_tup (fun i σ' H' => ∃ tv ov xs ds G', σ' = [some (.ref s), some (.ref pn), some (.ref sd), some (.int (by_ - 4)), some (.str z), some (.ref f), some (.ref nl), tv, ov, none, none, none] ∧ Stp (· = s) G H G' H' ∧ Ex G9 G' ∧ G' f = none ∧ H' f = some (.lst xs) ∧ Sp1 G' xs ds ∧ xs.length = 2 + i ∧ Strm H' s L)
    ⟨none, none, _, _, G9, rfl, a9, Evl.Ex.refl _, gf9, hf9, h9S, rfl, st9⟩ (fun i σ' H' hi ⟨_, _, _, _, _, _, a, x, _⟩ => SqT.of (a.gh _ _ (x _ _ ht9))) ?_ ?_
  · rintro i v σ' H' H'' hi ⟨tv, ov, xs, ds, G', rfl, a, x, gf, hf, hS, hxl, st'⟩ ⟨rfl, hy1⟩
    obtain ⟨k, rfl⟩ : ∃ k, v = V.int k := by
      have hm := List.mem_of_getElem? hy1
      simp only [List.mem_cons, List.not_mem_nil, or_false] at hm
      rcases hm with rfl | rfl | rfl <;> exact ⟨_, rfl⟩
    have hi3 : i < 3 := hi
    refine ⟨_, rfl, pn, _, rfl, a.gh _ _ (x _ _ hpn9), fun o1 ho1 => ?_⟩
    have g1 := DGet.k (k := (Sum.inr z : Key)) (show upd H'' o1 (.dK (ikv l N)) o1 = some (.dK (ikv l N)) from upd_same)
    rw [hzv] at g1
    have b1 := a.trans (Stp.lay a.gh ho1 (o := .dK (ikv l N)))
    have ho0 := a.dm o1 ho1
    have go1 : G' o1 = none := Evl.fresh_back a.gh ho1
    have nfo : f ≠ o1 := ne_of_none hf ho1
    refine ⟨_, rfl, _, rfl, o1, _, rfl, g1, _, rfl, _, _, rfl, rfl, _, rfl, _, rfl, o1, _, rfl, DPut.k (k := (Sum.inr z : Key)) upd_same (by rw [hkl]; exact sz _ (by omega)), ?_⟩
    have b2 := b1.mut (p := o1) (o := .dK (putK (ikv l N) (Sum.inr z) (.int (N z + k)))) (.inl ho0) go1
    have b3 := b2.fix ho0 upd_same
    obtain ⟨dO, hO⟩ := sp1_fk (G := upd G' o1 (.dK (putK (ikv l N) (Sum.inr z) (.int (N z + k))))) upd_same (fk0.put z (.int (N z + k))) (Nat.le_trans (length_putK _ _ _) (by omega))
    have x3 : Ex G' (upd G' o1 (.dK (putK (ikv l N) (Sum.inr z) (.int (N z + k))))) := Evl.Ex.new go1
    have hfo : upd (upd H'' o1 (.dK (ikv l N))) o1 (.dK (putK (ikv l N) (Sum.inr z) (.int (N z + k)))) f = some (.lst xs) := by rw [upd_ne nfo, upd_ne nfo]; exact hf
    have sto := (st'.keep (Evl.Ex.new ho1 (o := .dK (ikv l N)))).mut (o := .dK (putK (ikv l N) (Sum.inr z) (.int (N z + k)))) st ho0
    have gfo : upd G' o1 (.dK (putK (ikv l N) (Sum.inr z) (.int (N z + k)))) f = none := by rw [upd_ne nfo]; exact gf
    refine ⟨_, rfl, .inl ⟨rfl, _, SqL.of hfo⟩, _, rfl, f, xs, _, rfl, rfl, hfo, sz _ (by omega), ?_⟩
    exact ⟨_, _, xs ++ [.ref o1], ds ++ [dO], _, rfl, b3.mut (.inl hf0) gfo, x.trans x3, gfo, upd_same, (hS.ex x3).app hO, by rw [List.length_append, hxl]; rfl, sto.mut st hf0⟩
  rintro σ' H10 ⟨tv, ov, xs, ds, G10, rfl, a10, x10, gf10, hf10, h10S, hxl, st10⟩
  have hxl : xs.length = 5 := hxl
  have hpn10 := x10 _ _ hpn9
  have hnl10 := x10 _ _ hnl9
  -- rest
  refine ⟨_, rfl, pn, _, rfl, a10.gh _ _ hpn10, fun o1 ho1 => ?_⟩
  have b1 := a10.trans (Stp.lay a10.gh ho1 (o := .dK (ikv l N)))
  have ho0 := a10.dm o1 ho1
  have go1 : G10 o1 = none := Evl.fresh_back a10.gh ho1
  have nfo : f ≠ o1 := ne_of_none hf10 ho1
  refine ⟨_, rfl, o1, rfl, .inl ⟨_, .inl upd_same⟩, _, rfl, _, (Sum.inr z : Key), _, upd_same, rfl, hzv, ?_⟩
  have b2 := b1.mut (p := o1) (o := .dK (dropK (ikv l N) (Sum.inr z))) (.inl ho0) go1
  have b3 := b2.fix ho0 upd_same
  obtain ⟨dR, hR⟩ := sp1_fk (G := upd G10 o1 (.dK (dropK (ikv l N) (Sum.inr z)))) upd_same (fk0.drop _) (Nat.le_trans (drop_len _ _) (by omega))
  have x3 : Ex G10 (upd G10 o1 (.dK (dropK (ikv l N) (Sum.inr z)))) := Evl.Ex.new go1
  have hf11 : upd (upd H10 o1 (.dK (ikv l N))) o1 (.dK (dropK (ikv l N) (Sum.inr z))) f = some (.lst xs) := by rw [upd_ne nfo, upd_ne nfo]; exact hf10
  have st11 := (st10.keep (Evl.Ex.new ho1 (o := .dK (ikv l N)))).mut (o := .dK (dropK (ikv l N) (Sum.inr z))) st ho0
  have gf11 : upd G10 o1 (.dK (dropK (ikv l N) (Sum.inr z))) f = none := by rw [upd_ne nfo]; exact gf10
  have hpn11 := x3 _ _ hpn10
  have hnl11 := x3 _ _ hnl10
  have h11S := h10S.ex x3
  generalize upd G10 o1 (.dK (dropK (ikv l N) (Sum.inr z))) = G11 at b3 hR x3 gf11 hpn11 hnl11 h11S
  generalize upd (upd H10 o1 (.dK (ikv l N))) o1 (.dK (dropK (ikv l N) (Sum.inr z))) = H11 at b3 hf11 st11
  -- more
  refine ⟨_, rfl, pn, _, rfl, b3.gh _ _ hpn11, fun o2 ho2 => ?_⟩
  have c1 := b3.trans (Stp.lay b3.gh ho2 (o := .dK (ikv l N)))
  have ho20 := b3.dm o2 ho2
  have go2 : G11 o2 = none := Evl.fresh_back b3.gh ho2
  have nfo2 : f ≠ o2 := ne_of_none hf11 ho2
  refine ⟨_, rfl, o2, _, rfl, DPut.k (k := (Sum.inr (Str.ofString "Z z") : Key)) upd_same (by rw [hkl]; exact sz _ (by omega)), ?_⟩
  have c2 := c1.mut (p := o2) (o := .dK (putK (ikv l N) (Sum.inr (Str.ofString "Z z")) (.int 0))) (.inl ho20) go2
  have c3 := c2.fix ho20 upd_same
  obtain ⟨dM, hM⟩ := sp1_fk (G := upd G11 o2 (.dK (putK (ikv l N) (Sum.inr (Str.ofString "Z z")) (.int 0)))) upd_same (fk0.put _ (.int 0)) (Nat.le_trans (length_putK _ _ _) (by omega))
  have x4 : Ex G11 (upd G11 o2 (.dK (putK (ikv l N) (Sum.inr (Str.ofString "Z z")) (.int 0)))) := Evl.Ex.new go2
  have hf12 : upd (upd H11 o2 (.dK (ikv l N))) o2 (.dK (putK (ikv l N) (Sum.inr (Str.ofString "Z z")) (.int 0))) f = some (.lst xs) := by rw [upd_ne nfo2, upd_ne nfo2]; exact hf11
  have st12 := (st11.keep (Evl.Ex.new ho2 (o := .dK (ikv l N)))).mut (o := .dK (putK (ikv l N) (Sum.inr (Str.ofString "Z z")) (.int 0))) st ho20
  have gf12 : upd G11 o2 (.dK (putK (ikv l N) (Sum.inr (Str.ofString "Z z")) (.int 0))) f = none := by rw [upd_ne nfo2]; exact gf11
  have hpn12 := x4 _ _ hpn11
  have hnl12 := x4 _ _ hnl11
  have h12S := h11S.ex x4
  have hR := hR.ex x4
  generalize upd G11 o2 (.dK (putK (ikv l N) (Sum.inr (Str.ofString "Z z")) (.int 0))) = G12 at c3 hM x4 gf12 hpn12 hnl12 h12S hR
  generalize upd (upd H11 o2 (.dK (ikv l N))) o2 (.dK (putK (ikv l N) (Sum.inr (Str.ofString "Z z")) (.int 0))) = H12 at c3 hf12 st12
  -- truth
  refine ⟨_, rfl, pn, _, rfl, c3.gh _ _ hpn12, fun o3 ho3 => ?_⟩
  have d1 := c3.trans (Stp.lay c3.gh ho3 (o := .dK (ikv l N)))
  have ho30 := c3.dm o3 ho3
  have go3 : G12 o3 = none := Evl.fresh_back c3.gh ho3
  have nfo3 : f ≠ o3 := ne_of_none hf12 ho3
  have g3 := DGet.k (k := (Sum.inr z : Key)) (show upd H12 o3 (.dK (ikv l N)) o3 = some (.dK (ikv l N)) from upd_same)
  rw [hzv] at g3
  refine ⟨_, rfl, _, rfl, o3, _, rfl, g3, _, _, rfl, rfl, _, rfl, _, rfl, o3, _, rfl, DPut.k (k := (Sum.inr z : Key)) upd_same (by rw [hkl]; exact sz _ (by omega)), ?_⟩
  have d2 := d1.mut (p := o3) (o := .dK (putK (ikv l N) (Sum.inr z) (.bl (decide (0 < N z))))) (.inl ho30) go3
  have d3 := d2.fix ho30 upd_same
  obtain ⟨dT, hT⟩ := sp1_fk (G := upd G12 o3 (.dK (putK (ikv l N) (Sum.inr z) (.bl (decide (0 < N z)))))) upd_same (fk0.put z (.bl (decide (0 < N z)))) (Nat.le_trans (length_putK _ _ _) (by omega))
  have x5 : Ex G12 (upd G12 o3 (.dK (putK (ikv l N) (Sum.inr z) (.bl (decide (0 < N z)))))) := Evl.Ex.new go3
  have hf13 : upd (upd H12 o3 (.dK (ikv l N))) o3 (.dK (putK (ikv l N) (Sum.inr z) (.bl (decide (0 < N z))))) f = some (.lst xs) := by rw [upd_ne nfo3, upd_ne nfo3]; exact hf12
  have st13 := (st12.keep (Evl.Ex.new ho3 (o := .dK (ikv l N)))).mut (o := .dK (putK (ikv l N) (Sum.inr z) (.bl (decide (0 < N z))))) st ho30
  have gf13 : upd G12 o3 (.dK (putK (ikv l N) (Sum.inr z) (.bl (decide (0 < N z))))) f = none := by rw [upd_ne nfo3]; exact gf12
  have hnl13 := x5 _ _ hnl12
  have h13S := h12S.ex x5
  have hR := hR.ex x5
  have hM := hM.ex x5
  generalize upd G12 o3 (.dK (putK (ikv l N) (Sum.inr z) (.bl (decide (0 < N z))))) = G13 at d3 hT x5 gf13 hnl13 h13S hR hM
  generalize upd (upd H12 o3 (.dK (ikv l N))) o3 (.dK (putK (ikv l N) (Sum.inr z) (.bl (decide (0 < N z))))) = H13 at d3 hf13 st13
  -- the end
  refine ⟨_, rfl, _, rfl, _, rfl, _, rfl, _, rfl, nl, _, rfl, .inl (SqL.of (d3.gh _ _ hnl13)), fun c1 hc1 => ?_⟩
  have k1 := d3.trans (Stp.new d3.gh hc1 (o := .lst (l.map V.str)))
  have y1 : Ex G13 (upd G13 c1 (.lst (l.map V.str))) := Evl.Ex.new (Evl.fresh_back d3.gh hc1)
  have hL1 := sp1_l (G := upd G13 c1 (.lst (l.map V.str))) (l := l) upd_same (by omega)
  have nfc : f ≠ c1 := ne_of_none hf13 hc1
  refine ⟨Nat.le_of_lt (sz 5 (by omega)), fun t1 ht1 => ?_⟩
  have hf14 : upd H13 c1 (.lst (l.map V.str)) f = some (.lst xs) := by rw [upd_ne nfc]; exact hf13
  have nft1 : f ≠ t1 := ne_of_none hf14 ht1
  refine ⟨f, t1, _, _, rfl, rfl, (by rw [upd_ne nft1]; exact hf14), upd_same, Nat.le_of_lt (sz _ (by simp [hxl])), fun p hp => ?_⟩
  have k2 := k1.trans (Stp.lay k1.gh ht1 (o := .lst [.ref o1, .ref o2, .ref o3, .ref c1, .non]))
  have k3 := k2.trans (Stp.new k2.gh hp (o := .lst (xs ++ [.ref o1, .ref o2, .ref o3, .ref c1, .non])))
  have hall := (h13S.ex y1).app ((hR.ex y1).app ((hM.ex y1).app ((hT.ex y1).app (hL1.app sp1_n))))
  exact q p _ _ _ _ k3 upd_same (hall.ex (Evl.Ex.new (Evl.fresh_back k2.gh hp))) (((st13.keep (Evl.Ex.new hc1)).keep (Evl.Ex.new ht1)).keep (Evl.Ex.new hp)) (by rw [List.length_append, hxl]; show 5 + 5 ≤ 20; decide)
end
end K43
namespace K43
open PySem PySem.Spec PyProof.Rows L2 Hx Hd M43
open Evl (pss_cut tCut ex_l ex_t)
/-- a step of the law's own: what stands in G stands, the stream moves -/
structure Ga (s L : Addr) (G0 H0 G H : Hp) : Prop where
  a : Stp (· = s) G0 H0 G H
  st : Strm H s L
  s0 : Strm H0 s L
  g0 : G0 s = none
theorem Ga.gs {s L : Addr} {G0 H0 G H : Hp} (h : Ga s L G0 H0 G H) : G s = none := h.a.fr s (some_ne h.s0.there.choose_spec) h.g0
theorem Ga.ge {s L : Addr} {G0 H0 G H : Hp} (h : Ga s L G0 H0 G H) : Ex G H := h.a.gh
theorem Ga.lay {s L : Addr} {G0 H0 G H : Hp} (h : Ga s L G0 H0 G H) {p : Addr} {o : HO} (hp : H p = none) : Ga s L G0 H0 G (upd H p o) := ⟨h.a.trans (Stp.lay h.a.gh hp), h.st.keep (Evl.Ex.new hp), h.s0, h.g0⟩
theorem Ga.new {s L : Addr} {G0 H0 G H : Hp} (h : Ga s L G0 H0 G H) {p : Addr} {o : HO} (hp : H p = none) : Ga s L G0 H0 (upd G p o) (upd H p o) := ⟨h.a.trans (Stp.new h.a.gh hp), h.st.keep (Evl.Ex.new hp), h.s0, h.g0⟩
theorem Ga.fr {s L : Addr} {G0 H0 G H : Hp} (h : Ga s L G0 H0 G H) {p : Addr} {o : HO} (hp : H p = none) : Ex G (upd G p o) := Evl.Ex.new (Evl.fresh_back h.a.gh hp)
theorem Ga.next {s L : Addr} {G0 H0 G H H2 : Hp} (h : Ga s L G0 H0 G H) (kp : Kp s H H2) (st2 : Strm H2 s L) : Ga s L G0 H0 G H2 := ⟨stp_go h.a h.gs kp st2, st2, h.s0, h.g0⟩
theorem Ga.refl {s L : Addr} {G H : Hp} (e : Ex G H) (st : Strm H s L) (g : G s = none) : Ga s L G H G H := ⟨Stp.refl e, st, st, g⟩
theorem Ga.ex {s L : Addr} {G0 H0 G H H2 : Hp} (h : Ga s L G0 H0 G H) (e : Ex H H2) : Ga s L G0 H0 G H2 := ⟨h.a.trans (Stp.of h.a.gh e), h.st.keep e, h.s0, h.g0⟩
theorem Ga.stp {s L : Addr} {G0 H0 G H G2 H2 : Hp} (h : Ga s L G0 H0 G H) (b : Stp (· = s) G H G2 H2) (st2 : Strm H2 s L) : Ga s L G0 H0 G2 H2 := ⟨h.a.trans b, st2, h.s0, h.g0⟩
/-- such values -/
def Vs (P : PyData → Prop) (G : Hp) (xs : List V) : Prop := ∀ x ∈ xs, ∃ d, Dt G x d ∧ P d
theorem Vs.ex {P : PyData → Prop} {G G' : Hp} (e : Ex G G') {xs : List V} (h : Vs P G xs) : Vs P G' xs := fun x hx => let ⟨d, a, b⟩ := h x hx; ⟨d, ex_dt e _ _ a, b⟩
theorem Vs.nil {P : PyData → Prop} {G : Hp} : Vs P G [] := fun x h => by cases h
theorem Vs.app {P : PyData → Prop} {G : Hp} {xs ys : List V} (h : Vs P G xs) (h' : Vs P G ys) : Vs P G (xs ++ ys) := fun x hx => by rcases List.mem_append.mp hx with hx | hx; exact h x hx; exact h' x hx
theorem Vs.one {P : PyData → Prop} {G : Hp} {x : V} {d : PyData} (h : Dt G x d) (p : P d) : Vs P G [x] := fun y hy => by rw [List.mem_singleton.mp hy]; exact ⟨d, h, p⟩
theorem Vs.cons {P : PyData → Prop} {G : Hp} {x : V} {xs : List V} {d : PyData} (h : Dt G x d) (p : P d) (t : Vs P G xs) : Vs P G (x :: xs) := (Vs.one h p).app t
theorem Vs.sub {P : PyData → Prop} {G : Hp} {xs ys : List V} (h : Vs P G xs) (s : ∀ y ∈ ys, y ∈ xs) : Vs P G ys := fun y hy => h y (s y hy)
theorem Vs.imp {P P' : PyData → Prop} {G : Hp} {xs : List V} (h : Vs P G xs) (i : ∀ d, P d → P' d) : Vs P' G xs := fun x hx => let ⟨d, a, b⟩ := h x hx; ⟨d, a, i d b⟩
theorem Vs.dta {P : PyData → Prop} {G : Hp} : ∀ {xs : List V}, Vs P G xs → ∃ ds, DtAll G xs ds ∧ ∀ d ∈ ds, P d
  | [], _ => ⟨[], .nil, (fun d h => by cases h)⟩
  | x :: xs, h => by
    obtain ⟨d, h1, h2⟩ := h x (List.mem_cons_self ..)
    obtain ⟨ds, h3, h4⟩ := Vs.dta (xs := xs) fun y hy => h y (List.mem_cons_of_mem _ hy)
    exact ⟨d :: ds, .cons h1 h3, fun e he => by rcases List.mem_cons.mp he with rfl | he; exact h2; exact h4 e he⟩
/-- a part of a way -/
def WEl (d : PyData) : Prop := (∃ b : Bd, d = encB b) ∨ ∃ x y k, d = .list [.str x, .str y, .int k]
/-- what spoilt ways are -/
def SpW (d : PyData) : Prop := ∃ ds, (d = .tuple ds ∨ d = .list ds) ∧ ds.length ≤ 5000 ∧ ∀ e ∈ ds, WEl e
theorem ways_vs {G : Hp} {xs : List V} {es : List Bd} (h : Paired (Tb G) xs es) : Vs WEl G xs := fun x hx => by
  obtain ⟨e, _, t⟩ := paired_all h x hx
  exact ⟨encB e, tb_dt t, .inl ⟨e, rfl⟩⟩
theorem spw_t {G : Hp} {r : Addr} {us : List V} (h : G r = some (.tup us)) (v : Vs WEl G us) (hl : us.length ≤ 5000) : ∃ d, Dt G (.ref r) d ∧ SpW d := by
  obtain ⟨ds, h1, h2⟩ := v.dta
  exact ⟨.tuple ds, .tup h h1, ds, .inl rfl, by rw [← dta_len h1]; exact hl, h2⟩
theorem spw_l {G : Hp} {r : Addr} {us : List V} (h : G r = some (.lst us)) (v : Vs WEl G us) (hl : us.length ≤ 5000) : ∃ d, Dt G (.ref r) d ∧ SpW d := by
  obtain ⟨ds, h1, h2⟩ := v.dta
  exact ⟨.list ds, .lst h h1, ds, .inr rfl, by rw [← dta_len h1]; exact hl, h2⟩
/-- a list that grows -/
structure Fd (P : PyData → Prop) (s L f : Addr) (G0 H0 G H : Hp) (xs : List V) : Prop where
  ga : Ga s L G0 H0 G H
  f0 : H0 f = none
  gf : G f = none
  hf : H f = some (.lst xs)
  sp : Vs P G xs
section
variable {Pd : PyData → Prop} {s L f : Addr} {G0 H0 G H : Hp} {xs : List V}
theorem Fd.lay (h : Fd Pd s L f G0 H0 G H xs) {p : Addr} {o : HO} (hp : H p = none) : Fd Pd s L f G0 H0 G (upd H p o) xs := ⟨h.ga.lay hp, h.f0, h.gf, (by rw [upd_ne (ne_of_none h.hf hp)]; exact h.hf), h.sp⟩
theorem Fd.new (h : Fd Pd s L f G0 H0 G H xs) {p : Addr} {o : HO} (hp : H p = none) : Fd Pd s L f G0 H0 (upd G p o) (upd H p o) xs := ⟨h.ga.new hp, h.f0, (by rw [upd_ne (ne_of_none h.hf hp)]; exact h.gf), (by rw [upd_ne (ne_of_none h.hf hp)]; exact h.hf), h.sp.ex (h.ga.fr hp)⟩
theorem Fd.next (h : Fd Pd s L f G0 H0 G H xs) {H2 : Hp} (kp : Kp s H H2) (st2 : Strm H2 s L) : Fd Pd s L f G0 H0 G H2 xs := ⟨h.ga.next kp st2, h.f0, h.gf, kp f _ (fun e => h.ga.s0.free f h.f0 e) h.hf, h.sp⟩
theorem Fd.app (h : Fd Pd s L f G0 H0 G H xs) {x : V} (hx : ∃ d, Dt G x d ∧ Pd d) : Fd Pd s L f G0 H0 G (upd H f (.lst (xs ++ [x]))) (xs ++ [x]) :=
  ⟨⟨h.ga.a.mut (.inl h.f0) h.gf, h.ga.st.mut h.ga.s0 h.f0, h.ga.s0, h.ga.g0⟩, h.f0, h.gf, upd_same, h.sp.app (let ⟨d, a, b⟩ := hx; Vs.one a b)⟩
theorem Fd.fix (h : Fd Pd s L f G0 H0 G H xs) : Ga s L G0 H0 (upd G f (.lst xs)) H ∧ Vs Pd (upd G f (.lst xs)) xs := ⟨⟨h.ga.a.fix h.f0 h.hf, h.ga.st, h.ga.s0, h.ga.g0⟩, h.sp.ex (Evl.Ex.new h.gf)⟩
end
theorem cutV_len (xs : List V) (lo hi : Option Int) {n : Nat} (h : xs.length ≤ n) : (cutV xs lo hi).length ≤ n := Nat.le_trans (cutV_length xs lo hi) h
section
variable {P : Program} {w : World} {K : PySem.W.Frag} {mg : Str → Option Value} {base : Heap}
def spSpW : Sp := fun vs H Q _ => ∃ s L a es wl way G, vs = [.ref s, .ref a, .ref wl] ∧ Strm H s L ∧ Ex G H ∧ G s = none ∧ Bds G a es ∧ Bds G wl way ∧ es.length ≤ 1000 ∧ way.length ≤ 1000 ∧
  ∀ p xs G2 H2, Ga s L G H G2 H2 → G2 p = some (.lst xs) → Vs SpW G2 xs → xs.length ≤ 20 → Q (.ref p) H2
abbrev N_law_spoilt_ways : List Str := ["stream", "bounds", "way", "found", "at", "one"]
theorem sc_law_spoilt_ways : FnScope N_law_spoilt_ways ["stream", "bounds", "way"] (defScope (top 67)) := ⟨rfl, rfl, rfl, by decide +kernel, rfl, by decide +kernel, by decide +kernel⟩
theorem ok_spw (T : Txt K mg) (C__law_next : Cal P w K mg base CX0 1 "_law_next" ["stream", "many"] spNext) (C__law_pick : Cal P w K mg base CX0 2 "_law_pick" ["stream", "rows"] (spPick K)) : Cal P w K mg base CX0 3 "_law_spoilt_ways" ["stream", "bounds", "way"] spSpW := by
  refine mkCal T.g__law_spoilt_ways T.d__law_spoilt_ways sc_law_spoilt_ways (fun _ _ _ _ _ _ us hl => match us, hl with | [_, _, _], _ => rfl) (fun vs H Q E h => ?_) fun cdv A outer s0 H vs Q E hr h => ?_
  · obtain ⟨x, _, d, _, _, _, _, rfl, _⟩ := h; rfl
  obtain ⟨s, L, a, es, wl, way, G, rfl, st, eG, gs, ⟨xs, hx, pr⟩, ⟨us, hw, pw⟩, hes, hway, q⟩ := h
  refine ⟨_, (pss_cons (ps_set (i := 3) sc_law_spoilt_ways.nd rfl (Or.inl rfl) (pe_lst (pa_cons (pe_callTy (tupOf (K := K)) (by rfl) T.n_tuple (by decide +kernel) (pa_cons (pv 2) pa_nil)) (pa_cons (pe_callTy (tupOf (K := K)) (by rfl) T.n_tuple (by decide +kernel) (pa_cons (pe_op op_cat (pv 2) (pv 2)) pa_nil)) (pa_cons (pe_callTy (listOf (K := K)) (by rfl) T.n_list (by decide +kernel) (pa_cons (pv 2) pa_nil)) (pa_cons (pe_callTy (tupOf (K := K)) (by rfl) T.n_tuple (by decide +kernel) (pa_cons (pe_slice (slL (K := K)) (pv 2) (po_some pe_int) po_none) pa_nil)) (pa_cons (pe_callTy (tupOf (K := K)) (by rfl) T.n_tuple (by decide +kernel) (pa_cons (pe_slice (slL (K := K)) (pv 2) po_none (po_some (pe_un un_neg pe_int))) pa_nil)) (pa_cons (pe_tup pa_nil) pa_nil))))))))
      (pss_cut (ps_if (pt_cmpR op_gt (pe_callB (lenL (K := K)) (by rfl) T.n_len PySem.boot_len (pa_cons (pv 2) pa_nil)) pe_int (nomark _)) (pss_cons (ps_set (i := 4) sc_law_spoilt_ways.nd rfl (Or.inl rfl) (pe_cal (E := E0) C__law_next (hr.mono (by decide)) pass0 (pa_cons (pv 0) (pa_cons (pe_callB (lenL (K := K)) (by rfl) T.n_len PySem.boot_len (pa_cons (pv 2) pa_nil)) pa_nil))))
      (pss_cons (ps_set (i := 5) sc_law_spoilt_ways.nd rfl (Or.inl rfl) (pe_ix (ixL (K := K)) (pv 2) (pv 4) (fun _ _ => rfl)))
      (pss_cut (ps_expr (pe_bm PySem.F.plainAttrs_list PySem.F.slot_list_append PySem.F.type_list_append mt_append (pv 3) (pa_cons (pe_callTy (tupOf (K := K)) (by rfl) T.n_tuple (by decide +kernel) (pa_cons (pe_op op_cat (pe_slice (slL (K := K)) (pv 2) (po_some (pv 4)) po_none) (pe_slice (slL (K := K)) (pv 2) po_none (po_some (pv 4)))) pa_nil)) pa_nil)))
      (pss_cut (ps_expr (pe_bm PySem.F.plainAttrs_list PySem.F.slot_list_append PySem.F.type_list_append mt_append (pv 3) (pa_cons (pe_callTy (tupOf (K := K)) (by rfl) T.n_tuple (by decide +kernel) (pa_cons (pe_op op_cat (pe_op op_cat (pe_slice (slL (K := K)) (pv 2) po_none (po_some (pv 4))) (pe_lst (pa_cons (pv 5) pa_nil))) (pe_slice (slL (K := K)) (pv 2) (po_some (pv 4)) po_none)) pa_nil)) pa_nil)))
      (pss_cut (ps_expr (pe_bm PySem.F.plainAttrs_list PySem.F.slot_list_append PySem.F.type_list_append mt_append (pv 3) (pa_cons (pe_callTy (tupOf (K := K)) (by rfl) T.n_tuple (by decide +kernel) (pa_cons (pe_op op_cat (pe_op op_cat (pe_slice (slL (K := K)) (pv 2) po_none (po_some (pv 4))) (pe_lst (pa_cons (pe_tup (pa_cons (pe_ix (ixT (K := K)) (pv 5) pe_int (fun _ _ => rfl)) (pa_cons (pe_ix (ixT (K := K)) (pv 5) pe_int (fun _ _ => rfl)) (pa_cons (pe_op op_sub (pe_ix (ixT (K := K)) (pv 5) pe_int (fun _ _ => rfl)) pe_int) pa_nil)))) pa_nil))) (pe_slice (slL (K := K)) (pv 2) (po_some (pe_op op_add (pv 4) pe_int)) po_none)) pa_nil)) pa_nil)))
      (pss_cut (ps_expr (pe_bm PySem.F.plainAttrs_list PySem.F.slot_list_append PySem.F.type_list_append mt_append (pv 3) (pa_cons (pe_callTy (tupOf (K := K)) (by rfl) T.n_tuple (by decide +kernel) (pa_cons (pe_op op_cat (pe_op op_cat (pe_slice (slL (K := K)) (pv 2) po_none (po_some (pv 4))) (pe_lst (pa_cons (pe_lst (pa_cons (pe_ix (ixT (K := K)) (pv 5) pe_int (fun _ _ => rfl)) (pa_cons (pe_ix (ixT (K := K)) (pv 5) pe_int (fun _ _ => rfl)) (pa_cons (pe_ix (ixT (K := K)) (pv 5) pe_int (fun _ _ => rfl)) pa_nil)))) pa_nil))) (pe_slice (slL (K := K)) (pv 2) (po_some (pe_op op_add (pv 4) pe_int)) po_none)) pa_nil)) pa_nil)))
      (pss_one (ps_expr (pe_bm PySem.F.plainAttrs_list PySem.F.slot_list_append PySem.F.type_list_append mt_append (pv 3) (pa_cons (pe_callTy (tupOf (K := K)) (by rfl) T.n_tuple (by decide +kernel) (pa_cons (pe_back (pv 2) (po_some (pe_un un_neg pe_int))) pa_nil)) pa_nil)))))))))) pss_nil)
      (pss_cut (ps_if (pt_cmpR op_gt (pe_callB (lenL (K := K)) (by rfl) T.n_len PySem.boot_len (pa_cons (pv 1) pa_nil)) pe_int (nomark _)) (pss_one (ps_expr (pe_bm PySem.F.plainAttrs_list PySem.F.slot_list_append PySem.F.type_list_append mt_append (pv 3) (pa_cons (pe_tup (pa_cons (pe_cal (E := E0) C__law_pick (hr.mono (by decide)) pass0 (pa_cons (pv 0) (pa_cons (pv 1) pa_nil))) pa_nil)) pa_nil)))) pss_nil)
      (pss_one (ps_ret (pv 3)))))), ?_⟩
  have hxl := pr.length
  have hul := pw.length
  have hus : us.length ≤ 1000 := by omega
  have vw := ways_vs pw
  have als : a ≠ s := fun e => by rw [e, gs] at hx; cases hx
  have ga0 := Ga.refl eG st gs
  refine ⟨_, rfl, wl, us, rfl, .inl ⟨SqL.of (eG _ _ hw), fun r1 hr1 => ?_⟩⟩
  have ga1 := ga0.new hr1 (o := .tup us)
  have i1 := spw_t (G := upd G r1 (.tup us)) upd_same (vw.ex (ga0.fr hr1)) (by omega)
  have x1 : Ex G (upd G r1 (.tup us)) := ga0.fr hr1
  generalize upd G r1 (.tup us) = G1 at ga1 i1 x1
  generalize upd H r1 (.tup us) = H1 at ga1
  have hw1 := ga1.ge _ _ (x1 _ _ hw)
  refine ⟨_, rfl, _, rfl, wl, wl, _, _, rfl, rfl, hw1, hw1, Nat.le_of_lt (sz _ (by omega)), fun c2 hc2 => ⟨c2, _, rfl, .inl ⟨SqL.of upd_same, fun r2 hr2 => ?_⟩⟩⟩
  have gb2 := ga1.lay hc2 (o := .lst (us ++ us))
  have ga2 := gb2.new hr2 (o := .tup (us ++ us))
  have x2' : Ex G1 (upd G1 r2 (.tup (us ++ us))) := gb2.fr hr2
  have i2 := spw_t (G := upd G1 r2 (.tup (us ++ us))) upd_same (((vw.ex x1).app (vw.ex x1)).ex x2') (by rw [List.length_append]; omega)
  have x2 := x1.trans x2'
  have j2 : Vs SpW (upd G1 r2 (.tup (us ++ us))) [.ref r1, .ref r2] := fun y hy => by
    rcases List.mem_cons.mp hy with rfl | hy
    · obtain ⟨d, h1, h2⟩ := i1; exact ⟨d, ex_dt x2' _ _ h1, h2⟩
    · rw [List.mem_singleton.mp hy]; exact i2
  generalize upd G1 r2 (.tup (us ++ us)) = G2 at ga2 x2 j2
  generalize upd (upd H1 c2 (.lst (us ++ us))) r2 (.tup (us ++ us)) = H2 at ga2
  have hw2 := ga2.ge _ _ (x2 _ _ hw)
  refine ⟨_, rfl, wl, _, rfl, .inl (SqL.of hw2), fun r3 hr3 => ?_⟩
  have ga3 := ga2.new hr3 (o := .lst us)
  have x3' := ga2.fr hr3 (o := .lst us)
  obtain ⟨d3, i3, k3⟩ := spw_l (G := upd G2 r3 (.lst us)) upd_same (vw.ex (x2.trans x3')) (by omega)
  have j3 := (j2.ex x3').app (Vs.one i3 k3)
  have x3 := x2.trans x3'
  generalize upd G2 r3 (.lst us) = G3 at ga3 x3 j3
  generalize upd H2 r3 (.lst us) = H3 at ga3
  have hw3 := ga3.ge _ _ (x3 _ _ hw)
  refine ⟨_, rfl, 1, rfl, wl, _, rfl, SqL.of hw3, fun c4 hc4 => ⟨c4, _, rfl, .inl ⟨SqL.of upd_same, fun r4 hr4 => ?_⟩⟩⟩
  have gb4 := ga3.lay hc4 (o := .lst (cutV us (some 1) none))
  have ga4 := gb4.new hr4 (o := .tup (cutV us (some 1) none))
  have x4' := gb4.fr hr4 (o := .tup (cutV us (some 1) none))
  obtain ⟨d4, i4, k4⟩ := spw_t (G := upd G3 r4 (.tup (cutV us (some 1) none))) upd_same ((vw.ex (x3.trans x4')).sub fun y hy => cutV_mem hy) (cutV_len _ _ _ (by omega))
  have j4 := (j3.ex x4').app (Vs.one i4 k4)
  have x4 := x3.trans x4'
  generalize upd G3 r4 (.tup (cutV us (some 1) none)) = G4 at ga4 x4 j4
  generalize upd (upd H3 c4 (.lst (cutV us (some 1) none))) r4 (.tup (cutV us (some 1) none)) = H4 at ga4
  have hw4 := ga4.ge _ _ (x4 _ _ hw)
  refine ⟨_, rfl, 1, rfl, -1, rfl, wl, _, rfl, SqL.of hw4, fun c5 hc5 => ⟨c5, _, rfl, .inl ⟨SqL.of upd_same, fun r5 hr5 => ?_⟩⟩⟩
  have gb5 := ga4.lay hc5 (o := .lst (cutV us none (some (-1))))
  have ga5 := gb5.new hr5 (o := .tup (cutV us none (some (-1))))
  have x5' := gb5.fr hr5 (o := .tup (cutV us none (some (-1))))
  obtain ⟨d5, i5, k5⟩ := spw_t (G := upd G4 r5 (.tup (cutV us none (some (-1))))) upd_same ((vw.ex (x4.trans x5')).sub fun y hy => cutV_mem hy) (cutV_len _ _ _ (by omega))
  have j5 := (j4.ex x5').app (Vs.one i5 k5)
  have x5 := x4.trans x5'
  generalize upd G4 r5 (.tup (cutV us none (some (-1)))) = G5 at ga5 x5 j5
  generalize upd (upd H4 c5 (.lst (cutV us none (some (-1))))) r5 (.tup (cutV us none (some (-1)))) = H5 at ga5
  refine ⟨Nat.zero_le _, fun r6 hr6 => ⟨Nat.le_of_lt (sz 6 (by omega)), fun f hf => ?_⟩⟩
  have ga6 := ga5.new hr6 (o := .tup [])
  have x6' := ga5.fr hr6 (o := .tup [])
  obtain ⟨d6, i6, k6⟩ := spw_t (G := upd G5 r6 (.tup [])) upd_same Vs.nil (Nat.zero_le _)
  have j6 := (j5.ex x6').app (Vs.one i6 k6)
  have x6 := x5.trans x6'
  have fd : Fd SpW s L f G H (upd G5 r6 (.tup [])) (upd (upd H5 r6 (.tup [])) f (.lst [.ref r1, .ref r2, .ref r3, .ref r4, .ref r5, .ref r6])) [.ref r1, .ref r2, .ref r3, .ref r4, .ref r5, .ref r6] :=
    ⟨ga6.lay hf, ga6.a.dm f hf, Evl.fresh_back ga6.ge hf, upd_same, j6⟩
  generalize upd G5 r6 (.tup []) = G6 at x6 fd
  generalize upd (upd H5 r6 (.tup [])) f (.lst [.ref r1, .ref r2, .ref r3, .ref r4, .ref r5, .ref r6]) = H6 at fd
  refine ⟨fun σ' H' => ∃ av ov xs G', σ' = [some (.ref s), some (.ref a), some (.ref wl), some (.ref f), av, ov] ∧ Fd SpW s L f G H G' H' xs ∧ Ex G G' ∧ xs.length ≤ 12, ?_, ?_⟩
  · refine ⟨_, rfl, wl, _, rfl, .inl (SqL.of (fd.ga.ge _ _ (x6 _ _ hw))), _, _, rfl, rfl, _, rfl, ?_⟩
    refine ite2 (fun hpos => ?_) (fun _ => ⟨none, none, _, G6, rfl, fd, x6, (show 6 ≤ 12 by decide)⟩)
    have hpos := of_decide_eq_true hpos
    refine ⟨_, rfl, _, rfl, wl, _, rfl, .inl (SqL.of (fd.ga.ge _ _ (x6 _ _ hw))), s, L, _, rfl, fd.ga.st, by omega, by omega, fun at_ H8 at0 at1 kp8 st8 => ?_⟩
    have fd8 := fd.next kp8 st8
    obtain ⟨i, rfl⟩ := Int.eq_ofNat_of_zero_le at0
    have hi : i < us.length := by omega
    have hui : us[i]? = some (us.getD i .non) := by rw [List.getD_eq_getElem?_getD, List.getElem?_eq_getElem hi]; rfl
    obtain ⟨e, he, r, hr, hrt⟩ := paired_at pw hui
    rw [hr] at hui
    refine ⟨_, rfl, _, rfl, wl, _, _, _, rfl, rfl, SqL.of (fd8.ga.ge _ _ (x6 _ _ hw)), at_nat hui, ?_⟩
    have cl : ∀ lo hi, (cutV us lo hi).length ≤ 1000 := fun lo hi => cutV_len us lo hi hus
    have vr : Vs WEl G [.ref r] := Vs.one (tb_dt ⟨r, rfl, hrt⟩) (.inl ⟨e, rfl⟩)
    have vc : ∀ lo hi, Vs WEl G (cutV us lo hi) := fun lo hi => vw.sub fun y hy => cutV_mem hy
    refine ⟨fun σ' H' => ∃ xs G', σ' = [some (.ref s), some (.ref a), some (.ref wl), some (.ref f), some (.int (i : Nat)), some (.ref r)] ∧ Fd SpW s L f G H G' H' xs ∧ Ex G G' ∧ xs.length ≤ 7, ?_, ?_⟩
    · refine ⟨_, rfl, .inl ⟨rfl, _, SqL.of fd8.hf⟩, _, rfl, _, rfl, _, rfl, wl, _, rfl, SqL.of (fd8.ga.ge _ _ (x6 _ _ hw)), fun c1 hc1 => ?_⟩
      have fd1 := fd8.lay hc1 (o := .lst (cutV us (some (i : Int)) none))
      refine ⟨_, rfl, _, rfl, _, rfl, wl, _, rfl, SqL.of (fd1.ga.ge _ _ (x6 _ _ hw)), fun c2 hc2 => ?_⟩
      have fd2 := fd1.lay hc2 (o := .lst (cutV us none (some (i : Int))))
      have l1 := cl (some (i : Int)) none
      have l2 := cl none (some (i : Int))
      refine ⟨c1, c2, _, _, rfl, rfl, Evl.Ex.new hc2 _ _ upd_same, upd_same, Nat.le_of_lt (sz _ (by omega)), fun c3 hc3 => ⟨c3, _, rfl, .inl ⟨SqL.of upd_same, fun r1 hr1 => ?_⟩⟩⟩
      have fd3 := (fd2.lay hc3 (o := .lst (cutV us (some (i : Int)) none ++ cutV us none (some (i : Int)))))
      have fd4 := fd3.new hr1 (o := .tup (cutV us (some (i : Int)) none ++ cutV us none (some (i : Int))))
      have x4 := x6.trans (fd3.ga.fr hr1 (o := .tup (cutV us (some (i : Int)) none ++ cutV us none (some (i : Int)))))
      refine ⟨f, _, _, rfl, rfl, fd4.hf, (show 6 < sizeLine from sz 6 (by omega)), ?_⟩
      exact ⟨_, _, rfl, fd4.app (spw_t upd_same (((vc _ _).app (vc _ _)).ex x4) (by rw [List.length_append]; omega)), x4, (show 7 ≤ 7 by decide)⟩
    rintro σ' H9 ⟨fs, G9, rfl, fd, x, hfl⟩
    have hws : ∀ H', Ex H9 H' → SqL K H' wl us := fun H' e => SqL.of (e _ _ (fd.ga.ge _ _ (x _ _ hw)))
    have hrs : ∀ H', Ex H9 H' → SqT K H' r [.str e.1, .str e.2.1, .int e.2.2] := fun H' e' => SqT.of (e' _ _ (fd.ga.ge _ _ (x _ _ hrt)))
    refine ⟨fun σ' H' => ∃ xs G', σ' = [some (.ref s), some (.ref a), some (.ref wl), some (.ref f), some (.int (i : Nat)), some (.ref r)] ∧ Fd SpW s L f G H G' H' xs ∧ Ex G G' ∧ xs.length ≤ 8, ?_, ?_⟩
    · refine ⟨_, rfl, .inl ⟨rfl, _, SqL.of fd.hf⟩, _, rfl, _, rfl, _, rfl, wl, _, rfl, hws _ (Evl.Ex.refl _), fun c1 hc1 => ?_⟩
      have y1 := Evl.Ex.new hc1 (o := .lst (cutV us none (some (i : Int))))
      have fd1 := fd.lay hc1 (o := .lst (cutV us none (some (i : Int))))
      refine ⟨_, rfl, Nat.le_of_lt (sz 1 (by omega)), fun c2 hc2 => ?_⟩
      have y2 := Evl.Ex.new hc2 (o := .lst [.ref r])
      have fd2 := fd1.lay hc2 (o := .lst [.ref r])
      have l1 := cl (some (i : Int)) none
      have l2 := cl none (some (i : Int))
      refine ⟨c1, c2, _, _, rfl, rfl, y2 _ _ upd_same, upd_same, Nat.le_of_lt (sz _ (by simp; omega)), fun c3 hc3 => ?_⟩
      have y3 := Evl.Ex.new hc3 (o := .lst (cutV us none (some (i : Int)) ++ [.ref r]))
      have fd3 := fd2.lay hc3 (o := .lst (cutV us none (some (i : Int)) ++ [.ref r]))
      refine ⟨_, rfl, _, rfl, _, rfl, wl, _, rfl, hws _ ((y1.trans y2).trans y3), fun c4 hc4 => ?_⟩
      have y4 := Evl.Ex.new hc4 (o := .lst (cutV us (some (i : Int)) none))
      have fd4 := fd3.lay hc4 (o := .lst (cutV us (some (i : Int)) none))
      refine ⟨c3, c4, _, _, rfl, rfl, y4 _ _ upd_same, upd_same, Nat.le_of_lt (sz _ (by simp; omega)), fun c5 hc5 => ⟨c5, _, rfl, .inl ⟨SqL.of upd_same, fun r1 hr1 => ?_⟩⟩⟩
      have fd5 := fd4.lay hc5 (o := .lst (cutV us none (some (i : Int)) ++ [.ref r] ++ cutV us (some (i : Int)) none))
      have fd6 := fd5.new hr1 (o := .tup (cutV us none (some (i : Int)) ++ [.ref r] ++ cutV us (some (i : Int)) none))
      have x4 := x.trans (fd5.ga.fr hr1 (o := .tup (cutV us none (some (i : Int)) ++ [.ref r] ++ cutV us (some (i : Int)) none)))
      refine ⟨f, _, _, rfl, rfl, fd6.hf, sz _ (by omega), ?_⟩
      exact ⟨_, _, rfl, fd6.app (spw_t upd_same ((((vc _ _).app vr).app (vc _ _)).ex x4) (by simp; omega)), x4, by rw [List.length_append]; exact Nat.succ_le_succ hfl⟩
    rintro σ' H10 ⟨fs, G10, rfl, fd, x, hfl⟩
    have hws : ∀ H', Ex H10 H' → SqL K H' wl us := fun H' e => SqL.of (e _ _ (fd.ga.ge _ _ (x _ _ hw)))
    have hrs : ∀ H', Ex H10 H' → SqT K H' r [.str e.1, .str e.2.1, .int e.2.2] := fun H' e' => SqT.of (e' _ _ (fd.ga.ge _ _ (x _ _ hrt)))
    refine ⟨fun σ' H' => ∃ xs G', σ' = [some (.ref s), some (.ref a), some (.ref wl), some (.ref f), some (.int (i : Nat)), some (.ref r)] ∧ Fd SpW s L f G H G' H' xs ∧ Ex G G' ∧ xs.length ≤ 9, ?_, ?_⟩
    · refine ⟨_, rfl, .inl ⟨rfl, _, SqL.of fd.hf⟩, _, rfl, _, rfl, _, rfl, wl, _, rfl, hws _ (Evl.Ex.refl _), fun c1 hc1 => ?_⟩
      have y1 := Evl.Ex.new hc1 (o := .lst (cutV us none (some (i : Int))))
      have fd1 := fd.lay hc1 (o := .lst (cutV us none (some (i : Int))))
      have hr' := hrs _ y1
      refine ⟨_, rfl, r, _, 0, _, rfl, rfl, hr', rfl, _, rfl, r, _, 1, _, rfl, rfl, hr', rfl, _, rfl, r, _, 2, _, rfl, rfl, hr', rfl, _, 1, rfl, rfl, Nat.le_of_lt (sz 3 (by omega)), fun c0 hc0 => ?_⟩
      have y0 := Evl.Ex.new hc0 (o := .tup [.str e.1, .str e.2.1, .int (e.2.2 - 1)])
      have fd0 := fd1.new hc0 (o := .tup [.str e.1, .str e.2.1, .int (e.2.2 - 1)])
      have x0 := x.trans (fd1.ga.fr hc0 (o := .tup [.str e.1, .str e.2.1, .int (e.2.2 - 1)]))
      have v0 : Vs WEl _ [.ref c0] := Vs.one (tb_dt (H := upd G10 c0 (.tup [.str e.1, .str e.2.1, .int (e.2.2 - 1)])) (e := (e.1, e.2.1, e.2.2 - 1)) ⟨c0, rfl, upd_same⟩) (.inl ⟨_, rfl⟩)
      refine ⟨Nat.le_of_lt (sz 1 (by omega)), fun c2 hc2 => ?_⟩
      have y2 := Evl.Ex.new hc2 (o := .lst [.ref c0])
      have fd2 := fd0.lay hc2 (o := .lst [.ref c0])
      have l1 := cl (some ((i : Int) + 1)) none
      have l2 := cl none (some (i : Int))
      refine ⟨c1, c2, _, _, rfl, rfl, y2 _ _ (y0 _ _ upd_same), upd_same, Nat.le_of_lt (sz _ (by simp; omega)), fun c3 hc3 => ?_⟩
      have y3 := Evl.Ex.new hc3 (o := .lst (cutV us none (some (i : Int)) ++ [.ref c0]))
      have fd3 := fd2.lay hc3 (o := .lst (cutV us none (some (i : Int)) ++ [.ref c0]))
      refine ⟨_, rfl, _, rfl, _, 1, rfl, rfl, _, rfl, wl, _, rfl, hws _ (((y1.trans y0).trans y2).trans y3), fun c4 hc4 => ?_⟩
      have y4 := Evl.Ex.new hc4 (o := .lst (cutV us (some ((i : Int) + 1)) none))
      have fd4 := fd3.lay hc4 (o := .lst (cutV us (some ((i : Int) + 1)) none))
      refine ⟨c3, c4, _, _, rfl, rfl, y4 _ _ upd_same, upd_same, Nat.le_of_lt (sz _ (by simp; omega)), fun c5 hc5 => ⟨c5, _, rfl, .inl ⟨SqL.of upd_same, fun r1 hr1 => ?_⟩⟩⟩
      have fd5 := fd4.lay hc5 (o := .lst (cutV us none (some (i : Int)) ++ [.ref c0] ++ cutV us (some ((i : Int) + 1)) none))
      have fd6 := fd5.new hr1 (o := .tup (cutV us none (some (i : Int)) ++ [.ref c0] ++ cutV us (some ((i : Int) + 1)) none))
      have x5 := fd5.ga.fr hr1 (o := .tup (cutV us none (some (i : Int)) ++ [.ref c0] ++ cutV us (some ((i : Int) + 1)) none))
      have x4 := x0.trans x5
      refine ⟨f, _, _, rfl, rfl, fd6.hf, sz _ (by omega), ?_⟩
      exact ⟨_, _, rfl, fd6.app (spw_t upd_same ((((vc _ _).ex x4).app (v0.ex x5)).app ((vc _ _).ex x4)) (by simp; omega)), x4, by rw [List.length_append]; exact Nat.succ_le_succ hfl⟩
    rintro σ' H11 ⟨fs, G11, rfl, fd, x, hfl⟩
    have hws : ∀ H', Ex H11 H' → SqL K H' wl us := fun H' e => SqL.of (e _ _ (fd.ga.ge _ _ (x _ _ hw)))
    have hrs : ∀ H', Ex H11 H' → SqT K H' r [.str e.1, .str e.2.1, .int e.2.2] := fun H' e' => SqT.of (e' _ _ (fd.ga.ge _ _ (x _ _ hrt)))
    refine ⟨fun σ' H' => ∃ xs G', σ' = [some (.ref s), some (.ref a), some (.ref wl), some (.ref f), some (.int (i : Nat)), some (.ref r)] ∧ Fd SpW s L f G H G' H' xs ∧ Ex G G' ∧ xs.length ≤ 10, ?_, ?_⟩
    · refine ⟨_, rfl, .inl ⟨rfl, _, SqL.of fd.hf⟩, _, rfl, _, rfl, _, rfl, wl, _, rfl, hws _ (Evl.Ex.refl _), fun c1 hc1 => ?_⟩
      have y1 := Evl.Ex.new hc1 (o := .lst (cutV us none (some (i : Int))))
      have fd1 := fd.lay hc1 (o := .lst (cutV us none (some (i : Int))))
      have hr' := hrs _ y1
      refine ⟨_, rfl, r, _, 0, _, rfl, rfl, hr', rfl, _, rfl, r, _, 1, _, rfl, rfl, hr', rfl, _, rfl, r, _, 2, _, rfl, rfl, hr', rfl, Nat.le_of_lt (sz 3 (by omega)), fun c0 hc0 => ?_⟩
      have y0 := Evl.Ex.new hc0 (o := .lst [.str e.1, .str e.2.1, .int e.2.2])
      have fd0 := fd1.new hc0 (o := .lst [.str e.1, .str e.2.1, .int e.2.2])
      have x0 := x.trans (fd1.ga.fr hc0 (o := .lst [.str e.1, .str e.2.1, .int e.2.2]))
      have v0 : Vs WEl (upd G11 c0 (.lst [.str e.1, .str e.2.1, .int e.2.2])) [.ref c0] := Vs.one (.lst upd_same (.cons (.str _) (.cons (.str _) (.cons (.int _) .nil)))) (.inr ⟨_, _, _, rfl⟩)
      refine ⟨Nat.le_of_lt (sz 1 (by omega)), fun c2 hc2 => ?_⟩
      have y2 := Evl.Ex.new hc2 (o := .lst [.ref c0])
      have fd2 := fd0.lay hc2 (o := .lst [.ref c0])
      have l1 := cl (some ((i : Int) + 1)) none
      have l2 := cl none (some (i : Int))
      refine ⟨c1, c2, _, _, rfl, rfl, y2 _ _ (y0 _ _ upd_same), upd_same, Nat.le_of_lt (sz _ (by simp; omega)), fun c3 hc3 => ?_⟩
      have y3 := Evl.Ex.new hc3 (o := .lst (cutV us none (some (i : Int)) ++ [.ref c0]))
      have fd3 := fd2.lay hc3 (o := .lst (cutV us none (some (i : Int)) ++ [.ref c0]))
      refine ⟨_, rfl, _, rfl, _, 1, rfl, rfl, _, rfl, wl, _, rfl, hws _ (((y1.trans y0).trans y2).trans y3), fun c4 hc4 => ?_⟩
      have y4 := Evl.Ex.new hc4 (o := .lst (cutV us (some ((i : Int) + 1)) none))
      have fd4 := fd3.lay hc4 (o := .lst (cutV us (some ((i : Int) + 1)) none))
      refine ⟨c3, c4, _, _, rfl, rfl, y4 _ _ upd_same, upd_same, Nat.le_of_lt (sz _ (by simp; omega)), fun c5 hc5 => ⟨c5, _, rfl, .inl ⟨SqL.of upd_same, fun r1 hr1 => ?_⟩⟩⟩
      have fd5 := fd4.lay hc5 (o := .lst (cutV us none (some (i : Int)) ++ [.ref c0] ++ cutV us (some ((i : Int) + 1)) none))
      have fd6 := fd5.new hr1 (o := .tup (cutV us none (some (i : Int)) ++ [.ref c0] ++ cutV us (some ((i : Int) + 1)) none))
      have x5 := fd5.ga.fr hr1 (o := .tup (cutV us none (some (i : Int)) ++ [.ref c0] ++ cutV us (some ((i : Int) + 1)) none))
      have x4 := x0.trans x5
      refine ⟨f, _, _, rfl, rfl, fd6.hf, sz _ (by omega), ?_⟩
      exact ⟨_, _, rfl, fd6.app (spw_t upd_same ((((vc _ _).ex x4).app (v0.ex x5)).app ((vc _ _).ex x4)) (by simp; omega)), x4, by rw [List.length_append]; exact Nat.succ_le_succ hfl⟩
    rintro σ' H12 ⟨fs, G12, rfl, fd, x, hfl⟩
    have hws : ∀ H', Ex H12 H' → SqL K H' wl us := fun H' e => SqL.of (e _ _ (fd.ga.ge _ _ (x _ _ hw)))
    have hrs : ∀ H', Ex H12 H' → SqT K H' r [.str e.1, .str e.2.1, .int e.2.2] := fun H' e' => SqT.of (e' _ _ (fd.ga.ge _ _ (x _ _ hrt)))
    refine ⟨_, rfl, .inl ⟨rfl, _, SqL.of fd.hf⟩, _, rfl, 1, rfl, -1, rfl, wl, us, rfl, hws _ (Evl.Ex.refl _), rfl, fun c1 hc1 => ⟨c1, _, rfl, .inl ⟨SqL.of upd_same, fun r1 hr1 => ?_⟩⟩⟩
    have fd1 := fd.lay hc1 (o := .lst us.reverse)
    have fd2 := fd1.new hr1 (o := .tup us.reverse)
    have x2 := x.trans (fd1.ga.fr hr1 (o := .tup us.reverse))
    refine ⟨f, _, _, rfl, rfl, fd2.hf, sz _ (by omega), ?_⟩
    exact ⟨_, _, _, _, rfl, fd2.app (spw_t upd_same ((vw.sub fun y hy => List.mem_reverse.mp hy).ex x2) (by rw [List.length_reverse]; omega)), x2, by rw [List.length_append]; exact Nat.le_trans (Nat.succ_le_succ hfl) (by decide)⟩
  rintro σ' H7 ⟨av, ov, fs, G7, rfl, fd7, x7, hfl⟩
  refine ⟨fun σ' H' => ∃ av ov xs G', σ' = [some (.ref s), some (.ref a), some (.ref wl), some (.ref f), av, ov] ∧ Fd SpW s L f G H G' H' xs ∧ xs.length ≤ 13, ?_, ?_⟩
  · refine ⟨_, rfl, a, _, rfl, .inl (SqL.of (fd7.ga.ge _ _ (x7 _ _ hx))), _, _, rfl, rfl, _, rfl, ?_⟩
    refine ite2 (fun hpos => ?_) (fun _ => ⟨av, ov, fs, G7, rfl, fd7, by omega⟩)
    have hpos := of_decide_eq_true hpos
    refine ⟨_, rfl, .inl ⟨rfl, _, SqL.of fd7.hf⟩, _, rfl, _, rfl, s, L, a, _, rfl, fd7.ga.st, .inl (SqL.of (fd7.ga.ge _ _ (x7 _ _ hx))), als, by omega, by omega, fun j x H8 hx8 kp8 st8 => ?_⟩
    have fd8 := fd7.next kp8 st8
    obtain ⟨e, he, tb⟩ := paired_at pr hx8
    refine ⟨Nat.le_of_lt (sz 1 (by omega)), fun t ht => ?_⟩
    have fd9 := fd8.new ht (o := .tup [x])
    have x9 := fd8.ga.fr ht (o := .tup [x])
    refine ⟨f, fs, _, rfl, rfl, fd9.hf, sz _ (by omega), ?_⟩
    exact ⟨_, _, _, _, rfl, fd9.app (spw_t upd_same (Vs.one (tb_dt (tb_ex (x7.trans x9) tb)) (.inl ⟨e, rfl⟩)) (show 1 ≤ 5000 by decide)), by rw [List.length_append]; exact Nat.succ_le_succ hfl⟩
  · rintro σ' H8 ⟨av, ov, fs, G8, rfl, fd8, hfl⟩
    obtain ⟨ga9, v9⟩ := fd8.fix
    exact ⟨_, rfl, q f fs _ H8 ga9 upd_same v9 (by omega)⟩
end
end K43
namespace K43
open PySem PySem.Spec PyProof.Rows L2 Hx Hd M43
open Evl (pss_cut tCut ex_l ex_t)
/-! ### the answers are right: plain -/
theorem gone_along {es : List Bd} : ∀ {way : List Bd} {a : Str}, (∀ e ∈ way, e ∈ es) → gone es a (way.map encB) = along a way
  | [], a, _ => rfl
  | e :: way, a, h => by
    rw [List.map_cons, gone_bd]
    show _ = (if e.1 = a then (along e.2.1 way).map fun q => (q.1, e.2.2 + q.2) else none)
    have he := h e (List.mem_cons_self ..)
    by_cases ha : e.1 = a
    · rw [if_pos ⟨he, ha⟩, if_pos ha, gone_along fun f hf => h f (List.mem_cons_of_mem _ hf)]
    · rw [if_neg fun z => ha z.2, if_neg ha]
theorem sum_along {es way : List Bd} {x y : Str} {D : Int} (h : ∀ e ∈ way, e ∈ es) (ha : along x way = some (y, D)) : sumJ es (.tuple (way.map encB)) x y = some D := by
  rw [sumJ_tup, gone_along h, ha]
  show (if y = y then some D else none) = some D
  rw [if_pos rfl]
theorem ring_j {es way : List Bd} (h : RingOk es way) : rngJ es (.tuple (way.map encB)) = true := by
  obtain ⟨a, t, ha, ht⟩ := h.sum
  cases way with
  | nil => exact absurd rfl h.ne
  | cons e way =>
    have e1 : e.1 = a := by
      have : along a (e :: way) = (if e.1 = a then (along e.2.1 way).map fun q => (q.1, e.2.2 + q.2) else none) := rfl
      rw [this] at ha
      by_cases h : e.1 = a
      · exact h
      · rw [if_neg h] at ha; cases ha
    subst e1
    have hs := sum_along h.mem ha
    show (isBd (encB e) && match sumJ es (.tuple ((e :: way).map encB)) e.1 e.1 with | some t => decide (t < 0) | none => false) = true
    rw [hs]
    show (true && decide (t < 0)) = true
    rw [decide_eq_true ht]; rfl
/-- the numbers of a state as data -/
def nkd (L : List Str) (s : St43) : List (PyData × PyData) := L.map fun v => (.str v, .int (num s v))
theorem nkd_dkv (L : List Str) (s : St43) : DKV (nkv L s) (nkd L s) := by
  induction L with
  | nil => exact .nil
  | cons z L ih => exact .cons ⟨z, rfl, rfl, .int _⟩ ih
theorem nkd_look {L : List Str} {s : St43} {z : Str} (h : z ∈ L) : dlook (nkd L s) z = some (.int (num s z)) := by
  rcases dkv_look (nkd_dkv L s) z with ⟨e1, _⟩ | ⟨v, d, e1, e2, f⟩
  · rw [nkv_at h] at e1; cases e1
  · rw [nkv_at h] at e1
    obtain rfl := Option.some.inj e1
    cases f
    exact e2
theorem nkd_nodup {L : List Str} (s : St43) (h : L.Nodup) : ((nkd L s).map (·.1)).Nodup := by
  have e : (nkd L s).map (·.1) = L.map PyData.str := by unfold nkd; rw [List.map_map]; rfl
  rw [e]
  exact List.Pairwise.map _ (fun a b hab e => hab (by injection e)) h
theorem nkd_len (L : List Str) (s : St43) : (nkd L s).length = L.length := by unfold nkd; rw [List.length_map]
theorem nkv_ikv (L : List Str) (s : St43) : nkv L s = ikv L (num s) := rfl
theorem arn_nkd (L : List Str) (s : St43) : areNum L (.dict (nkd L s)) = true := by
  show (decide ((nkd L s).length = L.length) && L.all (entNum (nkd L s))) = true
  rw [decide_eq_true (nkd_len L s), Bool.true_and, List.all_eq_true]
  intro z hz
  unfold entNum
  rw [nkd_look hz]; rfl
theorem num_nkd {L : List Str} {s : St43} {z : Str} (h : z ∈ L) : numOf (nkd L s) z = num s z := by
  unfold numOf; rw [nkd_look h]
theorem met_nkd {es : List Bd} {L : List Str} {s : St43} (hL : ends es L) (hp : Pot (num s) es) : metJ es (.dict (nkd L s)) = true := by
  show metB (numOf (nkd L s)) es = true
  unfold metB
  rw [List.all_eq_true]
  intro e he
  obtain ⟨h1, h2⟩ := hL e he
  rw [num_nkd h1, num_nkd h2]
  exact decide_eq_true (hp e he)
theorem ans_no {z w : Str} (r : List PyData) (m : Int) (h : z ≠ w) : ¬ ansJ (.tuple (.str z :: r)) w m = true := by
  show ¬ (decide ((r.length : Int) + 1 = m) && decide (z = w)) = true
  rw [decide_eq_false h, Bool.and_false]
  exact fun e => by cases e
theorem ans_yes (z : Str) (r : List PyData) (m : Int) (h : (r.length : Int) + 1 = m) : ansJ (.tuple (.str z :: r)) z m = true := by
  show (decide ((r.length : Int) + 1 = m) && decide (z = z)) = true
  rw [decide_eq_true h, decide_eq_true rfl]; rfl
theorem set_num {es : List Bd} (h : (run es (nms es).length (z0 (nms es)) none).2 = none) : setJ es (.tuple [.str (Str.ofString "numbers"), .dict (nkd (nms es) (run es (nms es).length (z0 (nms es)) none).1)]) = true := by
  unfold setJ
  rw [if_neg (ans_no _ _ (by decide +kernel)), if_pos (ans_yes _ _ _ (by simp))]
  show (areNum _ _ && metJ _ _) = true
  rw [arn_nkd, met_nkd (nms_ends es) (numbers_meet (nms_ends es) (Nat.le_refl _) h)]; rfl
theorem set_ring {es way : List Bd} (h : RingOk es way) : setJ es (.tuple [.str (Str.ofString "ring"), .tuple (way.map encB)]) = true := by
  unfold setJ
  rw [if_pos (ans_yes _ _ _ (by simp))]
  exact ring_j h
theorem high_ring {es way : List Bd} {x y : Str} (h : RingOk es way) : highJ es x y (.tuple [.str (Str.ofString "ring"), .tuple (way.map encB)]) = true := by
  unfold highJ
  rw [if_pos (ans_yes _ _ _ (by simp))]
  exact ring_j h
theorem asc_sorted {l : List Str} (h1 : l.Pairwise fun a b => leS a b = true) (h2 : l.Nodup) : ascB l = true := by
  unfold ascB
  rw [List.all_eq_true]
  intro i hi
  have hi := List.mem_range.mp hi
  have i1 : i < l.length := by omega
  have i2 : i + 1 < l.length := by omega
  rw [List.getD_eq_getElem?_getD, List.getD_eq_getElem?_getD, List.getElem?_eq_getElem i1, List.getElem?_eq_getElem i2]
  have a1 := List.pairwise_iff_getElem.mp h1 i (i + 1) i1 i2 (Nat.lt_succ_self _)
  have a2 := List.pairwise_iff_getElem.mp h2 i (i + 1) i1 i2 (Nat.lt_succ_self _)
  show decide (l[i].cps.toList < l[i + 1].cps.toList) = true
  refine decide_eq_true ?_
  have h3 := leS_iff.mp a1
  rcases Decidable.em (l[i].cps.toList < l[i + 1].cps.toList) with h | h
  · exact h
  · exact absurd (str_inj (List.le_antisymm h3 (List.not_lt.mp h))) a2
theorem high_grows {es : List Bd} {x y : Str} {ls : List Str} (h : (run es (nmx es x y).length (z0 (nmx es x y)) none).2 = none) (hy : (rch es (nmx es x y) x).d y = none) (h1 : ls.Pairwise fun a b => leS a b = true) (h2 : ls.Nodup) (h3 : ∀ z, z ∈ ls ↔ ((rch es (nmx es x y) x).d z).isSome = true) :
    highJ es x y (.tuple [.str (Str.ofString "grows"), .dict (nkd (nmx es x y) (run es (nmx es x y).length (z0 (nmx es x y)) none).1), .list (ls.map PyData.str)]) = true := by
  have hN := numbers_meet (nmx_ends es x y) (Nat.le_refl _) h
  obtain ⟨j0, hj1, hj2, hj3, wi, cm, rr, bt⟩ := ways hN (nmx_ends es x y) (nmx_x es x y)
  have hrch : rch es (nmx es x y) x = it es j0 (w0 x) := by unfold rch; rw [rch_eq hj1 hj2 hj3]
  rw [hrch] at hy h3
  unfold highJ
  rw [if_neg (ans_no _ _ (by decide +kernel)), if_pos (ans_yes _ _ _ (by simp))]
  show (areNum _ _ && (metJ _ _ && riseJ _ _ _ _ _)) = true
  rw [arn_nkd, met_nkd (nmx_ends es x y) hN, riseJ_list]
  show (true && (true && riseL es (nmx es x y) ls x y)) = true
  rw [Bool.true_and, Bool.true_and]
  unfold riseL
  have hx : x ∈ ls := (h3 x).mpr (by rw [wi.dx]; rfl)
  have hyn : y ∉ ls := fun hm => by have := (h3 y).mp hm; rw [hy] at this; cases this
  have hsub : ∀ z ∈ ls, z ∈ nmx es x y := fun z hz => by
    rcases wi.mkx z ((h3 z).mp hz) with rfl | hm
    · exact nmx_x es z y
    · obtain ⟨e, he, hes, _, h4⟩ := mark_src bt hm
      rw [← h4]; exact (nmx_ends es x y e hes).2
  have hclosed : (es.all fun e => !decide (e.1 ∈ ls) || decide (e.2.1 ∈ ls)) = true := by
    rw [List.all_eq_true]
    intro e he
    by_cases h1 : e.1 ∈ ls
    · have hl := cm e he
      obtain ⟨a, ha⟩ := Option.isSome_iff_exists.mp ((h3 _).mp h1)
      have h2 : e.2.1 ∈ ls := (h3 _).mpr (by
        cases hd : (it es j0 (w0 x)).d e.2.1 with
        | some b => rfl
        | none =>
          unfold low at hl
          rw [ha, hd] at hl; cases hl)
      rw [decide_eq_true h2, Bool.or_true]
    · rw [decide_eq_false h1]; rfl
  rw [asc_sorted h1 h2, decide_eq_true hx, decide_eq_false hyn, hclosed, List.all_eq_true.mpr fun z hz => decide_eq_true (hsub z hz)]
  rfl
theorem high_most {es way : List Bd} {x y : Str} {D : Int} (h : (run es (nmx es x y).length (z0 (nmx es x y)) none).2 = none) (hw : ∀ e ∈ way, e ∈ es) (ha : along x way = some (y, D)) (h2 : (run (es ++ [(y, x, -D)]) (nmx es x y).length (z0 (nmx es x y)) none).2 = none) :
    highJ es x y (.tuple [.str (Str.ofString "at most"), .int D, .tuple (way.map encB), .dict (nkd (nmx es x y) (run (es ++ [(y, x, -D)]) (nmx es x y).length (z0 (nmx es x y)) none).1)]) = true := by
  have hends2 : ends (es ++ [(y, x, -D)]) (nmx es x y) := fun e he => by
    rcases List.mem_append.mp he with he | he
    · exact nmx_ends es x y e he
    · rw [List.mem_singleton.mp he]; exact ⟨nmx_y es x y, nmx_x es x y⟩
  have hN := numbers_meet hends2 (Nat.le_refl _) h2
  have hv := tight_val hN hw ha
  unfold highJ
  rw [if_neg (ans_no _ _ (by decide +kernel)), if_neg (ans_no _ _ (by decide +kernel)), if_pos (ans_yes _ _ _ (by simp))]
  show (decide (sumJ _ _ _ _ = some D) && (areNum _ _ && (metJ _ _ && decide (numOf _ x - numOf _ y = D)))) = true
  rw [decide_eq_true (sum_along hw ha), arn_nkd, met_nkd (nmx_ends es x y) (fun e he => hN e (List.mem_append.mpr (.inl he))), num_nkd (nmx_x es x y), num_nkd (nmx_y es x y), decide_eq_true hv]
  rfl
section
variable {P : Program} {w : World} {K : PySem.W.Frag} {mg : Str → Option Value} {base : Heap}
def spUnion : Sp := fun vs H Q _ => ∃ a b, ∃ l1 l2 : List Str, vs = [.ref a, .ref b] ∧ H a = some (.lst (l1.map V.str)) ∧ H b = some (.lst (l2.map V.str)) ∧ l1.length ≤ 10000 ∧ l2.length ≤ 10000 ∧ ∀ p, ∀ l : List Str, ∀ H2, H p = none → Ex H H2 → H2 p = some (.lst (l.map V.str)) → l.length ≤ l1.length + l2.length → Q (.ref p) H2
abbrev N_law_union : List Str := ["one", "other", "name"]
theorem sc_law_union : FnScope N_law_union ["one", "other"] (defScope (top 69)) := ⟨rfl, rfl, rfl, by decide +kernel, rfl, by decide +kernel, by decide +kernel⟩
theorem ok_union (T : Txt K mg) : Cal P w K mg base CX0 1 "_law_union" ["one", "other"] spUnion := by
  refine mkCal T.g__law_union T.d__law_union sc_law_union (fun _ _ _ _ _ _ us hl => match us, hl with | [_, _], _ => rfl) (fun vs H Q E h => ?_) fun cdv A outer s0 H vs Q E hr h => ?_
  · obtain ⟨_, _, _, _, rfl, _⟩ := h; rfl
  obtain ⟨a, b, l1, l2, rfl, ha, hb, hl1, hl2, q⟩ := h
  refine ⟨_, (pss_one (ps_ret (pe_callB (sortL hr.units) (by rfl) T.n_sorted (by decide +kernel) (pa_cons (pe_op op_cat (pv 0) (pe_lc (own := [("name", 2)]) (g := gName 2) rfl sc_law_union.nd (piL (K := K) (pv 1)) (blkOk_by (N := N_law_union) (sc := defScope (top 69)) (by decide +kernel)) (fun _ _ _ _ _ => (pg_name (i := 2) sc_law_union.nd rfl (Or.inl rfl))) (fun _ _ _ _ _ => pts_one (pt_cmpR (ninL (K := K)) (pv 2) (pv 0) (by rfl))) (fun _ _ _ _ _ => (pv 2)))) pa_nil)))), ?_⟩
  refine ⟨_, rfl, _, rfl, b, rfl, ⟨_, SqL.of hb⟩, fun D hD => ?_⟩
  have g1 : ∀ j, j < l2.length → (l2.map V.str)[j]? = some (.str (l2.getD j Str.empty)) := fun j hj => by
    rw [List.getElem?_map, List.getD_eq_getElem?_getD, List.getElem?_eq_getElem hj]; rfl
  refine lcF (K := K) walk_list (fun H' e => SqL.of (e _ _ hb)) (by rw [List.length_map]; omega) (fun j => !decide (l2.getD j Str.empty ∈ l1)) (fun j => .str (l2.getD j Str.empty)) (fun j => [some (.ref a), some (.ref b), some (.str (l2.getD j Str.empty))])
    (fun j y G' H' H'' hj a' yy Q q => turn_name (σ0 := [some (.ref a), some (.ref b), none]) (j := 2) a' yy (g1 j (by rwa [List.length_map] at hj)) q) (fun _ _ => rfl) (fun j H' hj e Q q => ?_) (fun j H' hj hf e Q q => ⟨_, rfl, q H' (Evl.Ex.refl H')⟩) hD (fun H' e' hl' hlo => ?_)
  · refine ⟨_, rfl, _, rfl, a, _, rfl, .inl (SqL.of (e _ _ ha)), rfl, flat_strs l1, _, rfl, ?_⟩
    rw [inV_str]
    exact q H' (Evl.Ex.refl H')
  · rw [List.length_map, filt_map l2 Str.empty (fun z => !decide (z ∈ l1)) V.str] at hlo
    have hfl : (l2.filter fun z => !decide (z ∈ l1)).length ≤ l2.length := List.length_filter_le _ _
    refine ⟨a, D, _, _, rfl, rfl, e' _ _ ha, hlo, Nat.le_of_lt (sz _ (by simp only [List.length_map]; omega)), fun p hp => ?_⟩
    rw [← List.map_append]
    refine ⟨p, _, rfl, upd_same, fun r hr => ?_⟩
    have e1 := Evl.Ex.new hp (o := .lst ((l1 ++ l2.filter fun z => !decide (z ∈ l1)).map V.str))
    exact q r _ _ (Evl.fresh_back (e'.trans e1) hr) ((e'.trans e1).trans (Evl.Ex.new hr)) upd_same (by rw [List.length_mergeSort, List.length_append]; omega)
end
end K43
namespace K43
open PySem PySem.Spec PyProof.Rows L2 Hx Hd M43
open Evl (pss_cut tCut ex_l ex_t)
theorem fit_tup {n : Nat} {ds : List PyData} (hl : ds.length ≤ 100000) (h : ∀ d ∈ ds, Fit n d) : Fit (n + 1) (.tuple ds) :=
  ⟨(fun ds' hd => by rcases hd with hd | hd; · cases hd
                     · injection hd with hd; subst hd; exact ⟨hl, h⟩), (fun es hd => by cases hd)⟩
theorem fit_lst {n : Nat} {ds : List PyData} (hl : ds.length ≤ 100000) (h : ∀ d ∈ ds, Fit n d) : Fit (n + 1) (.list ds) :=
  ⟨(fun ds' hd => by rcases hd with hd | hd; · injection hd with hd; subst hd; exact ⟨hl, h⟩
                     · cases hd), (fun es hd => by cases hd)⟩
theorem fit_dct {n : Nat} {es : List (PyData × PyData)} (hl : es.length ≤ 100000) (h : (es.map (·.1)).Nodup) : Fit (n + 1) (.dict es) :=
  ⟨(fun ds hd => by rcases hd with hd | hd <;> cases hd), (fun es' hd => by injection hd with hd; subst hd; exact ⟨hl, h⟩)⟩
theorem fit_strs {n : Nat} {l : List Str} (hl : l.length ≤ 100000) : Fit (n + 1) (.list (l.map PyData.str)) := fit_lst (by rw [List.length_map]; exact hl) fun d hd => by
  obtain ⟨z, _, rfl⟩ := List.mem_map.mp hd
  exact fit_str z n
theorem fit_encB (b : Bd) (n : Nat) : Fit (n + 1) (encB b) := fit_tup (by show 3 ≤ 100000; decide) fun d hd => by
  rcases List.mem_cons.mp hd with rfl | hd
  · exact fit_str _ n
  rcases List.mem_cons.mp hd with rfl | hd
  · exact fit_str _ n
  rw [List.mem_singleton.mp hd]
  exact fit_int _ n
theorem fit_wel {d : PyData} (h : WEl d) (n : Nat) : Fit (n + 1) d := by
  rcases h with ⟨b, rfl⟩ | ⟨x, y, k, rfl⟩
  · exact fit_encB b n
  · refine fit_lst (by show 3 ≤ 100000; decide) fun d hd => ?_
    rcases List.mem_cons.mp hd with rfl | hd
    · exact fit_str _ n
    rcases List.mem_cons.mp hd with rfl | hd
    · exact fit_str _ n
    rw [List.mem_singleton.mp hd]
    exact fit_int _ n
theorem fit_spw {d : PyData} (h : SpW d) (n : Nat) : Fit (n + 2) d := by
  obtain ⟨ds, h1, h2, h3⟩ := h
  rcases h1 with rfl | rfl
  · exact fit_tup (by omega) fun e he => fit_wel (h3 e he) n
  · exact fit_lst (by omega) fun e he => fit_wel (h3 e he) n
theorem fit_spn {d : PyData} (h : SpN d) (n : Nat) : Fit (n + 1) d := by
  rcases h with ⟨es, rfl, h1, h2⟩ | ⟨l, rfl, h1⟩ | rfl
  · exact fit_dct (by omega) h2
  · exact fit_strs (by omega)
  · exact fit_none _
theorem fit_pair {n : Nat} {z : Str} {d : PyData} (h : Fit n d) : Fit (n + 1) (.tuple [.str z, d]) := fit_tup (by show 2 ≤ 100000; decide) fun e he => by
  rcases List.mem_cons.mp he with rfl | he
  · exact fit_str _ n
  rw [List.mem_singleton.mp he]; exact h
theorem Sp1.vs {G : Hp} : ∀ {xs : List V} {ds : List PyData}, Sp1 G xs ds → Vs SpN G xs
  | _, _, ⟨h1, h2⟩ => fun x hx => by
    obtain ⟨i, hi⟩ := List.getElem?_of_mem hx
    obtain ⟨d, hd, t⟩ := dta_get h1 hi
    exact ⟨d, t, h2 d (List.mem_of_getElem? hd)⟩
theorem nodup_lenG {α : Type} [DecidableEq α] {l : List α} : ∀ {L : List α}, l.Pairwise (· ≠ ·) → (∀ z ∈ l, z ∈ L) → l.length ≤ L.length := by
  induction l with
  | nil => intro L _ _; exact Nat.zero_le _
  | cons z l ih =>
    intro L h1 h2
    obtain ⟨n1, n2⟩ := List.pairwise_cons.mp h1
    have hz := h2 z (List.mem_cons_self ..)
    have := ih (L := L.erase z) n2 fun y hy => (List.mem_erase_of_ne fun e => n1 y hy e.symm).mpr (h2 y (List.mem_cons_of_mem _ hy))
    rw [List.length_erase_of_mem hz] at this
    have : 0 < L.length := List.length_pos_of_mem hz
    rw [List.length_cons]; omega
theorem paired_take {α β : Type} {F : α → β → Prop} : ∀ {as : List α} {bs : List β}, Paired F as bs → ∀ n, Paired F (as.take n) (bs.take n)
  | _, _, .nil, n => by rw [List.take_nil, List.take_nil]; exact .nil
  | _, _, .cons r t, 0 => .nil
  | _, _, .cons r t, n + 1 => .cons r (paired_take t n)
theorem encB_inj {a b : Bd} (h : encB a = encB b) : a = b := by
  injection h with h
  injection h with h1 h
  injection h1 with h1
  injection h with h2 h
  injection h2 with h2
  injection h with h3 h
  injection h3 with h3
  exact Prod.ext h1 (Prod.ext h2 h3)
theorem encs_inj : ∀ {as bs : List Bd}, as.map encB = bs.map encB → as = bs
  | [], [], _ => rfl
  | [], _ :: _, h => by cases h
  | _ :: _, [], h => by cases h
  | a :: as, b :: bs, h => by
    rw [List.map_cons, List.map_cons] at h
    injection h with h1 h2
    rw [encB_inj h1, encs_inj h2]
theorem bds_is {es : List Bd} : isBds (.list (es.map encB)) = true := by
  show (es.map encB).all isBd = true
  rw [List.all_map, List.all_eq_true]
  intro e _; rfl
theorem nodes_B (b : Bd) : nodes (encB b) = 4 := by simp [encB, nodes, nodesL]
theorem nodes_Bs : ∀ es : List Bd, nodesL (es.map encB) = 4 * es.length
  | [] => rfl
  | e :: es => by rw [List.map_cons, nodesL, nodes_B, nodes_Bs es, List.length_cons]; omega
theorem Ga.fix {s L : Addr} {G0 H0 G H : Hp} (h : Ga s L G0 H0 G H) {p : Addr} {o : HO} (h0 : H0 p = none) (e : H p = some o) : Ga s L G0 H0 (upd G p o) H := ⟨h.a.fix h0 e, h.st, h.s0, h.g0⟩
theorem Ga.mut {s L : Addr} {G0 H0 G H : Hp} (h : Ga s L G0 H0 G H) {p : Addr} {o : HO} (h0 : H0 p = none) (g : G p = none) : Ga s L G0 H0 G (upd H p o) := ⟨h.a.mut (.inl h0) g, h.st.mut h.s0 h0, h.s0, h.g0⟩
theorem Ga.nil {s L : Addr} {G0 H0 G H : Hp} (h : Ga s L G0 H0 G H) {p : Addr} (hp : H p = none) : H0 p = none := h.a.dm p hp
/-- the law's own numbers, or its ring -/
def Two (es : List Bd) (N : List Str) (G : Hp) (nv rv : V) : Prop :=
  ((run es N.length (z0 N) none).2 = none ∧ ∃ pn, nv = .ref pn ∧ rv = .non ∧ G pn = some (.dK (nkv N (run es N.length (z0 N) none).1))) ∨
  ((run es N.length (z0 N) none).2 ≠ none ∧ ∃ rl way, nv = .non ∧ rv = .ref rl ∧ Bds G rl way ∧ way.length ≤ 1000)
theorem Two.ex {es : List Bd} {N : List Str} {G G' : Hp} {nv rv : V} (e : Ex G G') (h : Two es N G nv rv) : Two es N G' nv rv := by
  rcases h with ⟨h1, pn, h2, h3, h4⟩ | ⟨h1, rl, way, h2, h3, h4, h5⟩
  · exact .inl ⟨h1, pn, h2, h3, e _ _ h4⟩
  · exact .inr ⟨h1, rl, way, h2, h3, h4.ex e, h5⟩
/-- a comprehension over such values: each turn gives such a value -/
theorem lcV {K : PySem.W.Frag} {G H : Hp} {σ : L2.St} {g : TG} {te : TE} {vs : List Nat} {J : It} {n : Nat} {Wg : Hp → Prop} {Y : Nat → Hp → V → Hp → Prop} {P : PyData → Prop} (W : Walk J n Wg Y) (e : Ex G H) (hWg : ∀ H', Ex G H' → Wg H') (hn : n ≤ 1000000) (σt : Nat → L2.St)
    (hg : ∀ i x G' H' H'', i < n → Stp NoM G H G' H' → Y i H' x H'' → ∀ Q : L2.St → Hp → Prop, (∀ G2 H2, Stp NoM G' H' G2 H2 → Q (σt i) H2) → g x (wipe σ vs) H'' Q) (hw : ∀ i, i < n → wipe (σt i) vs = wipe σ vs)
    (he : ∀ i G' H', i < n → Stp NoM G H G' H' → ∀ Q : VK, (∀ v d G2 H2, Stp NoM G' H' G2 H2 → Dt G2 v d → P d → Q v H2) → te (σt i) H' Q) {D : Addr} (hD : H D = none) {Qd : Hp → Prop}
    (hd : ∀ ys G' H', Stp NoM G H G' H' → G' D = none → H' D = some (.lst ys) → Vs P G' ys → ys.length = n → Qd H') :
    ∃ W : Nat → Nat → Hp → Prop, (∃ m, W 0 m (upd H D (.lst []))) ∧ ∀ i m H, W i m H →
      (J.stop i H ∧ Qd H) ∨ (J.go i H ∧ ∃ Nx : Hp → Prop, (∀ H', Nx H' → ∃ m', m' < m ∧ W (i + 1) m' H') ∧ ∀ x H', J.yld i H x H' → g x (wipe σ vs) H' fun σ2 H2 => wipe σ2 vs = wipe σ vs ∧ tYes σ2 H2 fun b H3 =>
        if b = true then te σ2 H3 fun y H4 => ∃ acc, H4 D = some (.lst acc) ∧ acc.length < sizeLine ∧ Nx (upd H4 D (.lst (acc ++ [y]))) else Nx H3) := by
  refine lcW (M := NoM) W e hWg hn (fun i y G => ∃ d, Dt G y d ∧ P d) (fun _ _ _ _ e ⟨d, h, p⟩ => ⟨d, ex_dt e _ _ h, p⟩) (fun _ => true) σt hg hw (fun i G' H' hi a' Q q => yes_t a'.gh q)
    (fun i G' H' hi _ a' Q q => he i G' H' hi a' Q fun v d G2 H2 st h p => q v G2 H2 st ⟨d, h, p⟩) (fun _ _ h => h) hD (fun ys G' H' a' gD hl' hsel => ?_)
  refine hd ys G' H' a' gD hl' (fun x hx => ?_) (sel_all hsel).1
  obtain ⟨i, hi⟩ := List.getElem?_of_mem hx
  have h2 := (sel_all hsel).2 i (by rw [← (sel_all hsel).1]; exact (List.getElem?_eq_some_iff.mp hi).1)
  obtain ⟨y, hy, r⟩ := h2
  rw [hi] at hy
  obtain rfl := Option.some.inj hy
  exact r
theorem Ga.nom {s L : Addr} {G0 H0 G H G2 H2 : Hp} (h : Ga s L G0 H0 G H) (b : Stp NoM G H G2 H2) : Ga s L G0 H0 G2 H2 := ⟨h.a.trans (b.imp fun _ z => z.elim), h.st.keep b.ex, h.s0, h.g0⟩
section
variable {P : Program} {w : World} {K : PySem.W.Frag} {mg : Str → Option Value} {base : Heap}
def spSFits : Sp := fun vs H Q _ => ∃ s L a es cl way G, vs = [.ref s, .ref a, .ref cl] ∧ Strm H s L ∧ Ex G H ∧ G s = none ∧ Bds G a es ∧ Bds G cl way ∧ es.length ≤ 400 ∧ way.length ≤ 100 ∧ ∀ G2 H2, Ga s L G H G2 H2 → Q (.bl true) H2
abbrev N_law_settled_fits : List Str := ["stream", "bounds", "closed", "own", "numbers", "ring", "passed", "turn", "answer", "at", "told", "one", "zeros", "name", "value"]
theorem sc_law_settled_fits : FnScope N_law_settled_fits ["stream", "bounds", "closed"] (defScope (top 68)) := ⟨rfl, rfl, rfl, by decide +kernel, rfl, by decide +kernel, by decide +kernel⟩
theorem ok_sfits (T : Txt K mg) (C__law_in_bounds : Cal P w K mg base CX0 1 "_law_in_bounds" ["bounds"] spInB) (C__law_least : Cal P w K mg base CX0 1 "_law_least" ["names", "bounds"] spLeast) (C_settled : Cal P w K mg base (L2.CX P w) 5 "settled" ["bounds"] (spSet K)) (C__law_same : Cal P w K mg base CX0 1 "_law_same" ["actual", "due"] (spSame K))
    (C__law_right_settled : Cal P w K mg base CX0 4 "_law_right_settled" ["bounds", "value"] spRSet) (C__law_is_word : Cal P w K mg base CX0 1 "_law_is_word" ["value", "word"] (spWord K)) (C__law_spoilt_numbers : Cal P w K mg base CX0 3 "_law_spoilt_numbers" ["stream", "numbers"] spSpN) (C__law_spoilt_ways : Cal P w K mg base CX0 3 "_law_spoilt_ways" ["stream", "bounds", "way"] spSpW)
    (C_is_settled : Cal P w K mg base (L2.CX P w) 5 "is_settled" ["bounds", "value"] (spIsSet K)) (C__law_copy : Cal P w K mg base CX0 5 "_law_copy" ["value"] (spCopy 4 K)) : Cal P w K mg base CX0 7 "_law_settled_fits" ["stream", "bounds", "closed"] spSFits := by
  refine mkCal T.g__law_settled_fits T.d__law_settled_fits sc_law_settled_fits (fun _ _ _ _ _ _ us hl => match us, hl with | [_, _, _], _ => rfl) (fun vs H Q E h => ?_) fun cdv A outer s0 H vs Q E hr h => ?_
  · obtain ⟨x, _, d, _, _, _, _, rfl, _⟩ := h; rfl
  obtain ⟨s, L, a, es, cl, way0, G, rfl, st, eG, gs, hb, hcl, hes, hway, q⟩ := h
  refine ⟨_, (pss_cons (ps_set (i := 3) sc_law_settled_fits.nd rfl (Or.inl rfl) (pe_cal (E := E0) C__law_in_bounds (hr.mono (by decide)) pass0 (pa_cons (pv 1) pa_nil)))
      (pss_cut (ps_asg (pe_cal (E := E0) C__law_least (hr.mono (by decide)) pass0 (pa_cons (pv 3) (pa_cons (pv 1) pa_nil))) (pgUnl (K := K) rfl (pgs_cons (pg_name (i := 4) sc_law_settled_fits.nd rfl (Or.inl rfl)) (pgs_cons (pg_name (i := 5) sc_law_settled_fits.nd rfl (Or.inl rfl)) pgs_nil))))
      (pss_cons (ps_set (i := 6) sc_law_settled_fits.nd rfl (Or.inl rfl) (pe_callTy (listOf (K := K)) (by rfl) T.n_list (by decide +kernel) (pa_cons (pv 1) pa_nil)))
      (pss_cut (ps_for PassesOwn.never rfl (pi_range1 (by rfl) T.n_range (pa_cons pe_int pa_nil)) (pg_name (i := 7) sc_law_settled_fits.nd rfl (Or.inl rfl)) (pss_cons (ps_set (i := 8) sc_law_settled_fits.nd rfl (Or.inr rfl) (pe_cal (E := E0) C_settled (hr.mono (by decide)) passL (pa_cons (pv 6) pa_nil)))
      (pss_one (ps_if (pt_cmpR op_isN (pv 5) pe_non (nomark _)) (pss_cons (ps_if (pt_not (pt_val (pe_cal (E := E0) C__law_same (hr.mono (by decide)) pass0 (pa_cons (pv 8) (pa_cons (pe_tup (pa_cons pe_str (pa_cons (pv 4) pa_nil))) pa_nil))))) (pss_one (ps_ret pe_bl)) pss_nil)
      (pss_one (ps_dput (hu_of hr) (pe_ix (ixT (K := K)) (pv 8) pe_int (fun _ _ => rfl)) pe_str pe_int rfl))) (pss_cut (ps_if (PW.pt (pw_or (pt_not (pt_val (pe_cal (E := E0) C__law_right_settled (hr.mono (by decide)) pass0 (pa_cons (pv 1) (pa_cons (pv 8) pa_nil))))) (pw_or1 (pt_not (pt_val (pe_cal (E := E0) C__law_is_word (hr.mono (by decide)) pass0 (pa_cons (pe_ix (ixT (K := K)) (pv 8) pe_int (fun _ _ => rfl)) (pa_cons pe_str pa_nil)))))))) (pss_one (ps_ret pe_bl)) pss_nil)
      (pss_one (ps_if (pt_cmpR op_gt (pe_callB (lenL (K := K)) (by rfl) T.n_len PySem.boot_len (pa_cons (pe_lc (own := [("at", 9)]) (g := gName 9) rfl sc_law_settled_fits.nd (pi_range1 (by rfl) T.n_range (pa_cons (pe_callB (lenL (K := K)) (by rfl) T.n_len PySem.boot_len (pa_cons (pe_ix (ixT (K := K)) (pv 8) pe_int (fun _ _ => rfl)) pa_nil)) pa_nil)) (blkOk_by (N := N_law_settled_fits) (sc := defScope (top 68)) (by decide +kernel)) (fun _ _ _ _ _ => (pg_name (i := 9) sc_law_settled_fits.nd rfl (Or.inl rfl))) (fun _ _ _ _ _ => pts_one (pt_cmpR (op_inB (hu65 hr)) (pe_ix (ixT (K := K)) (pe_ix (ixT (K := K)) (pv 8) pe_int (fun _ _ => rfl)) (pv 9) (fun _ _ => rfl)) (pe_slice (slT (K := K)) (pe_ix (ixT (K := K)) (pv 8) pe_int (fun _ _ => rfl)) po_none (po_some (pv 9))) (by first | exact nomark _ | rfl))) (fun _ _ _ _ _ => (pv 9))) pa_nil)) pe_int (nomark _)) (pss_one (ps_ret pe_bl)) pss_nil)))))))
      (pss_cons (ps_set (i := 10) sc_law_settled_fits.nd rfl (Or.inl rfl) (pe_lst pa_nil))
      (pss_cut (ps_if (pt_cmpR op_isN (pv 5) pe_non (nomark _)) (pss_cons (ps_set (i := 10) sc_law_settled_fits.nd rfl (Or.inl rfl) (pe_op op_cat (pe_lc (own := [("one", 11)]) (g := gName 11) rfl sc_law_settled_fits.nd (piL (K := K) (pe_cal (E := E0) C__law_spoilt_numbers (hr.mono (by decide)) pass0 (pa_cons (pv 0) (pa_cons (pv 4) pa_nil)))) (blkOk_by (N := N_law_settled_fits) (sc := defScope (top 68)) (by decide +kernel)) (fun _ _ _ _ _ => (pg_name (i := 11) sc_law_settled_fits.nd rfl (Or.inl rfl))) (fun _ _ _ _ _ => pts_nil) (fun _ _ _ _ _ => (pe_tup (pa_cons pe_str (pa_cons (pv 11) pa_nil))))) (pe_lst (pa_cons (pe_tup (pa_cons pe_str (pa_cons (pv 4) pa_nil))) (pa_cons (pe_lst (pa_cons pe_str (pa_cons (pv 4) pa_nil))) (pa_cons (pv 4) pa_nil))))))
      (pss_one (ps_set (i := 10) sc_law_settled_fits.nd rfl (Or.inl rfl) (pe_op op_cat (pv 10) (pe_lc (own := [("one", 11)]) (g := gName 11) rfl sc_law_settled_fits.nd (piL (K := K) (pe_cal (E := E0) C__law_spoilt_ways (hr.mono (by decide)) pass0 (pa_cons (pv 0) (pa_cons (pv 1) (pa_cons (pv 2) pa_nil))))) (blkOk_by (N := N_law_settled_fits) (sc := defScope (top 68)) (by decide +kernel)) (fun _ _ _ _ _ => (pg_name (i := 11) sc_law_settled_fits.nd rfl (Or.inl rfl))) (fun _ _ _ _ _ => pts_nil) (fun _ _ _ _ _ => (pe_tup (pa_cons pe_str (pa_cons (pv 11) pa_nil))))))))) (pss_cons (ps_set (i := 10) sc_law_settled_fits.nd rfl (Or.inl rfl) (pe_op op_cat (pe_lc (own := [("one", 11)]) (g := gName 11) rfl sc_law_settled_fits.nd (piL (K := K) (pe_cal (E := E0) C__law_spoilt_ways (hr.mono (by decide)) pass0 (pa_cons (pv 0) (pa_cons (pv 1) (pa_cons (pv 5) pa_nil))))) (blkOk_by (N := N_law_settled_fits) (sc := defScope (top 68)) (by decide +kernel)) (fun _ _ _ _ _ => (pg_name (i := 11) sc_law_settled_fits.nd rfl (Or.inl rfl))) (fun _ _ _ _ _ => pts_nil) (fun _ _ _ _ _ => (pe_tup (pa_cons pe_str (pa_cons (pv 11) pa_nil))))) (pe_lst (pa_cons (pe_tup (pa_cons pe_str (pa_cons (pe_callTy (tupOf (K := K)) (by rfl) T.n_tuple (by decide +kernel) (pa_cons (pv 5) pa_nil)) pa_nil))) (pa_cons (pe_callTy (tupOf (K := K)) (by rfl) T.n_tuple (by decide +kernel) (pa_cons (pv 5) pa_nil)) (pa_cons pe_non pa_nil))))))
      (pss_cons (ps_set (i := 12) sc_law_settled_fits.nd rfl (Or.inl rfl) pe_dnewK)
      (pss_cons (ps_for PassesOwn.never rfl (piL (K := K) (pv 3)) (pg_name (i := 13) sc_law_settled_fits.nd rfl (Or.inl rfl)) (pss_one (ps_dput (hu_of hr) (pv 12) (pv 13) pe_int rfl)))
      (pss_one (ps_set (i := 10) sc_law_settled_fits.nd rfl (Or.inl rfl) (pe_op op_cat (pv 10) (pe_lc (own := [("one", 11)]) (g := gName 11) rfl sc_law_settled_fits.nd (piL (K := K) (pe_slice (slL (K := K)) (pe_cal (E := E0) C__law_spoilt_numbers (hr.mono (by decide)) pass0 (pa_cons (pv 0) (pa_cons (pv 12) pa_nil))) po_none (po_some pe_int))) (blkOk_by (N := N_law_settled_fits) (sc := defScope (top 68)) (by decide +kernel)) (fun _ _ _ _ _ => (pg_name (i := 11) sc_law_settled_fits.nd rfl (Or.inl rfl))) (fun _ _ _ _ _ => pts_nil) (fun _ _ _ _ _ => (pe_tup (pa_cons pe_str (pa_cons (pv 11) pa_nil))))))))))))
      (pss_cons (ps_for PassesOwn.never rfl (piL (K := K) (pv 10)) (pg_name (i := 14) sc_law_settled_fits.nd rfl (Or.inl rfl)) (pss_one (ps_if (pt_not (pt_val (pe_cal (E := E0) C__law_same (hr.mono (by decide)) pass0 (pa_cons (pe_cal (E := E0) C_is_settled (hr.mono (by decide)) passL (pa_cons (pv 6) (pa_cons (pe_cal (E := E0) C__law_copy (hr.mono (by decide)) pass0 (pa_cons (pv 14) pa_nil)) pa_nil))) (pa_cons (pe_cal (E := E0) C__law_right_settled (hr.mono (by decide)) pass0 (pa_cons (pv 1) (pa_cons (pv 14) pa_nil))) pa_nil))))) (pss_one (ps_ret pe_bl)) pss_nil)))
      (pss_one (ps_ret (pe_cal (E := E0) C__law_same (hr.mono (by decide)) pass0 (pa_cons (pv 6) (pa_cons (pv 1) pa_nil)))))))))))), ?_⟩
  have ga0 := Ga.refl eG st gs
  have nl := nms_len es
  obtain ⟨xs, hxs, pr⟩ := id hb
  have hxl := pr.length
  refine ⟨_, rfl, a, es, rfl, hb.ex eG, by omega, fun own H1 hown e1 ho1 => ?_⟩
  have ga1 := (ga0.ex e1).fix hown ho1
  have x1 : Ex G (upd G own (.lst ((nms es).map V.str))) := ga1.a.gg
  have ho1 : upd G own (.lst ((nms es).map V.str)) own = some (.lst ((nms es).map V.str)) := upd_same
  generalize upd G own (.lst ((nms es).map V.str)) = G1 at ga1 x1 ho1
  refine ⟨fun σ' H' => ∃ nv rv G', σ' = [some (.ref s), some (.ref a), some (.ref cl), some (.ref own), some nv, some rv, none, none, none, none, none, none, none, none, none] ∧ Ga s L G H G' H' ∧ Ex G1 G' ∧ Two es (nms es) G' nv rv, ?_, ?_⟩
  · refine ⟨_, rfl, _, rfl, own, a, nms es, es, G1, rfl, ga1.ge, ga1.ge _ _ ho1, nms_nodup es, by omega, hb.ex x1, by omega, nms_ends es, fun hrun t pn H2 ht hpn e2 h21 h22 => ?_, fun hrun t rl way H2 ht hrl e2 h21 hbw hw1 hw2 => ?_⟩
    · refine ⟨t, _, rfl, SqL.of h21, rfl, _, _, rfl, _, _, rfl, rfl, ?_⟩
      have ga2 := (ga1.ex e2).fix (ga1.nil hpn) h22
      exact ⟨_, _, _, rfl, ga2, Evl.Ex.new (Evl.fresh_back ga1.ge hpn), .inl ⟨hrun, pn, rfl, rfl, upd_same⟩⟩
    · refine ⟨t, _, rfl, SqL.of h21, rfl, _, _, rfl, _, _, rfl, rfl, ?_⟩
      obtain ⟨us, hus, pw⟩ := hbw
      have ga2 := (ga1.ex e2).fix (ga1.nil hrl) hus
      have x2 : Ex G1 (upd G1 rl (.lst us)) := Evl.Ex.new (Evl.fresh_back ga1.ge hrl)
      exact ⟨_, _, _, rfl, ga2, x2, .inr ⟨hrun, rl, way, rfl, rfl, ⟨us, upd_same, paired_exB x2 pw⟩, by omega⟩⟩
  rintro σ' H2 ⟨nv, rv, G2, rfl, ga2, x2, two⟩
  have hxs2 := (x1.trans x2) _ _ hxs
  refine ⟨_, rfl, a, _, rfl, .inl (SqL.of (ga2.ge _ _ hxs2)), fun pa hpa => ?_⟩
  have ga3 := ga2.new hpa (o := .lst xs)
  have x3' := ga2.fr hpa (o := .lst xs)
  have hpa3 : upd G2 pa (.lst xs) pa = some (.lst xs) := upd_same
  have two3 := two.ex x3'
  have ho3 := x3' _ _ (x2 _ _ ho1)
  have x3 := (x1.trans x2).trans x3'
  clear two ga2 hxs2 x3'
  generalize upd G2 pa (.lst xs) = G3 at ga3 hpa3 two3 ho3 x3
  generalize upd H2 pa (.lst xs) = H3 at ga3
  have hb3 : Bds G3 a es := hb.ex x3
  have hp3 : Bds G3 pa es := ⟨xs, hpa3, paired_exB x3 pr⟩
  refine ⟨fun σ' H' => ∃ tv av, σ' = [some (.ref s), some (.ref a), some (.ref cl), some (.ref own), some nv, some rv, some (.ref pa), tv, av, none, none, none, none, none, none] ∧ Ga s L G H G3 H', ?_, ?_⟩
  · refine ⟨2, rfl, by omega, by omega, ?_⟩
    refine for_it walk_range (fun i σ' H' => ∃ tv av, σ' = [some (.ref s), some (.ref a), some (.ref cl), some (.ref own), some nv, some rv, some (.ref pa), tv, av, none, none, none, none, none, none] ∧ Ga s L G H G3 H')
      ⟨none, none, rfl, ga3⟩ (fun _ _ _ _ _ => trivial) ?_ ?_
    · rintro i x σ' H' H4 hi ⟨tv, av, rfl, ga⟩ ⟨rfl, rfl⟩
      refine ⟨_, rfl, .ref pa, .list (es.map encB), rfl, Bds.dt (hp3.ex ga.ge), (fun ds hd => by injection hd with hd; rw [← hd, List.length_map]; omega), (fun h => by rw [bds_is] at h; cases h), fun es' he => ?_⟩
      have he' : es = es' := encs_inj (by injection he)
      subst he'
      refine ⟨fun h => by omega, fun _ => ⟨fun hrun t p H5 ht hp e5 h51 h52 => ?_, fun hrun t r xs_ way H5 rok ht hr e5 h51 h52 pw => ?_⟩⟩
      · rcases two3 with ⟨_, pn, rfl, rfl, hpn⟩ | ⟨hn, _⟩
        · have ga5 := ga.ex e5
          have np : G3 p = none := Evl.fresh_back ga.ge hp
          refine ⟨_, rfl, rfl, _, rfl, ?_⟩
          refine ite2 (fun _ => ?_) (fun h => absurd rfl h)
          have hdt := nkd_dkv (nms es) (run es (nms es).length (z0 (nms es)) none).1
          refine ⟨_, rfl, _, rfl, Nat.le_of_lt (sz 2 (by omega)), fun t2 ht2 => ?_⟩
          have ga6 := ga5.lay ht2 (o := .tup [.str "numbers", .ref pn])
          have e6 := Evl.Ex.new ht2 (o := .tup [.str "numbers", .ref pn])
          refine ⟨.ref t, .ref t2, .tuple [.str "numbers", .dict (nkd (nms es) (run es (nms es).length (z0 (nms es)) none).1)], rfl, .tup (e6 _ _ h51) (.cons (.str _) (.cons (.dct (e6 _ _ h52) hdt) .nil)), .tup upd_same (.cons (.str _) (.cons (.dct (ga6.ge _ _ hpn) hdt) .nil)), ?_, fun H7 e7 => ?_⟩
          · simp [nodes, nodesL, nkd_len]; omega
          · refine ⟨_, rfl, ?_⟩
            refine ite2 (fun h => absurd h (by decide)) (fun _ => ?_)
            have ga7 := ga6.ex e7
            have hp7 := e7 _ _ (e6 _ _ h52)
            refine ⟨_, rfl, t, _, 1, _, rfl, rfl, SqT.of (e7 _ _ (e6 _ _ h51)), rfl, p, _, rfl, DPut.k (k := (Sum.inr (Str.ofString "spoilt") : Key)) hp7 (sz _ (by unfold nkv; rw [List.length_map]; omega)), ?_⟩
            exact ⟨_, _, rfl, ga7.mut (ga.nil hp) np⟩
        · exact absurd hrun hn
      · rcases two3 with ⟨hn, _⟩ | ⟨_, rl, wl, rfl, rfl, hwl, _⟩
        · exact absurd hn hrun
        · have ga5 := ga.ex e5
          refine ⟨_, rfl, rfl, _, rfl, ?_⟩
          refine ite2 (fun h => absurd h (by simp)) (fun _ => ?_)
          have hdt : Dt H5 (.ref t) (.tuple [.str (Str.ofString "ring"), .tuple (way.map encB)]) := .tup h51 (.cons (.str _) (.cons (.tup h52 (paired_dta (enc := encB) (fun v b => tb_dt) pw)) .nil))
          refine ⟨fun σ' H' => σ' = [some (.ref s), some (.ref a), some (.ref cl), some (.ref own), some .non, some (.ref rl), some (.ref pa), some (.int (0 + (i : Int))), some (.ref t), none, none, none, none, none, none] ∧ Ga s L G H G3 H' ∧ Ex H5 H', ?_, ?_⟩
          · refine ⟨_, rfl, _, rfl, a, es, .ref t, _, rfl, hb3.ex ga5.ge, by omega, hdt, fun H6 e6 => ⟨_, rfl, ?_⟩⟩
            rw [set_ring rok]
            refine ite2 (fun h => absurd h (by decide)) (fun _ => ?_)
            refine ⟨_, rfl, t, _, 0, _, rfl, rfl, SqT.of (e6 _ _ h51), rfl, _, _, _, rfl, .str _, _, rfl, ?_⟩
            refine ite2 (fun h => absurd h (by decide +kernel)) (fun _ => ⟨rfl, ga5.ex e6, e6⟩)
          · rintro σ' H6 ⟨rfl, ga6, e6⟩
            have ht6 := SqT.of (K := K) (e6 _ _ h51)
            have hr6 := e6 _ _ h52
            have pw6 := paired_exB e6 pw
            have hul := pw.length
            have hwy : way.length ≤ 1000 := by
              have := nodup_lenG rok.nod rok.mem
              omega
            refine ⟨_, rfl, t, _, 1, _, rfl, rfl, ht6, rfl, r, _, rfl, .inr (SqT.of hr6), _, rfl, by omega, by omega, fun D hD => ?_⟩
            rw [Int.toNat_natCast]
            let d0 : Bd := (Str.empty, Str.empty, 0)
            refine lcF (K := K) walk_range (fun _ _ => trivial) (by omega) (fun j => decide (way.getD j d0 ∈ way.take j)) (fun j => .int (j : Nat)) (fun j => [some (.ref s), some (.ref a), some (.ref cl), some (.ref own), some .non, some (.ref rl), some (.ref pa), some (.int (0 + (i : Int))), some (.ref t), some (.int (j : Nat)), none, none, none, none, none])
              (fun j u G' H' H'' hj a' yy Q q => turn_range0 (σ0 := [some (.ref s), some (.ref a), some (.ref cl), some (.ref own), some .non, some (.ref rl), some (.ref pa), some (.int (0 + (i : Int))), some (.ref t), none, none, none, none, none, none]) (j := 9) a' yy q) (fun _ _ => rfl) (fun j H' hj e Q q => ?_) (fun j H' hj hf' e Q q => ⟨_, rfl, q H' (Evl.Ex.refl H')⟩) hD (fun H7 e7 hl' hl2 => ?_)
            · have ht' := SqT.of (K := K) (e _ _ (e6 _ _ h51))
              have hr' := SqT.of (K := K) (e _ _ hr6)
              have hju : xs_[j]? = some (xs_.getD j .non) := by rw [List.getD_eq_getElem?_getD, List.getElem?_eq_getElem hj]; rfl
              obtain ⟨ej, hej, tbj⟩ := paired_at (paired_exB e pw6) hju
              refine ⟨_, rfl, t, _, 1, _, rfl, rfl, ht', rfl, _, rfl, r, _, _, _, rfl, rfl, hr', at_nat hju, _, rfl, t, _, 1, _, rfl, rfl, ht', rfl, _, rfl, _, rfl, r, _, rfl, hr', ?_, fun p hp => ?_⟩
              · rw [HT.sIx_none, HT.sIx_nat]; omega
              · rw [cut_to (by omega)]
                have en := Evl.Ex.new hp (o := .tup (xs_.take j))
                refine ⟨p, _, way.take j, ej, rfl, .inr upd_same, paired_take (paired_exB (e.trans en) pw6) j, tb_ex en tbj, _, rfl, ?_⟩
                rw [getD_of hej] at q
                exact q _ en
            · refine ⟨D, _, rfl, .inl hl', _, 0, rfl, rfl, _, rfl, ?_⟩
              have hnone : ((List.range xs_.length).filter fun j => decide (way.getD j d0 ∈ way.take j)) = [] := by
                rw [List.filter_eq_nil_iff]
                intro j hj h
                have hj := List.mem_range.mp hj
                have hjw : j < way.length := by omega
                have hm := of_decide_eq_true h
                rw [List.getD_eq_getElem?_getD, List.getElem?_eq_getElem hjw] at hm
                have hm : way[j] ∈ way.take j := hm
                obtain ⟨k, hk, hkj⟩ := List.getElem_of_mem hm
                rw [List.length_take] at hk
                rw [List.getElem_take] at hkj
                exact List.pairwise_iff_getElem.mp rok.nod k j (by omega) hjw (by omega) hkj
              rw [hnone]
              refine ite2 (fun h => absurd h (by decide)) (fun _ => ?_)
              exact ⟨_, _, rfl, ga6.ex e7⟩
    · rintro σ' H' ⟨tv, av, rfl, ga⟩
      exact ⟨tv, av, rfl, ga⟩
  rintro σ' H4 ⟨tv, av, rfl, ga4⟩
  refine ⟨Nat.zero_le _, fun l0 hl0 => ?_⟩
  have ga5 := ga4.lay hl0 (o := .lst [])
  clear ga4 hl0
  generalize upd H4 l0 (.lst []) = H5 at ga5
  have hbcl3 := hcl.ex x3
  refine ⟨fun σ' H' => ∃ ov zv nmv tl xs G', σ' = [some (.ref s), some (.ref a), some (.ref cl), some (.ref own), some nv, some rv, some (.ref pa), tv, av, none, some (.ref tl), ov, zv, nmv, none] ∧ Ga s L G H G' H' ∧ Ex G3 G' ∧ G' tl = some (.lst xs) ∧ Vs (Fit 4) G' xs ∧ xs.length ≤ 100, ?_, ?_⟩
  · refine ⟨_, rfl, rfl, _, rfl, ?_⟩
    rcases two3 with ⟨hn, pn, rfl, rfl, hpn⟩ | ⟨hn, rl, wl, rfl, rfl, hwl, hwll⟩
    · refine ite2 (fun _ => ?_) (fun h => absurd rfl h)
      have hpn' : G3 pn = some (.dK (ikv (nms es) (num (run es (nms es).length (z0 (nms es)) none).1))) := hpn
      refine ⟨_, rfl, _, rfl, s, L, pn, nms es, _, G3, rfl, ga5.st, ga5.ge, ga5.gs, hpn', nms_nodup es, by omega, fun pl ys ds G6 H6 st6 hpl sp6 str6 hyl => ?_⟩
      have ga6 := ga5.stp st6 str6
      refine ⟨pl, rfl, ⟨ys, SqL.of (ga6.ge _ _ hpl)⟩, fun D hD => ?_⟩
      refine lcV (K := K) (P := Fit 4) walk_list ga6.ge (fun H' e => SqL.of (e _ _ hpl)) (by omega) (fun i => [some (.ref s), some (.ref a), some (.ref cl), some (.ref own), some (.ref pn), some .non, some (.ref pa), tv, av, none, some (.ref l0), some (ys.getD i .non), none, none, none])
        (fun i u G' H' H'' hi a' yy Q q => turn_name (σ0 := [some (.ref s), some (.ref a), some (.ref cl), some (.ref own), some (.ref pn), some .non, some (.ref pa), tv, av, none, some (.ref l0), none, none, none, none]) (j := 11) a' yy (by rw [List.getD_eq_getElem?_getD]; simp [hi]) q) (fun _ _ => rfl) (fun i G' H' hi a' Q q => ?_) hD (fun zs G7 H7 a7 gD hl' hvs hzl => ?_)
      · obtain ⟨d, hd, pd⟩ := sp6.vs (ys.getD i .non) (by rw [List.getD_eq_getElem?_getD, List.getElem?_eq_getElem hi]; exact List.getElem_mem hi)
        refine ⟨_, rfl, Nat.le_of_lt (sz 2 (by omega)), fun t ht => ?_⟩
        have gt : G' t = none := Evl.fresh_back a'.gh ht
        exact q _ _ _ _ (Stp.new a'.gh ht (o := .tup [.str "numbers", ys.getD i .non])) (.tup upd_same (.cons (.str _) (.cons (ex_dt (a'.gg.trans (Evl.Ex.new gt)) _ _ hd) .nil))) (fit_pair (fit_spn pd 2))
      · have ga7 := ga6.nom a7
        have hD0 := ga6.nil hD
        have x7 : Ex G3 G7 := st6.gg.trans a7.gg
        have hdt := nkd_dkv (nms es) (run es (nms es).length (z0 (nms es)) none).1
        have hdn := nkd_nodup (run es (nms es).length (z0 (nms es)) none).1 (nms_nodup es)
        have hdl := nkd_len (nms es) (run es (nms es).length (z0 (nms es)) none).1
        have hpn7 := x7 _ _ hpn
        refine ⟨_, rfl, Nat.le_of_lt (sz 2 (by omega)), fun t1 ht1 => ⟨_, rfl, Nat.le_of_lt (sz 2 (by omega)), fun t2 ht2 => ⟨_, rfl, Nat.le_of_lt (sz 3 (by omega)), fun l1 hl1 => ?_⟩⟩⟩
        have gb1 := ga7.new ht1 (o := .tup [.str "number", .ref pn])
        have y1 := ga7.fr ht1 (o := .tup [.str "number", .ref pn])
        have gb2 := gb1.new ht2 (o := .lst [.str "numbers", .ref pn])
        have y2 := gb1.fr ht2 (o := .lst [.str "numbers", .ref pn])
        have gb3 := gb2.lay hl1 (o := .lst [.ref t1, .ref t2, .ref pn])
        have dpn : ∀ G', Ex G7 G' → Dt G' (.ref pn) (.dict (nkd (nms es) (run es (nms es).length (z0 (nms es)) none).1)) := fun G' e => .dct (e _ _ hpn7) hdt
        have v1 : Vs (Fit 4) (upd (upd G7 t1 (.tup [.str "number", .ref pn])) t2 (.lst [.str "numbers", .ref pn])) [.ref t1, .ref t2, .ref pn] :=
          Vs.cons (.tup (y2 _ _ upd_same) (.cons (.str _) (.cons (dpn _ (y1.trans y2)) .nil))) (fit_pair (fit_dct (by omega) hdn)) (Vs.cons (.lst upd_same (.cons (.str _) (.cons (dpn _ (y1.trans y2)) .nil))) (fit_lst (by show 2 ≤ 100000; decide) fun e he => by
            rcases List.mem_cons.mp he with rfl | he
            · exact fit_str _ _
            rw [List.mem_singleton.mp he]; exact fit_dct (by omega) hdn) (Vs.one (dpn _ (y1.trans y2)) (fit_dct (by omega) hdn)))
        have hD3 := Evl.Ex.new hl1 (o := .lst [.ref t1, .ref t2, .ref pn]) _ _ (Evl.Ex.new ht2 (o := .lst [.str "numbers", .ref pn]) _ _ (Evl.Ex.new ht1 (o := .tup [.str "number", .ref pn]) _ _ hl'))
        refine ⟨D, l1, _, _, rfl, rfl, hD3, upd_same, Nat.le_of_lt (sz _ (by simp; omega)), fun p hp => ?_⟩
        have gb4 := gb3.new hp (o := .lst (zs ++ [.ref t1, .ref t2, .ref pn]))
        have y3 := gb3.fr hp (o := .lst (zs ++ [.ref t1, .ref t2, .ref pn]))
        have y13 := (y1.trans y2).trans y3
        have vall : Vs (Fit 4) _ (zs ++ [.ref t1, .ref t2, .ref pn]) := (hvs.ex y13).app (v1.ex y3)
        have x8 := x7.trans y13
        have hp8 : upd (upd (upd G7 t1 (.tup [.str "number", .ref pn])) t2 (.lst [.str "numbers", .ref pn])) p (.lst (zs ++ [.ref t1, .ref t2, .ref pn])) p = some (.lst (zs ++ [.ref t1, .ref t2, .ref pn])) := upd_same
        clear gb1 gb2 gb3 dpn v1 hD3 y1 y2 y3 y13
        generalize upd (upd (upd G7 t1 (.tup [.str "number", .ref pn])) t2 (.lst [.str "numbers", .ref pn])) p (.lst (zs ++ [.ref t1, .ref t2, .ref pn])) = G8 at gb4 vall x8 hp8
        generalize upd (upd (upd (upd H7 t1 (.tup [.str "number", .ref pn])) t2 (.lst [.str "numbers", .ref pn])) l1 (.lst [.ref t1, .ref t2, .ref pn])) p (.lst (zs ++ [.ref t1, .ref t2, .ref pn])) = H8 at gb4
        refine ⟨_, rfl, _, rfl, _, rfl, _, rfl, s, L, a, es, cl, way0, G8, rfl, gb4.st, gb4.ge, gb4.gs, hb3.ex x8, hbcl3.ex x8, by omega, by omega, fun pw ws G9 H9 ga9' hpw vw hwl => ?_⟩
        have ga9 := gb4.stp ga9'.a ga9'.st
        refine ⟨pw, rfl, ⟨ws, SqL.of (ga9.ge _ _ hpw)⟩, fun D2 hD2 => ?_⟩
        refine lcV (K := K) (P := Fit 4) walk_list ga9.ge (fun H' e => SqL.of (e _ _ hpw)) (by omega) (fun i => [some (.ref s), some (.ref a), some (.ref cl), some (.ref own), some (.ref pn), some .non, some (.ref pa), tv, av, none, some (.ref p), some (ws.getD i .non), none, none, none])
          (fun i u G' H' H'' hi a' yy Q q => turn_name (σ0 := [some (.ref s), some (.ref a), some (.ref cl), some (.ref own), some (.ref pn), some .non, some (.ref pa), tv, av, none, some (.ref p), none, none, none, none]) (j := 11) a' yy (by rw [List.getD_eq_getElem?_getD]; simp [hi]) q) (fun _ _ => rfl) (fun i G' H' hi a' Q q => ?_) hD2 (fun zs2 G10 H10 a10 gD2 hl2 hvs2 hzl2 => ?_)
        · obtain ⟨d, hd, pd⟩ := vw (ws.getD i .non) (by rw [List.getD_eq_getElem?_getD, List.getElem?_eq_getElem hi]; exact List.getElem_mem hi)
          refine ⟨_, rfl, Nat.le_of_lt (sz 2 (by omega)), fun t ht => ?_⟩
          have gt : G' t = none := Evl.fresh_back a'.gh ht
          exact q _ _ _ _ (Stp.new a'.gh ht (o := .tup [.str "ring", ws.getD i .non])) (.tup upd_same (.cons (.str _) (.cons (ex_dt (a'.gg.trans (Evl.Ex.new gt)) _ _ hd) .nil))) (fit_pair (fit_spw pd 1))
        · have ga10 := ga9.nom a10
          have x10 : Ex G8 G10 := ga9'.a.gg.trans a10.gg
          refine ⟨p, D2, _, _, rfl, rfl, ga10.ge _ _ (x10 _ _ hp8), hl2, Nat.le_of_lt (sz _ (by simp; omega)), fun p2 hp2 => ?_⟩
          have gc := ga10.new hp2 (o := .lst (zs ++ [.ref t1, .ref t2, .ref pn] ++ zs2))
          have y4 := ga10.fr hp2 (o := .lst (zs ++ [.ref t1, .ref t2, .ref pn] ++ zs2))
          exact ⟨none, none, none, p2, _, _, rfl, gc, x8.trans (x10.trans y4), upd_same, ((vall.ex x10).app hvs2).ex y4, by simp; omega⟩
    · refine ite2 (fun h => absurd h (by simp)) (fun _ => ?_)
      obtain ⟨us, hus, pw⟩ := id hwl
      have hul := pw.length
      refine ⟨_, rfl, _, rfl, _, rfl, s, L, a, es, rl, wl, G3, rfl, ga5.st, ga5.ge, ga5.gs, hb3, hwl, by omega, hwll, fun pl ws G6 H6 ga6' hpl vw hwsl => ?_⟩
      have ga6 := ga5.stp ga6'.a ga6'.st
      refine ⟨pl, rfl, ⟨ws, SqL.of (ga6.ge _ _ hpl)⟩, fun D hD => ?_⟩
      refine lcV (K := K) (P := Fit 4) walk_list ga6.ge (fun H' e => SqL.of (e _ _ hpl)) (by omega) (fun i => [some (.ref s), some (.ref a), some (.ref cl), some (.ref own), some .non, some (.ref rl), some (.ref pa), tv, av, none, some (.ref l0), some (ws.getD i .non), none, none, none])
        (fun i u G' H' H'' hi a' yy Q q => turn_name (σ0 := [some (.ref s), some (.ref a), some (.ref cl), some (.ref own), some .non, some (.ref rl), some (.ref pa), tv, av, none, some (.ref l0), none, none, none, none]) (j := 11) a' yy (by rw [List.getD_eq_getElem?_getD]; simp [hi]) q) (fun _ _ => rfl) (fun i G' H' hi a' Q q => ?_) hD (fun zs G7 H7 a7 gD hl' hvs hzl => ?_)
      · obtain ⟨d, hd, pd⟩ := vw (ws.getD i .non) (by rw [List.getD_eq_getElem?_getD, List.getElem?_eq_getElem hi]; exact List.getElem_mem hi)
        refine ⟨_, rfl, Nat.le_of_lt (sz 2 (by omega)), fun t ht => ?_⟩
        have gt : G' t = none := Evl.fresh_back a'.gh ht
        exact q _ _ _ _ (Stp.new a'.gh ht (o := .tup [.str "ring", ws.getD i .non])) (.tup upd_same (.cons (.str _) (.cons (ex_dt (a'.gg.trans (Evl.Ex.new gt)) _ _ hd) .nil))) (fit_pair (fit_spw pd 1))
      · have ga7 := ga6.nom a7
        have x7 : Ex G3 G7 := ga6'.a.gg.trans a7.gg
        have hw7 : ∀ H', Ex H7 H' → SqL K H' rl us := fun H' e => SqL.of (e _ _ (ga7.ge _ _ (x7 _ _ hus)))
        have dw : ∀ G' r, Ex G3 G' → G' r = some (.tup us) → Dt G' (.ref r) (.tuple (wl.map encB)) := fun G' r e h => .tup h (paired_dta (enc := encB) (fun v b => tb_dt) (paired_exB e pw))
        have fw : ∀ n, Fit (n + 2) (.tuple (wl.map encB)) := fun n => fit_tup (by rw [List.length_map]; omega) fun d hd => by
          obtain ⟨b, _, rfl⟩ := List.mem_map.mp hd
          exact fit_encB b n
        refine ⟨_, rfl, rl, us, rfl, .inl ⟨hw7 _ (Evl.Ex.refl _), fun r1 hr1 => ?_⟩⟩
        have gb1 := ga7.new hr1 (o := .tup us)
        have y1 := ga7.fr hr1 (o := .tup us)
        have z1 := Evl.Ex.new hr1 (o := .tup us)
        refine ⟨Nat.le_of_lt (sz 2 (by omega)), fun t1 ht1 => ?_⟩
        have gb2 := gb1.new ht1 (o := .tup [.str "rings", .ref r1])
        have y2 := gb1.fr ht1 (o := .tup [.str "rings", .ref r1])
        have z2 := Evl.Ex.new ht1 (o := .tup [.str "rings", .ref r1])
        refine ⟨_, rfl, rl, us, rfl, .inl ⟨hw7 _ (z1.trans z2), fun r2 hr2 => ?_⟩⟩
        have gb3 := gb2.new hr2 (o := .tup us)
        have y3 := gb2.fr hr2 (o := .tup us)
        have z3 := Evl.Ex.new hr2 (o := .tup us)
        refine ⟨Nat.le_of_lt (sz 3 (by omega)), fun l1 hl1 => ?_⟩
        have gb4 := gb3.lay hl1 (o := .lst [.ref t1, .ref r2, .non])
        have z4 := Evl.Ex.new hl1 (o := .lst [.ref t1, .ref r2, .non])
        have v1 : Vs (Fit 4) (upd (upd (upd G7 r1 (.tup us)) t1 (.tup [.str "rings", .ref r1])) r2 (.tup us)) [.ref t1, .ref r2, .non] :=
          Vs.cons (.tup (y3 _ _ upd_same) (.cons (.str _) (.cons (dw _ r1 (x7.trans ((y1.trans y2).trans y3)) (y3 _ _ (y2 _ _ upd_same))) .nil))) (fit_pair (fw 1)) (Vs.cons (dw _ r2 (x7.trans ((y1.trans y2).trans y3)) upd_same) (fw 2) (Vs.one .non (fit_none 4)))
        have hD3 := z4 _ _ (z3 _ _ (z2 _ _ (z1 _ _ hl')))
        refine ⟨D, l1, _, _, rfl, rfl, hD3, upd_same, Nat.le_of_lt (sz _ (by simp; omega)), fun p hp => ?_⟩
        have gb5 := gb4.new hp (o := .lst (zs ++ [.ref t1, .ref r2, .non]))
        have y4 := gb4.fr hp (o := .lst (zs ++ [.ref t1, .ref r2, .non]))
        have y14 := ((y1.trans y2).trans y3).trans y4
        have vall : Vs (Fit 4) _ (zs ++ [.ref t1, .ref r2, .non]) := (hvs.ex y14).app (v1.ex y4)
        have x8 := x7.trans y14
        have hp8 : upd (upd (upd (upd G7 r1 (.tup us)) t1 (.tup [.str "rings", .ref r1])) r2 (.tup us)) p (.lst (zs ++ [.ref t1, .ref r2, .non])) p = some (.lst (zs ++ [.ref t1, .ref r2, .non])) := upd_same
        clear gb1 gb2 gb3 gb4 v1 hD3 y1 y2 y3 y4 y14 z1 z2 z3 z4
        generalize upd (upd (upd (upd G7 r1 (.tup us)) t1 (.tup [.str "rings", .ref r1])) r2 (.tup us)) p (.lst (zs ++ [.ref t1, .ref r2, .non])) = G8 at gb5 vall x8 hp8
        generalize upd (upd (upd (upd (upd H7 r1 (.tup us)) t1 (.tup [.str "rings", .ref r1])) r2 (.tup us)) l1 (.lst [.ref t1, .ref r2, .non])) p (.lst (zs ++ [.ref t1, .ref r2, .non])) = H8 at gb5
        intro zd hzd
        have hz0 := gb5.nil hzd
        have gz8 : G8 zd = none := Evl.fresh_back gb5.ge hzd
        have ho8 := x8 _ _ ho3
        refine ⟨_, rfl, own, rfl, ⟨_, SqL.of ((Evl.Ex.new hzd) _ _ (gb5.ge _ _ ho8))⟩, ?_⟩
        refine for_it walk_list (fun i σ' H' => ∃ nmv, σ' = [some (.ref s), some (.ref a), some (.ref cl), some (.ref own), some .non, some (.ref rl), some (.ref pa), tv, av, none, some (.ref p), none, some (.ref zd), nmv, none] ∧ Ga s L G H G8 H' ∧ H' zd = some (.dK (zkv ((nms es).take i))))
          ⟨none, rfl, gb5.lay hzd, upd_same⟩ (fun i σ' H' hi ⟨_, _, ga, _⟩ => SqL.of (ga.ge _ _ ho8)) ?_ ?_
        · rintro i x σ' H' H'' hi ⟨nmv, rfl, ga, hz⟩ ⟨rfl, hy1⟩
          have hi' : i < (nms es).length := by simpa using hi
          have hzz : (nms es)[i]? = some ((nms es).getD i Str.empty) := by rw [List.getD_eq_getElem?_getD, List.getElem?_eq_getElem hi']; rfl
          rw [List.getElem?_map, hzz] at hy1
          have hx : V.str ((nms es).getD i Str.empty) = x := Option.some.inj hy1
          subst hx
          refine ⟨_, rfl, _, rfl, zd, _, rfl, DPut.k (k := Sum.inr ((nms es).getD i Str.empty)) hz (sz _ (by unfold zkv; rw [List.length_map, List.length_take]; omega)), ?_⟩
          rw [zkv_put (nms_nodup es) hzz]
          exact ⟨_, rfl, ga.mut hz0 gz8, upd_same⟩
        · rintro σ' H9 ⟨nmv, rfl, ga9, hz9⟩
          rw [List.length_map, List.take_length] at hz9
          have ga10 := ga9.fix hz0 hz9
          have y5 : Ex G8 (upd G8 zd (.dK (zkv (nms es)))) := Evl.Ex.new gz8
          have hzd10 : upd G8 zd (.dK (zkv (nms es))) zd = some (.dK (ikv (nms es) fun _ => 0)) := upd_same
          generalize upd G8 zd (.dK (zkv (nms es))) = G10 at ga10 y5 hzd10
          refine ⟨_, rfl, _, rfl, _, rfl, s, L, zd, nms es, (fun _ => 0), G10, rfl, ga10.st, ga10.ge, ga10.gs, hzd10, nms_nodup es, by omega, fun pl2 ys ds G11 H11 st11 hpl2 sp11 str11 hyl => ?_⟩
          have ga11 := ga10.stp st11 str11
          refine ⟨4, rfl, pl2, _, rfl, SqL.of (ga11.ge _ _ hpl2), fun c hc => ?_⟩
          have ga12 := ga11.new hc (o := .lst (cutV ys none (some 4)))
          have y6 := ga11.fr hc (o := .lst (cutV ys none (some 4)))
          have hc12 : upd G11 c (.lst (cutV ys none (some 4))) c = some (.lst (cutV ys none (some 4))) := upd_same
          have vc := (sp11.vs.sub (ys := cutV ys none (some 4)) fun y hy => cutV_mem hy).ex y6
          have hcl2 : (cutV ys none (some 4)).length ≤ 20 := cutV_len _ _ _ hyl
          generalize cutV ys none (some 4) = cs at ga12 y6 hc12 vc hcl2 ⊢
          generalize upd G11 c (.lst cs) = G12 at ga12 y6 hc12 vc
          refine ⟨c, rfl, ⟨cs, SqL.of (ga12.ge _ _ hc12)⟩, fun D2 hD2 => ?_⟩
          refine lcV (K := K) (P := Fit 4) walk_list ga12.ge (fun H' e => SqL.of (e _ _ hc12)) (by omega) (fun i => [some (.ref s), some (.ref a), some (.ref cl), some (.ref own), some .non, some (.ref rl), some (.ref pa), tv, av, none, some (.ref p), some (cs.getD i .non), some (.ref zd), nmv, none])
            (fun i u G' H' H'' hi a' yy Q q => turn_name (σ0 := [some (.ref s), some (.ref a), some (.ref cl), some (.ref own), some .non, some (.ref rl), some (.ref pa), tv, av, none, some (.ref p), none, some (.ref zd), nmv, none]) (j := 11) a' yy (by rw [List.getD_eq_getElem?_getD]; simp [hi]) q) (fun _ _ => rfl) (fun i G' H' hi a' Q q => ?_) hD2 (fun zs2 G13 H13 a13 gD2 hl2 hvs2 hzl2 => ?_)
          · obtain ⟨d, hd, pd⟩ := vc (cs.getD i .non) (by rw [List.getD_eq_getElem?_getD, List.getElem?_eq_getElem hi]; exact List.getElem_mem hi)
            refine ⟨_, rfl, Nat.le_of_lt (sz 2 (by omega)), fun t ht => ?_⟩
            have gt : G' t = none := Evl.fresh_back a'.gh ht
            exact q _ _ _ _ (Stp.new a'.gh ht (o := .tup [.str "numbers", cs.getD i .non])) (.tup upd_same (.cons (.str _) (.cons (ex_dt (a'.gg.trans (Evl.Ex.new gt)) _ _ hd) .nil))) (fit_pair (fit_spn pd 2))
          · have ga13 := ga12.nom a13
            have x13 : Ex G8 G13 := ((y5.trans st11.gg).trans y6).trans a13.gg
            refine ⟨p, D2, _, _, rfl, rfl, ga13.ge _ _ (x13 _ _ hp8), hl2, Nat.le_of_lt (sz _ (by simp; omega)), fun p2 hp2 => ?_⟩
            have gc := ga13.new hp2 (o := .lst (zs ++ [.ref t1, .ref r2, .non] ++ zs2))
            have y7 := ga13.fr hp2 (o := .lst (zs ++ [.ref t1, .ref r2, .non] ++ zs2))
            exact ⟨none, some (.ref zd), nmv, p2, _, _, rfl, gc, x8.trans (x13.trans y7), upd_same, ((vall.ex x13).app hvs2).ex y7, by simp; omega⟩
  rintro σ' H6 ⟨ov, zv, nmv, tl, ts, G6, rfl, ga6, x6, htl, hts, htsl⟩
  refine ⟨_, rfl, tl, rfl, ⟨ts, SqL.of (ga6.ge _ _ htl)⟩, ?_⟩
  refine for_it walk_list (fun i σ' H' => ∃ vv, σ' = [some (.ref s), some (.ref a), some (.ref cl), some (.ref own), some nv, some rv, some (.ref pa), tv, av, none, some (.ref tl), ov, zv, nmv, vv] ∧ Ga s L G H G6 H')
    ⟨none, rfl, ga6⟩ (fun i σ' H' hi ⟨_, _, ga⟩ => SqL.of (ga.ge _ _ htl)) ?_ ?_
  · rintro i v σ' H' H7 hi ⟨vv, rfl, ga⟩ ⟨rfl, hv⟩
    obtain ⟨d, hd, fd⟩ := hts v (List.mem_of_getElem? hv)
    have hpa6 : Bds H7 pa es := (hp3.ex x6).ex ga.ge
    refine ⟨_, rfl, _, rfl, _, d, G6, rfl, ga.ge, hd, fd, fun v2 G8 H8 st8 hd8 => ?_⟩
    have e8 := st8.ex
    refine ⟨.ref pa, .list (es.map encB), v2, d, rfl, Bds.dt (hpa6.ex e8), ex_dt st8.gh _ _ hd8, (fun ds hd => by injection hd with hd; rw [← hd, List.length_map]; omega), (fun h => by rw [bds_is] at h; cases h), fun es' he => ?_⟩
    have he' : es = es' := encs_inj (by injection he)
    subst he'
    intro H9 e9
    have e79 := e8.trans e9
    refine ⟨_, rfl, _, rfl, a, es, v, d, rfl, ((hb3.ex x6).ex ga.ge).ex e79, by omega, ex_dt (ga.ge.trans e79) _ _ hd, fun H10 e10 => ?_⟩
    refine ⟨_, _, .bool (setJ es d), rfl, .bl _, .bl _, by simp [nodes], fun H11 e11 => ⟨_, rfl, ?_⟩⟩
    refine ite2 (fun h => absurd h (by decide)) (fun _ => ?_)
    exact ⟨_, rfl, ga.ex (e79.trans (e10.trans e11))⟩
  · rintro σ' H7 ⟨vv, rfl, ga⟩
    refine ⟨_, rfl, _, rfl, .ref pa, .ref a, .list (es.map encB), rfl, Bds.dt ((hp3.ex x6).ex ga.ge), Bds.dt ((hb3.ex x6).ex ga.ge), ?_, fun H8 e8 => q _ _ (ga.ex e8)⟩
    simp only [nodes]
    rw [nodes_Bs]; omega
end
end K43
namespace K43
open PySem PySem.Spec PyProof.Rows L2 Hx Hd M43
open Evl (pss_cut tCut ex_l ex_t)
def Lc (d : PyData) : Prop := ∀ (d0 d1 : PyData) (ds : List PyData), d = .tuple [d0, d1, .list ds] → (∃ l : List Str, ds = l.map PyData.str) ∧ ds.length ≤ 100000
def SpH (d : PyData) : Prop := Fit 4 d ∧ Lc d
theorem lc_2 {a b : PyData} : Lc (.tuple [a, b]) := fun d0 d1 ds h => by injection h with h; cases h
theorem lc_4 {a b c d : PyData} : Lc (.tuple [a, b, c, d]) := fun d0 d1 ds h => by injection h with h; cases h
theorem lc_3l {a b : PyData} {l : List Str} (hl : l.length ≤ 100000) : Lc (.tuple [a, b, .list (l.map PyData.str)]) := fun d0 d1 ds h => by
  injection h with h
  injection h with _ h
  injection h with _ h
  injection h with h _
  injection h with h
  subst h
  exact ⟨⟨l, rfl⟩, by rw [List.length_map]; exact hl⟩
theorem lc_3t {a b : PyData} {l : List PyData} : Lc (.tuple [a, b, .tuple l]) := fun d0 d1 ds h => by
  injection h with h
  injection h with _ h
  injection h with _ h
  injection h with h _
  cases h
/-- what the program answered -/
def An (es : List Bd) (x y : Str) (H : Hp) (t : Addr) : Prop :=
  (run es (nmx es x y).length (z0 (nmx es x y)) none).2 ≠ none ∨
  ((run es (nmx es x y).length (z0 (nmx es x y)) none).2 = none ∧ (((rch es (nmx es x y) x).d y = none ∧ ∃ r1 r2, H t = some (.tup [.str "grows", r1, r2])) ∨ ∃ D, (rch es (nmx es x y) x).d y = some D ∧ ∃ r1 r2, H t = some (.tup [.str "at most", .int D, r1, r2])))
theorem An.ex {es : List Bd} {x y : Str} {H H' : Hp} (e : Ex H H') {t : Addr} (h : An es x y H t) : An es x y H' t := by
  rcases h with h | ⟨h, (⟨h1, r1, r2, h2⟩ | ⟨D, h1, r1, r2, h2⟩)⟩
  · exact .inl h
  · exact .inr ⟨h, .inl ⟨h1, r1, r2, e _ _ h2⟩⟩
  · exact .inr ⟨h, .inr ⟨D, h1, r1, r2, e _ _ h2⟩⟩
theorem reach_sub {es : List Bd} {x y : Str} (h : (run es (nmx es x y).length (z0 (nmx es x y)) none).2 = none) {z : Str} (hz : ((rch es (nmx es x y) x).d z).isSome = true) : z ∈ nmx es x y := by
  have hN := numbers_meet (nmx_ends es x y) (Nat.le_refl _) h
  obtain ⟨j0, hj1, hj2, hj3, wi, cm, rr, bt⟩ := ways hN (nmx_ends es x y) (nmx_x es x y)
  have hrch : rch es (nmx es x y) x = it es j0 (w0 x) := by unfold rch; rw [rch_eq hj1 hj2 hj3]
  rw [hrch] at hz
  rcases wi.mkx z hz with rfl | hm
  · exact nmx_x es z y
  · obtain ⟨e, he, hes, _, h4⟩ := mark_src bt hm
    rw [← h4]; exact (nmx_ends es x y e hes).2
theorem strs_of {xs : List V} {l : List Str} (h : xs = l.map V.str) {i : Nat} {x : V} (hx : xs[i]? = some x) : ∃ z, x = V.str z := by
  rw [h, List.getElem?_map] at hx
  obtain ⟨z, _, e⟩ := Option.map_eq_some_iff.mp hx
  exact ⟨z, e.symm⟩
def RowOk (d : PyData) : Prop := (∃ l : List Str, d = .list (l.map .str) ∧ l.length ≤ 20000) ∨ ∃ ds, d = .tuple ds ∧ ds.length ≤ 20000 ∧ ∀ e ∈ ds, ∃ z, e = .str z
theorem two_at {a b : V} : ∀ {i : Nat}, i < [a, b].length → ([a, b] : List V)[i]? = some (([a, b] : List V).getD i .non)
  | 0, _ => rfl
  | 1, _ => rfl
  | i + 2, h => by
    have h : i + 2 < 2 := h
    omega
theorem fit_way {way : List Bd} (h : way.length ≤ 100000) (n : Nat) : Fit (n + 2) (.tuple (way.map encB)) := fit_tup (by rw [List.length_map]; exact h) fun d hd => by
  obtain ⟨b, _, rfl⟩ := List.mem_map.mp hd
  exact fit_encB b n
section
variable {P : Program} {w : World} {K : PySem.W.Frag} {mg : Str → Option Value} {base : Heap}
def spHFits : Sp := fun vs H Q _ => ∃ s L an a, ∃ ns : List Str, ∃ es G, vs = [.ref s, .ref an, .ref a] ∧ Strm H s L ∧ Ex G H ∧ G s = none ∧ G an = some (.lst (ns.map V.str)) ∧ ns.length ≤ 100 ∧ Bds G a es ∧ es.length ≤ 400 ∧ ∀ G2 H2, Ga s L G H G2 H2 → Q (.bl true) H2
abbrev N_law_highest_fits : List Str := ["stream", "names", "bounds", "x", "y", "own", "numbers", "ring", "passed", "answer", "told", "one", "sums", "marks", "way", "tight", "by", "wide", "rows", "name", "value"]
theorem sc_law_highest_fits : FnScope N_law_highest_fits ["stream", "names", "bounds"] (defScope (top 70)) := ⟨rfl, rfl, rfl, by decide +kernel, rfl, by decide +kernel, by decide +kernel⟩
theorem ok_hfits (T : Txt K mg) (C__law_pick : Cal P w K mg base CX0 2 "_law_pick" ["stream", "rows"] (spPick K)) (C__law_in_bounds : Cal P w K mg base CX0 1 "_law_in_bounds" ["bounds"] spInB) (C__law_least : Cal P w K mg base CX0 1 "_law_least" ["names", "bounds"] spLeast) (C_highest : Cal P w K mg base (L2.CX P w) 6 "highest" ["bounds", "x", "y"] (spHigh K)) (C__law_same : Cal P w K mg base CX0 1 "_law_same" ["actual", "due"] (spSame K))
    (C__law_right_highest : Cal P w K mg base CX0 4 "_law_right_highest" ["bounds", "x", "y", "value"] spRHigh) (C__law_is_word : Cal P w K mg base CX0 1 "_law_is_word" ["value", "word"] (spWord K)) (C__law_spoilt_numbers : Cal P w K mg base CX0 3 "_law_spoilt_numbers" ["stream", "numbers"] spSpN) (C__law_spoilt_ways : Cal P w K mg base CX0 3 "_law_spoilt_ways" ["stream", "bounds", "way"] spSpW)
    (C_is_highest : Cal P w K mg base (L2.CX P w) 6 "is_highest" ["bounds", "x", "y", "value"] (spIsHigh K)) (C__law_copy : Cal P w K mg base CX0 5 "_law_copy" ["value"] (spCopy 4 K)) (C__law_reach : Cal P w K mg base CX0 1 "_law_reach" ["bounds", "start", "many"] spReach) (C__law_led : Cal P w K mg base CX0 1 "_law_led" ["marks", "start", "name", "many"] spLed) (C__law_union : Cal P w K mg base CX0 1 "_law_union" ["one", "other"] spUnion) :
    Cal P w K mg base CX0 8 "_law_highest_fits" ["stream", "names", "bounds"] spHFits := by
  refine mkCal T.g__law_highest_fits T.d__law_highest_fits sc_law_highest_fits (fun _ _ _ _ _ _ us hl => match us, hl with | [_, _, _], _ => rfl) (fun vs H Q E h => ?_) fun cdv A outer s0 H vs Q E hr h => ?_
  · obtain ⟨x, _, d, _, _, _, _, rfl, _⟩ := h; rfl
  obtain ⟨s, L, an, a, ns, es, G, rfl, st, eG, gs, han, hns, hb, hes, q⟩ := h
  refine ⟨_, (pss_cons (ps_set (i := 3) sc_law_highest_fits.nd rfl (Or.inl rfl) (pe_cal (E := E0) C__law_pick (hr.mono (by decide)) pass0 (pa_cons (pv 0) (pa_cons (pe_op op_cat (pv 1) (pe_lst (pa_cons pe_str pa_nil))) pa_nil))))
      (pss_cons (ps_set (i := 4) sc_law_highest_fits.nd rfl (Or.inr rfl) (pe_cal (E := E0) C__law_pick (hr.mono (by decide)) pass0 (pa_cons (pv 0) (pa_cons (pe_op op_cat (pv 1) (pe_lst (pa_cons pe_str (pa_cons (pv 3) pa_nil)))) pa_nil))))
      (pss_cons (ps_set (i := 5) sc_law_highest_fits.nd rfl (Or.inl rfl) (pe_cal (E := E0) C__law_in_bounds (hr.mono (by decide)) pass0 (pa_cons (pe_op op_cat (pv 2) (pe_lst (pa_cons (pe_tup (pa_cons (pv 3) (pa_cons (pv 4) (pa_cons pe_int pa_nil)))) pa_nil))) pa_nil)))
      (pss_cut (ps_asg (pe_cal (E := E0) C__law_least (hr.mono (by decide)) pass0 (pa_cons (pv 5) (pa_cons (pv 2) pa_nil))) (pgUnl (K := K) rfl (pgs_cons (pg_name (i := 6) sc_law_highest_fits.nd rfl (Or.inr rfl)) (pgs_cons (pg_name (i := 7) sc_law_highest_fits.nd rfl (Or.inl rfl)) pgs_nil))))
      (pss_cons (ps_set (i := 8) sc_law_highest_fits.nd rfl (Or.inl rfl) (pe_callTy (listOf (K := K)) (by rfl) T.n_list (by decide +kernel) (pa_cons (pv 2) pa_nil)))
      (pss_cut (ps_set (i := 9) sc_law_highest_fits.nd rfl (Or.inl rfl) (pe_cal (E := E0) C_highest (hr.mono (by decide)) passL (pa_cons (pv 8) (pa_cons (pv 3) (pa_cons (pv 4) pa_nil)))))
      (pss_cut (ps_if (PW.pt (pw_or (pt_not (pt_val (pe_cal (E := E0) C__law_right_highest (hr.mono (by decide)) pass0 (pa_cons (pv 2) (pa_cons (pv 3) (pa_cons (pv 4) (pa_cons (pv 9) pa_nil))))))) (pw_or1 (pt_cmpR op_isnot_bl (pe_cal (E := E0) C_is_highest (hr.mono (by decide)) passL (pa_cons (pv 8) (pa_cons (pv 3) (pa_cons (pv 4) (pa_cons (pe_cal (E := E0) C__law_copy (hr.mono (by decide)) pass0 (pa_cons (pv 9) pa_nil)) pa_nil))))) pe_bl (nomark _))))) (pss_one (ps_ret pe_bl)) pss_nil)
      (pss_cut (ps_if (pt_cmpR op_notN (pv 7) pe_non (nomark _)) (pss_one (ps_setLc (i := 10) (own := [("one", 11)]) (g := gName 11) rfl sc_law_highest_fits.nd rfl rfl (sw_true rfl rfl rfl (by decide +kernel)) (piL (K := K) (pe_cal (E := E0) C__law_spoilt_ways (hr.mono (by decide)) pass0 (pa_cons (pv 0) (pa_cons (pv 2) (pa_cons (pv 7) pa_nil))))) (blkOk_by (N := N_law_highest_fits) (sc := defScope (top 70)) (by decide +kernel)) (fun _ _ _ _ _ => (pg_name (i := 11) sc_law_highest_fits.nd rfl (Or.inl rfl))) (fun _ _ _ _ _ => pts_nil) (fun _ _ _ _ _ => (pe_tup (pa_cons pe_str (pa_cons (pv 11) pa_nil)))))) (pss_cut (ps_asg (pe_cal (E := E0) C__law_reach (hr.mono (by decide)) pass0 (pa_cons (pv 2) (pa_cons (pv 3) (pa_cons (pe_callB (lenL (K := K)) (by rfl) T.n_len PySem.boot_len (pa_cons (pv 5) pa_nil)) pa_nil)))) (pgUnl (K := K) rfl (pgs_cons (pg_name (i := 12) sc_law_highest_fits.nd rfl (Or.inr rfl)) (pgs_cons (pg_name (i := 13) sc_law_highest_fits.nd rfl (Or.inl rfl)) pgs_nil))))
      (pss_one (ps_if (pt_cmp (pc_din (hu_of hr) (pv 4) (pv 12))) (pss_cut (ps_if (PW.pt (pw_or (pt_not (pt_val (pe_cal (E := E0) C__law_is_word (hr.mono (by decide)) pass0 (pa_cons (pe_ix (ixT (K := K)) (pv 9) pe_int (fun _ _ => rfl)) (pa_cons pe_str pa_nil))))) (pw_or1 (pt_cmpR op_ne (pe_ix (ixT (K := K)) (pv 9) pe_int (fun _ _ => rfl)) (pe_dget (hu_of hr) (pv 12) (pv 4) (fun _ _ => rfl)) (nomark _))))) (pss_one (ps_ret pe_bl)) pss_nil)
      (pss_cons (ps_set (i := 14) sc_law_highest_fits.nd rfl (Or.inr rfl) (pe_cal (E := E0) C__law_led (hr.mono (by decide)) pass0 (pa_cons (pv 13) (pa_cons (pv 3) (pa_cons (pv 4) (pa_cons (pe_callB (lenL (K := K)) (by rfl) T.n_len PySem.boot_len (pa_cons (pv 5) pa_nil)) pa_nil))))))
      (pss_cons (ps_set (i := 15) sc_law_highest_fits.nd rfl (Or.inr rfl) (pe_ix (ixL (K := K)) (pe_cal (E := E0) C__law_least (hr.mono (by decide)) pass0 (pa_cons (pv 5) (pa_cons (pe_op op_cat (pv 2) (pe_lst (pa_cons (pe_tup (pa_cons (pv 4) (pa_cons (pv 3) (pa_cons (pe_un un_neg (pe_dget (hu_of hr) (pv 12) (pv 4) (fun _ _ => rfl))) pa_nil)))) pa_nil))) pa_nil))) pe_int (fun _ _ => rfl)))
      (pss_cut (ps_setLc (i := 10) (own := [("one", 11)]) (g := gName 11) rfl sc_law_highest_fits.nd rfl rfl (sw_true rfl rfl rfl (by decide +kernel)) (piL (K := K) (pe_cal (E := E0) C__law_spoilt_ways (hr.mono (by decide)) pass0 (pa_cons (pv 0) (pa_cons (pv 2) (pa_cons (pv 14) pa_nil))))) (blkOk_by (N := N_law_highest_fits) (sc := defScope (top 70)) (by decide +kernel)) (fun _ _ _ _ _ => (pg_name (i := 11) sc_law_highest_fits.nd rfl (Or.inl rfl))) (fun _ _ _ _ _ => pts_nil) (fun _ _ _ _ _ => (pe_tup (pa_cons pe_str (pa_cons (pe_dget (hu_of hr) (pv 12) (pv 4) (fun _ _ => rfl)) (pa_cons (pv 11) (pa_cons (pe_callTy call_dictK (by rfl) T.n_dict (by decide +kernel) (pa_cons (pv 15) pa_nil)) pa_nil)))))))
      (pss_cut (ps_set (i := 10) sc_law_highest_fits.nd rfl (Or.inl rfl) (pe_op op_cat (pv 10) (pe_lc (own := [("one", 11)]) (g := gName 11) rfl sc_law_highest_fits.nd (piL (K := K) (pe_cal (E := E0) C__law_spoilt_numbers (hr.mono (by decide)) pass0 (pa_cons (pv 0) (pa_cons (pv 15) pa_nil)))) (blkOk_by (N := N_law_highest_fits) (sc := defScope (top 70)) (by decide +kernel)) (fun _ _ _ _ _ => (pg_name (i := 11) sc_law_highest_fits.nd rfl (Or.inl rfl))) (fun _ _ _ _ _ => pts_nil) (fun _ _ _ _ _ => (pe_tup (pa_cons pe_str (pa_cons (pe_dget (hu_of hr) (pv 12) (pv 4) (fun _ _ => rfl)) (pa_cons (pe_callTy (tupOf (K := K)) (by rfl) T.n_tuple (by decide +kernel) (pa_cons (pv 14) pa_nil)) (pa_cons (pv 11) pa_nil)))))))))
      (pss_cut (ps_set (i := 10) sc_law_highest_fits.nd rfl (Or.inl rfl) (pe_op op_cat (pv 10) (pe_lc (own := [("by", 16)]) (g := gName 16) rfl sc_law_highest_fits.nd (piT (K := K) (pe_tup (pa_cons (pe_un un_neg pe_int) (pa_cons pe_int pa_nil)))) (blkOk_by (N := N_law_highest_fits) (sc := defScope (top 70)) (by decide +kernel)) (fun _ _ _ _ _ => (pg_name (i := 16) sc_law_highest_fits.nd rfl (Or.inl rfl))) (fun _ _ _ _ _ => pts_nil) (fun _ _ _ _ _ => (pe_tup (pa_cons pe_str (pa_cons (pe_op op_add (pe_dget (hu_of hr) (pv 12) (pv 4) (fun _ _ => rfl)) (pv 16)) (pa_cons (pe_callTy (tupOf (K := K)) (by rfl) T.n_tuple (by decide +kernel) (pa_cons (pv 14) pa_nil)) (pa_cons (pe_callTy call_dictK (by rfl) T.n_dict (by decide +kernel) (pa_cons (pv 15) pa_nil)) pa_nil)))))))))
      (pss_one (ps_set (i := 10) sc_law_highest_fits.nd rfl (Or.inl rfl) (pe_op op_cat (pv 10) (pe_lst (pa_cons (pe_tup (pa_cons pe_str (pa_cons (pe_dget (hu_of hr) (pv 12) (pv 4) (fun _ _ => rfl)) (pa_cons (pe_callTy (tupOf (K := K)) (by rfl) T.n_tuple (by decide +kernel) (pa_cons (pv 14) pa_nil)) (pa_cons (pe_callTy call_dictK (by rfl) T.n_dict (by decide +kernel) (pa_cons (pv 6) pa_nil)) pa_nil))))) (pa_cons (pe_tup (pa_cons pe_str (pa_cons (pe_callTy call_dictK (by rfl) T.n_dict (by decide +kernel) (pa_cons (pv 6) pa_nil)) (pa_cons (pe_lst (pa_cons (pv 3) pa_nil)) pa_nil)))) pa_nil)))))))))))) (pss_cons (ps_if (pt_not (pt_val (pe_cal (E := E0) C__law_is_word (hr.mono (by decide)) pass0 (pa_cons (pe_ix (ixT (K := K)) (pv 9) pe_int (fun _ _ => rfl)) (pa_cons pe_str pa_nil))))) (pss_one (ps_ret pe_bl)) pss_nil)
      (pss_cons (ps_set (i := 1) sc_law_highest_fits.nd rfl (Or.inr rfl) (pe_callB (sortDk rfl hr.units) (by rfl) T.n_sorted (by decide +kernel) (pa_cons (pv 12) pa_nil)))
      (pss_cut (ps_setLc (i := 10) (own := [("one", 11)]) (g := gName 11) rfl sc_law_highest_fits.nd rfl rfl (sw_true rfl rfl rfl (by decide +kernel)) (piL (K := K) (pe_cal (E := E0) C__law_spoilt_numbers (hr.mono (by decide)) pass0 (pa_cons (pv 0) (pa_cons (pv 6) pa_nil)))) (blkOk_by (N := N_law_highest_fits) (sc := defScope (top 70)) (by decide +kernel)) (fun _ _ _ _ _ => (pg_name (i := 11) sc_law_highest_fits.nd rfl (Or.inl rfl))) (fun _ _ _ _ _ => pts_nil) (fun _ _ _ _ _ => (pe_tup (pa_cons pe_str (pa_cons (pv 11) (pa_cons (pe_callTy (listOf (K := K)) (by rfl) T.n_list (by decide +kernel) (pa_cons (pv 1) pa_nil)) pa_nil))))))
      (pss_cut (ps_set (i := 17) sc_law_highest_fits.nd rfl (Or.inl rfl) (pe_cal (E := E0) C__law_union (hr.mono (by decide)) pass0 (pa_cons (pv 1) (pa_cons (pe_callTy (call_list_dK rfl) (by rfl) T.n_list (by decide +kernel) (pa_cons (pe_ix (ixL (K := K)) (pe_cal (E := E0) C__law_reach (hr.mono (by decide)) pass0 (pa_cons (pv 2) (pa_cons (pe_cal (E := E0) C__law_pick (hr.mono (by decide)) pass0 (pa_cons (pv 0) (pa_cons (pv 5) pa_nil))) (pa_cons (pe_callB (lenL (K := K)) (by rfl) T.n_len PySem.boot_len (pa_cons (pv 5) pa_nil)) pa_nil)))) pe_int (fun _ _ => rfl)) pa_nil)) pa_nil))))
      (pss_cut (ps_set (i := 18) sc_law_highest_fits.nd rfl (Or.inl rfl) (pe_lst (pa_cons (pv 1) (pa_cons (pv 17) (pa_cons (pv 5) (pa_cons (pe_lc (own := [("name", 19)]) (g := gName 19) rfl sc_law_highest_fits.nd (piL (K := K) (pv 5)) (blkOk_by (N := N_law_highest_fits) (sc := defScope (top 70)) (by decide +kernel)) (fun _ _ _ _ _ => (pg_name (i := 19) sc_law_highest_fits.nd rfl (Or.inl rfl))) (fun _ _ _ _ _ => pts_one (pt_cmpR op_ne (pv 19) (pv 4) (nomark _))) (fun _ _ _ _ _ => (pv 19))) (pa_cons (pe_back (pv 1) (po_some (pe_un un_neg pe_int))) (pa_cons (pe_slice (slL (K := K)) (pv 1) (po_some pe_int) po_none) (pa_cons (pe_slice (slL (K := K)) (pv 1) po_none (po_some (pe_un un_neg pe_int))) (pa_cons (pe_lst (pa_cons (pv 3) pa_nil)) (pa_cons (pe_lst pa_nil) (pa_cons (pe_callTy (tupOf (K := K)) (by rfl) T.n_tuple (by decide +kernel) (pa_cons (pv 1) pa_nil)) (pa_cons (pe_op op_cat (pv 1) (pv 1)) pa_nil)))))))))))))
      (pss_cut (ps_set (i := 10) sc_law_highest_fits.nd rfl (Or.inl rfl) (pe_op op_cat (pv 10) (pe_lc (own := [("one", 11)]) (g := gName 11) rfl sc_law_highest_fits.nd (piL (K := K) (pv 18)) (blkOk_by (N := N_law_highest_fits) (sc := defScope (top 70)) (by decide +kernel)) (fun _ _ _ _ _ => (pg_name (i := 11) sc_law_highest_fits.nd rfl (Or.inl rfl))) (fun _ _ _ _ _ => pts_nil) (fun _ _ _ _ _ => (pe_tup (pa_cons pe_str (pa_cons (pe_callTy call_dictK (by rfl) T.n_dict (by decide +kernel) (pa_cons (pv 6) pa_nil)) (pa_cons (pv 11) pa_nil))))))))
      (pss_one (ps_set (i := 10) sc_law_highest_fits.nd rfl (Or.inl rfl) (pe_op op_cat (pv 10) (pe_lst (pa_cons (pe_tup (pa_cons pe_str (pa_cons pe_int (pa_cons (pe_tup pa_nil) (pa_cons (pe_callTy call_dictK (by rfl) T.n_dict (by decide +kernel) (pa_cons (pv 6) pa_nil)) pa_nil))))) (pa_cons (pe_tup (pa_cons pe_str (pa_cons (pe_callTy call_dictK (by rfl) T.n_dict (by decide +kernel) (pa_cons (pv 6) pa_nil)) pa_nil))) (pa_cons (pe_tup (pa_cons pe_str (pa_cons (pe_tup pa_nil) pa_nil))) pa_nil)))))))))))))))))
      (pss_cons (ps_for PassesOwn.never rfl (piL (K := K) (pv 10)) (pg_name (i := 20) sc_law_highest_fits.nd rfl (Or.inl rfl)) (pss_one (ps_if (pt_not (pt_val (pe_cal (E := E0) C__law_same (hr.mono (by decide)) pass0 (pa_cons (pe_cal (E := E0) C_is_highest (hr.mono (by decide)) passL (pa_cons (pv 8) (pa_cons (pv 3) (pa_cons (pv 4) (pa_cons (pe_cal (E := E0) C__law_copy (hr.mono (by decide)) pass0 (pa_cons (pv 20) pa_nil)) pa_nil))))) (pa_cons (pe_cal (E := E0) C__law_right_highest (hr.mono (by decide)) pass0 (pa_cons (pv 2) (pa_cons (pv 3) (pa_cons (pv 4) (pa_cons (pv 20) pa_nil))))) pa_nil))))) (pss_one (ps_ret pe_bl)) pss_nil)))
      (pss_one (ps_ret (pe_cal (E := E0) C__law_same (hr.mono (by decide)) pass0 (pa_cons (pv 8) (pa_cons (pv 2) pa_nil)))))))))))))), ?_⟩
  have ga0 := Ga.refl eG st gs
  obtain ⟨xs, hxs, pr⟩ := id hb
  have hxl := pr.length
  -- x
  refine ⟨_, rfl, _, rfl, Nat.le_of_lt (sz 1 (by omega)), fun l1 hl1 => ?_⟩
  have ga1 := ga0.lay hl1 (o := .lst [.str "Strange"])
  refine ⟨an, l1, _, _, rfl, rfl, ga1.ge _ _ han, upd_same, Nat.le_of_lt (sz _ (by simp; omega)), fun c1 hc1 => ?_⟩
  have ga2 := ga1.lay hc1 (o := .lst (ns.map V.str ++ [.str "Strange"]))
  refine ⟨s, L, c1, _, rfl, ga2.st, .inl (SqL.of upd_same), (fun e => by rw [e] at hc1; obtain ⟨o, ho⟩ := ga1.st.there; rw [ho] at hc1; cases hc1), by simp, by simp; omega, fun j1 xv H3 hx3 kp3 st3 => ?_⟩
  obtain ⟨x, rfl⟩ := strs_of (l := ns ++ [Str.ofString "Strange"]) (by simp) hx3
  have ga3 := ga2.next kp3 st3
  -- y
  refine ⟨_, rfl, _, rfl, _, rfl, Nat.le_of_lt (sz 2 (by omega)), fun l2 hl2 => ?_⟩
  have ga4 := ga3.lay hl2 (o := .lst [.str "Other", .str x])
  refine ⟨an, l2, _, _, rfl, rfl, ga4.ge _ _ han, upd_same, Nat.le_of_lt (sz _ (by simp; omega)), fun c2 hc2 => ?_⟩
  have ga5 := ga4.lay hc2 (o := .lst (ns.map V.str ++ [.str "Other", .str x]))
  refine ⟨s, L, c2, _, rfl, ga5.st, .inl (SqL.of upd_same), (fun e => by rw [e] at hc2; obtain ⟨o, ho⟩ := ga4.st.there; rw [ho] at hc2; cases hc2), by simp, by simp; omega, fun j2 yv H6 hx6 kp6 st6 => ?_⟩
  obtain ⟨y, rfl⟩ := strs_of (l := ns ++ [Str.ofString "Other", x]) (by simp) hx6
  have ga6 := ga5.next kp6 st6
  clear ga1 ga2 ga3 ga4 ga5
  have nxl := nmx_len es x y
  -- own
  have hxa := ga6.ge _ _ hxs
  refine ⟨_, rfl, _, rfl, _, rfl, Nat.le_of_lt (sz 3 (by omega)), fun t1 ht1 => ⟨Nat.le_of_lt (sz 1 (by omega)), fun l3 hl3 => ?_⟩⟩
  have e1 := Evl.Ex.new ht1 (o := .tup [.str x, .str y, .int 0])
  have e2 := Evl.Ex.new hl3 (o := .lst [.ref t1])
  refine ⟨a, l3, _, _, rfl, rfl, e2 _ _ (e1 _ _ hxa), upd_same, Nat.le_of_lt (sz _ (by simp; omega)), fun c3 hc3 => ?_⟩
  have e3 := Evl.Ex.new hc3 (o := .lst (xs ++ [.ref t1]))
  have e03 := (e1.trans e2).trans e3
  have ga7 := ga6.ex e03
  have hbc : Bds (upd (upd (upd H6 t1 (.tup [.str x, .str y, .int 0])) l3 (.lst [.ref t1])) c3 (.lst (xs ++ [.ref t1]))) c3 (es ++ [(x, y, 0)]) := ⟨_, upd_same, paired_snocB (paired_exB ga7.ge pr) ⟨t1, rfl, e3 _ _ (e2 _ _ upd_same)⟩⟩
  generalize upd (upd (upd H6 t1 (.tup [.str x, .str y, .int 0])) l3 (.lst [.ref t1])) c3 (.lst (xs ++ [.ref t1])) = H7 at e03 ga7 hbc
  refine ⟨c3, _, rfl, hbc, by simp; omega, fun own H8 hown e8 ho8 => ?_⟩
  have ga8 := (ga7.ex e8).fix (ga7.nil hown) ho8
  have x8 : Ex G (upd G own (.lst ((nmx es x y).map V.str))) := ga8.a.gg
  have ho8' : upd G own (.lst ((nmx es x y).map V.str)) own = some (.lst ((nmx es x y).map V.str)) := upd_same
  clear ga7 ga6 hbc e03
  generalize upd G own (.lst ((nmx es x y).map V.str)) = G8 at ga8 x8 ho8'
  refine ⟨fun σ' H' => ∃ nv rv G', σ' = [some (.ref s), some (.ref an), some (.ref a), some (.str x), some (.str y), some (.ref own), some nv, some rv, none, none, none, none, none, none, none, none, none, none, none, none, none] ∧ Ga s L G H G' H' ∧ Ex G8 G' ∧ Two es (nmx es x y) G' nv rv, ?_, ?_⟩
  · refine ⟨_, rfl, _, rfl, own, a, nmx es x y, es, G8, rfl, ga8.ge, ga8.ge _ _ ho8', nms_nodup _, by omega, hb.ex x8, by omega, nmx_ends es x y, fun hrun t pn H2 ht hpn e2 h21 h22 => ?_, fun hrun t rl way H2 ht hrl e2 h21 hbw hw1 hw2 => ?_⟩
    · refine ⟨t, _, rfl, SqL.of h21, rfl, _, _, rfl, _, _, rfl, rfl, ?_⟩
      have ga2 := (ga8.ex e2).fix (ga8.nil hpn) h22
      exact ⟨_, _, _, rfl, ga2, Evl.Ex.new (Evl.fresh_back ga8.ge hpn), .inl ⟨hrun, pn, rfl, rfl, upd_same⟩⟩
    · refine ⟨t, _, rfl, SqL.of h21, rfl, _, _, rfl, _, _, rfl, rfl, ?_⟩
      obtain ⟨us, hus, pw⟩ := hbw
      have ga2 := (ga8.ex e2).fix (ga8.nil hrl) hus
      have x2 : Ex G8 (upd G8 rl (.lst us)) := Evl.Ex.new (Evl.fresh_back ga8.ge hrl)
      exact ⟨_, _, _, rfl, ga2, x2, .inr ⟨hrun, rl, way, rfl, rfl, ⟨us, upd_same, paired_exB x2 pw⟩, by omega⟩⟩
  rintro σ' H2 ⟨nv, rv, G2, rfl, ga2, x2, two⟩
  have hxs2 := (x8.trans x2) _ _ hxs
  refine ⟨_, rfl, a, _, rfl, .inl (SqL.of (ga2.ge _ _ hxs2)), fun pa hpa => ?_⟩
  have ga3 := ga2.new hpa (o := .lst xs)
  have x3' := ga2.fr hpa (o := .lst xs)
  have hpa3 : upd G2 pa (.lst xs) pa = some (.lst xs) := upd_same
  have two3 := two.ex x3'
  have ho3 := x3' _ _ (x2 _ _ ho8')
  have x3 := (x8.trans x2).trans x3'
  clear two ga2 hxs2 x3'
  generalize upd G2 pa (.lst xs) = G3 at ga3 hpa3 two3 ho3 x3
  generalize upd H2 pa (.lst xs) = H3 at ga3
  have hb3 : Bds G3 a es := hb.ex x3
  have hp3 : Bds G3 pa es := ⟨xs, hpa3, paired_exB x3 pr⟩
  -- the answer
  refine ⟨fun σ' H' => ∃ t dA, σ' = [some (.ref s), some (.ref an), some (.ref a), some (.str x), some (.str y), some (.ref own), some nv, some rv, some (.ref pa), some (.ref t), none, none, none, none, none, none, none, none, none, none, none] ∧ Ga s L G H G3 H' ∧ Dt H' (.ref t) dA ∧ highJ es x y dA = true ∧ SpH dA ∧ An es x y H' t, ?_, ?_⟩
  · refine ⟨_, rfl, _, rfl, _, rfl, .ref pa, .list (es.map encB), .str x, .str x, .str y, .str y, rfl, Bds.dt (hp3.ex ga3.ge), .str _, .str _, (fun ds hd => by injection hd with hd; rw [← hd, List.length_map]; omega), (fun h => by rw [bds_is] at h; cases h), (fun _ h => by cases h), (fun _ _ h => by cases h), fun es' zx zy he hzx hzy => ?_⟩
    have he' : es = es' := encs_inj (by injection he)
    subst he'
    injection hzx with hzx
    injection hzy with hzy
    subst hzx; subst hzy
    refine ⟨fun h => by omega, fun _ => ⟨fun hrun t r us way H5 rok ht hr e5 h51 h52 pw => ?_, fun hrun hy t p l ls H5 hs1 hs2 hs3 ht hp hl e5 h51 h52 h53 => ?_, fun hrun D hD t r p us way H5 hw1 hwl ha hrun2 ht hr hp e5 h51 h52 pw h53 => ?_⟩⟩
    · have hwy := nodup_lenG rok.nod rok.mem
      exact ⟨t, _, rfl, ga3.ex e5, .tup h51 (.cons (.str _) (.cons (.tup h52 (paired_dta (enc := encB) (fun v b => tb_dt) pw)) .nil)), high_ring rok, ⟨fit_pair (fit_way (by omega) 1), lc_2⟩, .inl hrun⟩
    · have hll : ls.length ≤ (nmx es x y).length := nodup_lenG hs2 fun z hz => reach_sub hrun ((hs3 z).mp hz)
      refine ⟨t, _, rfl, ga3.ex e5, .tup h51 (.cons (.str _) (.cons (.dct h52 (nkd_dkv _ _)) (.cons (.lst h53 (strs_dta ls)) .nil))), high_grows hrun hy hs1 hs2 hs3, ⟨fit_tup (by show 3 ≤ 100000; decide) fun e he => ?_, lc_3l (by omega)⟩, .inr ⟨hrun, .inl ⟨hy, _, _, h51⟩⟩⟩
      rcases List.mem_cons.mp he with rfl | he
      · exact fit_str _ _
      rcases List.mem_cons.mp he with rfl | he
      · exact fit_dct (by rw [nkd_len]; omega) (nkd_nodup _ (nms_nodup _))
      rw [List.mem_singleton.mp he]
      exact fit_strs (by omega)
    · refine ⟨t, _, rfl, ga3.ex e5, .tup h51 (.cons (.str _) (.cons (.int _) (.cons (.tup h52 (paired_dta (enc := encB) (fun v b => tb_dt) pw)) (.cons (.dct h53 (nkd_dkv _ _)) .nil)))), high_most hrun hw1 ha hrun2, ⟨fit_tup (by show 4 ≤ 100000; decide) fun e he => ?_, lc_4⟩, .inr ⟨hrun, .inr ⟨D, hD, _, _, h51⟩⟩⟩
      rcases List.mem_cons.mp he with rfl | he
      · exact fit_str _ _
      rcases List.mem_cons.mp he with rfl | he
      · exact fit_int _ _
      rcases List.mem_cons.mp he with rfl | he
      · exact fit_way (by omega) 1
      rw [List.mem_singleton.mp he]
      exact fit_dct (by rw [nkd_len]; omega) (nkd_nodup _ (nms_nodup _))
  rintro σ' H4 ⟨t, dA, rfl, ga4, hdA, hhA, ⟨hfA, hlA⟩, hAn⟩
  -- the check of the answer
  refine ⟨fun σ' H' => σ' = [some (.ref s), some (.ref an), some (.ref a), some (.str x), some (.str y), some (.ref own), some nv, some rv, some (.ref pa), some (.ref t), none, none, none, none, none, none, none, none, none, none, none] ∧ Ga s L G H G3 H' ∧ An es x y H' t, ?_, ?_⟩
  · refine ⟨_, rfl, _, rfl, _, rfl, _, rfl, a, es, x, y, .ref t, dA, rfl, hb3.ex ga4.ge, by omega, hdA, hlA, fun H5 e5 => ⟨_, rfl, ?_⟩⟩
    rw [hhA]
    refine ite2 (fun h => absurd h (by decide)) (fun _ => ?_)
    refine ⟨_, rfl, _, rfl, _, rfl, _, rfl, .ref t, dA, H5, rfl, Evl.Ex.refl _, ex_dt e5 _ _ hdA, hfA, fun v2 G6 H6 st6 hd6 => ?_⟩
    have e6 := st6.ex
    refine ⟨.ref pa, .list (es.map encB), .str x, .str x, .str y, .str y, v2, dA, rfl, Bds.dt (hp3.ex (ga4.ge.trans (e5.trans e6))), .str _, .str _, ex_dt st6.gh _ _ hd6, (fun ds hd => by injection hd with hd; rw [← hd, List.length_map]; omega), (fun d0 d1 ds hd => (hlA d0 d1 ds hd).2), (fun h => by rw [bds_is] at h; cases h), (fun _ h => by cases h), (fun _ _ h => by cases h), fun es' zx zy he hzx hzy H7 e7 => ?_⟩
    have he' : es = es' := encs_inj (by injection he)
    subst he'
    injection hzx with hzx
    injection hzy with hzy
    subst hzx; subst hzy
    refine ⟨_, _, rfl, rfl, _, rfl, ?_⟩
    rw [hhA]
    refine ite2 (fun h => absurd h (by decide)) (fun _ => ⟨rfl, ga4.ex (e5.trans (e6.trans e7)), hAn.ex (e5.trans (e6.trans e7))⟩)
  rintro σ' H5 ⟨rfl, ga5, hAn⟩
  clear hdA hhA hfA hlA ga4
  refine ⟨fun σ' H' => ∃ tl xs G' nm ov sv mv wv tv bv uv rrv nmv, σ' = [some (.ref s), some nm, some (.ref a), some (.str x), some (.str y), some (.ref own), some nv, some rv, some (.ref pa), some (.ref t), some (.ref tl), ov, sv, mv, wv, tv, bv, uv, rrv, nmv, none] ∧ Ga s L G H G' H' ∧ Ex G3 G' ∧ G' tl = some (.lst xs) ∧ Vs SpH G' xs ∧ xs.length ≤ 200, ?_, ?_⟩
  · refine ⟨_, rfl, rfl, _, rfl, ?_⟩
    rcases two3 with ⟨hn, pn, rfl, rfl, hpn⟩ | ⟨hn, rl, wl, rfl, rfl, hwl, hwll⟩
    · refine ite2 (fun h => absurd h (by decide)) (fun _ => ?_)
      have hN := numbers_meet (nmx_ends es x y) (Nat.le_refl _) hn
      obtain ⟨j0, hj1, hj2, hj3, wi, cm, rr, bt⟩ := ways hN (nmx_ends es x y) (nmx_x es x y)
      have hrch : rch es (nmx es x y) x = it es j0 (w0 x) := by unfold rch; rw [rch_eq hj1 hj2 hj3]
      have hml : ((nmx es x y).map V.str).length = (nmx es x y).length := List.length_map _
      have hdt := nkd_dkv (nmx es x y) (run es (nmx es x y).length (z0 (nmx es x y)) none).1
      have hdn := nkd_nodup (run es (nmx es x y).length (z0 (nmx es x y)) none).1 (nms_nodup (es ++ [(x, y, 0)]))
      have hdl := nkd_len (nmx es x y) (run es (nmx es x y).length (z0 (nmx es x y)) none).1
      have fD : ∀ n, Fit (n + 1) (.dict (nkd (nmx es x y) (run es (nmx es x y).length (z0 (nmx es x y)) none).1)) := fun n => fit_dct (by omega) hdn
      refine ⟨fun σ' H' => ∃ ps pm sk mk G', σ' = [some (.ref s), some (.ref an), some (.ref a), some (.str x), some (.str y), some (.ref own), some (.ref pn), some .non, some (.ref pa), some (.ref t), none, none, some (.ref ps), some (.ref pm), none, none, none, none, none, none, none] ∧ Ga s L G H G' H' ∧ Ex G3 G' ∧ G' ps = some (.dK sk) ∧ SK sk (nmx es x y) (it es j0 (w0 x)) ∧ G' pm = some (.dK mk) ∧ MK G' mk (nmx es x y) (it es j0 (w0 x)) ∧ An es x y H' t, ?_, ?_⟩
      · refine ⟨_, rfl, _, rfl, _, rfl, own, _, rfl, .inl (SqL.of (ga5.ge _ _ ho3)), a, x, nmx es x y, es, j0, _, G3, rfl, ga5.ge, hb3, by omega, nmx_ends es x y, nmx_x es x y, by omega, by omega, by omega, hj2, hj3, fun t2 ps pm sk mk H6 ht2 hps hpm e6 h61 h62 hsk h63 hmk => ?_⟩
        refine ⟨t2, _, rfl, SqL.of h61, rfl, _, _, rfl, _, _, rfl, rfl, ?_⟩
        have ga6 := (ga5.ex e6).fix (ga5.nil hps) h62
        have ga7 := ga6.fix (ga5.nil hpm) h63
        have y1 : Ex G3 (upd G3 ps (.dK sk)) := Evl.Ex.new (Evl.fresh_back ga5.ge hps)
        have y2 : Ex (upd G3 ps (.dK sk)) (upd (upd G3 ps (.dK sk)) pm (.dK mk)) := fun b o hb => by
          by_cases hb2 : b = pm
          · rw [hb2, upd_same]
            rw [hb2] at hb
            by_cases hsp : pm = ps
            · rw [hsp, upd_same] at hb
              rw [hsp, h62] at h63
              rw [← h63]; exact hb
            · rw [upd_ne hsp, Evl.fresh_back ga5.ge hpm] at hb; cases hb
          · rw [upd_ne hb2]; exact hb
        exact ⟨ps, pm, sk, mk, _, rfl, ga7, y1.trans y2, y2 _ _ upd_same, hsk, upd_same, hmk.tk fun v e t => tb_ex (y1.trans y2) t, hAn.ex e6⟩
      rintro σ' H6 ⟨ps, pm, sk, mk, G6, rfl, ga6, x6, hps, hsk, hpm, hmk, hAn⟩
      clear ga5
      have hpn6 := x6 _ _ hpn
      have ho6 := x6 _ _ ho3
      have g := DGet.k (k := Sum.inr y) (ga6.ge _ _ hps)
      rw [hsk.get] at g
      refine ⟨_, rfl, _, rfl, ps, _, rfl, g, _, rfl, ?_⟩
      cases hy : (it es j0 (w0 x)).d y with
      | none =>
        refine ite2 (fun h => absurd h (by simp)) (fun _ => ?_)
        obtain ⟨r1, r2, hans⟩ : ∃ r1 r2, H6 t = some (.tup [.str "grows", r1, r2]) := by
          rcases hAn with h | ⟨_, ⟨_, r1, r2, h⟩ | ⟨D, h1, _⟩⟩
          · exact absurd hn h
          · exact ⟨r1, r2, h⟩
          · rw [hrch, hy] at h1; cases h1
        refine ⟨_, rfl, t, _, 0, _, rfl, rfl, SqT.of hans, rfl, _, _, _, rfl, .str _, _, rfl, ?_⟩
        refine ite2 (fun h => absurd h (by decide +kernel)) (fun _ => ?_)
        clear g hans hAn
        obtain ⟨ks, k1, k2, k3⟩ := hsk.keys
        have hskl := hsk.len
        have hkl : ks.length = sk.length := by have := congrArg List.length k1; rw [List.length_map, List.length_map] at this; exact this.symm
        refine ⟨_, rfl, ps, sk, ks, rfl, ga6.ge _ _ hps, k1, fun nm hnm => ?_⟩
        have hlsl : (ks.mergeSort leS).length ≤ 1000 := by rw [List.length_mergeSort]; omega
        generalize ks.mergeSort leS = ls at hlsl ⊢
        have ga7 := ga6.new hnm (o := .lst (ls.map V.str))
        have y7 := ga6.fr hnm (o := .lst (ls.map V.str))
        have hnm7 : upd G6 nm (.lst (ls.map V.str)) nm = some (.lst (ls.map V.str)) := upd_same
        generalize upd G6 nm (.lst (ls.map V.str)) = G7 at ga7 y7 hnm7
        generalize upd H6 nm (.lst (ls.map V.str)) = H7 at ga7
        have hpn7 := y7 _ _ hpn6
        have ho7 := y7 _ _ ho6
        have x7 := x6.trans y7
        have hb7 := hb3.ex x7
        have f3 : ∀ (z : Str) (d2 d3 : PyData), Fit 3 d2 → Fit 3 d3 → Fit 4 (.tuple [.str z, d2, d3]) := fun z d2 d3 h2 h3 => fit_tup (by show 3 ≤ 100000; decide) fun e he => by
          rcases List.mem_cons.mp he with rfl | he
          · exact fit_str _ _
          rcases List.mem_cons.mp he with rfl | he
          · exact h2
          rw [List.mem_singleton.mp he]; exact h3
        have cutS : ∀ lo hi, ∃ l' : List Str, cutV (ls.map V.str) lo hi = l'.map V.str ∧ l'.length ≤ 1000 := fun lo hi => by
          obtain ⟨l', hl'⟩ := strs_all (xs := cutV (ls.map V.str) lo hi) fun v hv => by
            obtain ⟨z, _, e⟩ := List.mem_map.mp (cutV_mem hv)
            exact ⟨z, e.symm⟩
          refine ⟨l', hl', ?_⟩
          have h1 := cutV_length (ls.map V.str) lo hi
          rw [hl', List.length_map, List.length_map] at h1
          omega
        refine ⟨fun σ' H' => ∃ tl xs G', σ' = [some (.ref s), some (.ref nm), some (.ref a), some (.str x), some (.str y), some (.ref own), some (.ref pn), some .non, some (.ref pa), some (.ref t), some (.ref tl), none, some (.ref ps), some (.ref pm), none, none, none, none, none, none, none] ∧ Ga s L G H G' H' ∧ Ex G7 G' ∧ G' tl = some (.lst xs) ∧ Vs SpH G' xs ∧ xs.length ≤ 20, ?_, ?_⟩
        · refine ⟨_, rfl, _, rfl, s, L, pn, nmx es x y, _, G7, rfl, ga7.st, ga7.ge, ga7.gs, hpn7, nms_nodup _, by omega, fun pl ys ds G8 H8 st8 hpl sp8 str8 hyl => ?_⟩
          have ga8 := ga7.stp st8 str8
          refine ⟨pl, rfl, ⟨ys, SqL.of (ga8.ge _ _ hpl)⟩, fun D0 hD => ?_⟩
          refine lcV (K := K) (P := SpH) walk_list ga8.ge (fun H' e => SqL.of (e _ _ hpl)) (by omega) (fun i => [some (.ref s), some (.ref nm), some (.ref a), some (.str x), some (.str y), some (.ref own), some (.ref pn), some .non, some (.ref pa), some (.ref t), none, some (ys.getD i .non), some (.ref ps), some (.ref pm), none, none, none, none, none, none, none])
            (fun i u G' H' H'' hi a' yy Q q => turn_name (σ0 := [some (.ref s), some (.ref nm), some (.ref a), some (.str x), some (.str y), some (.ref own), some (.ref pn), some .non, some (.ref pa), some (.ref t), none, none, some (.ref ps), some (.ref pm), none, none, none, none, none, none, none]) (j := 11) a' yy (by rw [List.getD_eq_getElem?_getD]; simp [hi]) q) (fun _ _ => rfl) (fun i G' H' hi a' Q q => ?_) hD (fun zs G9 H9 a9 gD hl' hvs hzl => ?_)
          · obtain ⟨d, hd, pd⟩ := sp8.vs (ys.getD i .non) (by rw [List.getD_eq_getElem?_getD, List.getElem?_eq_getElem hi]; exact List.getElem_mem hi)
            have xe := st8.gg.trans a'.gg
            refine ⟨_, rfl, _, rfl, nm, _, rfl, .inl (SqL.of (a'.gh _ _ (xe _ _ hnm7))), fun c hc => ⟨Nat.le_of_lt (sz 3 (by omega)), fun t ht => ?_⟩⟩
            have b1 := Stp.new (M := NoM) a'.gh hc (o := .lst (ls.map V.str))
            have b2 := Stp.new (M := NoM) b1.gh ht (o := .tup [.str "grows", ys.getD i .non, .ref c])
            refine q _ _ _ _ (b1.trans b2) (.tup upd_same (.cons (.str _) (.cons (ex_dt (a'.gg.trans (b1.trans b2).gg) _ _ hd) (.cons (.lst (b2.gg _ _ upd_same) (strs_dta ls)) .nil)))) ⟨f3 _ _ _ (fit_spn pd 2) (fit_strs (by omega)), lc_3l (by omega)⟩
          · have ga9 := ga8.nom a9
            have ga10 := ga9.fix (ga8.nil hD) hl'
            have y10 : Ex G9 (upd G9 D0 (.lst zs)) := Evl.Ex.new gD
            exact ⟨D0, zs, _, rfl, ga10, (st8.gg.trans a9.gg).trans y10, upd_same, hvs.ex y10, by omega⟩
        rintro σ' H8 ⟨tl, xs1, G8, rfl, ga8, x8, htl, vt, hx1⟩
        -- wide
        refine ⟨fun σ' H' => ∃ wd G', ∃ lw : List Str, σ' = [some (.ref s), some (.ref nm), some (.ref a), some (.str x), some (.str y), some (.ref own), some (.ref pn), some .non, some (.ref pa), some (.ref t), some (.ref tl), none, some (.ref ps), some (.ref pm), none, none, none, some (.ref wd), none, none, none] ∧ Ga s L G H G' H' ∧ Ex G8 G' ∧ G' wd = some (.lst (lw.map V.str)) ∧ lw.length ≤ 3000, ?_, ?_⟩
        · have owns : own ≠ s := fun e => by have h := x8 _ _ ho7; rw [e, ga8.gs] at h; cases h
          have ho8 := x8 _ _ ho7
          refine ⟨_, rfl, _, rfl, _, rfl, _, rfl, s, L, own, _, rfl, ga8.st, .inl (SqL.of (ga8.ge _ _ ho8)), owns, (by rw [List.length_map]; exact List.length_pos_of_mem (nmx_x es x y)), by rw [List.length_map]; omega, fun j xv H9 hx9 kp9 st9 => ?_⟩
          obtain ⟨z, hz, hzn⟩ : ∃ z, xv = V.str z ∧ z ∈ nmx es x y := by
            rw [List.getElem?_map] at hx9
            obtain ⟨z, hz, e⟩ := Option.map_eq_some_iff.mp hx9
            exact ⟨z, e.symm, List.mem_of_getElem? hz⟩
          subst hz
          have ga9 := ga8.next kp9 st9
          obtain ⟨j1, hi1, hi2, hi3, _⟩ := ways hN (nmx_ends es x y) hzn
          refine ⟨_, rfl, own, _, rfl, .inl (SqL.of (ga9.ge _ _ ho8)), a, z, nmx es x y, es, j1, _, G8, rfl, ga9.ge, hb7.ex x8, by omega, nmx_ends es x y, hzn, by omega, by omega, by omega, hi2, hi3, fun t2 ps2 pm2 sk2 mk2 H10 ht2 hps2 hpm2 e10 h101 h102 hsk2 h103 hmk2 => ?_⟩
          refine ⟨t2, _, 0, _, rfl, rfl, SqL.of h101, rfl, ps2, _, rfl, h102, fun q2 hq2 => ?_⟩
          obtain ⟨l2, m1, m2, m3⟩ := hsk2.keys
          have hk2 : (sk2.map fun kv => kV kv.1) = l2.map V.str := by
            have : (sk2.map fun kv => kV kv.1) = (sk2.map (·.1)).map kV := by rw [List.map_map]; rfl
            rw [this, m1, List.map_map]; rfl
          rw [hk2]
          have hl2 : l2.length ≤ (nmx es x y).length := nodup_len m2 m3
          have ga10 := ga9.ex e10
          have ga11 := ga10.lay hq2 (o := .lst (l2.map V.str))
          refine ⟨nm, q2, ls, l2, rfl, ga11.ge _ _ (x8 _ _ hnm7), upd_same, by omega, by omega, fun wd lw H12 hwd e12 hw12 hlw => ?_⟩
          have ga12 := (ga11.ex e12).fix (ga11.nil hwd) hw12
          exact ⟨wd, _, lw, rfl, ga12, Evl.Ex.new (Evl.fresh_back ga11.ge hwd), upd_same, by omega⟩
        rintro σ' H9 ⟨wd, G9, lw, rfl, ga9, x9, hwd, hlw⟩
        -- rows
        refine ⟨fun σ' H' => ∃ rw_ rs G', σ' = [some (.ref s), some (.ref nm), some (.ref a), some (.str x), some (.str y), some (.ref own), some (.ref pn), some .non, some (.ref pa), some (.ref t), some (.ref tl), none, some (.ref ps), some (.ref pm), none, none, none, some (.ref wd), some (.ref rw_), none, none] ∧ Ga s L G H G' H' ∧ Ex G9 G' ∧ G' rw_ = some (.lst rs) ∧ Vs RowOk G' rs ∧ rs.length ≤ 20, ?_, ?_⟩
        · have hnm9 := x9 _ _ (x8 _ _ hnm7)
          have ho9 := x9 _ _ (x8 _ _ ho7)
          have g1 : ∀ j, j < (nmx es x y).length → ((nmx es x y).map V.str)[j]? = some (.str ((nmx es x y).getD j Str.empty)) := fun j hj => by
            rw [List.getElem?_map, List.getD_eq_getElem?_getD, List.getElem?_eq_getElem hj]; rfl
          have rl : ∀ (G' : Hp) (r : Addr) (l : List Str), G' r = some (.lst (l.map V.str)) → l.length ≤ 20000 → ∃ d, Dt G' (.ref r) d ∧ RowOk d := fun G' r l h hl => ⟨_, .lst h (strs_dta l), .inl ⟨l, rfl, hl⟩⟩
          refine ⟨_, rfl, _, rfl, _, rfl, _, rfl, own, rfl, ⟨_, SqL.of (ga9.ge _ _ ho9)⟩, fun D0 hD => ?_⟩
          refine lcF (K := K) walk_list (fun H' e => SqL.of (e _ _ (ga9.ge _ _ ho9))) (by omega) (fun j => !decide ((nmx es x y).getD j Str.empty = y)) (fun j => .str ((nmx es x y).getD j Str.empty)) (fun j => [some (.ref s), some (.ref nm), some (.ref a), some (.str x), some (.str y), some (.ref own), some (.ref pn), some .non, some (.ref pa), some (.ref t), some (.ref tl), none, some (.ref ps), some (.ref pm), none, none, none, some (.ref wd), none, some (.str ((nmx es x y).getD j Str.empty)), none])
            (fun j u G' H' H'' hj a' yy Q q => turn_name (σ0 := [some (.ref s), some (.ref nm), some (.ref a), some (.str x), some (.str y), some (.ref own), some (.ref pn), some .non, some (.ref pa), some (.ref t), some (.ref tl), none, some (.ref ps), some (.ref pm), none, none, none, some (.ref wd), none, none, none]) (j := 19) a' yy (g1 j (by rwa [hml] at hj)) q) (fun _ _ => rfl) (fun j H' hj e Q q => ?_) (fun j H' hj hf' e Q q => ⟨_, rfl, q H' (Evl.Ex.refl H')⟩) hD (fun H10 e10 hl' hlo => ?_)
          · refine ⟨_, rfl, _, rfl, rfl, _, rfl, ?_⟩
            have e2 : (!decide (V.str ((nmx es x y).getD j Str.empty) = V.str y)) = !decide ((nmx es x y).getD j Str.empty = y) := by
              congr 1
              rw [Bool.eq_iff_iff, decide_eq_true_iff, decide_eq_true_iff]
              exact ⟨fun h => by injection h, fun h => by rw [h]⟩
            rw [e2]
            exact q H' (Evl.Ex.refl H')
          · rw [hml, filt_map (nmx es x y) Str.empty (fun z => !decide (z = y)) V.str] at hlo
            have hfl : ((nmx es x y).filter fun z => !decide (z = y)).length ≤ (nmx es x y).length := List.length_filter_le _ _
            generalize ((nmx es x y).filter fun z => !decide (z = y)) = lf at hlo hfl
            have ga10 := (ga9.ex e10).fix (ga9.nil hD) hlo
            have y10 : Ex G9 (upd G9 D0 (.lst (lf.map V.str))) := Evl.Ex.new (Evl.fresh_back ga9.ge hD)
            have i4 := rl _ D0 lf (show upd G9 D0 (.lst (lf.map V.str)) D0 = some (.lst (lf.map V.str)) from upd_same) (by omega)
            generalize upd G9 D0 (.lst (lf.map V.str)) = G10 at ga10 y10 i4
            have hnm10 := y10 _ _ hnm9
            refine ⟨_, rfl, 1, rfl, -1, rfl, nm, _, rfl, SqL.of (ga10.ge _ _ hnm10), rfl, fun r5 hr5 => ?_⟩
            rw [← List.map_reverse]
            have gb5 := ga10.new hr5 (o := .lst (ls.reverse.map V.str))
            have z5 := ga10.fr hr5 (o := .lst (ls.reverse.map V.str))
            have i5 := rl _ r5 ls.reverse (show upd G10 r5 (.lst (ls.reverse.map V.str)) r5 = some (.lst (ls.reverse.map V.str)) from upd_same) (by rw [List.length_reverse]; omega)
            generalize upd G10 r5 (.lst (ls.reverse.map V.str)) = G11 at gb5 z5 i5
            generalize upd H10 r5 (.lst (ls.reverse.map V.str)) = H11 at gb5
            refine ⟨_, rfl, 1, rfl, nm, _, rfl, SqL.of (gb5.ge _ _ (z5 _ _ hnm10)), fun r6 hr6 => ?_⟩
            obtain ⟨l6, hl6, hll6⟩ := cutS (some 1) none
            rw [hl6]
            have gb6 := gb5.new hr6 (o := .lst (l6.map V.str))
            have z6 := gb5.fr hr6 (o := .lst (l6.map V.str))
            have i6 := rl _ r6 l6 (show upd G11 r6 (.lst (l6.map V.str)) r6 = some (.lst (l6.map V.str)) from upd_same) (by omega)
            generalize upd G11 r6 (.lst (l6.map V.str)) = G12 at gb6 z6 i6
            generalize upd H11 r6 (.lst (l6.map V.str)) = H12 at gb6
            have z56 := z5.trans z6
            refine ⟨_, rfl, 1, rfl, -1, rfl, nm, _, rfl, SqL.of (gb6.ge _ _ (z56 _ _ hnm10)), fun r7 hr7 => ?_⟩
            obtain ⟨l7, hl7, hll7⟩ := cutS none (some (-1))
            rw [hl7]
            have gb7 := gb6.new hr7 (o := .lst (l7.map V.str))
            have z7 := gb6.fr hr7 (o := .lst (l7.map V.str))
            have i7 := rl _ r7 l7 (show upd G12 r7 (.lst (l7.map V.str)) r7 = some (.lst (l7.map V.str)) from upd_same) (by omega)
            generalize upd G12 r7 (.lst (l7.map V.str)) = G13 at gb7 z7 i7
            generalize upd H12 r7 (.lst (l7.map V.str)) = H13 at gb7
            refine ⟨_, rfl, Nat.le_of_lt (sz 1 (by omega)), fun r8 hr8 => ?_⟩
            have gb8 := gb7.new hr8 (o := .lst ([x].map V.str))
            have z8 := gb7.fr hr8 (o := .lst ([x].map V.str))
            have i8 := rl _ r8 [x] (show upd G13 r8 (.lst ([x].map V.str)) r8 = some (.lst ([x].map V.str)) from upd_same) (by show 1 ≤ 20000; decide)
            refine ⟨Nat.zero_le _, fun r9 hr9 => ?_⟩
            have gb9 := gb8.new hr9 (o := .lst (([] : List Str).map V.str))
            have z9 := gb8.fr hr9 (o := .lst (([] : List Str).map V.str))
            have i9 := rl _ r9 [] (show upd (upd G13 r8 (.lst ([x].map V.str))) r9 (.lst (([] : List Str).map V.str)) r9 = some (.lst (([] : List Str).map V.str)) from upd_same) (Nat.zero_le _)
            have z79 := (z7.trans z8).trans z9
            refine ⟨_, rfl, nm, _, rfl, .inl ⟨SqL.of (gb9.ge _ _ ((z56.trans z79) _ _ hnm10)), fun r10 hr10 => ?_⟩⟩
            have gb10 := gb9.new hr10 (o := .tup (ls.map V.str))
            have z10 := gb9.fr hr10 (o := .tup (ls.map V.str))
            have i10 : ∃ d, Dt (upd (upd (upd G13 r8 (.lst ([x].map V.str))) r9 (.lst (([] : List Str).map V.str))) r10 (.tup (ls.map V.str))) (.ref r10) d ∧ RowOk d := ⟨_, .tup upd_same (strs_dta ls), .inr ⟨_, rfl, by rw [List.length_map]; omega, fun e he => by obtain ⟨z, _, rfl⟩ := List.mem_map.mp he; exact ⟨z, rfl⟩⟩⟩
            refine ⟨_, rfl, _, rfl, nm, nm, _, _, rfl, rfl, gb10.ge _ _ (z10 _ _ ((z56.trans z79) _ _ hnm10)), gb10.ge _ _ (z10 _ _ ((z56.trans z79) _ _ hnm10)), Nat.le_of_lt (sz _ (by rw [List.length_map]; omega)), fun r11 hr11 => ?_⟩
            rw [← List.map_append]
            have gb11 := gb10.new hr11 (o := .lst ((ls ++ ls).map V.str))
            have z11 := gb10.fr hr11 (o := .lst ((ls ++ ls).map V.str))
            have i11 := rl _ r11 (ls ++ ls) (show upd (upd (upd (upd G13 r8 (.lst ([x].map V.str))) r9 (.lst (([] : List Str).map V.str))) r10 (.tup (ls.map V.str))) r11 (.lst ((ls ++ ls).map V.str)) r11 = some (.lst ((ls ++ ls).map V.str)) from upd_same) (by rw [List.length_append]; omega)
            refine ⟨Nat.le_of_lt (sz 11 (by omega)), fun rw_ hrw => ?_⟩
            have gb12 := gb11.new hrw (o := .lst [.ref nm, .ref wd, .ref own, .ref D0, .ref r5, .ref r6, .ref r7, .ref r8, .ref r9, .ref r10, .ref r11])
            have z12 := gb11.fr hrw (o := .lst [.ref nm, .ref wd, .ref own, .ref D0, .ref r5, .ref r6, .ref r7, .ref r8, .ref r9, .ref r10, .ref r11])
            have up : ∀ {G1 G2 : Hp} {v : V}, Ex G1 G2 → (∃ d, Dt G1 v d ∧ RowOk d) → ∃ d, Dt G2 v d ∧ RowOk d := fun e ⟨d, a, b⟩ => ⟨d, ex_dt e _ _ a, b⟩
            have c12 := z12
            have c11 := z11.trans c12
            have c10 := z10.trans c11
            have c9 := z9.trans c10
            have c8 := z8.trans c9
            have c7 := z7.trans c8
            have c6 := z6.trans c7
            have c5 := z5.trans c6
            have c4 := y10.trans c5
            refine ⟨rw_, _, _, rfl, gb12, c4, upd_same, ?_, (by show 11 ≤ 20; decide)⟩
            intro v hv
            simp only [List.mem_cons, List.not_mem_nil, or_false] at hv
            rcases hv with rfl | rfl | rfl | rfl | rfl | rfl | rfl | rfl | rfl | rfl | rfl
            · exact up c4 (rl _ nm ls hnm9 (by omega))
            · exact up c4 (rl _ wd lw hwd (by omega))
            · exact up c4 (rl _ own _ ho9 (by omega))
            · exact up c5 i4
            · exact up c6 i5
            · exact up c7 i6
            · exact up c8 i7
            · exact up c9 i8
            · exact up c10 i9
            · exact up c11 i10
            · exact up c12 i11
        rintro σ' H10 ⟨rw_, rs, G10, rfl, ga10, x10, hrw, vr, hrl⟩
        have x810 := x9.trans x10
        have hpn10 := x810 _ _ (x8 _ _ hpn7)
        refine ⟨fun σ' H' => ∃ tl xs G', σ' = [some (.ref s), some (.ref nm), some (.ref a), some (.str x), some (.str y), some (.ref own), some (.ref pn), some .non, some (.ref pa), some (.ref t), some (.ref tl), none, some (.ref ps), some (.ref pm), none, none, none, some (.ref wd), some (.ref rw_), none, none] ∧ Ga s L G H G' H' ∧ Ex G10 G' ∧ G' tl = some (.lst xs) ∧ Vs SpH G' xs ∧ xs.length ≤ 40, ?_, ?_⟩
        · refine ⟨_, rfl, _, rfl, rw_, rfl, ⟨rs, SqL.of (ga10.ge _ _ hrw)⟩, fun D0 hD => ?_⟩
          refine lcV (K := K) (P := SpH) walk_list ga10.ge (fun H' e => SqL.of (e _ _ hrw)) (by omega) (fun i => [some (.ref s), some (.ref nm), some (.ref a), some (.str x), some (.str y), some (.ref own), some (.ref pn), some .non, some (.ref pa), some (.ref t), some (.ref tl), some (rs.getD i .non), some (.ref ps), some (.ref pm), none, none, none, some (.ref wd), some (.ref rw_), none, none])
            (fun i u G' H' H'' hi a' yy Q q => turn_name (σ0 := [some (.ref s), some (.ref nm), some (.ref a), some (.str x), some (.str y), some (.ref own), some (.ref pn), some .non, some (.ref pa), some (.ref t), some (.ref tl), none, some (.ref ps), some (.ref pm), none, none, none, some (.ref wd), some (.ref rw_), none, none]) (j := 11) a' yy (by rw [List.getD_eq_getElem?_getD]; simp [hi]) q) (fun _ _ => rfl) (fun i G' H' hi a' Q q => ?_) hD (fun zs G11 H11 a11 gD hl' hvs hzl => ?_)
          · obtain ⟨d, hd, pd⟩ := vr (rs.getD i .non) (by rw [List.getD_eq_getElem?_getD, List.getElem?_eq_getElem hi]; exact List.getElem_mem hi)
            refine ⟨_, rfl, pn, _, rfl, a'.gh _ _ (a'.gg _ _ hpn10), fun c hc => ⟨_, rfl, Nat.le_of_lt (sz 3 (by omega)), fun t ht => ?_⟩⟩
            have b1 := Stp.new (M := NoM) a'.gh hc (o := .dK (nkv (nmx es x y) (run es (nmx es x y).length (z0 (nmx es x y)) none).1))
            have b2 := Stp.new (M := NoM) b1.gh ht (o := .tup [.str "grows", .ref c, rs.getD i .non])
            refine q _ _ _ _ (b1.trans b2) (.tup upd_same (.cons (.str _) (.cons (.dct (b2.gg _ _ upd_same) hdt) (.cons (ex_dt (a'.gg.trans (b1.trans b2).gg) _ _ hd) .nil)))) ⟨f3 _ _ _ (fD 2) ?_, ?_⟩
            · rcases pd with ⟨l, rfl, hl⟩ | ⟨ds, rfl, hl, hs⟩
              · exact fit_strs (by omega)
              · exact fit_tup (by omega) fun e he => by obtain ⟨z, rfl⟩ := hs e he; exact fit_str _ _
            · rcases pd with ⟨l, rfl, hl⟩ | ⟨ds, rfl, hl, hs⟩
              · exact lc_3l (by omega)
              · exact lc_3t
          · have ga11 := ga10.nom a11
            refine ⟨tl, D0, _, _, rfl, rfl, ga11.ge _ _ ((x810.trans a11.gg) _ _ htl), hl', Nat.le_of_lt (sz _ (by omega)), fun p2 hp2 => ?_⟩
            have gc := ga11.new hp2 (o := .lst (xs1 ++ zs))
            have y4 := ga11.fr hp2 (o := .lst (xs1 ++ zs))
            exact ⟨p2, _, _, rfl, gc, a11.gg.trans y4, upd_same, (((vt.ex x810).ex a11.gg).app hvs).ex y4, by rw [List.length_append]; omega⟩
        clear htl vt hx1
        rintro σ' H11 ⟨tl, xs1, G11, rfl, ga11, x11, htl, vt, hx1⟩
        have hpn11 := x11 _ _ hpn10
        refine ⟨_, rfl, Nat.zero_le _, fun r1 hr1 => ?_⟩
        have gb1 := ga11.new hr1 (o := .tup [])
        have z1 := ga11.fr hr1 (o := .tup [])
        refine ⟨_, rfl, pn, _, rfl, gb1.ge _ _ (z1 _ _ hpn11), fun c1 hc1 => ?_⟩
        have gb2 := gb1.new hc1 (o := .dK (nkv (nmx es x y) (run es (nmx es x y).length (z0 (nmx es x y)) none).1))
        have z2 := gb1.fr hc1 (o := .dK (nkv (nmx es x y) (run es (nmx es x y).length (z0 (nmx es x y)) none).1))
        refine ⟨Nat.le_of_lt (sz 4 (by omega)), fun t1 ht1 => ?_⟩
        have gb3 := gb2.new ht1 (o := .tup [.str "at most", .int 0, .ref r1, .ref c1])
        have z3 := gb2.fr ht1 (o := .tup [.str "at most", .int 0, .ref r1, .ref c1])
        have D1 : Dt (upd (upd (upd G11 r1 (.tup [])) c1 (.dK (nkv (nmx es x y) (run es (nmx es x y).length (z0 (nmx es x y)) none).1))) t1 (.tup [.str "at most", .int 0, .ref r1, .ref c1])) (.ref t1) (.tuple [.str (Str.ofString "at most"), .int 0, .tuple [], .dict (nkd (nmx es x y) (run es (nmx es x y).length (z0 (nmx es x y)) none).1)]) := .tup upd_same (.cons (.str _) (.cons (.int _) (.cons (.tup (z3 _ _ (z2 _ _ upd_same)) .nil) (.cons (.dct (z3 _ _ upd_same) hdt) .nil))))
        have z13 := (z1.trans z2).trans z3
        clear z1 z2 z3 gb1 gb2
        generalize upd (upd (upd G11 r1 (.tup [])) c1 (.dK (nkv (nmx es x y) (run es (nmx es x y).length (z0 (nmx es x y)) none).1))) t1 (.tup [.str "at most", .int 0, .ref r1, .ref c1]) = G12 at gb3 D1 z13
        generalize upd (upd (upd H11 r1 (.tup [])) c1 (.dK (nkv (nmx es x y) (run es (nmx es x y).length (z0 (nmx es x y)) none).1))) t1 (.tup [.str "at most", .int 0, .ref r1, .ref c1]) = H12 at gb3
        refine ⟨_, rfl, pn, _, rfl, gb3.ge _ _ (z13 _ _ hpn11), fun c2 hc2 => ?_⟩
        have gb4 := gb3.new hc2 (o := .dK (nkv (nmx es x y) (run es (nmx es x y).length (z0 (nmx es x y)) none).1))
        have z4 := gb3.fr hc2 (o := .dK (nkv (nmx es x y) (run es (nmx es x y).length (z0 (nmx es x y)) none).1))
        refine ⟨Nat.le_of_lt (sz 2 (by omega)), fun t2 ht2 => ?_⟩
        have gb5 := gb4.new ht2 (o := .tup [.str "grows", .ref c2])
        have z5 := gb4.fr ht2 (o := .tup [.str "grows", .ref c2])
        have D2 : Dt (upd (upd G12 c2 (.dK (nkv (nmx es x y) (run es (nmx es x y).length (z0 (nmx es x y)) none).1))) t2 (.tup [.str "grows", .ref c2])) (.ref t2) (.tuple [.str (Str.ofString "grows"), .dict (nkd (nmx es x y) (run es (nmx es x y).length (z0 (nmx es x y)) none).1)]) := .tup upd_same (.cons (.str _) (.cons (.dct (z5 _ _ upd_same) hdt) .nil))
        refine ⟨Nat.zero_le _, fun r3 hr3 => ⟨Nat.le_of_lt (sz 2 (by omega)), fun t3 ht3 => ?_⟩⟩
        have gb6 := gb5.new hr3 (o := .tup [])
        have z6 := gb5.fr hr3 (o := .tup [])
        have gb7 := gb6.new ht3 (o := .tup [.str "ring", .ref r3])
        have z7 := gb6.fr ht3 (o := .tup [.str "ring", .ref r3])
        have D3 : Dt (upd (upd (upd (upd G12 c2 (.dK (nkv (nmx es x y) (run es (nmx es x y).length (z0 (nmx es x y)) none).1))) t2 (.tup [.str "grows", .ref c2])) r3 (.tup [])) t3 (.tup [.str "ring", .ref r3])) (.ref t3) (.tuple [.str (Str.ofString "ring"), .tuple []]) := .tup upd_same (.cons (.str _) (.cons (.tup (z7 _ _ upd_same) .nil) .nil))
        refine ⟨Nat.le_of_lt (sz 3 (by omega)), fun l5 hl5 => ?_⟩
        have gb8 := gb7.lay hl5 (o := .lst [.ref t1, .ref t2, .ref t3])
        have z47 := ((z4.trans z5).trans z6).trans z7
        refine ⟨tl, l5, _, _, rfl, rfl, gb8.ge _ _ (z47 _ _ (z13 _ _ htl)), upd_same, Nat.le_of_lt (sz _ (by simp; omega)), fun p2 hp2 => ?_⟩
        have gc := gb8.new hp2 (o := .lst (xs1 ++ [.ref t1, .ref t2, .ref t3]))
        have y21 := gb8.fr hp2 (o := .lst (xs1 ++ [.ref t1, .ref t2, .ref t3]))
        have f0 : Fit 3 (.tuple []) := fit_tup (Nat.zero_le _) (fun e he => by cases he)
        have xall : Ex G3 _ := (x7.trans (x8.trans (x810.trans x11))).trans ((z13.trans z47).trans y21)
        refine ⟨p2, _, _, _, _, _, _, _, _, _, _, _, _, rfl, gc, xall, upd_same, (((vt.ex z13).ex z47).app (Vs.cons (ex_dt z47 _ _ D1) ⟨fit_tup (by show 4 ≤ 100000; decide) fun e he => ?_, lc_4⟩ (Vs.cons (ex_dt (z6.trans z7) _ _ D2) ⟨fit_pair (fD 2), lc_2⟩ (Vs.one D3 ⟨fit_pair f0, lc_2⟩)))).ex y21, by simp; omega⟩
        rcases List.mem_cons.mp he with rfl | he
        · exact fit_str _ _
        rcases List.mem_cons.mp he with rfl | he
        · exact fit_int _ _
        rcases List.mem_cons.mp he with rfl | he
        · exact f0
        rw [List.mem_singleton.mp he]
        exact fD 2
      | some D =>
        refine ite2 (fun _ => ?_) (fun h => absurd (by simp) h)
        rw [hy] at g
        obtain ⟨r1, r2, hans⟩ : ∃ r1 r2, H6 t = some (.tup [.str "at most", .int D, r1, r2]) := by
          rcases hAn with h | ⟨_, ⟨h1, _⟩ | ⟨D', h1, r1, r2, h⟩⟩
          · exact absurd hn h
          · rw [hrch, hy] at h1; cases h1
          · rw [hrch, hy] at h1
            rw [Option.some.inj h1]; exact ⟨r1, r2, h⟩
        refine ⟨fun σ' H' => σ' = [some (.ref s), some (.ref an), some (.ref a), some (.str x), some (.str y), some (.ref own), some (.ref pn), some .non, some (.ref pa), some (.ref t), none, none, some (.ref ps), some (.ref pm), none, none, none, none, none, none, none] ∧ Ga s L G H G6 H', ?_, ?_⟩
        · refine ⟨_, rfl, t, _, 0, _, rfl, rfl, SqT.of hans, rfl, _, _, _, rfl, .str _, _, rfl, ?_⟩
          refine ite2 (fun h => absurd h (by decide +kernel)) (fun _ => ?_)
          refine ⟨_, rfl, t, _, 1, _, rfl, rfl, SqT.of hans, rfl, _, rfl, _, rfl, ps, _, rfl, g, rfl, _, rfl, ?_⟩
          refine ite2 (fun h => absurd h (by simp)) (fun _ => ⟨rfl, ga6⟩)
        rintro σ' H7 ⟨rfl, ga7⟩
        clear ga6 g hans hAn
        obtain ⟨p, hpl, hback, hall, hal, hmem⟩ := way_to hN (nmx_ends es x y) wi cm bt hy
        have gy : ∀ H', Ex H7 H' → DGet H' ps (.str y) (some (.int D)) := fun H' e => by
          have g := DGet.k (k := Sum.inr y) (e _ _ (ga7.ge _ _ hps))
          rw [hsk.get, hy] at g; exact g
        -- way
        refine ⟨_, rfl, _, rfl, _, rfl, _, rfl, own, _, rfl, .inl (SqL.of (ga7.ge _ _ ho6)), pm, x, y, nmx es x y, _, mk, p, _, G6, rfl, ga7.ge, ga7.ge _ _ hpm, hmk, by omega, by omega, hback, hall, fun wl H8 hwl e8 hbw => ?_⟩
        obtain ⟨us, hus, pw⟩ := hbw
        have ga8 := (ga7.ex e8).fix (ga7.nil hwl) hus
        have y8 : Ex G6 (upd G6 wl (.lst us)) := Evl.Ex.new (Evl.fresh_back ga7.ge hwl)
        have hwl8 : upd G6 wl (.lst us) wl = some (.lst us) := upd_same
        generalize upd G6 wl (.lst us) = G8 at ga8 y8 hwl8
        have pw8 := paired_exB y8 pw
        have hul := pw.length
        rw [rgl_len] at hul
        have hb8 := hb3.ex (x6.trans y8)
        obtain ⟨xs8, hxs8, pr8⟩ := id hb8
        have hxl8 := pr8.length
        -- tight
        refine ⟨_, rfl, _, rfl, _, rfl, _, rfl, _, rfl, _, rfl, ps, _, rfl, gy _ e8, _, rfl, Nat.le_of_lt (sz 3 (by omega)), fun t1 ht1 => ?_⟩
        have ga9 := ga8.new ht1 (o := .tup [.str y, .str x, .int (-D)])
        have y9 := ga8.fr ht1 (o := .tup [.str y, .str x, .int (-D)])
        have z9 := Evl.Ex.new ht1 (o := .tup [.str y, .str x, .int (-D)])
        refine ⟨Nat.le_of_lt (sz 1 (by omega)), fun l1 hl1 => ?_⟩
        have ga10 := ga9.lay hl1 (o := .lst [.ref t1])
        have z10 := Evl.Ex.new hl1 (o := .lst [.ref t1])
        refine ⟨a, l1, _, _, rfl, rfl, ga10.ge _ _ (y9 _ _ hxs8), upd_same, Nat.le_of_lt (sz _ (by simp; omega)), fun c hc => ?_⟩
        have ga11 := ga10.new hc (o := .lst (xs8 ++ [.ref t1]))
        have y11 := ga10.fr hc (o := .lst (xs8 ++ [.ref t1]))
        have z11 := Evl.Ex.new hc (o := .lst (xs8 ++ [.ref t1]))
        have hbc : Bds (upd (upd G8 t1 (.tup [.str y, .str x, .int (-D)])) c (.lst (xs8 ++ [.ref t1]))) c (es ++ [(y, x, -D)]) := ⟨_, upd_same, paired_snocB (paired_exB (y9.trans y11) pr8) ⟨t1, rfl, y11 _ _ upd_same⟩⟩
        have y811 := y9.trans y11
        have z811 := (z9.trans z10).trans z11
        clear ga9 ga10 y9 y11 z9 z10 z11
        generalize upd (upd G8 t1 (.tup [.str y, .str x, .int (-D)])) c (.lst (xs8 ++ [.ref t1])) = G11 at ga11 hbc y811
        generalize upd (upd (upd H8 t1 (.tup [.str y, .str x, .int (-D)])) l1 (.lst [.ref t1])) c (.lst (xs8 ++ [.ref t1])) = H11 at ga11 z811
        have hends2 : ends (es ++ [(y, x, -D)]) (nmx es x y) := fun e he => by
          rcases List.mem_append.mp he with he | he
          · exact nmx_ends es x y e he
          · rw [List.mem_singleton.mp he]; exact ⟨nmx_y es x y, nmx_x es x y⟩
        obtain ⟨Pt, hPt⟩ := tight_pot hN wi cm hy
        have hrun2 := no_ring hPt hends2 (Nat.le_refl _)
        refine ⟨own, c, nmx es x y, es ++ [(y, x, -D)], G11, rfl, ga11.ge, ga11.ge _ _ (y811 _ _ (y8 _ _ ho6)), nms_nodup _, by omega, hbc, by simp; omega, hends2, fun _ t2 pt H12 ht2 hpt e12 h121 h122 => ?_, fun hne => absurd hrun2 hne⟩
        refine ⟨t2, _, 0, _, rfl, rfl, SqL.of h121, rfl, ?_⟩
        have ga12 := (ga11.ex e12).fix (ga11.nil hpt) h122
        have y12 : Ex G11 (upd G11 pt (.dK (nkv (nmx es x y) (run (es ++ [(y, x, -D)]) (nmx es x y).length (z0 (nmx es x y)) none).1))) := Evl.Ex.new (Evl.fresh_back ga11.ge hpt)
        have hpt12 : upd G11 pt (.dK (nkv (nmx es x y) (run (es ++ [(y, x, -D)]) (nmx es x y).length (z0 (nmx es x y)) none).1)) pt = some (.dK (nkv (nmx es x y) (run (es ++ [(y, x, -D)]) (nmx es x y).length (z0 (nmx es x y)) none).1)) := upd_same
        have hdt2 := nkd_dkv (nmx es x y) (run (es ++ [(y, x, -D)]) (nmx es x y).length (z0 (nmx es x y)) none).1
        have hdn2 := nkd_nodup (run (es ++ [(y, x, -D)]) (nmx es x y).length (z0 (nmx es x y)) none).1 (nms_nodup (es ++ [(x, y, 0)]))
        have hdl2 := nkd_len (nmx es x y) (run (es ++ [(y, x, -D)]) (nmx es x y).length (z0 (nmx es x y)) none).1
        have fT : ∀ n, Fit (n + 1) (.dict (nkd (nmx es x y) (run (es ++ [(y, x, -D)]) (nmx es x y).length (z0 (nmx es x y)) none).1)) := fun n => fit_dct (by omega) hdn2
        generalize (run (es ++ [(y, x, -D)]) (nmx es x y).length (z0 (nmx es x y)) none).1 = S2 at ga12 y12 hpt12 hdt2 hdn2 hdl2 fT
        generalize upd G11 pt (.dK (nkv (nmx es x y) S2)) = G12 at ga12 y12 hpt12
        have x12 : Ex G6 G12 := (y8.trans y811).trans y12
        have z12 : Ex H7 H12 := (e8.trans z811).trans e12
        have hwl12 : Bds G12 wl (rgl (it es j0 (w0 x)) y p) := ⟨us, (y811.trans y12) _ _ hwl8, paired_exB (y811.trans y12) pw8⟩
        clear y12 y811 z811 e12 hbc
        have hps12 := x12 _ _ hps
        have hpn12 := x12 _ _ hpn6
        have gyG : ∀ H', H' ps = some (.dK sk) → DGet H' ps (.str y) (some (.int D)) := fun H' e => by
          have g := DGet.k (k := Sum.inr y) e
          rw [hsk.get, hy] at g; exact g
        obtain ⟨us12, hus12, pw12⟩ := id hwl12
        have hul12 := pw12.length
        rw [rgl_len] at hul12
        have dW : ∀ G' r, Ex G12 G' → G' r = some (.tup us12) → Dt G' (.ref r) (.tuple ((rgl (it es j0 (w0 x)) y p).map encB)) := fun G' r e h => .tup h (paired_dta (enc := encB) (fun v b => tb_dt) (paired_exB e pw12))
        have fW : ∀ n, Fit (n + 2) (.tuple ((rgl (it es j0 (w0 x)) y p).map encB)) := fun n => fit_way (by rw [rgl_len]; omega) n
        have f4 : ∀ (z : Str) (k : Int) (d2 d3 : PyData), Fit 3 d2 → Fit 3 d3 → SpH (.tuple [.str z, .int k, d2, d3]) := fun z k d2 d3 h2 h3 => ⟨fit_tup (by show 4 ≤ 100000; decide) fun e he => by
          rcases List.mem_cons.mp he with rfl | he
          · exact fit_str _ _
          rcases List.mem_cons.mp he with rfl | he
          · exact fit_int _ _
          rcases List.mem_cons.mp he with rfl | he
          · exact h2
          rw [List.mem_singleton.mp he]; exact h3, lc_4⟩
        refine ⟨fun σ' H' => ∃ tl xs G', σ' = [some (.ref s), some (.ref an), some (.ref a), some (.str x), some (.str y), some (.ref own), some (.ref pn), some .non, some (.ref pa), some (.ref t), some (.ref tl), none, some (.ref ps), some (.ref pm), some (.ref wl), some (.ref pt), none, none, none, none, none] ∧ Ga s L G H G' H' ∧ Ex G12 G' ∧ G' tl = some (.lst xs) ∧ Vs SpH G' xs ∧ xs.length ≤ 20, ?_, ?_⟩
        · refine ⟨_, rfl, _, rfl, _, rfl, s, L, a, es, wl, _, G12, rfl, ga12.st, ga12.ge, ga12.gs, hb3.ex (x6.trans x12), hwl12, by omega, by rw [rgl_len]; omega, fun pl ws G13 H13 ga13' hpl vw hwsl => ?_⟩
          have ga13 := ga12.stp ga13'.a ga13'.st
          refine ⟨pl, rfl, ⟨ws, SqL.of (ga13.ge _ _ hpl)⟩, fun D0 hD => ?_⟩
          refine lcV (K := K) (P := SpH) walk_list ga13.ge (fun H' e => SqL.of (e _ _ hpl)) (by omega) (fun i => [some (.ref s), some (.ref an), some (.ref a), some (.str x), some (.str y), some (.ref own), some (.ref pn), some .non, some (.ref pa), some (.ref t), none, some (ws.getD i .non), some (.ref ps), some (.ref pm), some (.ref wl), some (.ref pt), none, none, none, none, none])
            (fun i u G' H' H'' hi a' yy Q q => turn_name (σ0 := [some (.ref s), some (.ref an), some (.ref a), some (.str x), some (.str y), some (.ref own), some (.ref pn), some .non, some (.ref pa), some (.ref t), none, none, some (.ref ps), some (.ref pm), some (.ref wl), some (.ref pt), none, none, none, none, none]) (j := 11) a' yy (by rw [List.getD_eq_getElem?_getD]; simp [hi]) q) (fun _ _ => rfl) (fun i G' H' hi a' Q q => ?_) hD (fun zs G14 H14 a14 gD hl' hvs hzl => ?_)
          · obtain ⟨d, hd, pd⟩ := vw (ws.getD i .non) (by rw [List.getD_eq_getElem?_getD, List.getElem?_eq_getElem hi]; exact List.getElem_mem hi)
            have xe := ga13'.a.gg.trans a'.gg
            refine ⟨_, rfl, _, rfl, ps, _, rfl, gyG _ (a'.gh _ _ (xe _ _ hps12)), _, rfl, _, rfl, pt, _, rfl, a'.gh _ _ (xe _ _ hpt12), fun c hc => ⟨Nat.le_of_lt (sz 4 (by omega)), fun t ht => ?_⟩⟩
            have b1 := Stp.new (M := NoM) a'.gh hc (o := .dK (nkv (nmx es x y) S2))
            have b2 := Stp.new (M := NoM) b1.gh ht (o := .tup [.str "at most", .int D, ws.getD i .non, .ref c])
            refine q _ _ _ _ (b1.trans b2) (.tup upd_same (.cons (.str _) (.cons (.int _) (.cons (ex_dt (a'.gg.trans (b1.trans b2).gg) _ _ hd) (.cons (.dct (b2.gg _ _ upd_same) hdt2) .nil))))) (f4 _ _ _ _ (fit_spw pd 1) (fT 2))
          · have ga14 := ga13.nom a14
            have ga15 := ga14.fix (ga13.nil hD) hl'
            have y15 : Ex G14 (upd G14 D0 (.lst zs)) := Evl.Ex.new gD
            exact ⟨D0, zs, _, rfl, ga15, (ga13'.a.gg.trans a14.gg).trans y15, upd_same, hvs.ex y15, by omega⟩
        rintro σ' H13 ⟨tl, xs1, G13, rfl, ga13, x13, htl, vt, hx1⟩
        refine ⟨fun σ' H' => ∃ tl xs G', σ' = [some (.ref s), some (.ref an), some (.ref a), some (.str x), some (.str y), some (.ref own), some (.ref pn), some .non, some (.ref pa), some (.ref t), some (.ref tl), none, some (.ref ps), some (.ref pm), some (.ref wl), some (.ref pt), none, none, none, none, none] ∧ Ga s L G H G' H' ∧ Ex G12 G' ∧ G' tl = some (.lst xs) ∧ Vs SpH G' xs ∧ xs.length ≤ 40, ?_, ?_⟩
        · refine ⟨_, rfl, _, rfl, _, rfl, s, L, pt, nmx es x y, _, G13, rfl, ga13.st, ga13.ge, ga13.gs, x13 _ _ hpt12, nms_nodup _, by omega, fun pl ys ds G14 H14 st14 hpl sp14 str14 hyl => ?_⟩
          have ga14 := ga13.stp st14 str14
          refine ⟨pl, rfl, ⟨ys, SqL.of (ga14.ge _ _ hpl)⟩, fun D0 hD => ?_⟩
          refine lcV (K := K) (P := SpH) walk_list ga14.ge (fun H' e => SqL.of (e _ _ hpl)) (by omega) (fun i => [some (.ref s), some (.ref an), some (.ref a), some (.str x), some (.str y), some (.ref own), some (.ref pn), some .non, some (.ref pa), some (.ref t), some (.ref tl), some (ys.getD i .non), some (.ref ps), some (.ref pm), some (.ref wl), some (.ref pt), none, none, none, none, none])
            (fun i u G' H' H'' hi a' yy Q q => turn_name (σ0 := [some (.ref s), some (.ref an), some (.ref a), some (.str x), some (.str y), some (.ref own), some (.ref pn), some .non, some (.ref pa), some (.ref t), some (.ref tl), none, some (.ref ps), some (.ref pm), some (.ref wl), some (.ref pt), none, none, none, none, none]) (j := 11) a' yy (by rw [List.getD_eq_getElem?_getD]; simp [hi]) q) (fun _ _ => rfl) (fun i G' H' hi a' Q q => ?_) hD (fun zs G15 H15 a15 gD hl' hvs hzl => ?_)
          · obtain ⟨d, hd, pd⟩ := sp14.vs (ys.getD i .non) (by rw [List.getD_eq_getElem?_getD, List.getElem?_eq_getElem hi]; exact List.getElem_mem hi)
            have xe := (x13.trans st14.gg).trans a'.gg
            refine ⟨_, rfl, _, rfl, ps, _, rfl, gyG _ (a'.gh _ _ (xe _ _ hps12)), _, rfl, wl, us12, rfl, .inl ⟨SqL.of (a'.gh _ _ (xe _ _ hus12)), fun c hc => ⟨_, rfl, Nat.le_of_lt (sz 4 (by omega)), fun t ht => ?_⟩⟩⟩
            have b1 := Stp.new (M := NoM) a'.gh hc (o := .tup us12)
            have b2 := Stp.new (M := NoM) b1.gh ht (o := .tup [.str "at most", .int D, .ref c, ys.getD i .non])
            refine q _ _ _ _ (b1.trans b2) (.tup upd_same (.cons (.str _) (.cons (.int _) (.cons (dW _ c (xe.trans (b1.trans b2).gg) (b2.gg _ _ upd_same)) (.cons (ex_dt (a'.gg.trans (b1.trans b2).gg) _ _ hd) .nil))))) (f4 _ _ _ _ (fW 1) (fit_spn pd 2))
          · have ga15 := ga14.nom a15
            have x1 : Ex G13 G15 := st14.gg.trans a15.gg
            refine ⟨tl, D0, _, _, rfl, rfl, ga15.ge _ _ (x1 _ _ htl), hl', Nat.le_of_lt (sz _ (by omega)), fun p2 hp2 => ?_⟩
            have gc := ga15.new hp2 (o := .lst (xs1 ++ zs))
            have y4 := ga15.fr hp2 (o := .lst (xs1 ++ zs))
            exact ⟨p2, _, _, rfl, gc, x13.trans (x1.trans y4), upd_same, ((vt.ex x1).app hvs).ex y4, by rw [List.length_append]; omega⟩
        clear htl vt hx1 x13 ga13
        rintro σ' H13 ⟨tl, xs1, G13, rfl, ga13, x13, htl, vt, hx1⟩
        refine ⟨fun σ' H' => ∃ tl xs G', σ' = [some (.ref s), some (.ref an), some (.ref a), some (.str x), some (.str y), some (.ref own), some (.ref pn), some .non, some (.ref pa), some (.ref t), some (.ref tl), none, some (.ref ps), some (.ref pm), some (.ref wl), some (.ref pt), none, none, none, none, none] ∧ Ga s L G H G' H' ∧ Ex G12 G' ∧ G' tl = some (.lst xs) ∧ Vs SpH G' xs ∧ xs.length ≤ 42, ?_, ?_⟩
        · refine ⟨_, rfl, 1, rfl, Nat.le_of_lt (sz 2 (by omega)), fun tt htt => ?_⟩
          have ga14 := ga13.new htt (o := .tup [.int (-1), .int 1])
          have y14 := ga13.fr htt (o := .tup [.int (-1), .int 1])
          have htt14 : upd G13 tt (.tup [.int (-1), .int 1]) tt = some (.tup [.int (-1), .int 1]) := upd_same
          generalize upd G13 tt (.tup [.int (-1), .int 1]) = G14 at ga14 y14 htt14
          refine ⟨tt, rfl, ⟨[.int (-1), .int 1], SqT.of (ga14.ge _ _ htt14)⟩, fun D0 hD => ?_⟩
          refine lcV (K := K) (P := SpH) walk_tup ga14.ge (fun H' e => SqT.of (e _ _ htt14)) (by show 2 ≤ 1000000; decide) (fun i => [some (.ref s), some (.ref an), some (.ref a), some (.str x), some (.str y), some (.ref own), some (.ref pn), some .non, some (.ref pa), some (.ref t), some (.ref tl), none, some (.ref ps), some (.ref pm), some (.ref wl), some (.ref pt), some (([V.int (-1), V.int 1] : List V).getD i .non), none, none, none, none])
            (fun i u G' H' H'' hi a' yy Q q => turn_name (σ0 := [some (.ref s), some (.ref an), some (.ref a), some (.str x), some (.str y), some (.ref own), some (.ref pn), some .non, some (.ref pa), some (.ref t), some (.ref tl), none, some (.ref ps), some (.ref pm), some (.ref wl), some (.ref pt), none, none, none, none, none]) (j := 16) a' yy (v := ([V.int (-1), V.int 1] : List V).getD i .non) (two_at hi) q) (fun _ _ => rfl) (fun i G' H' hi a' Q q => ?_) hD (fun zs G15 H15 a15 gD hl' hvs hzl => ?_)
          · have xe := (x13.trans y14).trans a'.gg
            obtain ⟨k, hk⟩ : ∃ k, ([V.int (-1), V.int 1] : List V).getD i .non = V.int k := match i, hi with | 0, _ => ⟨-1, rfl⟩ | 1, _ => ⟨1, rfl⟩
            rw [hk]
            refine ⟨_, rfl, _, rfl, ps, _, rfl, gyG _ (a'.gh _ _ (xe _ _ hps12)), _, rfl, _, _, rfl, rfl, _, rfl, wl, us12, rfl, .inl ⟨SqL.of (a'.gh _ _ (xe _ _ hus12)), fun c hc => ?_⟩⟩
            have b1 := Stp.new (M := NoM) a'.gh hc (o := .tup us12)
            refine ⟨_, rfl, pt, _, rfl, b1.gh _ _ (b1.gg _ _ (xe _ _ hpt12)), fun c2 hc2 => ⟨Nat.le_of_lt (sz 4 (by omega)), fun t ht => ?_⟩⟩
            have b2 := b1.trans (Stp.new (M := NoM) b1.gh hc2 (o := .dK (nkv (nmx es x y) S2)))
            have b3 := Stp.new (M := NoM) b2.gh ht (o := .tup [.str "at most", .int (D + k), .ref c, .ref c2])
            refine q _ _ _ _ (b2.trans b3) (.tup upd_same (.cons (.str _) (.cons (.int _) (.cons (dW _ c (xe.trans (b2.trans b3).gg) (b3.gg _ _ ((Stp.new (M := NoM) b1.gh hc2 (o := .dK (nkv (nmx es x y) S2))).gg _ _ upd_same))) (.cons (.dct (b3.gg _ _ upd_same) hdt2) .nil))))) (f4 _ _ _ _ (fW 1) (fT 2))
          · have ga15 := ga14.nom a15
            have x1 : Ex G13 G15 := y14.trans a15.gg
            have hzl : zs.length = 2 := hzl
            refine ⟨tl, D0, _, _, rfl, rfl, ga15.ge _ _ (x1 _ _ htl), hl', Nat.le_of_lt (sz _ (by omega)), fun p2 hp2 => ?_⟩
            have gc := ga15.new hp2 (o := .lst (xs1 ++ zs))
            have y4 := ga15.fr hp2 (o := .lst (xs1 ++ zs))
            exact ⟨p2, _, _, rfl, gc, x13.trans (x1.trans y4), upd_same, ((vt.ex x1).app hvs).ex y4, by rw [List.length_append]; omega⟩
        clear htl vt hx1 x13 ga13
        rintro σ' H13 ⟨tl, xs1, G13, rfl, ga13, x13, htl, vt, hx1⟩
        refine ⟨_, rfl, _, rfl, _, rfl, ps, _, rfl, gyG _ (ga13.ge _ _ (x13 _ _ hps12)), _, rfl, wl, us12, rfl, .inl ⟨SqL.of (ga13.ge _ _ (x13 _ _ hus12)), fun c1 hc1 => ?_⟩⟩
        have ga14 := ga13.new hc1 (o := .tup us12)
        have y14 := ga13.fr hc1 (o := .tup us12)
        refine ⟨_, rfl, pn, _, rfl, ga14.ge _ _ ((x13.trans y14) _ _ hpn12), fun c2 hc2 => ?_⟩
        have ga15 := ga14.new hc2 (o := .dK (nkv (nmx es x y) (run es (nmx es x y).length (z0 (nmx es x y)) none).1))
        have y15 := ga14.fr hc2 (o := .dK (nkv (nmx es x y) (run es (nmx es x y).length (z0 (nmx es x y)) none).1))
        refine ⟨Nat.le_of_lt (sz 4 (by omega)), fun t1 ht1 => ?_⟩
        have ga16 := ga15.new ht1 (o := .tup [.str "at most", .int D, .ref c1, .ref c2])
        have y16 := ga15.fr ht1 (o := .tup [.str "at most", .int D, .ref c1, .ref c2])
        have y146 := (y14.trans y15).trans y16
        have D1 : Dt _ (.ref t1) _ := .tup (H := upd (upd (upd G13 c1 (.tup us12)) c2 (.dK (nkv (nmx es x y) (run es (nmx es x y).length (z0 (nmx es x y)) none).1))) t1 (.tup [.str "at most", .int D, .ref c1, .ref c2])) upd_same (.cons (.str _) (.cons (.int _) (.cons (dW _ c1 (x13.trans y146) (y16 _ _ (y15 _ _ upd_same))) (.cons (.dct (y16 _ _ upd_same) hdt) .nil))))
        clear y14 y15 y16 ga14 ga15
        generalize upd (upd (upd G13 c1 (.tup us12)) c2 (.dK (nkv (nmx es x y) (run es (nmx es x y).length (z0 (nmx es x y)) none).1))) t1 (.tup [.str "at most", .int D, .ref c1, .ref c2]) = G16 at ga16 y146 D1
        generalize upd (upd (upd H13 c1 (.tup us12)) c2 (.dK (nkv (nmx es x y) (run es (nmx es x y).length (z0 (nmx es x y)) none).1))) t1 (.tup [.str "at most", .int D, .ref c1, .ref c2]) = H16 at ga16
        refine ⟨_, rfl, pn, _, rfl, ga16.ge _ _ ((x13.trans y146) _ _ hpn12), fun c3 hc3 => ?_⟩
        have ga17 := ga16.new hc3 (o := .dK (nkv (nmx es x y) (run es (nmx es x y).length (z0 (nmx es x y)) none).1))
        have y17 := ga16.fr hc3 (o := .dK (nkv (nmx es x y) (run es (nmx es x y).length (z0 (nmx es x y)) none).1))
        refine ⟨_, rfl, Nat.le_of_lt (sz 1 (by omega)), fun l4 hl4 => ?_⟩
        have ga18 := ga17.new hl4 (o := .lst [.str x])
        have y18 := ga17.fr hl4 (o := .lst [.str x])
        refine ⟨Nat.le_of_lt (sz 3 (by omega)), fun t3 ht3 => ?_⟩
        have ga19 := ga18.new ht3 (o := .tup [.str "grows", .ref c3, .ref l4])
        have y19 := ga18.fr ht3 (o := .tup [.str "grows", .ref c3, .ref l4])
        have y179 := (y17.trans y18).trans y19
        have D2 : Dt _ (.ref t3) (.tuple [.str (Str.ofString "grows"), .dict (nkd (nmx es x y) (run es (nmx es x y).length (z0 (nmx es x y)) none).1), .list ([x].map PyData.str)]) := .tup (H := upd (upd (upd G16 c3 (.dK (nkv (nmx es x y) (run es (nmx es x y).length (z0 (nmx es x y)) none).1))) l4 (.lst [.str x])) t3 (.tup [.str "grows", .ref c3, .ref l4])) upd_same (.cons (.str _) (.cons (.dct (y19 _ _ (y18 _ _ upd_same)) hdt) (.cons (.lst (y19 _ _ upd_same) (strs_dta [x])) .nil)))
        refine ⟨Nat.le_of_lt (sz 2 (by omega)), fun l5 hl5 => ?_⟩
        have ga20 := ga19.lay hl5 (o := .lst [.ref t1, .ref t3])
        refine ⟨tl, l5, _, _, rfl, rfl, ga20.ge _ _ (y179 _ _ (y146 _ _ htl)), upd_same, Nat.le_of_lt (sz _ (by simp; omega)), fun p2 hp2 => ?_⟩
        have gc := ga20.new hp2 (o := .lst (xs1 ++ [.ref t1, .ref t3]))
        have y21 := ga20.fr hp2 (o := .lst (xs1 ++ [.ref t1, .ref t3]))
        have xall := ((x13.trans y146).trans y179).trans y21
        refine ⟨p2, _, _, _, _, _, _, _, _, _, _, _, _, rfl, gc, (x6.trans x12).trans xall, upd_same, (((vt.ex y146).ex y179).app (Vs.cons (ex_dt y179 _ _ D1) (f4 _ _ _ _ (fW 1) (fD 2)) (Vs.one D2 ⟨fit_tup (by show 3 ≤ 100000; decide) fun e he => ?_, lc_3l (by show 1 ≤ 100000; decide)⟩))).ex y21, by simp; omega⟩
        rcases List.mem_cons.mp he with rfl | he
        · exact fit_str _ _
        rcases List.mem_cons.mp he with rfl | he
        · exact fD 2
        rw [List.mem_singleton.mp he]
        exact fit_strs (by show 1 ≤ 100000; decide)
    · refine ite2 (fun _ => ?_) (fun h => absurd (by simp) h)
      refine ⟨_, rfl, _, rfl, _, rfl, s, L, a, es, rl, wl, G3, rfl, ga5.st, ga5.ge, ga5.gs, hb3, hwl, by omega, hwll, fun pl ws G6 H6 ga6' hpl vw hwsl => ?_⟩
      have ga6 := ga5.stp ga6'.a ga6'.st
      refine ⟨pl, rfl, ⟨ws, SqL.of (ga6.ge _ _ hpl)⟩, fun D hD => ?_⟩
      refine lcV (K := K) (P := SpH) walk_list ga6.ge (fun H' e => SqL.of (e _ _ hpl)) (by omega) (fun i => [some (.ref s), some (.ref an), some (.ref a), some (.str x), some (.str y), some (.ref own), some .non, some (.ref rl), some (.ref pa), some (.ref t), none, some (ws.getD i .non), none, none, none, none, none, none, none, none, none])
        (fun i u G' H' H'' hi a' yy Q q => turn_name (σ0 := [some (.ref s), some (.ref an), some (.ref a), some (.str x), some (.str y), some (.ref own), some .non, some (.ref rl), some (.ref pa), some (.ref t), none, none, none, none, none, none, none, none, none, none, none]) (j := 11) a' yy (by rw [List.getD_eq_getElem?_getD]; simp [hi]) q) (fun _ _ => rfl) (fun i G' H' hi a' Q q => ?_) hD (fun zs G7 H7 a7 gD hl' hvs hzl => ?_)
      · obtain ⟨d, hd, pd⟩ := vw (ws.getD i .non) (by rw [List.getD_eq_getElem?_getD, List.getElem?_eq_getElem hi]; exact List.getElem_mem hi)
        refine ⟨_, rfl, Nat.le_of_lt (sz 2 (by omega)), fun t ht => ?_⟩
        have gt : G' t = none := Evl.fresh_back a'.gh ht
        exact q _ _ _ _ (Stp.new a'.gh ht (o := .tup [.str "ring", ws.getD i .non])) (.tup upd_same (.cons (.str _) (.cons (ex_dt (a'.gg.trans (Evl.Ex.new gt)) _ _ hd) .nil))) ⟨fit_pair (fit_spw pd 1), lc_2⟩
      · have ga7 := ga6.nom a7
        have ga8 := ga7.fix (ga6.nil hD) hl'
        have y8 : Ex G7 (upd G7 D (.lst zs)) := Evl.Ex.new gD
        exact ⟨D, zs, _, _, _, _, _, _, _, _, _, _, _, rfl, ga8, (ga6'.a.gg.trans a7.gg).trans y8, upd_same, hvs.ex y8, by omega⟩
  rintro σ' H6 ⟨tl, ts, G6, nm, ov, sv, mv, wv, tv, bv, uv, rrv, nmv, rfl, ga6, x6, htl, hts, htsl⟩
  refine ⟨_, rfl, tl, rfl, ⟨ts, SqL.of (ga6.ge _ _ htl)⟩, ?_⟩
  refine for_it walk_list (fun i σ' H' => ∃ vv, σ' = [some (.ref s), some nm, some (.ref a), some (.str x), some (.str y), some (.ref own), some nv, some rv, some (.ref pa), some (.ref t), some (.ref tl), ov, sv, mv, wv, tv, bv, uv, rrv, nmv, vv] ∧ Ga s L G H G6 H')
    ⟨none, rfl, ga6⟩ (fun i σ' H' hi ⟨_, _, ga⟩ => SqL.of (ga.ge _ _ htl)) ?_ ?_
  · rintro i v σ' H' H7 hi ⟨vv, rfl, ga⟩ ⟨rfl, hv⟩
    obtain ⟨d, hd, fd, ld⟩ := hts v (List.mem_of_getElem? hv)
    have hpa6 : Bds H7 pa es := (hp3.ex x6).ex ga.ge
    refine ⟨_, rfl, _, rfl, _, rfl, _, rfl, _, d, G6, rfl, ga.ge, hd, fd, fun v2 G8 H8 st8 hd8 => ?_⟩
    have e8 := st8.ex
    refine ⟨.ref pa, .list (es.map encB), .str x, .str x, .str y, .str y, v2, d, rfl, Bds.dt (hpa6.ex e8), .str _, .str _, ex_dt st8.gh _ _ hd8, (fun ds hd => by injection hd with hd; rw [← hd, List.length_map]; omega), (fun d0 d1 ds hd => (ld d0 d1 ds hd).2), (fun h => by rw [bds_is] at h; cases h), (fun _ h => by cases h), (fun _ _ h => by cases h), fun es' zx zy he hzx hzy => ?_⟩
    have he' : es = es' := encs_inj (by injection he)
    subst he'
    injection hzx with hzx
    injection hzy with hzy
    subst hzx; subst hzy
    intro H9 e9
    have e79 := e8.trans e9
    refine ⟨_, rfl, _, rfl, _, rfl, _, rfl, a, es, x, y, v, d, rfl, ((hb3.ex x6).ex ga.ge).ex e79, by omega, ex_dt (ga.ge.trans e79) _ _ hd, ld, fun H10 e10 => ?_⟩
    refine ⟨_, _, .bool (highJ es x y d), rfl, .bl _, .bl _, by simp [nodes], fun H11 e11 => ⟨_, rfl, ?_⟩⟩
    refine ite2 (fun h => absurd h (by decide)) (fun _ => ?_)
    exact ⟨_, rfl, ga.ex (e79.trans (e10.trans e11))⟩
  · rintro σ' H7 ⟨vv, rfl, ga⟩
    refine ⟨_, rfl, _, rfl, .ref pa, .ref a, .list (es.map encB), rfl, Bds.dt ((hp3.ex x6).ex ga.ge), Bds.dt ((hb3.ex x6).ex ga.ge), ?_, fun H8 e8 => q _ _ (ga.ex e8)⟩
    simp only [nodes]
    rw [nodes_Bs]; omega
end
end K43
namespace K43
open PySem PySem.Spec PyProof.Rows L2 Hx Hd M43
open Evl (pss_cut tCut ex_l ex_t)
open L2H
theorem pss_noX {X : Cx} {st : List Stmt} : PSs X st (fun _ _ _ => False) := ⟨fun _ _ _ _ _ _ h => h.elim⟩
theorem ps_no {X : Cx} {st : Stmt} : PS X st (fun _ _ _ => False) := ⟨fun _ _ _ _ _ _ h => h.elim⟩
section
variable {P : Program} {w : World} {K : PySem.W.Frag} {mg : Str → Option Value} {base : Heap}
abbrev N_law_named : List Str := ["error", "names", "fits"]
theorem sc_law_named : FnScope N_law_named ["error"] (defScope (top 49)) := ⟨rfl, rfl, rfl, by decide +kernel, rfl, by decide +kernel, by decide +kernel⟩
abbrev N_law_attributes : List Str := ["e", "name"]
theorem sc_law_attributes : FnScope N_law_attributes ["e", "name"] (defScope (top 50)) := ⟨rfl, rfl, rfl, by decide +kernel, rfl, by decide +kernel, by decide +kernel⟩
abbrev N_law_error : List Str := ["error", "name"]
theorem sc_law_error : FnScope N_law_error ["error"] (defScope (top 51)) := ⟨rfl, rfl, rfl, by decide +kernel, rfl, by decide +kernel, by decide +kernel⟩
/-- such an error at hand: class C, one field f -/
def Hnd (d : Addr) (f : Str) (z : Str) (H : Hp) : Prop := H d = some (.xd [(f, .str z)])
def spNamed (a d : Addr) (f z nm : Str) : Sp := fun vs H Q _ => vs = [.ref a] ∧ Hnd d f z H ∧ ∀ H2, Ex H H2 → Q (.str nm) H2
def spAttr (a d : Addr) (f z nm : Str) : Sp := fun vs H Q _ => vs = [.ref a, .str nm] ∧ Hnd d f z H ∧ ∀ p H2, H p = none → Ex H H2 → H2 p = some (.tup [.str z]) → Q (.ref p) H2
def spErr (a d : Addr) (f z nm : Str) : Sp := fun vs H Q _ => vs = [.ref a] ∧ Hnd d f z H ∧ ∀ l p H2, H l = none → H p = none → Ex H H2 → H2 p = some (.tup [.str z]) → H2 l = some (.lst [.str "raised", .str nm, .ref p]) → Q (.ref l) H2

theorem ok_namedBadValue (T : Txt K mg) {a d : Addr} {oe : Obj} {z : Str} (hc : oe.cls = .ref (He.ga K "BadValue")) (hd : oe.dict = some d) (hf : ∃ vs, oe.data = .fields vs) :
    CalP P w K mg base 1 "_law_named" ["error"] (a, oe) (spNamed a d "name" z "BadValue") := by
  have hx := T.x_BadValue.excC
  refine mkCalP T.g__law_named T.d__law_named sc_law_named (fun _ _ _ _ _ _ us hl => match us, hl with | [_], _ => rfl) (fun vs H Q E h => ?_) fun cdv A outer s H vs Q hr h => ?_
  · obtain ⟨rfl, _⟩ := h; rfl
  obtain ⟨rfl, HH, q⟩ := h
  refine ⟨_, (pss_cons (ps_set (i := 1) sc_law_named.nd rfl (Or.inl rfl) pe_str)
    (pss_cons (ps_set (i := 2) sc_law_named.nd rfl (Or.inl rfl) (pe_lst (pa_cons (pe_callB (isiP (K := K) (fs := [("name", .str z)]) hx (.head _) hc hd hf) (by rfl) T.n_isinstance (by decide +kernel) (pa_cons (pv 0) (pa_cons (pe_glob (v := .ref (He.ga K "BadText")) rfl T.g_BadText rfl) pa_nil))) (pa_cons (pe_callB (isiP (K := K) (fs := [("name", .str z)]) hx (.head _) hc hd hf) (by rfl) T.n_isinstance (by decide +kernel) (pa_cons (pv 0) (pa_cons (pe_glob (v := .ref (He.ga K "BadSort")) rfl T.g_BadSort rfl) pa_nil))) (pa_cons (pe_callB (isiP (K := K) (fs := [("name", .str z)]) hx (.head _) hc hd hf) (by rfl) T.n_isinstance (by decide +kernel) (pa_cons (pv 0) (pa_cons (pe_glob (v := .ref (He.ga K "BadLine")) rfl T.g_BadLine rfl) pa_nil))) (pa_cons (pe_callB (isiP (K := K) (fs := [("name", .str z)]) hx (.head _) hc hd hf) (by rfl) T.n_isinstance (by decide +kernel) (pa_cons (pv 0) (pa_cons (pe_glob (v := .ref (He.ga K "BadModel")) rfl T.g_BadModel rfl) pa_nil))) pa_nil))))))
    (pss_cons (ps_set (i := 2) sc_law_named.nd rfl (Or.inl rfl) (pe_op op_cat (pv 2) (pe_lst (pa_cons (pe_callB (isiP (K := K) (fs := [("name", .str z)]) hx (.head _) hc hd hf) (by rfl) T.n_isinstance (by decide +kernel) (pa_cons (pv 0) (pa_cons (pe_glob (v := .ref (He.ga K "BadPlan")) rfl T.g_BadPlan rfl) pa_nil))) (pa_cons (pe_callB (isiP (K := K) (fs := [("name", .str z)]) hx (.head _) hc hd hf) (by rfl) T.n_isinstance (by decide +kernel) (pa_cons (pv 0) (pa_cons (pe_glob (v := .ref (He.ga K "BadValue")) rfl T.g_BadValue rfl) pa_nil))) (pa_cons (pe_callB (isiP (K := K) (fs := [("name", .str z)]) hx (.head _) hc hd hf) (by rfl) T.n_isinstance (by decide +kernel) (pa_cons (pv 0) (pa_cons (pe_glob (v := .ref (He.ga K "BadEdit")) rfl T.g_BadEdit rfl) pa_nil))) (pa_cons (pe_callB (isiP (K := K) (fs := [("name", .str z)]) hx (.head _) hc hd hf) (by rfl) T.n_isinstance (by decide +kernel) (pa_cons (pv 0) (pa_cons (pe_glob (v := .ref (He.ga K "TooMany")) rfl T.g_TooMany rfl) pa_nil))) pa_nil)))))))
    (pss_cons (ps_set (i := 2) sc_law_named.nd rfl (Or.inl rfl) (pe_op op_cat (pv 2) (pe_lst (pa_cons (pe_callB (isiP (K := K) (fs := [("name", .str z)]) hx (.head _) hc hd hf) (by rfl) T.n_isinstance (by decide +kernel) (pa_cons (pv 0) (pa_cons (pe_glob (v := .ref (He.ga K "TooLong")) rfl T.g_TooLong rfl) pa_nil))) (pa_cons (pe_callB (isiP (K := K) (fs := [("name", .str z)]) hx (.head _) hc hd hf) (by rfl) T.n_isinstance (by decide +kernel) (pa_cons (pv 0) (pa_cons (pe_glob (v := .ref (He.ga K "NothingToUndo")) rfl T.g_NothingToUndo rfl) pa_nil))) (pa_cons (pe_callB (isiP (K := K) (fs := [("name", .str z)]) hx (.head _) hc hd hf) (by rfl) T.n_isinstance (by decide +kernel) (pa_cons (pv 0) (pa_cons (pe_glob (v := .ref (He.ga K "NothingToRedo")) rfl T.g_NothingToRedo rfl) pa_nil))) pa_nil))))))
    (pss_cut (ps_if (PW.pt (pw_or (pt_cmpR op_ne (pe_bm PySem.F.plainAttrs_list PySem.F.slot_list_count PySem.F.type_list_count (cntF (K := K)) (pv 2) (pa_cons pe_bl pa_nil)) pe_int (nomark _)) (pw_or (pt_not (pt_val (pe_callB (isiP (K := K) (fs := [("name", .str z)]) hx (.head _) hc hd hf) (by rfl) T.n_isinstance (by decide +kernel) (pa_cons (pv 0) (pa_cons (pe_glob (v := .ref (He.ga K "HoldError")) rfl T.g_HoldError rfl) pa_nil))))) (pw_or1 (pt_not (pt_val (pe_callB (isiP (K := K) (fs := [("name", .str z)]) hx (.head _) hc hd hf) (by rfl) T.n_isinstance (by decide +kernel) (pa_cons (pv 0) (pa_cons (pe_bltn (v := .ty "ValueError") rfl T.n_ValueError (by decide +kernel) rfl) pa_nil))))))))) (pss_one (ps_ret pe_str)) pss_nil)
    (pss_one (ps_ret (pe_ix (ixL (K := K)) (pe_split (pv 1) pe_str) (pe_bm PySem.F.plainAttrs_list PySem.F.slot_list_index PySem.F.type_list_index (idxL (K := K)) (pv 2) (pa_cons pe_bl pa_nil)) (fun _ _ => rfl))))))))), ?_⟩
  have szl : ∀ m : Nat, m ≤ 200000 → m ≤ sizeLine := fun m h => Nat.le_trans h (by decide)
  refine ⟨_, rfl, .ref (He.ga K "BadText"), .ref (He.ga K "BadText"), false, d, rfl, rfl, HH, fun u h => h, T.q_BadValue (.ref (He.ga K "BadText"), false) (.tail _ (.head _)), _, rfl, .ref (He.ga K "BadSort"), .ref (He.ga K "BadSort"), false, d, rfl, rfl, HH, fun u h => h, T.q_BadValue (.ref (He.ga K "BadSort"), false) (.tail _ (.tail _ (.head _))), _, rfl, .ref (He.ga K "BadLine"), .ref (He.ga K "BadLine"), false, d, rfl, rfl, HH, fun u h => h, T.q_BadValue (.ref (He.ga K "BadLine"), false) (.tail _ (.tail _ (.tail _ (.head _)))), _, rfl, .ref (He.ga K "BadModel"), .ref (He.ga K "BadModel"), false, d, rfl, rfl, HH, fun u h => h, T.q_BadValue (.ref (He.ga K "BadModel"), false) (.tail _ (.tail _ (.tail _ (.tail _ (.head _))))), szl 4 (by omega), fun p1 hp1 => ?_⟩
  have H1 : upd H p1 (.lst [.bl false, .bl false, .bl false, .bl false]) p1 = some (.lst [.bl false, .bl false, .bl false, .bl false]) := upd_same
  have e1 : Ex H (upd H p1 (.lst [.bl false, .bl false, .bl false, .bl false])) := Evl.Ex.new hp1
  have K1 := HH
  replace HH : upd H p1 (.lst [.bl false, .bl false, .bl false, .bl false]) d = some (.xd [("name", .str z)]) := e1 _ _ HH
  generalize upd H p1 (.lst [.bl false, .bl false, .bl false, .bl false]) = Ha at H1 e1 HH ⊢
  refine ⟨_, rfl, _, rfl, .ref (He.ga K "BadPlan"), .ref (He.ga K "BadPlan"), false, d, rfl, rfl, HH, fun u h => h, T.q_BadValue (.ref (He.ga K "BadPlan"), false) (.tail _ (.tail _ (.tail _ (.tail _ (.tail _ (.head _)))))), _, rfl, .ref (He.ga K "BadValue"), .ref (He.ga K "BadValue"), true, d, rfl, rfl, HH, fun u h => h, T.q_BadValue (.ref (He.ga K "BadValue"), true) (.tail _ (.tail _ (.tail _ (.tail _ (.tail _ (.tail _ (.head _))))))), _, rfl, .ref (He.ga K "BadEdit"), .ref (He.ga K "BadEdit"), false, d, rfl, rfl, HH, fun u h => h, T.q_BadValue (.ref (He.ga K "BadEdit"), false) (.tail _ (.tail _ (.tail _ (.tail _ (.tail _ (.tail _ (.tail _ (.head _)))))))), _, rfl, .ref (He.ga K "TooMany"), .ref (He.ga K "TooMany"), false, d, rfl, rfl, HH, fun u h => h, T.q_BadValue (.ref (He.ga K "TooMany"), false) (.tail _ (.tail _ (.tail _ (.tail _ (.tail _ (.tail _ (.tail _ (.tail _ (.head _))))))))), szl 4 (by omega), fun p2 hp2 => ?_⟩
  have H2 : upd Ha p2 (.lst [.bl false, .bl true, .bl false, .bl false]) p2 = some (.lst [.bl false, .bl true, .bl false, .bl false]) := upd_same
  replace H1 : upd Ha p2 (.lst [.bl false, .bl true, .bl false, .bl false]) p1 = some (.lst [.bl false, .bl false, .bl false, .bl false]) := by rw [upd_ne (ne_of_none H1 hp2)]; exact H1
  have e2 : Ex H (upd Ha p2 (.lst [.bl false, .bl true, .bl false, .bl false])) := e1.trans (Evl.Ex.new hp2)
  generalize upd Ha p2 (.lst [.bl false, .bl true, .bl false, .bl false]) = Hb at H1 H2 e2 ⊢
  refine ⟨p1, p2, _, _, rfl, rfl, H1, H2, szl 8 (by omega), fun p3 hp3 => ?_⟩
  have H3 : upd Hb p3 (.lst ([.bl false, .bl false, .bl false, .bl false] ++ [.bl false, .bl true, .bl false, .bl false])) p3 = some (.lst ([.bl false, .bl false, .bl false, .bl false] ++ [.bl false, .bl true, .bl false, .bl false])) := upd_same
  have e3 : Ex H (upd Hb p3 (.lst ([.bl false, .bl false, .bl false, .bl false] ++ [.bl false, .bl true, .bl false, .bl false]))) := e2.trans (Evl.Ex.new hp3)
  generalize upd Hb p3 (.lst ([.bl false, .bl false, .bl false, .bl false] ++ [.bl false, .bl true, .bl false, .bl false])) = Hc at H3 e3 ⊢
  clear HH
  have HH := e3 _ _ K1
  refine ⟨_, rfl, _, rfl, .ref (He.ga K "TooLong"), .ref (He.ga K "TooLong"), false, d, rfl, rfl, HH, fun u h => h, T.q_BadValue (.ref (He.ga K "TooLong"), false) (.tail _ (.tail _ (.tail _ (.tail _ (.tail _ (.tail _ (.tail _ (.tail _ (.tail _ (.head _)))))))))), _, rfl, .ref (He.ga K "NothingToUndo"), .ref (He.ga K "NothingToUndo"), false, d, rfl, rfl, HH, fun u h => h, T.q_BadValue (.ref (He.ga K "NothingToUndo"), false) (.tail _ (.tail _ (.tail _ (.tail _ (.tail _ (.tail _ (.tail _ (.tail _ (.tail _ (.tail _ (.head _))))))))))), _, rfl, .ref (He.ga K "NothingToRedo"), .ref (He.ga K "NothingToRedo"), false, d, rfl, rfl, HH, fun u h => h, T.q_BadValue (.ref (He.ga K "NothingToRedo"), false) (.tail _ (.tail _ (.tail _ (.tail _ (.tail _ (.tail _ (.tail _ (.tail _ (.tail _ (.tail _ (.tail _ (.head _)))))))))))), szl 3 (by omega), fun p4 hp4 => ?_⟩
  have H4 : upd Hc p4 (.lst [.bl false, .bl false, .bl false]) p4 = some (.lst [.bl false, .bl false, .bl false]) := upd_same
  replace H3 : upd Hc p4 (.lst [.bl false, .bl false, .bl false]) p3 = some (.lst ([.bl false, .bl false, .bl false, .bl false] ++ [.bl false, .bl true, .bl false, .bl false])) := by rw [upd_ne (ne_of_none H3 hp4)]; exact H3
  have e4 : Ex H (upd Hc p4 (.lst [.bl false, .bl false, .bl false])) := e3.trans (Evl.Ex.new hp4)
  generalize upd Hc p4 (.lst [.bl false, .bl false, .bl false]) = Hd at H3 H4 e4 ⊢
  refine ⟨p3, p4, _, _, rfl, rfl, H3, H4, szl 11 (by omega), fun p5 hp5 => ?_⟩
  have H5 : upd Hd p5 (.lst (([.bl false, .bl false, .bl false, .bl false] ++ [.bl false, .bl true, .bl false, .bl false]) ++ [.bl false, .bl false, .bl false])) p5 = some (.lst [.bl false, .bl false, .bl false, .bl false, .bl false, .bl true, .bl false, .bl false, .bl false, .bl false, .bl false]) := upd_same
  have e5 : Ex H (upd Hd p5 (.lst (([.bl false, .bl false, .bl false, .bl false] ++ [.bl false, .bl true, .bl false, .bl false]) ++ [.bl false, .bl false, .bl false]))) := e4.trans (Evl.Ex.new hp5)
  generalize upd Hd p5 (.lst (([.bl false, .bl false, .bl false, .bl false] ++ [.bl false, .bl true, .bl false, .bl false]) ++ [.bl false, .bl false, .bl false])) = Hq at H5 e5 ⊢
  clear HH
  have HH := e5 _ _ K1
  refine ⟨fun σ' H' => σ' = [some (.ref a), some (.str "BadText BadSort BadLine BadModel BadPlan BadValue BadEdit TooMany TooLong NothingToUndo NothingToRedo"), some (.ref p5)] ∧ Hq = H', ?_, ?_⟩
  · refine ⟨_, rfl, .inl ⟨rfl, _, SqL.of H5⟩, p5, _, .bl true, rfl, rfl, SqL.of H5, rfl, rfl, rfl, false, rfl, ?_⟩
    exact ⟨_, rfl, .ref (He.ga K "HoldError"), .ref (He.ga K "HoldError"), true, d, rfl, rfl, HH, fun u h => h, T.q_BadValue (.ref (He.ga K "HoldError"), true) (.head _), _, rfl, _, rfl, .ty "ValueError", .type "ValueError", true, d, rfl, rfl, HH, fun u h => h, T.q_BadValue (.type "ValueError", true) (.tail _ (.tail _ (.tail _ (.tail _ (.tail _ (.tail _ (.tail _ (.tail _ (.tail _ (.tail _ (.tail _ (.tail _ (.head _))))))))))))), _, rfl, rfl, rfl⟩
  · rintro σ' H' ⟨rfl, rfl⟩
    have hsp : (Txt.split (Str.ofString "BadText BadSort BadLine BadModel BadPlan BadValue BadEdit TooMany TooLong NothingToUndo NothingToRedo") (Str.ofString " "))[5]? = some (Str.ofString "BadValue") := by decide +kernel
    refine ⟨_, rfl, ⟨_, rfl⟩, _, _, rfl, rfl, by decide +kernel, Nat.le_trans (show _ ≤ 1000 by decide +kernel) (szl 1000 (by omega)), fun p6 hp6 => ?_⟩
    have H6 : upd Hq p6 (.lst ((Txt.split (Str.ofString "BadText BadSort BadLine BadModel BadPlan BadValue BadEdit TooMany TooLong NothingToUndo NothingToRedo") (Str.ofString " ")).map V.str)) p6 = some (.lst ((Txt.split (Str.ofString "BadText BadSort BadLine BadModel BadPlan BadValue BadEdit TooMany TooLong NothingToUndo NothingToRedo") (Str.ofString " ")).map V.str)) := upd_same
    replace H5 : upd Hq p6 (.lst ((Txt.split (Str.ofString "BadText BadSort BadLine BadModel BadPlan BadValue BadEdit TooMany TooLong NothingToUndo NothingToRedo") (Str.ofString " ")).map V.str)) p5 = some (.lst [.bl false, .bl false, .bl false, .bl false, .bl false, .bl true, .bl false, .bl false, .bl false, .bl false, .bl false]) := by rw [upd_ne (ne_of_none H5 hp6)]; exact H5
    have e6 : Ex H (upd Hq p6 (.lst ((Txt.split (Str.ofString "BadText BadSort BadLine BadModel BadPlan BadValue BadEdit TooMany TooLong NothingToUndo NothingToRedo") (Str.ofString " ")).map V.str))) := e5.trans (Evl.Ex.new hp6)
    generalize upd Hq p6 (.lst ((Txt.split (Str.ofString "BadText BadSort BadLine BadModel BadPlan BadValue BadEdit TooMany TooLong NothingToUndo NothingToRedo") (Str.ofString " ")).map V.str)) = Hf at H5 H6 e6 ⊢
    have hget : ((Txt.split (Str.ofString "BadText BadSort BadLine BadModel BadPlan BadValue BadEdit TooMany TooLong NothingToUndo NothingToRedo") (Str.ofString " ")).map V.str)[5]? = some (.str "BadValue") := by rw [List.getElem?_map, hsp]; rfl
    refine ⟨_, rfl, .inl ⟨rfl, _, SqL.of H5⟩, p5, _, .bl true, 5, .bl true, rfl, rfl, SqL.of H5, rfl, rfl, rfl, rfl, fun m z' hm hz' => ?_, p6, _, _, _, rfl, rfl, SqL.of H6, at_nat hget, q Hf e6⟩
    rcases m with _ | _ | _ | _ | _ | m
    · cases hz'; rfl
    · cases hz'; rfl
    · cases hz'; rfl
    · cases hz'; rfl
    · cases hz'; rfl
    · exact absurd hm (by omega)

theorem ok_attrBadValue (T : Txt K mg) {a d : Addr} {oe : Obj} {z : Str} (hc : oe.cls = .ref (He.ga K "BadValue")) (hd : oe.dict = some d) (hf : ∃ vs, oe.data = .fields vs) :
    CalP P w K mg base 1 "_law_attributes" ["e", "name"] (a, oe) (spAttr a d "name" z "BadValue") := by
  have hx := T.x_BadValue.excC
  refine mkCalP T.g__law_attributes T.d__law_attributes sc_law_attributes (fun _ _ _ _ _ _ us hl => match us, hl with | [_, _], _ => rfl) (fun vs H Q E h => ?_) fun cdv A outer s H vs Q hr h => ?_
  · obtain ⟨rfl, _⟩ := h; rfl
  obtain ⟨rfl, HH, q⟩ := h
  have szl : ∀ m : Nat, m ≤ 200000 → m ≤ sizeLine := fun m h => Nat.le_trans h (by decide)
  refine ⟨_, (pss_cons (ps_if (pt_cmpR (inL (K := K)) (pv 1) (pe_tup (pa_cons pe_str (pa_cons pe_str pa_nil))) (by rfl)) pss_noX pss_nil)
    (pss_cons (ps_if (pt_cmpR op_eq (pv 1) pe_str (nomark _)) pss_noX pss_nil)
    (pss_cons (ps_if (pt_cmpR (inL (K := K)) (pv 1) (pe_tup (pa_cons pe_str (pa_cons pe_str pa_nil))) (by rfl)) (pss_one (ps_ret (pe_tup (pa_cons (pe_atP hx (.head _) hc hd hf T.x_BadValue.noF.1 (pv 0)) pa_nil)))) pss_nil)
    pss_noX))), ?_⟩
  refine ⟨_, rfl, szl 2 (by omega), fun p1 hp1 => ⟨p1, _, rfl, .inr (SqT.of upd_same), rfl, rfl, false, congrArg V.bl (by decide +kernel), ?_⟩⟩
  have e1 := (Evl.Ex.refl H).trans (Evl.Ex.new hp1 (o := .tup [.str "BadText", .str "BadSort"]))
  generalize upd H p1 (.tup [.str "BadText", .str "BadSort"]) = H1 at e1 ⊢
  refine ⟨_, rfl, rfl, false, congrArg V.bl (by decide +kernel), ?_⟩
  refine ⟨_, rfl, szl 2 (by omega), fun p2 hp2 => ⟨p2, _, rfl, .inr (SqT.of upd_same), rfl, rfl, true, congrArg V.bl (by decide +kernel), ?_⟩⟩
  have e2 := e1.trans (Evl.Ex.new hp2 (o := .tup [.str "BadModel", .str "BadValue"]))
  generalize upd H1 p2 (.tup [.str "BadModel", .str "BadValue"]) = H2 at e2 ⊢
  exact ⟨_, rfl, rfl, d, _, _, rfl, e2 _ _ HH, rfl, szl 1 (by omega), fun p hp => q p _ (Evl.fresh_back e2 hp) (e2.trans (Evl.Ex.new hp)) upd_same⟩

theorem ok_errorBadValue (T : Txt K mg) {a d : Addr} {oe : Obj} {z : Str} (hc : oe.cls = .ref (He.ga K "BadValue")) (hd : oe.dict = some d) (hf : ∃ vs, oe.data = .fields vs) :
    CalP P w K mg base 2 "_law_error" ["error"] (a, oe) (spErr a d "name" z "BadValue") := by
  have C1 := ok_namedBadValue (P := P) (w := w) (base := base) (z := z) T (a := a) hc hd hf
  have C2 := ok_attrBadValue (P := P) (w := w) (base := base) (z := z) T (a := a) hc hd hf
  refine mkCalP T.g__law_error T.d__law_error sc_law_error (fun _ _ _ _ _ _ us hl => match us, hl with | [_], _ => rfl) (fun vs H Q E h => ?_) fun cdv A outer s H vs Q hr h => ?_
  · obtain ⟨rfl, _⟩ := h; rfl
  obtain ⟨rfl, HH, q⟩ := h
  refine ⟨_, (pss_cons (ps_set (i := 1) sc_law_error.nd rfl (Or.inl rfl) (pe_calP C1 (.head _) (hr.mono (by decide)) (pa_cons (pv 0) pa_nil)))
    (pss_one (ps_ret (pe_lst (pa_cons pe_str (pa_cons (pv 1) (pa_cons (pe_calP C2 (.head _) (hr.mono (by decide)) (pa_cons (pv 0) (pa_cons (pv 1) pa_nil))) pa_nil))))))), ?_⟩
  refine ⟨_, rfl, rfl, HH, fun H2 e2 => ?_⟩
  refine ⟨_, rfl, _, rfl, _, rfl, rfl, e2 _ _ HH, fun p H3 hp e3 hp3 => ⟨Nat.le_trans (show 3 ≤ 1000 by decide) (by decide), fun l hl => ?_⟩⟩
  have e23 := e2.trans e3
  refine q l p _ (Evl.fresh_back e23 hl) (Evl.fresh_back e2 hp) (e23.trans (Evl.Ex.new hl)) ?_ upd_same
  rw [upd_ne (ne_of_none hp3 hl)]; exact hp3

theorem ok_namedTooMany (T : Txt K mg) {a d : Addr} {oe : Obj} {z : Str} (hc : oe.cls = .ref (He.ga K "TooMany")) (hd : oe.dict = some d) (hf : ∃ vs, oe.data = .fields vs) :
    CalP P w K mg base 1 "_law_named" ["error"] (a, oe) (spNamed a d "word" z "TooMany") := by
  have hx := T.x_TooMany.excC
  refine mkCalP T.g__law_named T.d__law_named sc_law_named (fun _ _ _ _ _ _ us hl => match us, hl with | [_], _ => rfl) (fun vs H Q E h => ?_) fun cdv A outer s H vs Q hr h => ?_
  · obtain ⟨rfl, _⟩ := h; rfl
  obtain ⟨rfl, HH, q⟩ := h
  refine ⟨_, (pss_cons (ps_set (i := 1) sc_law_named.nd rfl (Or.inl rfl) pe_str)
    (pss_cons (ps_set (i := 2) sc_law_named.nd rfl (Or.inl rfl) (pe_lst (pa_cons (pe_callB (isiP (K := K) (fs := [("word", .str z)]) hx (.head _) hc hd hf) (by rfl) T.n_isinstance (by decide +kernel) (pa_cons (pv 0) (pa_cons (pe_glob (v := .ref (He.ga K "BadText")) rfl T.g_BadText rfl) pa_nil))) (pa_cons (pe_callB (isiP (K := K) (fs := [("word", .str z)]) hx (.head _) hc hd hf) (by rfl) T.n_isinstance (by decide +kernel) (pa_cons (pv 0) (pa_cons (pe_glob (v := .ref (He.ga K "BadSort")) rfl T.g_BadSort rfl) pa_nil))) (pa_cons (pe_callB (isiP (K := K) (fs := [("word", .str z)]) hx (.head _) hc hd hf) (by rfl) T.n_isinstance (by decide +kernel) (pa_cons (pv 0) (pa_cons (pe_glob (v := .ref (He.ga K "BadLine")) rfl T.g_BadLine rfl) pa_nil))) (pa_cons (pe_callB (isiP (K := K) (fs := [("word", .str z)]) hx (.head _) hc hd hf) (by rfl) T.n_isinstance (by decide +kernel) (pa_cons (pv 0) (pa_cons (pe_glob (v := .ref (He.ga K "BadModel")) rfl T.g_BadModel rfl) pa_nil))) pa_nil))))))
    (pss_cons (ps_set (i := 2) sc_law_named.nd rfl (Or.inl rfl) (pe_op op_cat (pv 2) (pe_lst (pa_cons (pe_callB (isiP (K := K) (fs := [("word", .str z)]) hx (.head _) hc hd hf) (by rfl) T.n_isinstance (by decide +kernel) (pa_cons (pv 0) (pa_cons (pe_glob (v := .ref (He.ga K "BadPlan")) rfl T.g_BadPlan rfl) pa_nil))) (pa_cons (pe_callB (isiP (K := K) (fs := [("word", .str z)]) hx (.head _) hc hd hf) (by rfl) T.n_isinstance (by decide +kernel) (pa_cons (pv 0) (pa_cons (pe_glob (v := .ref (He.ga K "BadValue")) rfl T.g_BadValue rfl) pa_nil))) (pa_cons (pe_callB (isiP (K := K) (fs := [("word", .str z)]) hx (.head _) hc hd hf) (by rfl) T.n_isinstance (by decide +kernel) (pa_cons (pv 0) (pa_cons (pe_glob (v := .ref (He.ga K "BadEdit")) rfl T.g_BadEdit rfl) pa_nil))) (pa_cons (pe_callB (isiP (K := K) (fs := [("word", .str z)]) hx (.head _) hc hd hf) (by rfl) T.n_isinstance (by decide +kernel) (pa_cons (pv 0) (pa_cons (pe_glob (v := .ref (He.ga K "TooMany")) rfl T.g_TooMany rfl) pa_nil))) pa_nil)))))))
    (pss_cons (ps_set (i := 2) sc_law_named.nd rfl (Or.inl rfl) (pe_op op_cat (pv 2) (pe_lst (pa_cons (pe_callB (isiP (K := K) (fs := [("word", .str z)]) hx (.head _) hc hd hf) (by rfl) T.n_isinstance (by decide +kernel) (pa_cons (pv 0) (pa_cons (pe_glob (v := .ref (He.ga K "TooLong")) rfl T.g_TooLong rfl) pa_nil))) (pa_cons (pe_callB (isiP (K := K) (fs := [("word", .str z)]) hx (.head _) hc hd hf) (by rfl) T.n_isinstance (by decide +kernel) (pa_cons (pv 0) (pa_cons (pe_glob (v := .ref (He.ga K "NothingToUndo")) rfl T.g_NothingToUndo rfl) pa_nil))) (pa_cons (pe_callB (isiP (K := K) (fs := [("word", .str z)]) hx (.head _) hc hd hf) (by rfl) T.n_isinstance (by decide +kernel) (pa_cons (pv 0) (pa_cons (pe_glob (v := .ref (He.ga K "NothingToRedo")) rfl T.g_NothingToRedo rfl) pa_nil))) pa_nil))))))
    (pss_cut (ps_if (PW.pt (pw_or (pt_cmpR op_ne (pe_bm PySem.F.plainAttrs_list PySem.F.slot_list_count PySem.F.type_list_count (cntF (K := K)) (pv 2) (pa_cons pe_bl pa_nil)) pe_int (nomark _)) (pw_or (pt_not (pt_val (pe_callB (isiP (K := K) (fs := [("word", .str z)]) hx (.head _) hc hd hf) (by rfl) T.n_isinstance (by decide +kernel) (pa_cons (pv 0) (pa_cons (pe_glob (v := .ref (He.ga K "HoldError")) rfl T.g_HoldError rfl) pa_nil))))) (pw_or1 (pt_not (pt_val (pe_callB (isiP (K := K) (fs := [("word", .str z)]) hx (.head _) hc hd hf) (by rfl) T.n_isinstance (by decide +kernel) (pa_cons (pv 0) (pa_cons (pe_bltn (v := .ty "ValueError") rfl T.n_ValueError (by decide +kernel) rfl) pa_nil))))))))) (pss_one (ps_ret pe_str)) pss_nil)
    (pss_one (ps_ret (pe_ix (ixL (K := K)) (pe_split (pv 1) pe_str) (pe_bm PySem.F.plainAttrs_list PySem.F.slot_list_index PySem.F.type_list_index (idxL (K := K)) (pv 2) (pa_cons pe_bl pa_nil)) (fun _ _ => rfl))))))))), ?_⟩
  have szl : ∀ m : Nat, m ≤ 200000 → m ≤ sizeLine := fun m h => Nat.le_trans h (by decide)
  refine ⟨_, rfl, .ref (He.ga K "BadText"), .ref (He.ga K "BadText"), false, d, rfl, rfl, HH, fun u h => h, T.q_TooMany (.ref (He.ga K "BadText"), false) (.tail _ (.head _)), _, rfl, .ref (He.ga K "BadSort"), .ref (He.ga K "BadSort"), false, d, rfl, rfl, HH, fun u h => h, T.q_TooMany (.ref (He.ga K "BadSort"), false) (.tail _ (.tail _ (.head _))), _, rfl, .ref (He.ga K "BadLine"), .ref (He.ga K "BadLine"), false, d, rfl, rfl, HH, fun u h => h, T.q_TooMany (.ref (He.ga K "BadLine"), false) (.tail _ (.tail _ (.tail _ (.head _)))), _, rfl, .ref (He.ga K "BadModel"), .ref (He.ga K "BadModel"), false, d, rfl, rfl, HH, fun u h => h, T.q_TooMany (.ref (He.ga K "BadModel"), false) (.tail _ (.tail _ (.tail _ (.tail _ (.head _))))), szl 4 (by omega), fun p1 hp1 => ?_⟩
  have H1 : upd H p1 (.lst [.bl false, .bl false, .bl false, .bl false]) p1 = some (.lst [.bl false, .bl false, .bl false, .bl false]) := upd_same
  have e1 : Ex H (upd H p1 (.lst [.bl false, .bl false, .bl false, .bl false])) := Evl.Ex.new hp1
  have K1 := HH
  replace HH : upd H p1 (.lst [.bl false, .bl false, .bl false, .bl false]) d = some (.xd [("word", .str z)]) := e1 _ _ HH
  generalize upd H p1 (.lst [.bl false, .bl false, .bl false, .bl false]) = Ha at H1 e1 HH ⊢
  refine ⟨_, rfl, _, rfl, .ref (He.ga K "BadPlan"), .ref (He.ga K "BadPlan"), false, d, rfl, rfl, HH, fun u h => h, T.q_TooMany (.ref (He.ga K "BadPlan"), false) (.tail _ (.tail _ (.tail _ (.tail _ (.tail _ (.head _)))))), _, rfl, .ref (He.ga K "BadValue"), .ref (He.ga K "BadValue"), false, d, rfl, rfl, HH, fun u h => h, T.q_TooMany (.ref (He.ga K "BadValue"), false) (.tail _ (.tail _ (.tail _ (.tail _ (.tail _ (.tail _ (.head _))))))), _, rfl, .ref (He.ga K "BadEdit"), .ref (He.ga K "BadEdit"), false, d, rfl, rfl, HH, fun u h => h, T.q_TooMany (.ref (He.ga K "BadEdit"), false) (.tail _ (.tail _ (.tail _ (.tail _ (.tail _ (.tail _ (.tail _ (.head _)))))))), _, rfl, .ref (He.ga K "TooMany"), .ref (He.ga K "TooMany"), true, d, rfl, rfl, HH, fun u h => h, T.q_TooMany (.ref (He.ga K "TooMany"), true) (.tail _ (.tail _ (.tail _ (.tail _ (.tail _ (.tail _ (.tail _ (.tail _ (.head _))))))))), szl 4 (by omega), fun p2 hp2 => ?_⟩
  have H2 : upd Ha p2 (.lst [.bl false, .bl false, .bl false, .bl true]) p2 = some (.lst [.bl false, .bl false, .bl false, .bl true]) := upd_same
  replace H1 : upd Ha p2 (.lst [.bl false, .bl false, .bl false, .bl true]) p1 = some (.lst [.bl false, .bl false, .bl false, .bl false]) := by rw [upd_ne (ne_of_none H1 hp2)]; exact H1
  have e2 : Ex H (upd Ha p2 (.lst [.bl false, .bl false, .bl false, .bl true])) := e1.trans (Evl.Ex.new hp2)
  generalize upd Ha p2 (.lst [.bl false, .bl false, .bl false, .bl true]) = Hb at H1 H2 e2 ⊢
  refine ⟨p1, p2, _, _, rfl, rfl, H1, H2, szl 8 (by omega), fun p3 hp3 => ?_⟩
  have H3 : upd Hb p3 (.lst ([.bl false, .bl false, .bl false, .bl false] ++ [.bl false, .bl false, .bl false, .bl true])) p3 = some (.lst ([.bl false, .bl false, .bl false, .bl false] ++ [.bl false, .bl false, .bl false, .bl true])) := upd_same
  have e3 : Ex H (upd Hb p3 (.lst ([.bl false, .bl false, .bl false, .bl false] ++ [.bl false, .bl false, .bl false, .bl true]))) := e2.trans (Evl.Ex.new hp3)
  generalize upd Hb p3 (.lst ([.bl false, .bl false, .bl false, .bl false] ++ [.bl false, .bl false, .bl false, .bl true])) = Hc at H3 e3 ⊢
  clear HH
  have HH := e3 _ _ K1
  refine ⟨_, rfl, _, rfl, .ref (He.ga K "TooLong"), .ref (He.ga K "TooLong"), false, d, rfl, rfl, HH, fun u h => h, T.q_TooMany (.ref (He.ga K "TooLong"), false) (.tail _ (.tail _ (.tail _ (.tail _ (.tail _ (.tail _ (.tail _ (.tail _ (.tail _ (.head _)))))))))), _, rfl, .ref (He.ga K "NothingToUndo"), .ref (He.ga K "NothingToUndo"), false, d, rfl, rfl, HH, fun u h => h, T.q_TooMany (.ref (He.ga K "NothingToUndo"), false) (.tail _ (.tail _ (.tail _ (.tail _ (.tail _ (.tail _ (.tail _ (.tail _ (.tail _ (.tail _ (.head _))))))))))), _, rfl, .ref (He.ga K "NothingToRedo"), .ref (He.ga K "NothingToRedo"), false, d, rfl, rfl, HH, fun u h => h, T.q_TooMany (.ref (He.ga K "NothingToRedo"), false) (.tail _ (.tail _ (.tail _ (.tail _ (.tail _ (.tail _ (.tail _ (.tail _ (.tail _ (.tail _ (.tail _ (.head _)))))))))))), szl 3 (by omega), fun p4 hp4 => ?_⟩
  have H4 : upd Hc p4 (.lst [.bl false, .bl false, .bl false]) p4 = some (.lst [.bl false, .bl false, .bl false]) := upd_same
  replace H3 : upd Hc p4 (.lst [.bl false, .bl false, .bl false]) p3 = some (.lst ([.bl false, .bl false, .bl false, .bl false] ++ [.bl false, .bl false, .bl false, .bl true])) := by rw [upd_ne (ne_of_none H3 hp4)]; exact H3
  have e4 : Ex H (upd Hc p4 (.lst [.bl false, .bl false, .bl false])) := e3.trans (Evl.Ex.new hp4)
  generalize upd Hc p4 (.lst [.bl false, .bl false, .bl false]) = Hd at H3 H4 e4 ⊢
  refine ⟨p3, p4, _, _, rfl, rfl, H3, H4, szl 11 (by omega), fun p5 hp5 => ?_⟩
  have H5 : upd Hd p5 (.lst (([.bl false, .bl false, .bl false, .bl false] ++ [.bl false, .bl false, .bl false, .bl true]) ++ [.bl false, .bl false, .bl false])) p5 = some (.lst [.bl false, .bl false, .bl false, .bl false, .bl false, .bl false, .bl false, .bl true, .bl false, .bl false, .bl false]) := upd_same
  have e5 : Ex H (upd Hd p5 (.lst (([.bl false, .bl false, .bl false, .bl false] ++ [.bl false, .bl false, .bl false, .bl true]) ++ [.bl false, .bl false, .bl false]))) := e4.trans (Evl.Ex.new hp5)
  generalize upd Hd p5 (.lst (([.bl false, .bl false, .bl false, .bl false] ++ [.bl false, .bl false, .bl false, .bl true]) ++ [.bl false, .bl false, .bl false])) = Hq at H5 e5 ⊢
  clear HH
  have HH := e5 _ _ K1
  refine ⟨fun σ' H' => σ' = [some (.ref a), some (.str "BadText BadSort BadLine BadModel BadPlan BadValue BadEdit TooMany TooLong NothingToUndo NothingToRedo"), some (.ref p5)] ∧ Hq = H', ?_, ?_⟩
  · refine ⟨_, rfl, .inl ⟨rfl, _, SqL.of H5⟩, p5, _, .bl true, rfl, rfl, SqL.of H5, rfl, rfl, rfl, false, rfl, ?_⟩
    exact ⟨_, rfl, .ref (He.ga K "HoldError"), .ref (He.ga K "HoldError"), true, d, rfl, rfl, HH, fun u h => h, T.q_TooMany (.ref (He.ga K "HoldError"), true) (.head _), _, rfl, _, rfl, .ty "ValueError", .type "ValueError", true, d, rfl, rfl, HH, fun u h => h, T.q_TooMany (.type "ValueError", true) (.tail _ (.tail _ (.tail _ (.tail _ (.tail _ (.tail _ (.tail _ (.tail _ (.tail _ (.tail _ (.tail _ (.tail _ (.head _))))))))))))), _, rfl, rfl, rfl⟩
  · rintro σ' H' ⟨rfl, rfl⟩
    have hsp : (Txt.split (Str.ofString "BadText BadSort BadLine BadModel BadPlan BadValue BadEdit TooMany TooLong NothingToUndo NothingToRedo") (Str.ofString " "))[7]? = some (Str.ofString "TooMany") := by decide +kernel
    refine ⟨_, rfl, ⟨_, rfl⟩, _, _, rfl, rfl, by decide +kernel, Nat.le_trans (show _ ≤ 1000 by decide +kernel) (szl 1000 (by omega)), fun p6 hp6 => ?_⟩
    have H6 : upd Hq p6 (.lst ((Txt.split (Str.ofString "BadText BadSort BadLine BadModel BadPlan BadValue BadEdit TooMany TooLong NothingToUndo NothingToRedo") (Str.ofString " ")).map V.str)) p6 = some (.lst ((Txt.split (Str.ofString "BadText BadSort BadLine BadModel BadPlan BadValue BadEdit TooMany TooLong NothingToUndo NothingToRedo") (Str.ofString " ")).map V.str)) := upd_same
    replace H5 : upd Hq p6 (.lst ((Txt.split (Str.ofString "BadText BadSort BadLine BadModel BadPlan BadValue BadEdit TooMany TooLong NothingToUndo NothingToRedo") (Str.ofString " ")).map V.str)) p5 = some (.lst [.bl false, .bl false, .bl false, .bl false, .bl false, .bl false, .bl false, .bl true, .bl false, .bl false, .bl false]) := by rw [upd_ne (ne_of_none H5 hp6)]; exact H5
    have e6 : Ex H (upd Hq p6 (.lst ((Txt.split (Str.ofString "BadText BadSort BadLine BadModel BadPlan BadValue BadEdit TooMany TooLong NothingToUndo NothingToRedo") (Str.ofString " ")).map V.str))) := e5.trans (Evl.Ex.new hp6)
    generalize upd Hq p6 (.lst ((Txt.split (Str.ofString "BadText BadSort BadLine BadModel BadPlan BadValue BadEdit TooMany TooLong NothingToUndo NothingToRedo") (Str.ofString " ")).map V.str)) = Hf at H5 H6 e6 ⊢
    have hget : ((Txt.split (Str.ofString "BadText BadSort BadLine BadModel BadPlan BadValue BadEdit TooMany TooLong NothingToUndo NothingToRedo") (Str.ofString " ")).map V.str)[7]? = some (.str "TooMany") := by rw [List.getElem?_map, hsp]; rfl
    refine ⟨_, rfl, .inl ⟨rfl, _, SqL.of H5⟩, p5, _, .bl true, 7, .bl true, rfl, rfl, SqL.of H5, rfl, rfl, rfl, rfl, fun m z' hm hz' => ?_, p6, _, _, _, rfl, rfl, SqL.of H6, at_nat hget, q Hf e6⟩
    rcases m with _ | _ | _ | _ | _ | _ | _ | m
    · cases hz'; rfl
    · cases hz'; rfl
    · cases hz'; rfl
    · cases hz'; rfl
    · cases hz'; rfl
    · cases hz'; rfl
    · cases hz'; rfl
    · exact absurd hm (by omega)

theorem ok_attrTooMany (T : Txt K mg) {a d : Addr} {oe : Obj} {z : Str} (hc : oe.cls = .ref (He.ga K "TooMany")) (hd : oe.dict = some d) (hf : ∃ vs, oe.data = .fields vs) :
    CalP P w K mg base 1 "_law_attributes" ["e", "name"] (a, oe) (spAttr a d "word" z "TooMany") := by
  have hx := T.x_TooMany.excC
  refine mkCalP T.g__law_attributes T.d__law_attributes sc_law_attributes (fun _ _ _ _ _ _ us hl => match us, hl with | [_, _], _ => rfl) (fun vs H Q E h => ?_) fun cdv A outer s H vs Q hr h => ?_
  · obtain ⟨rfl, _⟩ := h; rfl
  obtain ⟨rfl, HH, q⟩ := h
  have szl : ∀ m : Nat, m ≤ 200000 → m ≤ sizeLine := fun m h => Nat.le_trans h (by decide)
  refine ⟨_, (pss_cons (ps_if (pt_cmpR (inL (K := K)) (pv 1) (pe_tup (pa_cons pe_str (pa_cons pe_str pa_nil))) (by rfl)) pss_noX pss_nil)
    (pss_cons (ps_if (pt_cmpR op_eq (pv 1) pe_str (nomark _)) pss_noX pss_nil)
    (pss_cons (ps_if (pt_cmpR (inL (K := K)) (pv 1) (pe_tup (pa_cons pe_str (pa_cons pe_str pa_nil))) (by rfl)) pss_noX pss_nil)
    (pss_cons (ps_if (pt_cmpR op_eq (pv 1) pe_str (nomark _)) pss_noX pss_nil)
    (pss_cons (ps_if (pt_cmpR (inL (K := K)) (pv 1) (pe_tup (pa_cons pe_str (pa_cons pe_str pa_nil))) (by rfl)) (pss_one (ps_ret (pe_tup (pa_cons (pe_atP hx (.head _) hc hd hf T.x_TooMany.noF.2 (pv 0)) pa_nil)))) pss_nil)
    pss_noX))))), ?_⟩
  refine ⟨_, rfl, szl 2 (by omega), fun p1 hp1 => ⟨p1, _, rfl, .inr (SqT.of upd_same), rfl, rfl, false, congrArg V.bl (by decide +kernel), ?_⟩⟩
  have e1 := (Evl.Ex.refl H).trans (Evl.Ex.new hp1 (o := .tup [.str "BadText", .str "BadSort"]))
  generalize upd H p1 (.tup [.str "BadText", .str "BadSort"]) = H1 at e1 ⊢
  refine ⟨_, rfl, rfl, false, congrArg V.bl (by decide +kernel), ?_⟩
  refine ⟨_, rfl, szl 2 (by omega), fun p2 hp2 => ⟨p2, _, rfl, .inr (SqT.of upd_same), rfl, rfl, false, congrArg V.bl (by decide +kernel), ?_⟩⟩
  have e2 := e1.trans (Evl.Ex.new hp2 (o := .tup [.str "BadModel", .str "BadValue"]))
  generalize upd H1 p2 (.tup [.str "BadModel", .str "BadValue"]) = H2 at e2 ⊢
  refine ⟨_, rfl, rfl, false, congrArg V.bl (by decide +kernel), ?_⟩
  refine ⟨_, rfl, szl 2 (by omega), fun p3 hp3 => ⟨p3, _, rfl, .inr (SqT.of upd_same), rfl, rfl, true, congrArg V.bl (by decide +kernel), ?_⟩⟩
  have e3 := e2.trans (Evl.Ex.new hp3 (o := .tup [.str "BadEdit", .str "TooMany"]))
  generalize upd H2 p3 (.tup [.str "BadEdit", .str "TooMany"]) = H3 at e3 ⊢
  exact ⟨_, rfl, rfl, d, _, _, rfl, e3 _ _ HH, rfl, szl 1 (by omega), fun p hp => q p _ (Evl.fresh_back e3 hp) (e3.trans (Evl.Ex.new hp)) upd_same⟩

theorem ok_errorTooMany (T : Txt K mg) {a d : Addr} {oe : Obj} {z : Str} (hc : oe.cls = .ref (He.ga K "TooMany")) (hd : oe.dict = some d) (hf : ∃ vs, oe.data = .fields vs) :
    CalP P w K mg base 2 "_law_error" ["error"] (a, oe) (spErr a d "word" z "TooMany") := by
  have C1 := ok_namedTooMany (P := P) (w := w) (base := base) (z := z) T (a := a) hc hd hf
  have C2 := ok_attrTooMany (P := P) (w := w) (base := base) (z := z) T (a := a) hc hd hf
  refine mkCalP T.g__law_error T.d__law_error sc_law_error (fun _ _ _ _ _ _ us hl => match us, hl with | [_], _ => rfl) (fun vs H Q E h => ?_) fun cdv A outer s H vs Q hr h => ?_
  · obtain ⟨rfl, _⟩ := h; rfl
  obtain ⟨rfl, HH, q⟩ := h
  refine ⟨_, (pss_cons (ps_set (i := 1) sc_law_error.nd rfl (Or.inl rfl) (pe_calP C1 (.head _) (hr.mono (by decide)) (pa_cons (pv 0) pa_nil)))
    (pss_one (ps_ret (pe_lst (pa_cons pe_str (pa_cons (pv 1) (pa_cons (pe_calP C2 (.head _) (hr.mono (by decide)) (pa_cons (pv 0) (pa_cons (pv 1) pa_nil))) pa_nil))))))), ?_⟩
  refine ⟨_, rfl, rfl, HH, fun H2 e2 => ?_⟩
  refine ⟨_, rfl, _, rfl, _, rfl, rfl, e2 _ _ HH, fun p H3 hp e3 hp3 => ⟨Nat.le_trans (show 3 ≤ 1000 by decide) (by decide), fun l hl => ?_⟩⟩
  have e23 := e2.trans e3
  refine q l p _ (Evl.fresh_back e23 hl) (Evl.fresh_back e2 hp) (e23.trans (Evl.Ex.new hl)) ?_ upd_same
  rw [upd_ne (ne_of_none hp3 hl)]; exact hp3

end
end K43
namespace K43
open PySem PySem.Spec PyProof.Rows L2 Hx Hd M43
open Evl (pss_cut tCut ex_l ex_t)
open L2H
def isEnd (c : Str) : Prop := c = Str.ofString "highest" ∨ c = Str.ofString "is_highest"
def isOne (c : Str) : Prop := c = Str.ofString "settled" ∨ c = Str.ofString "highest"
def Rsd (Q : VK) (H : Hp) (cls z : Str) : Prop := ∀ l p H2, Ex H H2 → H2 p = some (.tup [.str z]) → H2 l = some (.lst [.str "raised", .str cls, .ref p]) → Q (.ref l) H2
def Tld (Q : VK) (H : Hp) : Prop := ∀ l v H2, Ex H H2 → H2 l = some (.lst [.str "told", v]) → Q (.ref l) H2
theorem Rsd.mono {Q : VK} {H H1 : Hp} {c z : Str} (h : Rsd Q H c z) (e : Ex H H1) : Rsd Q H1 c z := fun l p H2 e2 => h l p H2 (e.trans e2)
/-- what the handler is for -/
def t_hand (K : PySem.W.Frag) : Addr → Value → Option Addr → TS := fun a cls d D σ H => σ[5]? = some (some (.ref a)) ∧
  ((∃ z dd, cls = .ref (He.ga K "BadValue") ∧ d = some dd ∧ Hnd dd "name" z H ∧ Rsd D.rt H "BadValue" z) ∨
   (∃ z dd, cls = .ref (He.ga K "TooMany") ∧ d = some dd ∧ Hnd dd "word" z H ∧ Rsd D.rt H "TooMany" z))
section
variable {P : Program} {w : World} {K : PySem.W.Frag} {mg : Str → Option Value} {base : Heap}
def spTold (K : PySem.W.Frag) : Sp := fun vs H Q _ => ∃ c b db x dx y dy v, vs = [.str c, b, x, y, v] ∧ (c = Str.ofString "settled" ∨ c = Str.ofString "is_settled" ∨ c = Str.ofString "highest" ∨ c = Str.ofString "is_highest") ∧ Dt H b db ∧ Dt H x dx ∧ Dt H y dy ∧ Dt H v (.tuple [.str "ring", .tuple []]) ∧ (∀ ds, db = .list ds → ds.length ≤ 1001) ∧
  (isBds db = false → Rsd Q H "BadValue" "bounds") ∧ (isBds db = true → isEnd c → isStr dx = false → Rsd Q H "BadValue" "x") ∧ (isBds db = true → isEnd c → isStr dx = true → isStr dy = false → Rsd Q H "BadValue" "y") ∧
  ∀ es : List Bd, db = .list (es.map encB) → (isEnd c → isStr dx = true ∧ isStr dy = true) → (isOne c → 1000 < es.length → Rsd Q H "TooMany" "bounds") ∧ ((isOne c → es.length ≤ 1000) → Tld Q H)
abbrev N_law_told : List Str := ["call", "bounds", "x", "y", "value", "e"]
theorem sc_law_told : FnScope N_law_told ["call", "bounds", "x", "y", "value"] (defScope (top 71)) := ⟨rfl, rfl, rfl, by decide +kernel, rfl, by decide +kernel, by decide +kernel⟩
theorem ok_told (T : Txt K mg) (C_settled : Cal P w K mg base (L2.CX P w) 5 "settled" ["bounds"] (spSet K)) (C_is_settled : Cal P w K mg base (L2.CX P w) 5 "is_settled" ["bounds", "value"] (spIsSet K)) (C_highest : Cal P w K mg base (L2.CX P w) 6 "highest" ["bounds", "x", "y"] (spHigh K))
    (C_is_highest : Cal P w K mg base (L2.CX P w) 6 "is_highest" ["bounds", "x", "y", "value"] (spIsHigh K)) : Cal P w K mg base CX0 7 "_law_told" ["call", "bounds", "x", "y", "value"] (spTold K) := by
  obtain ⟨gS, fdS, kS, FS, bS⟩ := C_settled
  obtain ⟨gI, fdI, kI, FI, bI⟩ := C_is_settled
  obtain ⟨gH, fdH, kH, FH, bH⟩ := C_highest
  obtain ⟨gJ, fdJ, kJ, FJ, bJ⟩ := C_is_highest
  refine mkCal T.g__law_told T.d__law_told sc_law_told (fun _ _ _ _ _ _ us hl => match us, hl with | [_, _, _, _, _], _ => rfl) (fun vs H Q E h => ?_) fun cdv A outer s0 H vs Q E hr h => ?_
  · obtain ⟨_, _, _, _, _, _, _, _, rfl, _⟩ := h; rfl
  obtain ⟨c, b, db, x, dx, y, dy, v, rfl, hc, hb, hx, hy, hv, hz, q1, q2, q3, q4⟩ := h
  refine ⟨_, (pss_one (ps_try_as (i := 5) (tb := fun W => tSeq (tIfS (tTest (tOp rEq (tVar 0) (tC (.str "settled")))) (tRet (tLst (tCons (tC (.str "told")) (tCons (tCallS (spSet K) (WE W) (tCons (tVar 1) tNil)) tNil)))) tNext)
      (tSeq (tIfS (tTest (tOp rEq (tVar 0) (tC (.str "is_settled")))) (tRet (tLst (tCons (tC (.str "told")) (tCons (tCallS (spIsSet K) (WE W) (tCons (tVar 1) (tCons (tVar 4) tNil))) tNil)))) tNext)
      (tSeq (tIfS (tTest (tOp rEq (tVar 0) (tC (.str "highest")))) (tRet (tLst (tCons (tC (.str "told")) (tCons (tCallS (spHigh K) (WE W) (tCons (tVar 1) (tCons (tVar 2) (tCons (tVar 3) tNil)))) tNil)))) tNext)
      (tRet (tLst (tCons (tC (.str "told")) (tCons (tCallS (spIsHigh K) (WE W) (tCons (tVar 1) (tCons (tVar 2) (tCons (tVar 3) (tCons (tVar 4) tNil))))) tNil)))))))
      (ts := t_hand K) (Wout := fun _ _ _ _ => False) rfl rfl sc_law_told.nd rfl rfl ⟨rfl, by decide, Or.inl T.g_HoldError⟩ takes0
        (fun W pn xe tk _ => pss_cons (ps_if (pt_cmpR op_eq (pv 0) pe_str (nomark _)) (pss_one (ps_ret (by exact (pe_lst (pa_cons pe_str (pa_cons (pe_callS FS (hr.mono (by decide)) rfl gS kS bS (fun σ => passAt tk σ) (by exact (pa_cons (pv 1) pa_nil))) pa_nil)))))) pss_nil)
          (pss_cons (ps_if (pt_cmpR op_eq (pv 0) pe_str (nomark _)) (pss_one (ps_ret (by exact (pe_lst (pa_cons pe_str (pa_cons (pe_callS FI (hr.mono (by decide)) rfl gI kI bI (fun σ => passAt tk σ) (by exact (pa_cons (pv 1) (pa_cons (pv 4) pa_nil)))) pa_nil)))))) pss_nil)
          (pss_cons (ps_if (pt_cmpR op_eq (pv 0) pe_str (nomark _)) (pss_one (ps_ret (by exact (pe_lst (pa_cons pe_str (pa_cons (pe_callS FH (hr.mono (by decide)) rfl gH kH bH (fun σ => passAt tk σ) (by exact (pa_cons (pv 1) (pa_cons (pv 2) (pa_cons (pv 3) pa_nil))))) pa_nil)))))) pss_nil)
          (pss_one (ps_ret (by exact (pe_lst (pa_cons pe_str (pa_cons (pe_callS FJ (hr.mono (by decide)) rfl gJ kJ bJ (fun σ => passAt tk σ) (by exact (pa_cons (pv 1) (pa_cons (pv 2) (pa_cons (pv 3) (pa_cons (pv 4) pa_nil)))))) pa_nil)))))))))
        (fun a oe cls d pn hz hf => ⟨fun pins s σ H D I h => by
          obtain ⟨hσ, ⟨z, dd, e1, e2, hh, q⟩ | ⟨z, dd, e1, e2, hh, q⟩⟩ := h
          · exact PSs.run (t := tRet (tCall (spErr a dd "name" z "BadValue") [] E0 (tCons (tVar 5) tNil))) (pss_one (ps_ret (pe_calP (ok_errorBadValue (z := z) T (hz.1.trans e1) (hz.2.trans e2) hf) (.head _) ((roomH_mark hr (some (.ref a))).mono (by decide)) (pa_cons (pv 5) pa_nil)))) pins s σ H D I ⟨_, hσ, rfl, hh, fun l p H2 h1 h2 h3 h4 h5 => q l p H2 h3 h4 h5⟩
          · exact PSs.run (t := tRet (tCall (spErr a dd "word" z "TooMany") [] E0 (tCons (tVar 5) tNil))) (pss_one (ps_ret (pe_calP (ok_errorTooMany (z := z) T (hz.1.trans e1) (hz.2.trans e2) hf) (.head _) ((roomH_mark hr (some (.ref a))).mono (by decide)) (pa_cons (pv 5) pa_nil)))) pins s σ H D I ⟨_, hσ, rfl, hh, fun l p H2 h1 h2 h3 h4 h5 => q l p H2 h3 h4 h5⟩⟩))), ?_⟩
  have er : ∀ (z : Str) (D : Ends) (H1 : Hp), Rsd D.rt H1 "BadValue" z → Err (He.ga K "BadValue") "name" z H1 (WE (wAs K (.ref (He.ga K "HoldError")) 5 (t_hand K) (fun _ _ _ _ => False) D) [some (.str c), some b, some x, some y, some v, none]) := fun z D H1 hq dx H6 e6 hn hx6 => ⟨true, T.x_BadValue.exm, fun _ aa haa => ⟨rfl, .inl ⟨z, dx, rfl, rfl, hx6, hq.mono e6⟩⟩, fun z => nomatch z⟩
  have et : ∀ (z : Str) (D : Ends) (H1 : Hp), Rsd D.rt H1 "TooMany" z → Err (He.ga K "TooMany") "word" z H1 (WE (wAs K (.ref (He.ga K "HoldError")) 5 (t_hand K) (fun _ _ _ _ => False) D) [some (.str c), some b, some x, some y, some v, none]) := fun z D H1 hq dx H6 e6 hn hx6 => ⟨true, T.x_TooMany.exm, fun _ aa haa => ⟨rfl, .inr ⟨z, dx, rfl, rfl, hx6, hq.mono e6⟩⟩, fun z => nomatch z⟩
  have hz1 : ∀ ds, db = .list ds → ds.length ≤ 100000 := fun ds h => Nat.le_trans (hz ds h) (by decide)
  have td : ∀ r, Tld Q H → ∀ H1, Ex H H1 → ([V.str (Str.ofString "told"), r].length ≤ sizeLine ∧ ∀ p, H1 p = none → Q (.ref p) (upd H1 p (.lst [V.str (Str.ofString "told"), r]))) := fun r hq H1 e1 => ⟨Nat.le_of_lt (sz 2 (by omega)), fun p hp => hq p r _ (e1.trans (Evl.Ex.new hp)) upd_same⟩
  rcases hc with rfl | rfl | rfl | rfl
  · refine ⟨_, rfl, rfl, true, congrArg V.bl (by decide +kernel), ?_⟩
    refine ⟨_, rfl, b, db, rfl, hb, hz1, fun hw => er _ _ _ (q1 hw), fun es hes => ?_⟩
    have q5 := q4 es hes (fun h => by rcases h with h | h <;> exact absurd h (by decide +kernel))
    refine ⟨fun h => et _ _ _ (q5.1 (.inl rfl) h), fun h => ⟨fun _ t p H2 _ _ e2 _ _ => td _ (q5.2 fun _ => h) H2 e2, fun _ t r xs way H2 _ _ _ e2 _ _ _ => td _ (q5.2 fun _ => h) H2 e2⟩⟩
  · refine ⟨_, rfl, rfl, false, congrArg V.bl (by decide +kernel), ?_⟩
    refine ⟨_, rfl, rfl, true, congrArg V.bl (by decide +kernel), ?_⟩
    refine ⟨_, rfl, _, rfl, b, db, v, _, rfl, hb, hv, hz1, fun hw => er _ _ _ (q1 hw), fun es hes H2 e2 => ?_⟩
    have q5 := q4 es hes (fun h => by rcases h with h | h <;> exact absurd h (by decide +kernel))
    exact td _ (q5.2 fun h => by rcases h with h | h <;> exact absurd h (by decide +kernel)) H2 e2
  · refine ⟨_, rfl, rfl, false, congrArg V.bl (by decide +kernel), ?_⟩
    refine ⟨_, rfl, rfl, false, congrArg V.bl (by decide +kernel), ?_⟩
    refine ⟨_, rfl, rfl, true, congrArg V.bl (by decide +kernel), ?_⟩
    refine ⟨_, rfl, _, rfl, _, rfl, b, db, x, dx, y, dy, rfl, hb, hx, hy, hz1, fun hw => er _ _ _ (q1 hw), fun hw h => er _ _ _ (q2 hw (.inl rfl) h), fun hw h1 h2 => er _ _ _ (q3 hw (.inl rfl) h1 h2), fun es zx zy hes hx1 hy1 => ?_⟩
    have q5 := q4 es hes (fun _ => by subst hx1 hy1; exact ⟨rfl, rfl⟩)
    exact ⟨fun h => et _ _ _ (q5.1 (.inr rfl) h), fun h => ⟨fun _ t r xs way H2 _ _ _ e2 _ _ _ => td _ (q5.2 fun _ => h) H2 e2, fun _ _ t p l ls H2 _ _ _ _ _ _ e2 _ _ _ => td _ (q5.2 fun _ => h) H2 e2, fun _ D _ t r p xs way H2 _ _ _ _ _ _ _ e2 _ _ _ _ => td _ (q5.2 fun _ => h) H2 e2⟩⟩
  · refine ⟨_, rfl, rfl, false, congrArg V.bl (by decide +kernel), ?_⟩
    refine ⟨_, rfl, rfl, false, congrArg V.bl (by decide +kernel), ?_⟩
    refine ⟨_, rfl, rfl, false, congrArg V.bl (by decide +kernel), ?_⟩
    refine ⟨_, rfl, _, rfl, _, rfl, _, rfl, b, db, x, dx, y, dy, v, _, rfl, hb, hx, hy, hv, hz, (fun d0 d1 ds h => by injection h with h; injection h with _ h; injection h with _ h; cases h), fun hw => er _ _ _ (q1 hw), fun hw h => er _ _ _ (q2 hw (.inr rfl) h), fun hw h1 h2 => er _ _ _ (q3 hw (.inr rfl) h1 h2), fun es zx zy hes hx1 hy1 H2 e2 => ?_⟩
    have q5 := q4 es hes (fun _ => by subst hx1 hy1; exact ⟨rfl, rfl⟩)
    exact td _ (q5.2 fun h => by rcases h with h | h <;> exact absurd h (by decide +kernel)) H2 e2
end
end K43
namespace K43
open PySem PySem.Spec PyProof.Rows L2 Hx Hd M43
open Evl (pss_cut tCut ex_l ex_t)
/-- a bad value of bounds -/
def BadD (d : PyData) : Prop := isBds d = false ∧ Fit 4 d ∧ ∀ ds, d = .list ds → ds.length ≤ 1001
structure Rf (s L g : Addr) (G0 H0 : Hp) (xs : List V) (es : List Bd) (G H : Hp) (vs : List V) : Prop where
  ga : Ga s L G0 H0 G H
  hg : G g = some (.lst xs)
  pr : Paired (Tb G) xs es
  vs : Vs BadD G vs
section
variable {s L g p : Addr} {G0 H0 G H : Hp} {xs : List V} {es : List Bd} {vs : List V}
theorem Rf.nx (r : Rf s L g G0 H0 xs es G H vs) {o : HO} (hp : H p = none) : Rf s L g G0 H0 xs es (upd G p o) (upd H p o) vs :=
  ⟨r.ga.new hp, r.ga.fr hp _ _ r.hg, paired_exB (r.ga.fr hp) r.pr, r.vs.ex (r.ga.fr hp)⟩
theorem Rf.ly (r : Rf s L g G0 H0 xs es G H vs) {o : HO} (hp : H p = none) : Rf s L g G0 H0 xs es G (upd H p o) vs := ⟨r.ga.lay hp, r.hg, r.pr, r.vs⟩
theorem Rf.ad (r : Rf s L g G0 H0 xs es G H vs) {v : V} {d : PyData} (h : Dt G v d) (b : BadD d) : Rf s L g G0 H0 xs es G H (vs ++ [v]) := ⟨r.ga, r.hg, r.pr, r.vs.app (Vs.one h b)⟩
theorem dta_app {G : Hp} {xs ys : List V} : ∀ {as bs : List PyData}, DtAll G xs as → DtAll G ys bs → DtAll G (xs ++ ys) (as ++ bs) := by
  intro as
  induction as generalizing xs with
  | nil => intro bs h k; cases h; exact k
  | cons a as ih =>
    intro bs h k
    cases h with
    | cons h1 h2 => exact .cons h1 (ih h2 k)
theorem all_app_false {as bs : List PyData} {d : PyData} (h : isBd d = false) : isBds (.list (as ++ [d] ++ bs)) = false := by
  show (as ++ [d] ++ bs).all isBd = false
  rw [List.all_append, List.all_append]
  simp [h]
theorem badL {as : List PyData} {d : PyData} {n : Nat} (hn : n ≤ 400) (h : isBd d = false) (f : Fit 3 d) (hl : as.length = n) (ha : ∀ e ∈ as, Fit 3 e) : BadD (.list (as ++ [d])) := by
  refine ⟨by have := all_app_false (as := as) (bs := []) h; rw [List.append_nil] at this; exact this, fit_lst (by simp; omega) fun e he => ?_, fun ds e => ?_⟩
  · rcases List.mem_append.mp he with he | he
    · exact ha e he
    · rw [List.mem_singleton.mp he]; exact f
  · injection e with e; rw [← e]; simp; omega
theorem badR {as : List PyData} {d : PyData} {n : Nat} (hn : n ≤ 400) (h : isBd d = false) (f : Fit 3 d) (hl : as.length = n) (ha : ∀ e ∈ as, Fit 3 e) : BadD (.list ([d] ++ as)) := by
  refine ⟨by have := all_app_false (as := []) (bs := as) h; rw [List.nil_append] at this; exact this, fit_lst (by simp; omega) fun e he => ?_, fun ds e => ?_⟩
  · rcases List.mem_append.mp he with he | he
    · rw [List.mem_singleton.mp he]; exact f
    · exact ha e he
  · injection e with e; rw [← e]; simp; omega
theorem fit_encs (es : List Bd) (n : Nat) : ∀ e ∈ es.map encB, Fit (n + 1) e := fun e he => by
  obtain ⟨b, _, rfl⟩ := List.mem_map.mp he
  exact fit_encB b n
/-- good + [x] -/
theorem Rf.app (r : Rf s L g G0 H0 xs es G H vs) (hel : es.length ≤ 400) {x : V} {d : PyData} (hx : Dt G x d) (hd : isBd d = false) (f : Fit 3 d) {l c : Addr} (hl : H l = none) (hc : upd H l (.lst [x]) c = none) :
    ∃ Gn, Rf s L g G0 H0 xs es Gn (upd (upd H l (.lst [x])) c (.lst (xs ++ [x]))) (vs ++ [.ref c]) ∧ Ex G Gn := by
  have r1 := (r.ly (o := .lst [x]) hl).nx (o := .lst (xs ++ [x])) hc
  have y := (r.ly (o := .lst [x]) hl).ga.fr hc (o := .lst (xs ++ [x]))
  refine ⟨_, r1.ad (.lst upd_same (dta_app (paired_dta (enc := encB) (fun v b => tb_dt) r1.pr) (.cons (ex_dt y _ _ hx) .nil))) (badL hel hd f (List.length_map ..) (fit_encs es 2)), y⟩
/-- [x] + good -/
theorem Rf.pre (r : Rf s L g G0 H0 xs es G H vs) (hel : es.length ≤ 400) {x : V} {d : PyData} (hx : Dt G x d) (hd : isBd d = false) (f : Fit 3 d) {l c : Addr} (hl : H l = none) (hc : upd H l (.lst [x]) c = none) :
    ∃ Gn, Rf s L g G0 H0 xs es Gn (upd (upd H l (.lst [x])) c (.lst ([x] ++ xs))) (vs ++ [.ref c]) ∧ Ex G Gn := by
  have r1 := (r.ly (o := .lst [x]) hl).nx (o := .lst ([x] ++ xs)) hc
  have y := (r.ly (o := .lst [x]) hl).ga.fr hc (o := .lst ([x] ++ xs))
  refine ⟨_, r1.ad (.lst upd_same (dta_app (.cons (ex_dt y _ _ hx) .nil) (paired_dta (enc := encB) (fun v b => tb_dt) r1.pr))) (badR hel hd f (List.length_map ..) (fit_encs es 2)), y⟩
end
theorem fitT {ds : List PyData} (hl : ds.length ≤ 100) (h : ∀ d ∈ ds, Fit 2 d) : Fit 3 (.tuple ds) := fit_tup (by omega) h
theorem fitL {ds : List PyData} (hl : ds.length ≤ 100) (h : ∀ d ∈ ds, Fit 2 d) : Fit 3 (.list ds) := fit_lst (by omega) h
def flatD : PyData → Bool
  | .list _ => false
  | .tuple _ => false
  | .dict _ => false
  | _ => true
theorem fit_flatD {d : PyData} (h : flatD d = true) (n : Nat) : Fit n d := by
  cases d with
  | none => exact fit_none n
  | bool b => exact fit_bool b n
  | int i => exact fit_int i n
  | str z => exact fit_str z n
  | list _ => cases h
  | tuple _ => cases h
  | dict _ => cases h
theorem fit_flats {ds : List PyData} (h : ds.all flatD = true) (n : Nat) : ∀ d ∈ ds, Fit n d := fun d hd => fit_flatD (List.all_eq_true.mp h d hd) n
/-- what is due of such a row -/
def Due (c : Str) (db dx dy : PyData) (due : Str) : Prop :=
  (due = Str.ofString "bounds" ∧ isBds db = false) ∨
  (∃ es : List Bd, db = .list (es.map encB) ∧ ((due = Str.ofString "x" ∧ isEnd c ∧ isStr dx = false) ∨ (due = Str.ofString "y" ∧ isEnd c ∧ isStr dx = true ∧ isStr dy = false) ∨
    (due = Str.ofString "TooMany" ∧ (isEnd c → isStr dx = true ∧ isStr dy = true) ∧ 1000 < es.length) ∨ (due = Str.empty ∧ (isEnd c → isStr dx = true ∧ isStr dy = true) ∧ es.length ≤ 1000)))
def Row (c : Str) (G : Hp) (v : V) : Prop := ∃ t b db x dx y dy due, v = .ref t ∧ G t = some (.tup [b, x, y, .str due]) ∧ Dt G b db ∧ Dt G x dx ∧ Dt G y dy ∧ Fit 4 db ∧ (∀ ds, db = .list ds → ds.length ≤ 1001) ∧ Due c db dx dy due
theorem Row.ex {c : Str} {G G' : Hp} (e : Ex G G') {v : V} (h : Row c G v) : Row c G' v := by
  obtain ⟨t, b, db, x, dx, y, dy, due, h1, h2, h3, h4, h5, h6⟩ := h
  exact ⟨t, b, db, x, dx, y, dy, due, h1, e _ _ h2, ex_dt e _ _ h3, ex_dt e _ _ h4, ex_dt e _ _ h5, h6⟩
theorem ifq {σ : L2.St} {b : Bool} {x y : Str} {Q : VK} {H : Hp} (h : Q (.str (if b = true then x else y)) H) : if b = true then tC (.str x) σ H Q else tC (.str y) σ H Q := by
  cases b with
  | true => exact h
  | false => exact h
theorem in_end {c : Str} (h : c = Str.ofString "settled" ∨ c = Str.ofString "is_settled" ∨ c = Str.ofString "highest" ∨ c = Str.ofString "is_highest") : inV (.str c) [.str "highest", .str "is_highest"] = true ↔ isEnd c := by
  unfold isEnd
  rcases h with rfl | rfl | rfl | rfl <;> decide +kernel
theorem in_one {c : Str} (h : c = Str.ofString "settled" ∨ c = Str.ofString "is_settled" ∨ c = Str.ofString "highest" ∨ c = Str.ofString "is_highest") : inV (.str c) [.str "settled", .str "highest"] = true ↔ isOne c := by
  unfold isOne
  rcases h with rfl | rfl | rfl | rfl <;> decide +kernel
structure Rw (s L : Addr) (c : Str) (G0 H0 Gb G H : Hp) (rs : List V) : Prop where
  ga : Ga s L G0 H0 G H
  e : Ex Gb G
  rs : ∀ v ∈ rs, Row c G v
section
variable {s L p : Addr} {c : Str} {G0 H0 Gb G H : Hp} {rs : List V}
theorem Rw.nx (r : Rw s L c G0 H0 Gb G H rs) {o : HO} (hp : H p = none) : Rw s L c G0 H0 Gb (upd G p o) (upd H p o) rs := ⟨r.ga.new hp, r.e.trans (r.ga.fr hp), fun v hv => (r.rs v hv).ex (r.ga.fr hp)⟩
theorem Rw.ly (r : Rw s L c G0 H0 Gb G H rs) {o : HO} (hp : H p = none) : Rw s L c G0 H0 Gb G (upd H p o) rs := ⟨r.ga.lay hp, r.e, r.rs⟩
theorem Rw.ad' (r : Rw s L c G0 H0 Gb G H rs) (hp : H p = none) {bv xv yv : V} {db dx dy : PyData} {due : Str} (hb : Dt G bv db) (hx : Dt G xv dx) (hy : Dt G yv dy) (f : Fit 4 db) (l : ∀ ds, db = .list ds → ds.length ≤ 1001) (du : Due c db dx dy due) :
    Rw s L c G0 H0 Gb (upd G p (.tup [bv, xv, yv, .str due])) (upd H p (.tup [bv, xv, yv, .str due])) (rs ++ [.ref p]) := by
  have r1 := r.nx (o := .tup [bv, xv, yv, .str due]) hp
  have y := r.ga.fr (o := .tup [bv, xv, yv, .str due]) hp
  refine ⟨r1.ga, r1.e, fun v hv => ?_⟩
  rcases List.mem_append.mp hv with hv | hv
  · exact r1.rs v hv
  · rw [List.mem_singleton.mp hv]
    exact ⟨p, _, db, _, dx, _, dy, due, rfl, upd_same, ex_dt y _ _ hb, ex_dt y _ _ hx, ex_dt y _ _ hy, f, l, du⟩
theorem Rw.ad (r : Rw s L c G0 H0 Gb G H rs) (hp : H p = none) {bv xv yv : V} {db dx dy : PyData} {due : Str} (hb : Dt Gb bv db) (hx : Dt Gb xv dx) (hy : Dt Gb yv dy) (f : Fit 4 db) (l : ∀ ds, db = .list ds → ds.length ≤ 1001) (du : Due c db dx dy due) :
    Rw s L c G0 H0 Gb (upd G p (.tup [bv, xv, yv, .str due])) (upd H p (.tup [bv, xv, yv, .str due])) (rs ++ [.ref p]) := r.ad' hp (ex_dt r.e _ _ hb) (ex_dt r.e _ _ hx) (ex_dt r.e _ _ hy) f l du
end
section
variable {P : Program} {w : World} {K : PySem.W.Frag} {mg : Str → Option Value} {base : Heap}
def spRefus : Sp := fun vs H Q _ => ∃ (s L : Addr), vs = [.ref s] ∧ Strm H s L ∧ ∀ H2, Q (.bl true) H2
abbrev N_law_refusals : List Str := ["stream", "call", "good", "odd", "bad", "far", "turn", "wrong", "ends", "rows", "bounds", "x", "y", "due", "answer"]
theorem sc_law_refusals : FnScope N_law_refusals ["stream"] (defScope (top 72)) := ⟨rfl, rfl, rfl, by decide +kernel, rfl, by decide +kernel, by decide +kernel⟩
theorem ok_refus (T : Txt K mg) (C__law_next : Cal P w K mg base CX0 1 "_law_next" ["stream", "many"] spNext) (C__law_pick : Cal P w K mg base CX0 2 "_law_pick" ["stream", "rows"] (spPick K)) (C__law_scene : Cal P w K mg base CX0 4 "_law_scene" ["stream", "many", "most"] spScene)
    (C__law_told : Cal P w K mg base CX0 7 "_law_told" ["call", "bounds", "x", "y", "value"] (spTold K)) (C__law_copy : Cal P w K mg base CX0 5 "_law_copy" ["value"] (spCopy 4 K)) (C__law_same : Cal P w K mg base CX0 1 "_law_same" ["actual", "due"] (spSame K)) : Cal P w K mg base CX0 8 "_law_refusals" ["stream"] spRefus := by
  refine mkCal T.g__law_refusals T.d__law_refusals sc_law_refusals (fun _ _ _ _ _ _ us hl => match us, hl with | [_], _ => rfl) (fun vs H Q E h => ?_) fun cdv A outer s0 H vs Q E hr h => ?_
  · obtain ⟨x, _, rfl, _⟩ := h; rfl
  obtain ⟨s, L, rfl, st, q⟩ := h
  refine ⟨_, (pss_cons (ps_set (i := 1) sc_law_refusals.nd rfl (Or.inl rfl) (pe_cal (E := E0) C__law_pick (hr.mono (by decide)) pass0 (pa_cons (pv 0) (pa_cons (pe_tup (pa_cons pe_str (pa_cons pe_str (pa_cons pe_str (pa_cons pe_str pa_nil))))) pa_nil))))
      (pss_cons (ps_set (i := 2) sc_law_refusals.nd rfl (Or.inl rfl) (pe_ix (ixL (K := K)) (pe_cal (E := E0) C__law_scene (hr.mono (by decide)) pass0 (pa_cons (pv 0) (pa_cons pe_int (pa_cons pe_int pa_nil)))) pe_int (fun _ _ => rfl)))
      (pss_cut (ps_set (i := 3) sc_law_refusals.nd rfl (Or.inl rfl) (pe_lst (pa_cons pe_non (pa_cons (pe_callTy (tupOf (K := K)) (by rfl) T.n_tuple (by decide +kernel) (pa_cons (pv 2) pa_nil)) (pa_cons (pe_op op_cat (pv 2) (pe_lst (pa_cons (pe_lst (pa_cons pe_str (pa_cons pe_str (pa_cons pe_int pa_nil)))) pa_nil))) (pa_cons (pe_op op_cat (pv 2) (pe_lst (pa_cons (pe_tup (pa_cons pe_str (pa_cons pe_str pa_nil))) pa_nil))) (pa_cons (pe_op op_cat (pv 2) (pe_lst (pa_cons (pe_tup (pa_cons pe_str (pa_cons pe_str (pa_cons pe_bl pa_nil)))) pa_nil))) (pa_cons (pe_op op_cat (pv 2) (pe_lst (pa_cons (pe_tup (pa_cons pe_str (pa_cons pe_int (pa_cons pe_int pa_nil)))) pa_nil))) pa_nil))))))))
      (pss_cut (ps_set (i := 3) sc_law_refusals.nd rfl (Or.inl rfl) (pe_op op_cat (pv 3) (pe_lst (pa_cons (pe_op op_cat (pv 2) (pe_lst (pa_cons (pe_tup (pa_cons pe_non (pa_cons pe_str (pa_cons pe_int pa_nil)))) pa_nil))) (pa_cons (pe_op op_cat (pe_lst (pa_cons (pe_tup (pa_cons pe_str (pa_cons pe_str (pa_cons pe_str pa_nil)))) pa_nil)) (pv 2)) (pa_cons (pe_op op_cat (pv 2) (pe_lst (pa_cons (pe_tup (pa_cons pe_str (pa_cons pe_str (pa_cons pe_int (pa_cons pe_int pa_nil))))) pa_nil))) (pa_cons (pe_op op_cat (pv 2) (pe_lst (pa_cons pe_non pa_nil))) (pa_cons pe_dnewK pa_nil))))))))
      (pss_cons (ps_set (i := 4) sc_law_refusals.nd rfl (Or.inl rfl) (pe_cal (E := E0) C__law_pick (hr.mono (by decide)) pass0 (pa_cons (pv 0) (pa_cons (pv 3) pa_nil))))
      (pss_cut (ps_setLc (i := 5) (own := [("turn", 6)]) (g := gName 6) rfl sc_law_refusals.nd rfl rfl (sw_true rfl rfl rfl (by decide +kernel)) (pi_range1 (by rfl) T.n_range (pa_cons pe_int pa_nil)) (blkOk_by (N := N_law_refusals) (sc := defScope (top 72)) (by decide +kernel)) (fun _ _ _ _ _ => (pg_name (i := 6) sc_law_refusals.nd rfl (Or.inl rfl))) (fun _ _ _ _ _ => pts_nil) (fun _ _ _ _ _ => (pe_tup (pa_cons pe_str (pa_cons pe_str (pa_cons (pe_cal (E := E0) C__law_next (hr.mono (by decide)) pass0 (pa_cons (pv 0) (pa_cons pe_int pa_nil))) pa_nil))))))
      (pss_cons (ps_set (i := 7) sc_law_refusals.nd rfl (Or.inl rfl) (pe_cal (E := E0) C__law_pick (hr.mono (by decide)) pass0 (pa_cons (pv 0) (pa_cons (pe_tup (pa_cons pe_non (pa_cons pe_int (pa_cons (pe_tup (pa_cons pe_str pa_nil)) (pa_cons pe_bl pa_nil))))) pa_nil))))
      (pss_cut (ps_set (i := 8) sc_law_refusals.nd rfl (Or.inl rfl) (pe_cmpR (inL (K := K)) (pv 1) (pe_tup (pa_cons pe_str (pa_cons pe_str pa_nil))) (by rfl)))
      (pss_cut (ps_set (i := 9) sc_law_refusals.nd rfl (Or.inl rfl) (pe_lst (pa_cons (pe_tup (pa_cons (pv 4) (pa_cons pe_str (pa_cons pe_str (pa_cons pe_str pa_nil))))) (pa_cons (pe_tup (pa_cons (pv 4) (pa_cons (pv 7) (pa_cons (pv 7) (pa_cons pe_str pa_nil))))) (pa_cons (pe_tup (pa_cons (pv 2) (pa_cons (pv 7) (pa_cons (pv 7) (pa_cons (pe_ifExp (pt_val (pv 8)) pe_str pe_str) pa_nil))))) (pa_cons (pe_tup (pa_cons (pv 2) (pa_cons pe_str (pa_cons (pv 7) (pa_cons (pe_ifExp (pt_val (pv 8)) pe_str pe_str) pa_nil))))) pa_nil))))))
      (pss_cut (ps_set (i := 9) sc_law_refusals.nd rfl (Or.inl rfl) (pe_op op_cat (pv 9) (pe_lst (pa_cons (pe_tup (pa_cons (pv 5) (pa_cons (pv 7) (pa_cons pe_str (pa_cons (pe_ifExp (pt_val (pv 8)) pe_str pe_str) pa_nil))))) (pa_cons (pe_tup (pa_cons (pv 5) (pa_cons pe_str (pa_cons (pv 7) (pa_cons (pe_ifExp (pt_val (pv 8)) pe_str pe_str) pa_nil))))) (pa_cons (pe_tup (pa_cons (pv 5) (pa_cons pe_str (pa_cons pe_str (pa_cons pe_str pa_nil))))) pa_nil))))))
      (pss_cut (ps_set (i := 9) sc_law_refusals.nd rfl (Or.inl rfl) (pe_op op_cat (pv 9) (pe_lst (pa_cons (pe_tup (pa_cons (pe_slice (slL (K := K)) (pv 5) po_none (po_some pe_int)) (pa_cons pe_str (pa_cons pe_str (pa_cons pe_str pa_nil))))) (pa_cons (pe_tup (pa_cons (pv 2) (pa_cons pe_str (pa_cons pe_str (pa_cons pe_str pa_nil))))) pa_nil)))))
      (pss_cons (ps_for PassesOwn.never rfl (piL (K := K) (pv 9)) (pgTup (K := K) rfl (pgs_cons (pg_name (i := 10) sc_law_refusals.nd rfl (Or.inl rfl)) (pgs_cons (pg_name (i := 11) sc_law_refusals.nd rfl (Or.inl rfl)) (pgs_cons (pg_name (i := 12) sc_law_refusals.nd rfl (Or.inl rfl)) (pgs_cons (pg_name (i := 13) sc_law_refusals.nd rfl (Or.inl rfl)) pgs_nil))))) (pss_cons (ps_set (i := 14) sc_law_refusals.nd rfl (Or.inl rfl) (pe_cal (E := E0) C__law_told (hr.mono (by decide)) pass0 (pa_cons (pv 1) (pa_cons (pe_cal (E := E0) C__law_copy (hr.mono (by decide)) pass0 (pa_cons (pv 10) pa_nil)) (pa_cons (pv 11) (pa_cons (pv 12) (pa_cons (pe_tup (pa_cons pe_str (pa_cons (pe_tup pa_nil) pa_nil))) pa_nil)))))))
      (pss_one (ps_if (PW.pt (pw_and (pt_cmpR op_eq (pv 13) pe_str (nomark _)) (pw_and1 (pt_cmpR (inL (K := K)) (pv 1) (pe_tup (pa_cons pe_str (pa_cons pe_str pa_nil))) (by rfl))))) (pss_one (ps_if (pt_not (pt_val (pe_cal (E := E0) C__law_same (hr.mono (by decide)) pass0 (pa_cons (pv 14) (pa_cons (pe_lst (pa_cons pe_str (pa_cons pe_str (pa_cons (pe_tup (pa_cons pe_str pa_nil)) pa_nil)))) pa_nil))))) (pss_one (ps_ret pe_bl)) pss_nil)) (pss_one (ps_if (pt_cmpR (inL (K := K)) (pv 13) (pe_tup (pa_cons pe_str (pa_cons pe_str (pa_cons pe_str pa_nil)))) (by rfl)) (pss_one (ps_if (pt_not (pt_val (pe_cal (E := E0) C__law_same (hr.mono (by decide)) pass0 (pa_cons (pv 14) (pa_cons (pe_lst (pa_cons pe_str (pa_cons pe_str (pa_cons (pe_tup (pa_cons (pv 13) pa_nil)) pa_nil)))) pa_nil))))) (pss_one (ps_ret pe_bl)) pss_nil)) (pss_one (ps_if (pt_cmpR op_ne (pe_ix (ixL (K := K)) (pv 14) pe_int (fun _ _ => rfl)) pe_str (nomark _)) (pss_one (ps_ret pe_bl)) pss_nil))))))))
      (pss_one (ps_ret pe_bl)))))))))))))), ?_⟩
  have ga0 : Ga s L (fun a => if a = s then none else H a) H (fun a => if a = s then none else H a) H := Ga.refl (fun a o h => by
    by_cases e : a = s
    · rw [if_pos e] at h; cases h
    · rw [if_neg e] at h; exact h) st (if_pos rfl)
  generalize (fun a => if a = s then none else H a) = G0 at ga0
  -- call
  refine ⟨_, rfl, Nat.le_of_lt (sz 4 (by omega)), fun t1 ht1 => ?_⟩
  have ga1 := ga0.lay ht1 (o := .tup [.str "settled", .str "is_settled", .str "highest", .str "is_highest"])
  refine ⟨s, L, t1, _, rfl, ga1.st, .inr (SqT.of upd_same), (fun e => st.free t1 ht1 e), by simp, by simp, fun j1 cv H1 hc kp1 st1 => ?_⟩
  have ga2 := ga1.next kp1 st1
  obtain ⟨c, rfl, hc4⟩ : ∃ c, cv = V.str c ∧ (c = Str.ofString "settled" ∨ c = Str.ofString "is_settled" ∨ c = Str.ofString "highest" ∨ c = Str.ofString "is_highest") := by
    have hm := List.mem_of_getElem? hc
    simp only [List.mem_cons, List.not_mem_nil, or_false] at hm
    rcases hm with rfl | rfl | rfl | rfl
    · exact ⟨_, rfl, .inl rfl⟩
    · exact ⟨_, rfl, .inr (.inl rfl)⟩
    · exact ⟨_, rfl, .inr (.inr (.inl rfl))⟩
    · exact ⟨_, rfl, .inr (.inr (.inr rfl))⟩
  clear hc kp1 ga1
  -- good
  refine ⟨_, rfl, s, L, 3, 6, G0, rfl, st1, ga2.ge, ga2.gs, by omega, by omega, by omega, by omega, fun t an b cb ns es cl G3 H3 stp3 ht han hb hcb hns hel hcl st3 => ?_⟩
  have ga3 := ga2.stp stp3 st3
  obtain ⟨xs, hg, pr⟩ := hb
  refine ⟨t, _, 1, _, rfl, rfl, SqL.of (ga3.ge _ _ ht), rfl, ?_⟩
  have r0 : Rf s L b G0 H xs es G3 H3 [] := ⟨ga3, hg, pr, Vs.nil⟩
  have hxl := pr.length
  clear ga0 ga2 stp3 hcb ht han pr hg
  refine ⟨fun σ' H' => ∃ p vs G', σ' = [some (.ref s), some (.str c), some (.ref b), some (.ref p), none, none, none, none, none, none, none, none, none, none, none] ∧ Rf s L b G0 H xs es G' H' vs ∧ G' p = some (.lst vs) ∧ vs.length = 6, ?_, ?_⟩
  · refine ⟨_, rfl, b, _, rfl, .inl ⟨SqL.of (r0.ga.ge _ _ r0.hg), fun p1 hp1 => ?_⟩⟩
    have r1 := (r0.ad (v := .non) (d := .none) .non ⟨rfl, fit_none _, fun _ h => by cases h⟩).nx (o := .tup xs) hp1
    have r1 := r1.ad (v := .ref p1) (d := .tuple (es.map encB)) (.tup upd_same (paired_dta (enc := encB) (fun v b => tb_dt) r1.pr)) ⟨rfl, fit_way (by omega) 2, fun _ h => by cases h⟩
    refine ⟨_, rfl, Nat.le_of_lt (sz 3 (by omega)), fun t2 ht2 => ⟨Nat.le_of_lt (sz 1 (by omega)), fun l2 hl2 => ?_⟩⟩
    have q2 := r1.nx (o := .lst [.str "a", .str "b", .int 1]) ht2
    refine ⟨b, l2, _, _, rfl, rfl, (q2.ly hl2).ga.ge _ _ q2.hg, upd_same, Nat.le_of_lt (sz _ (by simp; omega)), fun c2 hc2 => ?_⟩
    have z2 := r1.ga.fr ht2 (o := .lst [.str "a", .str "b", .int 1])
    obtain ⟨G2, r2, y2⟩ := q2.app hel (x := .ref t2) (d := .list [.str "a", .str "b", .int 1]) (.lst upd_same (.cons (.str _) (.cons (.str _) (.cons (.int _) .nil)))) rfl (fitL (by decide) (fit_flats rfl 2)) hl2 hc2
    have y2' := z2.trans y2
    refine ⟨_, rfl, Nat.le_of_lt (sz 2 (by omega)), fun t3 ht3 => ⟨Nat.le_of_lt (sz 1 (by omega)), fun l3 hl3 => ?_⟩⟩
    have q3 := r2.nx (o := .tup [.str "a", .str "b"]) ht3
    refine ⟨b, l3, _, _, rfl, rfl, (q3.ly hl3).ga.ge _ _ q3.hg, upd_same, Nat.le_of_lt (sz _ (by simp; omega)), fun c3 hc3 => ?_⟩
    have z3 := r2.ga.fr ht3 (o := .tup [.str "a", .str "b"])
    obtain ⟨G3, r3, y3⟩ := q3.app hel (x := .ref t3) (d := .tuple [.str "a", .str "b"]) (.tup upd_same (.cons (.str _) (.cons (.str _) .nil))) rfl (fitT (by decide) (fit_flats rfl 2)) hl3 hc3
    have y3' := z3.trans y3
    refine ⟨_, rfl, Nat.le_of_lt (sz 3 (by omega)), fun t4 ht4 => ⟨Nat.le_of_lt (sz 1 (by omega)), fun l4 hl4 => ?_⟩⟩
    have q4 := r3.nx (o := .tup [.str "a", .str "b", .bl true]) ht4
    refine ⟨b, l4, _, _, rfl, rfl, (q4.ly hl4).ga.ge _ _ q4.hg, upd_same, Nat.le_of_lt (sz _ (by simp; omega)), fun c4 hc4 => ?_⟩
    have z4 := r3.ga.fr ht4 (o := .tup [.str "a", .str "b", .bl true])
    obtain ⟨G4, r4, y4⟩ := q4.app hel (x := .ref t4) (d := .tuple [.str "a", .str "b", .bool true]) (.tup upd_same (.cons (.str _) (.cons (.str _) (.cons (.bl _) .nil)))) rfl (fitT (by decide) (fit_flats rfl 2)) hl4 hc4
    have y4' := z4.trans y4
    refine ⟨_, rfl, Nat.le_of_lt (sz 3 (by omega)), fun t5 ht5 => ⟨Nat.le_of_lt (sz 1 (by omega)), fun l5 hl5 => ?_⟩⟩
    have q5 := r4.nx (o := .tup [.str "a", .int 1, .int 1]) ht5
    refine ⟨b, l5, _, _, rfl, rfl, (q5.ly hl5).ga.ge _ _ q5.hg, upd_same, Nat.le_of_lt (sz _ (by simp; omega)), fun c5 hc5 => ?_⟩
    have z5 := r4.ga.fr ht5 (o := .tup [.str "a", .int 1, .int 1])
    obtain ⟨G5, r5, y5⟩ := q5.app hel (x := .ref t5) (d := .tuple [.str "a", .int 1, .int 1]) (.tup upd_same (.cons (.str _) (.cons (.int _) (.cons (.int _) .nil)))) rfl (fitT (by decide) (fit_flats rfl 2)) hl5 hc5
    have y5' := z5.trans y5
    refine ⟨Nat.le_of_lt (sz 6 (by omega)), fun p hp => ?_⟩
    exact ⟨p, [.non, .ref p1, .ref c2, .ref c3, .ref c4, .ref c5], _, rfl, r5.nx hp, upd_same, rfl⟩
  clear r0
  rintro σ' H4 ⟨p, vs, G4, rfl, r0, hp, hvl⟩
  refine ⟨fun σ' H' => ∃ p vs G', σ' = [some (.ref s), some (.str c), some (.ref b), some (.ref p), none, none, none, none, none, none, none, none, none, none, none] ∧ Rf s L b G0 H xs es G' H' vs ∧ G' p = some (.lst vs) ∧ vs.length = 11, ?_, ?_⟩
  · have r1 := (⟨r0.ga, r0.hg, r0.pr, Vs.nil⟩ : Rf s L b G0 H xs es G4 H4 [])
    refine ⟨_, rfl, ?_⟩
    refine ⟨_, rfl, Nat.le_of_lt (sz 3 (by omega)), fun t2 ht2 => ⟨Nat.le_of_lt (sz 1 (by omega)), fun l2 hl2 => ?_⟩⟩
    have q2 := r1.nx (o := .tup [.non, .str "b", .int 1]) ht2
    refine ⟨b, l2, _, _, rfl, rfl, (q2.ly hl2).ga.ge _ _ q2.hg, upd_same, Nat.le_of_lt (sz _ (by simp; omega)), fun c2 hc2 => ?_⟩
    have z2 := r1.ga.fr ht2 (o := .tup [.non, .str "b", .int 1])
    obtain ⟨G2, r2, y2⟩ := q2.app hel (x := .ref t2) (d := .tuple [.none, .str "b", .int 1]) (.tup upd_same (.cons .non (.cons (.str _) (.cons (.int _) .nil)))) rfl (fitT (by decide) (fit_flats rfl 2)) hl2 hc2
    have y2' := z2.trans y2
    refine ⟨Nat.le_of_lt (sz 3 (by omega)), fun t3 ht3 => ⟨Nat.le_of_lt (sz 1 (by omega)), fun l3 hl3 => ?_⟩⟩
    have q3 := r2.nx (o := .tup [.str "a", .str "b", .str "1"]) ht3
    refine ⟨_, rfl, l3, b, _, _, rfl, rfl, upd_same, (q3.ly hl3).ga.ge _ _ q3.hg, Nat.le_of_lt (sz _ (by simp; omega)), fun c3 hc3 => ?_⟩
    have z3 := r2.ga.fr ht3 (o := .tup [.str "a", .str "b", .str "1"])
    obtain ⟨G3, r3, y3⟩ := q3.pre hel (x := .ref t3) (d := .tuple [.str "a", .str "b", .str "1"]) (.tup upd_same (.cons (.str _) (.cons (.str _) (.cons (.str _) .nil)))) rfl (fitT (by decide) (fit_flats rfl 2)) hl3 hc3
    have y3' := z3.trans y3
    refine ⟨_, rfl, Nat.le_of_lt (sz 4 (by omega)), fun t4 ht4 => ⟨Nat.le_of_lt (sz 1 (by omega)), fun l4 hl4 => ?_⟩⟩
    have q4 := r3.nx (o := .tup [.str "a", .str "b", .int 1, .int 1]) ht4
    refine ⟨b, l4, _, _, rfl, rfl, (q4.ly hl4).ga.ge _ _ q4.hg, upd_same, Nat.le_of_lt (sz _ (by simp; omega)), fun c4 hc4 => ?_⟩
    have z4 := r3.ga.fr ht4 (o := .tup [.str "a", .str "b", .int 1, .int 1])
    obtain ⟨G4, r4, y4⟩ := q4.app hel (x := .ref t4) (d := .tuple [.str "a", .str "b", .int 1, .int 1]) (.tup upd_same (.cons (.str _) (.cons (.str _) (.cons (.int _) (.cons (.int _) .nil))))) rfl (fitT (by decide) (fit_flats rfl 2)) hl4 hc4
    have y4' := z4.trans y4
    refine ⟨_, rfl, Nat.le_of_lt (sz 1 (by omega)), fun l5 hl5 => ⟨b, l5, _, _, rfl, rfl, (r4.ly hl5).ga.ge _ _ r4.hg, upd_same, Nat.le_of_lt (sz _ (by simp; omega)), fun c5 hc5 => ?_⟩⟩
    obtain ⟨G5, r5, y5⟩ := r4.app hel (x := .non) (d := .none) .non rfl (fit_none 3) hl5 hc5
    refine fun p6 hp6 => ⟨Nat.le_of_lt (sz 5 (by omega)), fun l hl => ?_⟩
    have r6 := (r5.nx (o := .dK []) hp6).ad (v := .ref p6) (d := .dict []) (.dct upd_same .nil) ⟨rfl, fit_dct (by simp) (by simp), fun _ h => by cases h⟩
    have r7 := r6.ly (o := .lst [.ref c2, .ref c3, .ref c4, .ref c5, .ref p6]) hl
    have y6 := (((y2'.trans y3').trans y4').trans y5).trans (r5.ga.fr hp6 (o := .dK []))
    refine ⟨p, l, _, _, rfl, rfl, r7.ga.ge _ _ (y6 _ _ hp), upd_same, Nat.le_of_lt (sz _ (by simp; omega)), fun c7 hc7 => ?_⟩
    have y7 := r7.ga.fr hc7 (o := .lst (vs ++ [.ref c2, .ref c3, .ref c4, .ref c5, .ref p6]))
    have r8 := r7.nx (o := .lst (vs ++ [.ref c2, .ref c3, .ref c4, .ref c5, .ref p6])) hc7
    exact ⟨c7, _, _, rfl, ⟨r8.ga, r8.hg, r8.pr, ((r0.vs.ex y6).ex y7).app r8.vs⟩, upd_same, by simp [hvl]⟩
  clear r0 hp hvl
  rintro σ' H5 ⟨p, vs, G5, rfl, r5, hp, hvl⟩
  -- bad
  refine ⟨_, rfl, _, rfl, s, L, p, vs, rfl, r5.ga.st, .inl (SqL.of (r5.ga.ge _ _ hp)), (fun e => by rw [e, r5.ga.gs] at hp; cases hp), by omega, by omega, fun jb bv H6 hbv kp6 st6 => ?_⟩
  obtain ⟨bd, hbd, bbd⟩ := r5.vs bv (List.mem_of_getElem? hbv)
  have ga6 := r5.ga.next kp6 st6
  have hg5 := r5.hg
  have pr5 := r5.pr
  clear r5 hp hvl kp6 hbv
  -- far
  refine ⟨fun σ' H' => ∃ fa fs fes G', σ' = [some (.ref s), some (.str c), some (.ref b), some (.ref p), some bv, some (.ref fa), none, none, none, none, none, none, none, none, none] ∧ Ga s L G0 H G' H' ∧ Ex G5 G' ∧ G' fa = some (.lst fs) ∧ Paired (Tb G') fs fes ∧ fs.length = 1001, ?_, ?_⟩
  · refine ⟨_, rfl, by decide, by decide, fun D hD => ?_⟩
    have nDs : D ≠ s := fun e => by rw [e] at hD; obtain ⟨o, ho⟩ := st6.there; rw [ho] at hD; cases hD
    have hD0 : H D = none := ga6.nil hD
    refine lc_it walk_range (fun i H' => ∃ G' ys, ∃ fes : List Bd, Ga s L G0 H G' H' ∧ Ex G5 G' ∧ G' D = none ∧ H' D = some (.lst ys) ∧ Paired (Tb G') ys fes ∧ ys.length = i) ⟨G5, [], [], ga6.lay hD, Evl.Ex.refl _, Evl.fresh_back ga6.ge hD, upd_same, .nil, rfl⟩ (fun _ _ _ _ => trivial) (fun i x H' H'' hi hc hy => ?_) (fun H' hc => ?_)
    · obtain ⟨G', ys, fes, ga, e, gD, hl, pr, hyl⟩ := hc
      obtain ⟨rfl, rfl⟩ := hy
      have hi : i < 1001 := hi
      show _ ∧ _
      refine ⟨rfl, ?_⟩
      unfold tYes
      refine (show ∀ (A B : Prop), A → (if true = true then A else B) from fun A B h => by rw [if_pos rfl]; exact h) _ _ ?_
      refine ⟨_, rfl, s, L, 5, rfl, ga.st, by omega, by omega, fun d H3 d0 d1 kp st3 => ⟨Nat.le_of_lt (sz 3 (by omega)), fun t ht => ?_⟩⟩
      have hl3 := kp D _ nDs hl
      have nt : D ≠ t := ne_of_none hl3 ht
      have ga3 := (ga.next kp st3).new ht (o := .tup [.str "a", .str "b", .int d])
      have y3 := (ga.next kp st3).fr ht (o := .tup [.str "a", .str "b", .int d])
      have gD3 : upd G' t (.tup [.str "a", .str "b", .int d]) D = none := by rw [upd_ne nt]; exact gD
      exact ⟨ys, (by rw [upd_ne nt]; exact hl3), Nat.lt_of_le_of_lt (show ys.length ≤ 1001 by omega) (sz _ (by omega)), _, ys ++ [.ref t], fes ++ [((Str.ofString "a", Str.ofString "b", d) : Bd)], ga3.mut hD0 gD3, e.trans y3, gD3, upd_same, paired_snocB (paired_exB y3 pr) ⟨t, rfl, upd_same⟩, by simp [hyl]⟩
    · obtain ⟨G', ys, fes, ga, e, gD, hl, pr, hyl⟩ := hc
      have y := Evl.Ex.new gD (o := .lst ys)
      exact ⟨D, ys, fes, _, rfl, ga.fix hD0 hl, e.trans y, upd_same, paired_exB y pr, hyl⟩
  clear ga6 st6
  rintro σ' H7 ⟨fa, fs, fes, G7, rfl, ga7, x57, hfa, prf, hfl⟩
  -- wrong
  refine ⟨_, rfl, Nat.le_of_lt (sz 1 (by omega)), fun t8 ht8 => ?_⟩
  have ga8 := ga7.new ht8 (o := .tup [.str "a"])
  have y8 := ga7.fr ht8 (o := .tup [.str "a"])
  have dt8 : Dt (upd G7 t8 (.tup [.str "a"])) (.ref t8) (.tuple [.str "a"]) := .tup upd_same (.cons (.str _) .nil)
  generalize upd G7 t8 (.tup [.str "a"]) = G8 at ga8 y8 dt8
  refine ⟨Nat.le_of_lt (sz 4 (by omega)), fun t9 ht9 => ?_⟩
  have ga9 := ga8.lay ht9 (o := .tup [.non, .int 0, .ref t8, .bl true])
  refine ⟨s, L, t9, _, rfl, ga9.st, .inr (SqT.of upd_same), (fun e => by rw [e] at ht9; obtain ⟨o, ho⟩ := ga8.st.there; rw [ho] at ht9; cases ht9), by simp, by simp, fun jw wv H9 hwv kp9 st9 => ?_⟩
  obtain ⟨wd, hwd, wns⟩ : ∃ wd, Dt G8 wv wd ∧ isStr wd = false := by
    have hm := List.mem_of_getElem? hwv
    simp only [List.mem_cons, List.not_mem_nil, or_false] at hm
    rcases hm with rfl | rfl | rfl | rfl
    · exact ⟨_, .non, rfl⟩
    · exact ⟨_, .int 0, rfl⟩
    · exact ⟨_, dt8, rfl⟩
    · exact ⟨_, .bl true, rfl⟩
  have ga10 := ga9.next kp9 st9
  clear ga9 hwv kp9 dt8 ht8 ga8 ga7
  have x58 := x57.trans y8
  have dbad : Dt G8 bv bd := ex_dt x58 _ _ hbd
  have dgood : Dt G8 (.ref b) (.list (es.map encB)) := .lst (x58 _ _ hg5) (paired_dta (enc := encB) (fun v b => tb_dt) (paired_exB x58 pr5))
  have dfar : Dt G8 (.ref fa) (.list (fes.map encB)) := .lst (y8 _ _ hfa) (paired_dta (enc := encB) (fun v b => tb_dt) (paired_exB y8 prf))
  have fel : fes.length = 1001 := by rw [← prf.length]; exact hfl
  have fgood : Fit 4 (.list (es.map encB)) := fit_lst (by rw [List.length_map]; omega) (fit_encs es 2)
  have lgood : ∀ ds, PyData.list (es.map encB) = .list ds → ds.length ≤ 1001 := fun ds h => by injection h with h; rw [← h, List.length_map]; omega
  have ffar : Fit 4 (.list (fes.map encB)) := fit_lst (by rw [List.length_map]; omega) (fit_encs fes 2)
  have lfar : ∀ ds, PyData.list (fes.map encB) = .list ds → ds.length ≤ 1001 := fun ds h => by injection h with h; rw [← h, List.length_map]; omega
  have hfa8 := y8 _ _ hfa
  have prf8 := paired_exB y8 prf
  clear x57 y8 hfa prf pr5 hg5 hbd
  -- ends
  refine ⟨fun σ' H' => ∃ eb : Bool, σ' = [some (.ref s), some (.str c), some (.ref b), some (.ref p), some bv, some (.ref fa), none, some wv, some (.bl eb), none, none, none, none, none, none] ∧ (eb = true ↔ isEnd c) ∧ Ga s L G0 H G8 H', ?_, ?_⟩
  · refine ⟨_, rfl, Nat.le_of_lt (sz 2 (by omega)), fun p2 hp2 => ⟨p2, _, rfl, .inr (SqT.of upd_same), rfl, rfl, _, rfl, in_end hc4, ga10.lay hp2⟩⟩
  clear ga10 st9
  rintro σ' H10 ⟨eb, rfl, heb, ga10⟩
  have r0 : Rw s L c G0 H G8 G8 H10 [] := ⟨ga10, Evl.Ex.refl _, fun v h => by cases h⟩
  have e1 : Due c (.list (es.map encB)) wd wd (if eb = true then Str.ofString "x" else Str.empty) := by
    cases eb with
    | true => exact .inr ⟨es, rfl, .inl ⟨rfl, heb.mp rfl, wns⟩⟩
    | false => exact .inr ⟨es, rfl, .inr (.inr (.inr ⟨rfl, fun h => absurd (heb.mpr h) (by decide), by omega⟩))⟩
  have e2 : Due c (.list (es.map encB)) (.str "a") wd (if eb = true then Str.ofString "y" else Str.empty) := by
    cases eb with
    | true => exact .inr ⟨es, rfl, .inr (.inl ⟨rfl, heb.mp rfl, rfl, wns⟩)⟩
    | false => exact .inr ⟨es, rfl, .inr (.inr (.inr ⟨rfl, fun h => absurd (heb.mpr h) (by decide), by omega⟩))⟩
  have e3 : Due c (.list (fes.map encB)) wd (.str "a") (if eb = true then Str.ofString "x" else Str.ofString "TooMany") := by
    cases eb with
    | true => exact .inr ⟨fes, rfl, .inl ⟨rfl, heb.mp rfl, wns⟩⟩
    | false => exact .inr ⟨fes, rfl, .inr (.inr (.inl ⟨rfl, fun h => absurd (heb.mpr h) (by decide), by omega⟩))⟩
  have e4 : Due c (.list (fes.map encB)) (.str "a") wd (if eb = true then Str.ofString "y" else Str.ofString "TooMany") := by
    cases eb with
    | true => exact .inr ⟨fes, rfl, .inr (.inl ⟨rfl, heb.mp rfl, rfl, wns⟩)⟩
    | false => exact .inr ⟨fes, rfl, .inr (.inr (.inl ⟨rfl, fun h => absurd (heb.mpr h) (by decide), by omega⟩))⟩
  have e5 : Due c (.list (fes.map encB)) (.str "a") (.str "b") "TooMany" := .inr ⟨fes, rfl, .inr (.inr (.inl ⟨rfl, fun _ => ⟨rfl, rfl⟩, by omega⟩))⟩
  -- rows
  refine ⟨fun σ' H' => ∃ rp rs G', σ' = [some (.ref s), some (.str c), some (.ref b), some (.ref p), some bv, some (.ref fa), none, some wv, some (.bl eb), some (.ref rp), none, none, none, none, none] ∧ Rw s L c G0 H G8 G' H' rs ∧ G' rp = some (.lst rs) ∧ rs.length ≤ 4, ?_, ?_⟩
  · refine ⟨_, rfl, Nat.le_of_lt (sz 4 (by omega)), fun t1 h1 => ?_⟩
    have r1 := r0.ad h1 dbad (.str "a") (.str "b") bbd.2.1 bbd.2.2 (due := "bounds") (.inl ⟨rfl, bbd.1⟩)
    refine ⟨_, rfl, _, rfl, _, rfl, Nat.le_of_lt (sz 4 (by omega)), fun t2 h2 => ?_⟩
    have r2 := r1.ad h2 dbad hwd hwd bbd.2.1 bbd.2.2 (due := "bounds") (.inl ⟨rfl, bbd.1⟩)
    refine ⟨_, rfl, _, rfl, _, rfl, _, rfl, eb, rfl, ifq ⟨Nat.le_of_lt (sz 4 (by omega)), fun t3 h3 => ?_⟩⟩
    have r3 := r2.ad h3 dgood hwd hwd fgood lgood e1
    refine ⟨_, rfl, _, rfl, _, rfl, eb, rfl, ifq ⟨Nat.le_of_lt (sz 4 (by omega)), fun t4 h4 => ?_⟩⟩
    have r4 := r3.ad h4 dgood (.str "a") hwd fgood lgood e2
    refine ⟨Nat.le_of_lt (sz 4 (by omega)), fun p5 h5 => ?_⟩
    exact ⟨p5, _, _, rfl, r4.nx h5 (o := .lst [.ref t1, .ref t2, .ref t3, .ref t4]), upd_same, by simp⟩
  clear r0 ga10 e1 e2
  rintro σ' H11 ⟨rp, rs, G11, rfl, r0, hrp, hrl⟩
  refine ⟨fun σ' H' => ∃ rp rs G', σ' = [some (.ref s), some (.str c), some (.ref b), some (.ref p), some bv, some (.ref fa), none, some wv, some (.bl eb), some (.ref rp), none, none, none, none, none] ∧ Rw s L c G0 H G8 G' H' rs ∧ G' rp = some (.lst rs) ∧ rs.length ≤ 7, ?_, ?_⟩
  · refine ⟨_, rfl, _, rfl, _, rfl, _, rfl, eb, rfl, ifq ⟨Nat.le_of_lt (sz 4 (by omega)), fun t1 h1 => ?_⟩⟩
    have r1 := r0.ad h1 dfar hwd (.str "a") ffar lfar e3
    refine ⟨_, rfl, _, rfl, _, rfl, eb, rfl, ifq ⟨Nat.le_of_lt (sz 4 (by omega)), fun t2 h2 => ?_⟩⟩
    have r2 := r1.ad h2 dfar (.str "a") hwd ffar lfar e4
    refine ⟨_, rfl, Nat.le_of_lt (sz 4 (by omega)), fun t3 h3 => ?_⟩
    have r3 := r2.ad h3 dfar (.str "a") (.str "b") ffar lfar e5
    refine ⟨Nat.le_of_lt (sz 3 (by omega)), fun l hl => ?_⟩
    have r4 := r3.ly hl (o := .lst [.ref t1, .ref t2, .ref t3])
    refine ⟨rp, l, _, _, rfl, rfl, (((Evl.Ex.new h1).trans (Evl.Ex.new h2)).trans ((Evl.Ex.new h3).trans (Evl.Ex.new hl))) _ _ (r0.ga.ge _ _ hrp), upd_same, Nat.le_of_lt (sz _ (by simp; omega)), fun p5 h5 => ?_⟩
    have r5 := r4.nx h5 (o := .lst (rs ++ [.ref t1, .ref t2, .ref t3]))
    exact ⟨p5, _, _, rfl, ⟨r5.ga, r5.e, by have := r5.rs; simpa using this⟩, upd_same, by simp; omega⟩
  clear r0 hrp hrl e3 e4 e5
  rintro σ' H12 ⟨rp, rs, G12, rfl, r0, hrp, hrl⟩
  refine ⟨fun σ' H' => ∃ rp rs G', σ' = [some (.ref s), some (.str c), some (.ref b), some (.ref p), some bv, some (.ref fa), none, some wv, some (.bl eb), some (.ref rp), none, none, none, none, none] ∧ Rw s L c G0 H G8 G' H' rs ∧ G' rp = some (.lst rs) ∧ rs.length ≤ 9, ?_, ?_⟩
  · have hfaH := r0.ga.ge _ _ (r0.e _ _ hfa8)
    refine ⟨_, rfl, _, rfl, _, rfl, fa, fs, rfl, SqL.of hfaH, fun pf hpf => ?_⟩
    have hcut : cutV fs none (some 1000) = fs.take 1000 := cut_to (i := 1000) (by omega)
    have r1 := r0.nx hpf (o := .lst (cutV fs none (some 1000)))
    have dcut : Dt (upd G12 pf (.lst (cutV fs none (some 1000)))) (.ref pf) (.list ((fes.take 1000).map encB)) := .lst upd_same (by
      have k := paired_take (paired_exB r1.e prf8) 1000
      rw [← hcut] at k
      exact paired_dta (enc := encB) (fun v b => tb_dt) k)
    have tl : (fes.take 1000).length = 1000 := by rw [List.length_take]; omega
    refine ⟨Nat.le_of_lt (sz 4 (by omega)), fun t1 h1 => ?_⟩
    have r2 := r1.ad' h1 (due := Str.empty) dcut (.str "a") (.str "b") (fit_lst (by rw [List.length_map]; omega) (fit_encs _ 2)) (fun ds h => by injection h with h; rw [← h, List.length_map]; omega) (.inr ⟨_, rfl, .inr (.inr (.inr ⟨rfl, fun _ => ⟨rfl, rfl⟩, by omega⟩))⟩)
    refine ⟨_, rfl, Nat.le_of_lt (sz 4 (by omega)), fun t2 h2 => ?_⟩
    have r3 := r2.ad h2 (due := Str.empty) dgood (.str "a") (.str "a") fgood lgood (.inr ⟨_, rfl, .inr (.inr (.inr ⟨rfl, fun _ => ⟨rfl, rfl⟩, by omega⟩))⟩)
    refine ⟨Nat.le_of_lt (sz 2 (by omega)), fun l hl => ?_⟩
    have r4 := r3.ly hl (o := .lst [.ref t1, .ref t2])
    refine ⟨rp, l, _, _, rfl, rfl, (((Evl.Ex.new hpf).trans (Evl.Ex.new h1)).trans ((Evl.Ex.new h2).trans (Evl.Ex.new hl))) _ _ (r0.ga.ge _ _ hrp), upd_same, Nat.le_of_lt (sz _ (by simp; omega)), fun p5 h5 => ?_⟩
    have r5 := r4.nx h5 (o := .lst (rs ++ [.ref t1, .ref t2]))
    exact ⟨p5, _, _, rfl, ⟨r5.ga, r5.e, by have := r5.rs; simpa using this⟩, upd_same, by simp; omega⟩
  clear r0 hrp hrl dbad dgood dfar fgood lgood ffar lfar hfa8 prf8 hwd
  rintro σ' H13 ⟨rp, rs, G13, rfl, ⟨ga13, e13, hrs⟩, hrp, hrl⟩
  refine ⟨_, rfl, rp, rfl, ⟨rs, SqL.of (ga13.ge _ _ hrp)⟩, ?_⟩
  refine for_it walk_list (fun i σ' H' => ∃ v1 v2 v3 v4 v5, σ' = [some (.ref s), some (.str c), some (.ref b), some (.ref p), some bv, some (.ref fa), none, some wv, some (.bl eb), some (.ref rp), v1, v2, v3, v4, v5] ∧ Ga s L G0 H G13 H')
    ⟨none, none, none, none, none, rfl, ga13⟩ (fun i σ' H' hi ⟨_, _, _, _, _, _, ga⟩ => SqL.of (ga.ge _ _ hrp)) ?_ ?_
  · rintro i v σ' H' H14 hi ⟨v1, v2, v3, v4, v5, rfl, ga⟩ ⟨rfl, hv⟩
    obtain ⟨t, bx, db, x, dx, y, dy, due, rfl, ht, hb, hx, hy, fb, lb, du⟩ := hrs v (List.mem_of_getElem? hv)
    refine ⟨t, _, rfl, SqT.of (ga.ge _ _ ht), rfl, _, _, rfl, _, _, rfl, _, _, rfl, _, _, rfl, rfl, ?_⟩
    refine ⟨_, rfl, _, rfl, bx, db, G13, rfl, ga.ge, hb, fb, fun b2 G15 H15 st15 hb15 => ?_⟩
    have ga15 := ga.ex st15.ex
    have e15 := st15.gg
    refine ⟨_, rfl, _, rfl, Nat.le_of_lt (sz 0 (by omega)), fun p0 hp0 => ?_⟩
    have e16 := st15.gh.trans (Evl.Ex.new hp0 (o := .tup []))
    refine ⟨Nat.le_of_lt (sz 2 (by omega)), fun p1 hp1 => ?_⟩
    have e17 := Evl.Ex.new hp1 (o := .tup [.str "ring", .ref p0])
    have ga17 := (ga15.lay hp0 (o := .tup [])).lay hp1 (o := .tup [.str "ring", .ref p0])
    have eG : Ex G15 _ := e16.trans e17
    refine ⟨c, b2, db, x, dx, y, dy, .ref p1, rfl, hc4, ex_dt eG _ _ hb15, ex_dt (e15.trans eG) _ _ hx, ex_dt (e15.trans eG) _ _ hy, .tup upd_same (.cons (.str _) (.cons (.tup (e17 _ _ upd_same) .nil) .nil)), lb, ?_, ?_, ?_, ?_⟩
    · intro hw
      rcases du with ⟨rfl, _⟩ | ⟨es', rfl, _⟩
      rotate_left
      · rw [bds_is] at hw; cases hw
      intro l p H18 e18 hp hl
      refine ⟨_, rfl, rfl, false, congrArg V.bl (by decide +kernel), ?_⟩
      refine ite2 (fun h => absurd h (by decide)) (fun _ => ?_)
      refine ite2 (fun h => absurd h (by decide)) (fun _ => ?_)
      refine ⟨_, rfl, Nat.le_of_lt (sz 3 (by omega)), fun p2 hp2 => ⟨p2, _, rfl, .inr (SqT.of upd_same), rfl, rfl, true, congrArg V.bl (by decide +kernel), ?_⟩⟩
      have e2 := Evl.Ex.new hp2 (o := .tup [.str "bounds", .str "x", .str "y"])
      refine ite2 (fun _ => ?_) (fun h => absurd rfl h)
      refine ⟨_, rfl, _, rfl, Nat.le_of_lt (sz 1 (by omega)), fun p3 hp3 => ⟨Nat.le_of_lt (sz 3 (by omega)), fun p4 hp4 => ?_⟩⟩
      have e3 := Evl.Ex.new hp3 (o := .tup [.str "bounds"])
      have e4 := Evl.Ex.new hp4 (o := .lst [.str "raised", .str "BadValue", .ref p3])
      have eA := e2.trans (e3.trans e4)
      refine ⟨_, _, .list [.str "raised", .str "BadValue", .tuple [.str "bounds"]], rfl, .lst (eA _ _ hl) (.cons (.str _) (.cons (.str _) (.cons (.tup (eA _ _ hp) (.cons (.str _) .nil)) .nil))), .lst upd_same (.cons (.str _) (.cons (.str _) (.cons (.tup (e4 _ _ upd_same) (.cons (.str _) .nil)) .nil))), by simp [nodes, nodesL], fun H20 e20 => ⟨_, rfl, ?_⟩⟩
      refine ite2 (fun h => absurd h (by decide)) (fun _ => ?_)
      exact ⟨_, _, _, _, _, rfl, ga17.ex (e18.trans (eA.trans e20))⟩
    · intro hw hE hS
      rcases du with ⟨_, h⟩ | ⟨es', rfl, ⟨rfl, _, _⟩ | ⟨_, _, h, _⟩ | ⟨_, h, _⟩ | ⟨_, h, _⟩⟩
      · rw [h] at hw; cases hw
      rotate_left
      · rw [h] at hS; cases hS
      · rw [(h hE).1] at hS; cases hS
      · rw [(h hE).1] at hS; cases hS
      intro l p H18 e18 hp hl
      refine ⟨_, rfl, rfl, false, congrArg V.bl (by decide +kernel), ?_⟩
      refine ite2 (fun h => absurd h (by decide)) (fun _ => ?_)
      refine ite2 (fun h => absurd h (by decide)) (fun _ => ?_)
      refine ⟨_, rfl, Nat.le_of_lt (sz 3 (by omega)), fun p2 hp2 => ⟨p2, _, rfl, .inr (SqT.of upd_same), rfl, rfl, true, congrArg V.bl (by decide +kernel), ?_⟩⟩
      have e2 := Evl.Ex.new hp2 (o := .tup [.str "bounds", .str "x", .str "y"])
      refine ite2 (fun _ => ?_) (fun h => absurd rfl h)
      refine ⟨_, rfl, _, rfl, Nat.le_of_lt (sz 1 (by omega)), fun p3 hp3 => ⟨Nat.le_of_lt (sz 3 (by omega)), fun p4 hp4 => ?_⟩⟩
      have e3 := Evl.Ex.new hp3 (o := .tup [.str "x"])
      have e4 := Evl.Ex.new hp4 (o := .lst [.str "raised", .str "BadValue", .ref p3])
      have eA := e2.trans (e3.trans e4)
      refine ⟨_, _, .list [.str "raised", .str "BadValue", .tuple [.str "x"]], rfl, .lst (eA _ _ hl) (.cons (.str _) (.cons (.str _) (.cons (.tup (eA _ _ hp) (.cons (.str _) .nil)) .nil))), .lst upd_same (.cons (.str _) (.cons (.str _) (.cons (.tup (e4 _ _ upd_same) (.cons (.str _) .nil)) .nil))), by simp [nodes, nodesL], fun H20 e20 => ⟨_, rfl, ?_⟩⟩
      refine ite2 (fun h => absurd h (by decide)) (fun _ => ?_)
      exact ⟨_, _, _, _, _, rfl, ga17.ex (e18.trans (eA.trans e20))⟩
    · intro hw hE hS hT
      rcases du with ⟨_, h⟩ | ⟨es', rfl, ⟨_, _, h⟩ | ⟨rfl, _, _, _⟩ | ⟨_, h, _⟩ | ⟨_, h, _⟩⟩
      · rw [h] at hw; cases hw
      · rw [h] at hS; cases hS
      rotate_left
      · rw [(h hE).2] at hT; cases hT
      · rw [(h hE).2] at hT; cases hT
      intro l p H18 e18 hp hl
      refine ⟨_, rfl, rfl, false, congrArg V.bl (by decide +kernel), ?_⟩
      refine ite2 (fun h => absurd h (by decide)) (fun _ => ?_)
      refine ite2 (fun h => absurd h (by decide)) (fun _ => ?_)
      refine ⟨_, rfl, Nat.le_of_lt (sz 3 (by omega)), fun p2 hp2 => ⟨p2, _, rfl, .inr (SqT.of upd_same), rfl, rfl, true, congrArg V.bl (by decide +kernel), ?_⟩⟩
      have e2 := Evl.Ex.new hp2 (o := .tup [.str "bounds", .str "x", .str "y"])
      refine ite2 (fun _ => ?_) (fun h => absurd rfl h)
      refine ⟨_, rfl, _, rfl, Nat.le_of_lt (sz 1 (by omega)), fun p3 hp3 => ⟨Nat.le_of_lt (sz 3 (by omega)), fun p4 hp4 => ?_⟩⟩
      have e3 := Evl.Ex.new hp3 (o := .tup [.str "y"])
      have e4 := Evl.Ex.new hp4 (o := .lst [.str "raised", .str "BadValue", .ref p3])
      have eA := e2.trans (e3.trans e4)
      refine ⟨_, _, .list [.str "raised", .str "BadValue", .tuple [.str "y"]], rfl, .lst (eA _ _ hl) (.cons (.str _) (.cons (.str _) (.cons (.tup (eA _ _ hp) (.cons (.str _) .nil)) .nil))), .lst upd_same (.cons (.str _) (.cons (.str _) (.cons (.tup (e4 _ _ upd_same) (.cons (.str _) .nil)) .nil))), by simp [nodes, nodesL], fun H20 e20 => ⟨_, rfl, ?_⟩⟩
      refine ite2 (fun h => absurd h (by decide)) (fun _ => ?_)
      exact ⟨_, _, _, _, _, rfl, ga17.ex (e18.trans (eA.trans e20))⟩
    · intro es' hes hS
      rcases du with ⟨_, h⟩ | ⟨es2, he2, ⟨_, hE, h⟩ | ⟨_, hE, _, h⟩ | ⟨rfl, _, h⟩ | ⟨rfl, _, h⟩⟩
      · rw [hes, bds_is] at h; cases h
      · rw [(hS hE).1] at h; cases h
      · rw [(hS hE).2] at h; cases h
      · have he : es2 = es' := encs_inj (by rw [he2] at hes; injection hes)
        subst he
        refine ⟨fun hO _ => ?_, fun hO => ?_⟩
        · intro l p H18 e18 hp hl
          refine ⟨_, rfl, rfl, true, congrArg V.bl (by decide +kernel), ?_⟩
          refine ite2 (fun _ => ?_) (fun h => absurd rfl h)
          refine ⟨_, rfl, Nat.le_of_lt (sz 2 (by omega)), fun p2 hp2 => ⟨p2, _, rfl, .inr (SqT.of upd_same), rfl, rfl, true, congrArg V.bl ((in_one hc4).mpr hO), ?_⟩⟩
          have e2 := Evl.Ex.new hp2 (o := .tup [.str "settled", .str "highest"])
          refine ite2 (fun _ => ?_) (fun h => absurd rfl h)
          refine ⟨_, rfl, Nat.le_of_lt (sz 1 (by omega)), fun p3 hp3 => ⟨Nat.le_of_lt (sz 3 (by omega)), fun p4 hp4 => ?_⟩⟩
          have e3 := Evl.Ex.new hp3 (o := .tup [.str "bounds"])
          have e4 := Evl.Ex.new hp4 (o := .lst [.str "raised", .str "TooMany", .ref p3])
          have eA := e2.trans (e3.trans e4)
          refine ⟨_, _, .list [.str "raised", .str "TooMany", .tuple [.str "bounds"]], rfl, .lst (eA _ _ hl) (.cons (.str _) (.cons (.str _) (.cons (.tup (eA _ _ hp) (.cons (.str _) .nil)) .nil))), .lst upd_same (.cons (.str _) (.cons (.str _) (.cons (.tup (e4 _ _ upd_same) (.cons (.str _) .nil)) .nil))), by simp [nodes, nodesL], fun H20 e20 => ⟨_, rfl, ?_⟩⟩
          refine ite2 (fun h => absurd h (by decide)) (fun _ => ?_)
          exact ⟨_, _, _, _, _, rfl, ga17.ex (e18.trans (eA.trans e20))⟩
        · have hO : ¬ isOne c := fun z => by have := hO z; omega
          intro l v H18 e18 hl
          refine ⟨_, rfl, rfl, true, congrArg V.bl (by decide +kernel), ?_⟩
          refine ite2 (fun _ => ?_) (fun h => absurd rfl h)
          refine ⟨_, rfl, Nat.le_of_lt (sz 2 (by omega)), fun p2 hp2 => ⟨p2, _, rfl, .inr (SqT.of upd_same), rfl, rfl, false, congrArg V.bl (Bool.eq_false_iff.mpr fun z => hO ((in_one hc4).mp z)), ?_⟩⟩
          have e2' := Evl.Ex.new hp2 (o := .tup [.str "settled", .str "highest"])
          refine ite2 (fun h => absurd h (by decide)) (fun _ => ?_)
          refine ⟨_, rfl, Nat.le_of_lt (sz 3 (by omega)), fun p2 hp2 => ⟨p2, _, rfl, .inr (SqT.of upd_same), rfl, rfl, false, congrArg V.bl (by decide +kernel), ?_⟩⟩
          have e2 := Evl.Ex.new hp2 (o := .tup [.str "bounds", .str "x", .str "y"])
          refine ite2 (fun h => absurd h (by decide)) (fun _ => ?_)
          refine ⟨_, rfl, l, _, 0, _, rfl, rfl, SqL.of ((e2'.trans e2) _ _ hl), rfl, rfl, false, congrArg V.bl (by decide +kernel), ?_⟩
          refine ite2 (fun h => absurd h (by decide)) (fun _ => ?_)
          exact ⟨_, _, _, _, _, rfl, ga17.ex (e18.trans (e2'.trans e2))⟩
      · have he : es2 = es' := encs_inj (by rw [he2] at hes; injection hes)
        subst he
        refine ⟨fun hO h2 => absurd h2 (by omega), fun hO => ?_⟩
        intro l v H18 e18 hl
        refine ⟨_, rfl, rfl, false, congrArg V.bl (by decide +kernel), ?_⟩
        refine ite2 (fun h => absurd h (by decide)) (fun _ => ?_)
        refine ite2 (fun h => absurd h (by decide)) (fun _ => ?_)
        refine ⟨_, rfl, Nat.le_of_lt (sz 3 (by omega)), fun p2 hp2 => ⟨p2, _, rfl, .inr (SqT.of upd_same), rfl, rfl, false, congrArg V.bl (by decide +kernel), ?_⟩⟩
        have e2 := Evl.Ex.new hp2 (o := .tup [.str "bounds", .str "x", .str "y"])
        refine ite2 (fun h => absurd h (by decide)) (fun _ => ?_)
        refine ⟨_, rfl, l, _, 0, _, rfl, rfl, SqL.of (e2 _ _ hl), rfl, rfl, false, congrArg V.bl (by decide +kernel), ?_⟩
        refine ite2 (fun h => absurd h (by decide)) (fun _ => ?_)
        exact ⟨_, _, _, _, _, rfl, ga17.ex (e18.trans e2)⟩
  · rintro σ' H14 ⟨v1, v2, v3, v4, v5, rfl, ga⟩
    exact q _
end
end K43
namespace K43
open PySem PySem.Spec PyProof.Rows L2 Hx Hd M43
open Evl (pss_cut tCut ex_l ex_t)
section
variable {P : Program} {w : World} {K : PySem.W.Frag} {mg : Str → Option Value} {base : Heap}
def spLaw (K : PySem.W.Frag) : Sp := fun vs H Q _ => ∃ (a : Addr) (ns : List Int), vs = [.ref a] ∧ SqL K H a (ns.map V.int) ∧ ns.length ≤ 63 ∧ ∀ H', Q (.bl true) H'
abbrev Nlaw : List Str := ["script", "stream", "kind", "names", "bounds", "closed"]
theorem sclaw : FnScope Nlaw ["script"] (defScope (top 73)) := ⟨rfl, rfl, rfl, by decide +kernel, rfl, by decide +kernel, by decide +kernel⟩
theorem mkFn {x : Str} {st : Stmt} {N ps : List Str} {k : Nat} {sp : Sp} {fd : FuncData} (F : FunD K x x (defArgs st) (defBody st) (defScope st) [] [] (He.ga K x) fd) (sc : FnScope N ps (defScope st))
    (len : ∀ vs H Q E, sp vs H Q E → vs.length = ps.length)
    (body : ∀ (cdv : Value) (A : Around) (outer : List Env) (s : Shared) (H : Hp) (vs : List V) (Q : VK) (E : XK), Room k (A.deeper (envOfC x (defScope st) s.heap.objs.size (He.ga K x) cdv)) → sp vs H Q E →
      ∃ t, PSs (cxOf CX0 P w K mg base N x (defScope st) (He.ga K x) cdv A outer s H E).nox (defBody st) t ∧ t { nx := fun _ H' => Q .non H', rt := Q } (start N vs) H) : FnOk P w K mg base CX0 (k + 1) (He.ga K x) fd ps sp :=
  F.ok sc len fun cdv A outer s H vs Q E hr h => by
    obtain ⟨t, a, b⟩ := body cdv A outer s H vs Q E hr h
    exact ⟨t, a.nox, b⟩
theorem ok_law (T : Txt K mg) {fd : FuncData} (F : FunD K "law" "law" (defArgs (top 73)) (defBody (top 73)) (defScope (top 73)) [] [] (He.ga K "law") fd) : FnOk P w K mg base CX0 9 (He.ga K "law") fd ["script"] (spLaw K) := by
  have C_is_number := ok_number (P := P) (w := w) (base := base) T
  have C_is_bound := ok_bound T C_is_number
  have C_check := ok_check T (ok_bounds T C_is_bound)
  have C_names_of := ok_names (P := P) (w := w) (base := base) T
  have C_are_numbers := ok_arn T C_is_number
  have C_are_met := ok_met (P := P) (w := w) (base := base) T
  have C_lor := ok_lor T (ok_raised (P := P) (w := w) (base := base) T) (ok_ring (P := P) (w := w) (base := base) T)
  have C_ways := ok_ways (P := P) (w := w) (base := base) T
  have C_back := ok_back (P := P) (w := w) (base := base) T
  have C_settled := ok_settled T C_check C_names_of C_lor
  have C_ends := ok_cends T C_check
  have C_highest := ok_highest T C_ends C_names_of C_lor C_ways C_back
  have C_sum := ok_sum T C_is_bound
  have C_ring := ok_isring T C_is_bound C_sum
  have C_ans := ok_ans (P := P) (w := w) (base := base) T
  have C_is_settled := ok_isset T C_check C_ans C_ring C_are_numbers C_names_of C_are_met
  have C_rise := ok_rise (P := P) (w := w) (base := base) T
  have C_is_highest := ok_ishigh T C_ends C_names_of C_ans C_ring C_are_numbers C_are_met C_rise C_is_number C_sum
  have C__law_next := ok_next (P := P) (w := w) (base := base) T
  have C__law_stream := ok_stream (P := P) (w := w) (base := base) T
  have C__law_pick := ok_pick T C__law_next
  have C_pickS := ok_pickS T C__law_next
  have C_shuf := ok_shuf T C__law_next
  have C_from := ok_from T C__law_next
  have C_lnum := ok_lnum (P := P) (w := w) (base := base) T
  have C_word := ok_word (P := P) (w := w) (base := base) T
  have C_row := ok_row (P := P) (w := w) (base := base) T
  have C_same := ok_same (P := P) (w := w) (base := base) T
  have C_copy := ok_copyS T (ok_copyS T (ok_copyS T (ok_copyS T (ok_copy0 (P := P) (w := w) (base := base) T))))
  have C__law_scene := ok_scene T C__law_next C__law_pick C_shuf (ok_odd T C__law_next C__law_pick C_pickS) (ok_loose T C__law_next C__law_pick) (ok_closed T C__law_next C_shuf C_from)
  have C_inb := ok_inb (P := P) (w := w) (base := base) T
  have C_lsum := ok_lsum T C_row C_lnum
  have C_lring := ok_lring T C_row C_lsum
  have C_lnums := ok_lnums T C_lnum
  have C_rset := ok_rset T C_row C_word C_lring C_lnums C_inb
  have C_rising := ok_rising (P := P) (w := w) (base := base) T
  have C_rhigh := ok_rhigh T C_lnum C_word C_lring C_lnums C_inb C_rising C_lsum
  have C_least := ok_least (P := P) (w := w) (base := base) T
  have C_reach := ok_reach (P := P) (w := w) (base := base) T
  have C_led := ok_led (P := P) (w := w) (base := base) T
  have C_spn := ok_spn T C__law_next C__law_pick
  have C_spw := ok_spw T C__law_next C__law_pick
  have C_union := ok_union (P := P) (w := w) (base := base) T
  have C__law_settled_fits := ok_sfits T C_inb C_least C_settled C_same C_rset C_word C_spn C_spw C_is_settled C_copy
  have C__law_highest_fits := ok_hfits T C__law_pick C_inb C_least C_highest C_same C_rhigh C_word C_spn C_spw C_is_highest C_copy C_reach C_led C_union
  have C__law_refusals := ok_refus T C__law_next C__law_pick C__law_scene (ok_told T C_settled C_is_settled C_highest C_is_highest) C_copy C_same
  refine mkFn F sclaw (fun vs H Q E h => ?_) fun cdv A outer s0 H vs Q E hr h => ?_
  · obtain ⟨a, _, rfl, _⟩ := h; rfl
  obtain ⟨sc, sn, rfl, hsc, hsl, q⟩ := h
  refine ⟨_, (pss_cons (ps_set (i := 1) sclaw.nd rfl (Or.inl rfl) (pe_cal (E := E0) C__law_stream (hr.mono (by decide)) pass0 (pa_cons (pv 0) pa_nil)))
      (pss_cons (ps_set (i := 2) sclaw.nd rfl (Or.inl rfl) (pe_cal (E := E0) C__law_next (hr.mono (by decide)) pass0 (pa_cons (pv 1) (pa_cons pe_int pa_nil))))
      (pss_cons (ps_if (pt_cmpR op_lt (pv 2) pe_int (nomark _)) (pss_one (ps_ret (pe_cal (E := E0) C__law_refusals (hr.mono (by decide)) pass0 (pa_cons (pv 1) pa_nil)))) pss_nil)
      (pss_cut (ps_if (pt_cmpR op_eq (pv 2) pe_int (nomark _)) (pss_one (ps_asg (pe_cal (E := E0) C__law_scene (hr.mono (by decide)) pass0 (pa_cons (pv 1) (pa_cons pe_int (pa_cons pe_int pa_nil)))) (pgUnl (K := K) rfl (pgs_cons (pg_name (i := 3) sclaw.nd rfl (Or.inl rfl)) (pgs_cons (pg_name (i := 4) sclaw.nd rfl (Or.inl rfl)) (pgs_cons (pg_name (i := 5) sclaw.nd rfl (Or.inl rfl)) pgs_nil)))))) (pss_one (ps_asg (pe_cal (E := E0) C__law_scene (hr.mono (by decide)) pass0 (pa_cons (pv 1) (pa_cons (pe_cal (E := E0) C__law_pick (hr.mono (by decide)) pass0 (pa_cons (pv 1) (pa_cons (pe_tup (pa_cons pe_int (pa_cons pe_int (pa_cons pe_int (pa_cons pe_int (pa_cons pe_int (pa_cons pe_int (pa_cons pe_int pa_nil)))))))) pa_nil))) (pa_cons (pe_cal (E := E0) C__law_pick (hr.mono (by decide)) pass0 (pa_cons (pv 1) (pa_cons (pe_tup (pa_cons pe_int (pa_cons pe_int (pa_cons pe_int pa_nil)))) pa_nil))) pa_nil)))) (pgUnl (K := K) rfl (pgs_cons (pg_name (i := 3) sclaw.nd rfl (Or.inl rfl)) (pgs_cons (pg_name (i := 4) sclaw.nd rfl (Or.inl rfl)) (pgs_cons (pg_name (i := 5) sclaw.nd rfl (Or.inl rfl)) pgs_nil)))))))
      (pss_cons (ps_if (pt_not (pt_val (pe_cal (E := E0) C__law_settled_fits (hr.mono (by decide)) pass0 (pa_cons (pv 1) (pa_cons (pv 4) (pa_cons (pv 5) pa_nil)))))) (pss_one (ps_ret pe_bl)) pss_nil)
      (pss_one (ps_ret (pe_and (pe_cal (E := E0) C__law_highest_fits (hr.mono (by decide)) pass0 (pa_cons (pv 1) (pa_cons (pv 3) (pa_cons (pv 4) pa_nil)))) (pe_one (pe_cal (E := E0) C__law_highest_fits (hr.mono (by decide)) pass0 (pa_cons (pv 1) (pa_cons (pv 3) (pa_cons (pv 4) pa_nil))))))))))))), ?_⟩
  refine ⟨_, rfl, sc, sn, rfl, hsc, hsl, fun s L H1 _ _ _ st1 => ?_⟩
  refine ⟨_, rfl, s, L, 30, rfl, st1, by decide, by decide, fun kd H2 k0 k1 _ st2 => ?_⟩
  refine ⟨_, rfl, kd, 3, rfl, rfl, _, rfl, ?_⟩
  refine ite2 (fun _ => ⟨_, rfl, s, L, rfl, st2, fun H3 => q H3⟩) (fun _ => ?_)
  have ga0 : Ga s L (fun a => if a = s then none else H2 a) H2 (fun a => if a = s then none else H2 a) H2 := Ga.refl (fun a o h => by
    by_cases e : a = s
    · rw [if_pos e] at h; cases h
    · rw [if_neg e] at h; exact h) st2 (if_pos rfl)
  generalize (fun a => if a = s then none else H2 a) = G0 at ga0
  refine ⟨fun σ' H' => ∃ an b cb, ∃ ns : List Str, ∃ es cl : List Bd, ∃ G', σ' = [some (.ref sc), some (.ref s), some (.int kd), some (.ref an), some (.ref b), some (.ref cb)] ∧ Ga s L G0 H2 G' H' ∧ G' an = some (.lst (ns.map V.str)) ∧ Bds G' b es ∧ Bds G' cb cl ∧ ns.length ≤ 100 ∧ es.length ≤ 400 ∧ cl.length ≤ 100, ?_, ?_⟩
  · refine ⟨_, rfl, rfl, _, rfl, ?_⟩
    refine ite2 (fun _ => ?_) (fun _ => ?_)
    · refine ⟨_, rfl, s, L, 60, 200, G0, rfl, st2, ga0.ge, ga0.gs, by omega, by omega, by omega, by omega, fun t an b cb ns es cl G3 H3 stp3 ht han hb hcb hns hel hcl st3 => ?_⟩
      have ga3 := ga0.stp stp3 st3
      exact ⟨t, _, rfl, SqL.of (ga3.ge _ _ ht), rfl, _, _, rfl, _, _, rfl, _, _, rfl, rfl, an, b, cb, ns, es, cl, G3, rfl, ga3, han, hb, hcb, by omega, hel, hcl⟩
    · refine ⟨_, rfl, _, rfl, Nat.le_of_lt (sz 7 (by omega)), fun t1 ht1 => ?_⟩
      have ga1 := ga0.lay ht1 (o := .tup [.int 1, .int 2, .int 3, .int 3, .int 4, .int 5, .int 7])
      refine ⟨s, L, t1, _, rfl, ga1.st, .inr (SqT.of upd_same), (fun e => by rw [e] at ht1; obtain ⟨o, ho⟩ := st2.there; rw [ho] at ht1; cases ht1), by simp, by simp, fun j1 x1 H3 hx1 kp3 st3 => ?_⟩
      obtain ⟨m, rfl, hm1, hm2⟩ : ∃ m : Nat, x1 = V.int (m : Int) ∧ 1 ≤ m ∧ m ≤ 100 := by
        have hm := List.mem_of_getElem? hx1
        simp only [List.mem_cons, List.not_mem_nil, or_false] at hm
        rcases hm with rfl | rfl | rfl | rfl | rfl | rfl | rfl
        · exact ⟨1, rfl, by omega, by omega⟩
        · exact ⟨2, rfl, by omega, by omega⟩
        · exact ⟨3, rfl, by omega, by omega⟩
        · exact ⟨3, rfl, by omega, by omega⟩
        · exact ⟨4, rfl, by omega, by omega⟩
        · exact ⟨5, rfl, by omega, by omega⟩
        · exact ⟨7, rfl, by omega, by omega⟩
      have ga3 := ga1.next kp3 st3
      refine ⟨_, rfl, Nat.le_of_lt (sz 3 (by omega)), fun t2 ht2 => ?_⟩
      have ga4 := ga3.lay ht2 (o := .tup [.int 4, .int 8, .int 14])
      refine ⟨s, L, t2, _, rfl, ga4.st, .inr (SqT.of upd_same), (fun e => by rw [e] at ht2; obtain ⟨o, ho⟩ := st3.there; rw [ho] at ht2; cases ht2), by simp, by simp, fun j2 x2 H5 hx2 kp5 st5 => ?_⟩
      obtain ⟨mo, rfl, ho1, ho2⟩ : ∃ mo : Int, x2 = V.int mo ∧ 1 ≤ mo ∧ mo ≤ 300 := by
        have hm := List.mem_of_getElem? hx2
        simp only [List.mem_cons, List.not_mem_nil, or_false] at hm
        rcases hm with rfl | rfl | rfl <;> exact ⟨_, rfl, by omega, by omega⟩
      have ga5 := ga4.next kp5 st5
      refine ⟨s, L, m, mo, G0, rfl, st5, ga5.ge, ga5.gs, hm1, hm2, ho1, ho2, fun t an b cb ns es cl G6 H6 stp6 ht han hb hcb hns hel hcl st6 => ?_⟩
      have ga6 := ga5.stp stp6 st6
      exact ⟨t, _, rfl, SqL.of (ga6.ge _ _ ht), rfl, _, _, rfl, _, _, rfl, _, _, rfl, rfl, an, b, cb, ns, es, cl, G6, rfl, ga6, han, hb, hcb, by omega, hel, hcl⟩
  rintro σ' H3 ⟨an, b, cb, ns, es, cl, G3, rfl, ga3, han, hb, hcb, hns, hel, hcl⟩
  refine ⟨_, rfl, _, rfl, _, rfl, s, L, b, es, cb, cl, G3, rfl, ga3.st, ga3.ge, ga3.gs, hb, hcb, hel, hcl, fun G4 H4 ga4 => ⟨_, rfl, ?_⟩⟩
  refine ite2 (fun h => absurd h (by decide)) (fun _ => ?_)
  have x4 := ga4.a.gg
  refine ⟨_, rfl, _, rfl, _, rfl, s, L, an, b, ns, es, G4, rfl, ga4.st, ga4.ge, ga4.gs, x4 _ _ han, hns, hb.ex x4, hel, fun G5 H5 ga5 => ⟨true, rfl, ?_⟩⟩
  refine ite2 (fun _ => ?_) (fun h => absurd rfl h)
  have x5 := x4.trans ga5.a.gg
  exact ⟨_, rfl, _, rfl, _, rfl, s, L, an, b, ns, es, G5, rfl, ga5.st, ga5.ge, ga5.gs, x5 _ _ han, hns, hb.ex x5, hel, fun G6 H6 ga6 => q H6⟩
end
end K43
namespace K43
open PySem PySem.Spec PyProof.Rows L2 Hx Hd M43
theorem facts {P : Program} {w w' : World} {K : PySem.W.Frag} {h : Heap} {mg : Str → Option Value} {f : Addr} (X : K.In h) (G : h.Ns mainGlobals mg) (hfa : mg ("law" : Str) = some (.ref f)) (c : He.SaysX fa fn [] [] ex w' h K) :
    ∃ fd : FuncData, (∀ (s : Shared) (v : Value), BindsTo s fd ⟨[v], []⟩ [("script", v)]) ∧ ∀ base : Heap, K.In base → base.Ns mainGlobals mg → FnOk P w K mg base CX0 9 f fd ["script"] (spLaw K) := by
  have T := txt_of X G c
  obtain ⟨fd, F⟩ := T.d_law
  have e := hfa.symm.trans T.g_law
  cases e
  have b := FunD.bindsA (ps := ["script"]) F fun _ _ _ _ _ _ us hl => match us, hl with | [_], _ => rfl
  exact ⟨fd, fun s v => b s [v] rfl, fun base _ _ => ok_law T F⟩
end K43
open PySem PySem.W PySem.Calls PyProof.Rows
theorem PySem.Challenge.cw_holdtogether_k43_numbers_or_a_ring_holds : PySem.Challenge.rw_holdtogether_k43_numbers_or_a_ring.Holds := by
  w_on; o_law
  refine HandSHeadRun.head_any (r := OpenLaw.row PySem.Challenge.rw_holdtogether_k43_numbers_or_a_ring) (q := view (OpenLaw.row PySem.Challenge.rw_holdtogether_k43_numbers_or_a_ring).prog [73]) (H := Hd.hk) (ob := Hd.ob) (M := 7000) (loose := Hd.loose) (d := HandSHeadRun.topDef (OpenLaw.row PySem.Challenge.rw_holdtogether_k43_numbers_or_a_ring).prog 73) (kwd := []) Hd.ob_eq
    (by kernel_rfl) (fun s => by kernel_rfl) Hd.run (by kernel_rfl) (by kernel_rfl) (by kernel_rfl) (by rfl) (by first | assumption | decide +kernel) (by decide +kernel) ⟨rfl, rfl, rfl, rfl, rfl, by decide +kernel⟩ ?hw ?hc
  case hw => w_witness2
  case hc =>
    refine L2.walk_ofE (l := PySem.Challenge.rw_holdtogether_k43_numbers_or_a_ring) (n := 63) (k := 9) (x := "script") (CX := L2.CX0) rfl (by decide) (by kernel_rfl) ⟨rfl, by decide, by decide⟩ ?F (fun _ _ _ _ z => z)
    intro w mg fa h Y G hmg0
    obtain ⟨K, KX, c⟩ := Y
    have hmg : mg ("law" : PySem.Str) = some (.ref fa) := by
      have e : (HandSHeadRun.topDef (OpenLaw.row PySem.Challenge.rw_holdtogether_k43_numbers_or_a_ring).prog 73).name = ("law" : PySem.Str) := by kernel_rfl
      rw [← e]
      exact hmg0
    obtain ⟨fd, hb, hF⟩ := K43.facts (P := (PySem.Challenge.rw_holdtogether_k43_numbers_or_a_ring).prog) (w := w) KX G hmg c
    exact ⟨K, fd, K43.spLaw K, KX, hb, fun H a ns hl _ hS => ⟨a, ns, rfl, hS, hl, fun _ => rfl⟩, hF⟩
