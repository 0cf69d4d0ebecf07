import PyProof.Rows.All
import Wide.All
import OpenK.AllK
import Wide.FinOn
import HandS.ForMost
import HandS.Evl
import HandS.IsInst
import HandS.Defaults
import HandS.HeadHook2
import HandS.ExcInit
import HandS.Walk
import HandS.ForExc
import HandS.Style
import HandS.SortKw
import HandS.Strs
import HandS.Wide
import KE.SortData
import HandS.SetBool
import KE.KExcIs
import HandS.ExcField
import HandS.ExcIs
import HandS.HotCalls
import HandS.ExcInitHot
import HandS.SetFor
import KE.KStateDown
import Lean
import HandS.HeadHook4
import HandS.Head0
import HandS.Head1
import HandS.Head2
import HandS.HeadEnd
import PySem.Challenge.RW_holdtogether_k44_seats_or_a_crowd
import PySem.PyData
import HandS.Conv
import HandS.Text
import HandS.ExcOwn
import HandS.WordsExc
set_option Elab.async false
set_option linter.all false
set_option maxRecDepth 100000
set_option maxHeartbeats 4000000
namespace Hx
open PySem PySem.Spec PyProof.Rows L2
abbrev Ex := Evl.Ex
/-! ### what a called def gives -/
structure Cal (P : Program) (w : World) (K : PySem.W.Frag) (mg : Str → Option Value) (base : Heap) (CX : CXT) (k : Nat) (x : Str) (ps : List Str) (sp : Sp) : Prop where
  g : mg x = some (.ref (He.ga K x))
  ex : ∃ fd, PySem.W.keepIn K (.ref (He.ga K x)) = true ∧ FnOk P w K mg base CX k (He.ga K x) fd ps sp ∧ Binds K fd ps []
section
variable {X : Cx}
theorem pe_cal {CX : CXT} {k : Nat} {x : Str} {ps : List Str} {sp : Sp} {E : XK} {p pos : Pos} {e : Expr} {es : List Expr} {t : TA} (C : Cal X.prog X.w X.K X.mg X.base CX k x ps sp) (hr : Room k X.A) (hx : Passes CX X E)
    (ha : PA X (e :: es) t) (hg : Gl X x := by rfl) (hdb : (x == ("__debug__" : Str)) = false := by decide) (he : starEach (e :: es) X.env = (false, eval e X.env) :: starEach es X.env := by rfl) (hpl : (backTo pos (starEach es X.env)).any (·.1) = false := by rfl) :
    PE X (.Call (.Name x p) (e :: es) [] pos) (tCall sp [] E t) := by
  obtain ⟨fd, kp, F, b⟩ := C.ex
  exact pe_call F hr hg C.g kp b .nil hx ha hdb he hpl
end
/-! ### heaps -/
theorem ex_dp {K : PySem.W.Frag} {H H' : Hp} (e : Ex H H') : ∀ (d : PyData) (v : V), Dp K H v d → Dp K H' v d := by
  intro d
  refine PyData.rec (motive_1 := fun d => ∀ v, Dp K H v d → Dp K H' v d) (motive_2 := fun ds => ∀ vs, DpAll K H vs ds → DpAll K H' vs ds) (motive_3 := fun _ => True) (motive_4 := fun _ => True) ?_ ?_ ?_ ?_ ?_ ?_ ?_ ?_ ?_ ?_ ?_ ?_ d
  · intro v h; cases h; exact .non
  · intro b v h; cases h; exact .bl b
  · intro i v h; cases h; exact .int i
  · intro x v h; cases h; exact .str x
  · intro xs ih v h
    cases h with
    | lst hs ha => exact .lst (Evl.ex_l e hs) (ih _ ha)
  · intro xs ih v h
    cases h with
    | tup hs ha => exact .tup (Evl.ex_t e hs) (ih _ ha)
  · intro kvs _ v h; cases h
  · intro vs h; cases h; exact .nil
  · intro d ds ih ihs vs h
    cases h with
    | cons h1 h2 => exact .cons (ih _ h1) (ihs _ h2)
  · trivial
  · intros; trivial
  · intros; trivial
theorem ex_dpa {K : PySem.W.Frag} {H H' : Hp} (e : Ex H H') : ∀ {ds : List PyData} {vs : List V}, DpAll K H vs ds → DpAll K H' vs ds
  | [], _, h => by cases h; exact .nil
  | d :: ds, _, h => by
    cases h with
    | cons h1 h2 => exact .cons (ex_dp e d _ h1) (ex_dpa e h2)
section
variable {K : PySem.W.Frag} {H H' : Hp}
theorem dpa_len : ∀ {ds : List PyData} {vs : List V}, DpAll K H vs ds → vs.length = ds.length
  | [], _, h => by cases h; rfl
  | d :: ds, _, h => by
    cases h with
    | cons h1 h2 => exact congrArg Nat.succ (dpa_len h2)
theorem dpa_get : ∀ {ds : List PyData} {vs : List V}, DpAll K H vs ds → ∀ {i : Nat} {v : V}, vs[i]? = some v → ∃ d, ds[i]? = some d ∧ Dp K H v d
  | [], _, h, i, v, e => by cases h; simp at e
  | d :: ds, _, h, i, v, e => by
    cases h with
    | cons h1 h2 =>
      cases i with
      | zero =>
        have e' := Option.some.inj (show some _ = some v from by simpa using e)
        subst e'
        exact ⟨d, by simp, h1⟩
      | succ i =>
        obtain ⟨d', a, b⟩ := dpa_get h2 (i := i) (v := v) (by simpa using e)
        exact ⟨d', by simpa using a, b⟩
theorem dpa_get' : ∀ {ds : List PyData} {vs : List V}, DpAll K H vs ds → ∀ {i : Nat} {d : PyData}, ds[i]? = some d → ∃ v, vs[i]? = some v ∧ Dp K H v d := by
  intro ds vs h i d e
  have hl := dpa_len h
  have hi : i < ds.length := (List.getElem?_eq_some_iff.mp e).1
  obtain ⟨d', a, b⟩ := dpa_get h (i := i) (v := vs[i]'(by omega)) (by simp)
  rw [e] at a; cases a
  exact ⟨_, by simp, b⟩
theorem dpa_app : ∀ {ds es : List PyData} {vs us : List V}, DpAll K H vs ds → DpAll K H us es → DpAll K H (vs ++ us) (ds ++ es)
  | [], _, _, _, h, k => by cases h; exact k
  | d :: ds, _, _, _, h, k => by
    cases h with
    | cons h1 h2 => exact .cons h1 (dpa_app h2 k)
theorem dpa_of {ds : List PyData} {vs : List V} (hl : vs.length = ds.length) (h : ∀ (i : Nat) (v : V) (d : PyData), vs[i]? = some v → ds[i]? = some d → Dp K H v d) : DpAll K H vs ds := by
  induction vs generalizing ds with
  | nil => cases ds with
    | nil => exact .nil
    | cons _ _ => cases hl
  | cons v vs ih => cases ds with
    | nil => cases hl
    | cons d ds => exact .cons (h 0 v d rfl rfl) (ih (Nat.succ.inj hl) fun i v d a b => h (i + 1) v d (by simpa using a) (by simpa using b))
theorem dp_list {v : V} {ds : List PyData} (h : Dp K H v (.list ds)) : ∃ a xs, v = .ref a ∧ SqL K H a xs ∧ DpAll K H xs ds := by
  cases h with
  | lst hs ha => exact ⟨_, _, rfl, hs, ha⟩
theorem dp_tup {v : V} {ds : List PyData} (h : Dp K H v (.tuple ds)) : ∃ a xs, v = .ref a ∧ SqT K H a xs ∧ DpAll K H xs ds := by
  cases h with
  | tup hs ha => exact ⟨_, _, rfl, hs, ha⟩
theorem dpa_ints : ∀ (ns : List Int), DpAll K H (ns.map V.int) (ns.map PyData.int)
  | [] => .nil
  | n :: ns => .cons (.int n) (dpa_ints ns)
theorem dpa_ints' : ∀ {ns : List Int} {vs : List V}, DpAll K H vs (ns.map PyData.int) → vs = ns.map V.int
  | [], _, h => by cases h; rfl
  | n :: ns, _, h => by
    cases h with
    | cons h1 h2 => cases h1; rw [dpa_ints' h2]; rfl
end
/-! ### types -/
def tyN : PyData → String
  | .none => "NoneType"
  | .bool _ => "bool"
  | .int _ => "int"
  | .str _ => "str"
  | .list _ => "list"
  | .tuple _ => "tuple"
  | .dict _ => "dict"
theorem ty_l {K : PySem.W.Frag} {H : Hp} {a : Addr} {xs : List V} (h : SqL K H a xs) : TyX K H (.ref a) (.type "list") := by
  rcases h with (h | ⟨o, h⟩) | ⟨o, its, n, hk, hc, _⟩
  · exact .base (.lst h)
  · exact .base (.frz h)
  · exact .kList hk hc
theorem ty_t {K : PySem.W.Frag} {H : Hp} {a : Addr} {xs : List V} (h : SqT K H a xs) : TyX K H (.ref a) (.type "tuple") := by
  rcases h with (h | ⟨o, h⟩) | ⟨o, its, n, hk, hc, _⟩
  · exact .base (.tup h)
  · exact .fTuple h
  · exact .kTuple hk hc
theorem ty_dp {K : PySem.W.Frag} {H : Hp} {v : V} {d : PyData} (h : Dp K H v d) : TyX K H v (.type (tyN d)) := by
  cases h with
  | non => exact .base .non
  | bl b => exact .base (.bl b)
  | int i => exact .base (.int i)
  | str x => exact .base (.str x)
  | lst hs _ => exact ty_l hs
  | tup hs _ => exact ty_t hs
def isT (T : String) (d : PyData) : Bool := match d with
  | .none => false
  | .bool _ => T == "bool" || T == "int"
  | .int _ => T == "int"
  | .str _ => T == "str"
  | .list _ => T == "list"
  | .tuple _ => T == "tuple"
  | .dict _ => T == "dict"
theorem kit_int (d : PyData) : kitB (tyN d) "int" = some (isT "int" d) := by cases d <;> (dsimp only [tyN, isT]; decide +kernel)
theorem kit_bool (d : PyData) : kitB (tyN d) "bool" = some (isT "bool" d) := by cases d <;> (dsimp only [tyN, isT]; decide +kernel)
theorem kit_str (d : PyData) : kitB (tyN d) "str" = some (isT "str" d) := by cases d <;> (dsimp only [tyN, isT]; decide +kernel)
theorem kit_list (d : PyData) : kitB (tyN d) "list" = some (isT "list" d) := by cases d <;> (dsimp only [tyN, isT]; decide +kernel)
theorem kit_tup (d : PyData) : kitB (tyN d) "tuple" = some (isT "tuple" d) := by cases d <;> (dsimp only [tyN, isT]; decide +kernel)
theorem kit_dict (d : PyData) : kitB (tyN d) "dict" = some (isT "dict" d) := by cases d <;> (dsimp only [tyN, isT]; decide +kernel)
/-- isinstance(x, T) of a datum, T a built-in class -/
theorem isi_dp {K : PySem.W.Frag} {H : Hp} {v : V} {d : PyData} {T : String} {Q : VK} (h : Dp K H v d) (k : kitB (tyN d) T = some (isT T d)) (q : Q (.bl (isT T d)) H) : rIsi K [v, .ty T] H Q :=
  ⟨v, .ty T, .type (tyN d), .type T, _, rfl, .ty T, ty_dp h, kit_ty k, q⟩
/-! ### steps: G the part of the heap that stands still, M what may change besides what is new -/
structure Stp (M : Addr → Prop) (G H G' H' : Hp) : Prop where
  hh : ∀ a o, ¬ M a → H a = some o → H' a = some o
  dm : ∀ a, H' a = none → H a = none
  gg : Ex G G'
  gh : Ex G' H'
  fr : ∀ a, H a ≠ none → G a = none → G' a = none
abbrev NoM : Addr → Prop := fun _ => False
section
variable {M M' : Addr → Prop} {G H G' H' G'' H'' : Hp} {p : Addr} {o : HO} {K : PySem.W.Frag}
theorem Stp.refl (e : Ex G H) : Stp M G H G H := ⟨fun _ _ _ h => h, fun _ h => h, Evl.Ex.refl _, e, fun _ _ h => h⟩
theorem Stp.trans (a : Stp M G H G' H') (b : Stp M G' H' G'' H'') : Stp M G H G'' H'' :=
  ⟨fun x u m h => b.hh x u m (a.hh x u m h), fun x h => a.dm x (b.dm x h), a.gg.trans b.gg, b.gh, fun x h n => b.fr x (fun z => h (a.dm x z)) (a.fr x h n)⟩
theorem Stp.imp (a : Stp M G H G' H') (h : ∀ x, M x → M' x) : Stp M' G H G' H' := ⟨fun x u m => a.hh x u fun z => m (h x z), a.dm, a.gg, a.gh, a.fr⟩
theorem Stp.ex (a : Stp NoM G H G' H') : Ex H H' := fun x u h => a.hh x u (fun z => z) h
theorem Stp.unk (a : Stp M G H G' H') (h : H' p = none) : H p = none := a.dm p h
/-- nothing of G is touched -/
theorem Stp.of (e : Ex G H) (h : Ex H H') : Stp M G H G H' := ⟨fun x u _ => h x u, fun x n => Evl.fresh_back h n, Evl.Ex.refl _, e.trans h, fun _ _ n => n⟩
/-- a new object that will not change -/
theorem Stp.new (e : Ex G H) (h : H p = none) : Stp M G H (upd G p o) (upd H p o) := by
  have hg : G p = none := Evl.fresh_back e h
  refine ⟨fun x u _ q => ?_, fun x n => ?_, Evl.Ex.new hg, fun x u q => ?_, fun x q n => ?_⟩
  · rw [upd_ne (ne_of_none q h)]; exact q
  · by_cases hx : x = p
    · rw [hx, upd_same] at n; cases n
    · rw [upd_ne hx] at n; exact n
  · by_cases hx : x = p
    · rw [hx, upd_same] at q ⊢; exact q
    · rw [upd_ne hx] at q ⊢; exact e x u q
  · have hx : x ≠ p := fun z => q (by rw [z]; exact h)
    rw [upd_ne hx]; exact n
/-- a new object that may change -/
theorem Stp.lay (e : Ex G H) (h : H p = none) : Stp M G H G (upd H p o) := Stp.of e (Evl.Ex.new h)
/-- what is new since the start, or may change, changes -/
theorem Stp.mut (a : Stp M G H G' H') (h : H p = none ∨ M p) (g : G' p = none) : Stp M G H G' (upd H' p o) := by
  refine ⟨fun x u m q => ?_, fun x n => ?_, a.gg, fun x u q => ?_, a.fr⟩
  · have hx : x ≠ p := by
      rintro rfl
      rcases h with h | h
      · rw [h] at q; cases q
      · exact m h
    rw [upd_ne hx]; exact a.hh x u m q
  · by_cases hx : x = p
    · rw [hx, upd_same] at n; cases n
    · rw [upd_ne hx] at n; exact a.dm x n
  · have hx : x ≠ p := fun z => by rw [z, g] at q; cases q
    rw [upd_ne hx]; exact a.gh x u q
/-- what is new stands still from now on -/
theorem Stp.fix (a : Stp M G H G' H') (h : H p = none) (e : H' p = some o) : Stp M G H (upd G' p o) H' := by
  refine ⟨a.hh, a.dm, a.gg.trans fun x u q => ?_, fun x u q => ?_, fun x q n => ?_⟩
  · by_cases hx : x = p
    · have := a.gh x u q
      rw [hx, e] at this; rw [hx, upd_same]; exact this
    · rw [upd_ne hx]; exact q
  · by_cases hx : x = p
    · rw [hx, upd_same] at q; rw [hx, e]; exact q
    · rw [upd_ne hx] at q; exact a.gh x u q
  · have hx : x ≠ p := fun z => q (by rw [z]; exact h)
    rw [upd_ne hx]; exact a.fr x q n
theorem Stp.gn (a : Stp M G H G' H') (h : H p ≠ none) (g : G p = none) : G' p = none := a.fr p h g
theorem some_ne {H : Hp} {p : Addr} {o : HO} (h : H p = some o) : H p ≠ none := by rw [h]; exact fun z => nomatch z
end
/-! ### what an expression gives -/
abbrev Good (M : Addr → Prop) (G H : Hp) (R : V → Hp → Prop) (Q : VK) : Prop := ∀ v G2 H2, Stp M G H G2 H2 → R v G2 → Q v H2
/-- the places of a comprehension whose tests hold, each with what was made for it -/
abbrev Sel (R : Nat → V → Hp → Prop) (f : Nat → Bool) (n : Nat) (ys : List V) (G : Hp) : Prop := Paired (fun i y => R i y G) ((List.range n).filter f) ys
theorem sel_mono {R : Nat → V → Hp → Prop} (mono : ∀ i v G G', Ex G G' → R i v G → R i v G') {f : Nat → Bool} {n : Nat} {ys : List V} {G G' : Hp} (e : Ex G G') (h : Sel R f n ys G) : Sel R f n ys G' :=
  Paired.mapP h fun i y r => mono i y G G' e r
theorem paired_app {α β : Type} {F : α → β → Prop} : ∀ {as as' : List α} {bs bs' : List β}, Paired F as bs → Paired F as' bs' → Paired F (as ++ as') (bs ++ bs')
  | _, _, _, _, .nil, h => h
  | _, _, _, _, .cons r t, h => .cons r (paired_app t h)
theorem sel_yes {R : Nat → V → Hp → Prop} {f : Nat → Bool} {n : Nat} {ys : List V} {G : Hp} {y : V} (h : Sel R f n ys G) (hf : f n = true) (r : R n y G) : Sel R f (n + 1) (ys ++ [y]) G := by
  show Paired _ _ _
  rw [List.range_succ, List.filter_append, List.filter_cons, if_pos hf]
  exact paired_app h (.cons r .nil)
theorem sel_no {R : Nat → V → Hp → Prop} {f : Nat → Bool} {n : Nat} {ys : List V} {G : Hp} (h : Sel R f n ys G) (hf : f n = false) : Sel R f (n + 1) ys G := by
  show Paired _ _ _
  rw [List.range_succ, List.filter_append, List.filter_cons, if_neg (by rw [hf]; decide)]
  show Paired _ (_ ++ []) _
  rw [List.append_nil]
  exact h
theorem sel_len {R : Nat → V → Hp → Prop} {f : Nat → Bool} {n : Nat} {ys : List V} {G : Hp} (h : Sel R f n ys G) : ys.length ≤ n := by
  have := h.length
  have l := List.length_filter_le f (List.range n)
  rw [List.length_range] at l
  omega
section
variable {K : PySem.W.Frag} {M : Addr → Prop} {G H : Hp} {σ : L2.St} {g : TG} {tt : TT} {te : TE} {vs : List Nat} {Q : VK}
/-- one turn of a comprehension: what is known before it gives what is known behind it -/
structure CW (M : Addr → Prop) (G H : Hp) (R : Nat → V → Hp → Prop) (f : Nat → Bool) (D : Addr) (i : Nat) (H' : Hp) : Prop where
  ex : ∃ G' ys, Stp M G H G' H' ∧ H D = none ∧ G' D = none ∧ H' D = some (.lst ys) ∧ Sel R f i ys G'
theorem cw_0 {R : Nat → V → Hp → Prop} {f : Nat → Bool} {D : Addr} {H1 : Hp} {G1 : Hp} (a : Stp M G H G1 H1) (h : H1 D = none) : CW M G H R f D 0 (upd H1 D (.lst [])) :=
  ⟨G1, [], a.trans (Stp.lay a.gh h), a.dm _ h, Evl.fresh_back a.gh h, upd_same, .nil⟩
theorem cw_turn {R : Nat → V → Hp → Prop} (mono : ∀ i v G G', Ex G G' → R i v G → R i v G') {f : Nat → Bool} {D : Addr} {i n : Nat} {H' : Hp} {σ2 : L2.St} (c : CW M G H R f D i H') (hi : i < n) (hn : n ≤ 1000000)
    (ht : ∀ G' H', Stp M G H G' H' → ∀ Q : Bool → Hp → Prop, (∀ G2 H2, Stp M G' H' G2 H2 → Q (f i) H2) → tt σ2 H' Q)
    (he : f i = true → ∀ G' H', Stp M G H G' H' → ∀ Q : VK, Good M G' H' (R i) Q → te σ2 H' Q) (hM : ∀ D, H D = none → ¬ M D) :
    tt σ2 H' fun b H3 => if b = true then te σ2 H3 fun y H4 => ∃ acc, H4 D = some (.lst acc) ∧ acc.length < sizeLine ∧ CW M G H R f D (i + 1) (upd H4 D (.lst (acc ++ [y]))) else CW M G H R f D (i + 1) H3 := by
  obtain ⟨G', ys, a, hD, gD, hl, hs⟩ := c.ex
  refine ht G' H' a _ fun G2 H2 b => ?_
  have ab := a.trans b
  have gD2 : G2 D = none := b.fr D (some_ne hl) gD
  have hl2 : H2 D = some (.lst ys) := b.hh D _ (hM D hD) hl
  have hs2 := sel_mono mono b.gg hs
  cases hf : f i with
  | false =>
    rw [if_neg Bool.false_ne_true]
    exact ⟨G2, ys, ab, hD, gD2, hl2, sel_no hs2 hf⟩
  | true =>
    rw [if_pos rfl]
    refine he hf G2 H2 ab _ fun y G3 H3 d r => ?_
    have hl3 : H3 D = some (.lst ys) := d.hh D _ (hM D hD) hl2
    have gD3 : G3 D = none := d.fr D (some_ne hl2) gD2
    have hz := sel_len hs
    refine ⟨ys, hl3, Nat.lt_of_lt_of_le (show ys.length < 1000000 + 1 by omega) (by decide), G3, ys ++ [y], (ab.trans d).mut (.inl hD) gD3, hD, gD3, upd_same, sel_yes (sel_mono mono d.gg hs2) hf r⟩
theorem lcW {J : It} {n : Nat} {Wg : Hp → Prop} {Y : Nat → Hp → V → Hp → Prop} (w : Walk J n Wg Y) (e : Ex G H) (hWg : ∀ H', Ex G H' → Wg H') (hn : n ≤ 1000000) (R : Nat → V → Hp → Prop) (mono : ∀ i v G G', Ex G G' → R i v G → R i v G') (f : Nat → Bool) (σt : Nat → L2.St)
    (hg : ∀ i x G' H' H'', i < n → Stp M G H G' H' → Y i H' x H'' → ∀ Q : L2.St → Hp → Prop, (∀ G2 H2, Stp M G' H' G2 H2 → Q (σt i) H2) → g x (wipe σ vs) H'' Q) (hw : ∀ i, i < n → wipe (σt i) vs = wipe σ vs)
    (ht : ∀ i G' H', i < n → Stp M G H G' H' → ∀ Q : Bool → Hp → Prop, (∀ G2 H2, Stp M G' H' G2 H2 → Q (f i) H2) → tt (σt i) H' Q)
    (he : ∀ i G' H', i < n → f i = true → Stp M G H G' H' → ∀ Q : VK, Good M G' H' (R i) Q → te (σt i) H' Q) (hM : ∀ D, H D = none → ¬ M D) {D : Addr} (hD : H D = none) {Qd : Hp → Prop}
    (hd : ∀ ys G' H', Stp M G H G' H' → G' D = none → H' D = some (.lst ys) → Sel R f n ys G' → Qd H') :
    ∃ W : Nat → Nat → Hp → Prop, (∃ m, W 0 m (upd H D (.lst []))) ∧ ∀ i m H, W i m H →
      (J.stop i H ∧ Qd H) ∨ (J.go i H ∧ ∃ Nx : Hp → Prop, (∀ H', Nx H' → ∃ m', m' < m ∧ W (i + 1) m' H') ∧ ∀ x H', J.yld i H x H' → g x (wipe σ vs) H' fun σ2 H2 => wipe σ2 vs = wipe σ vs ∧ tt σ2 H2 fun b H3 =>
        if b = true then te σ2 H3 fun y H4 => ∃ acc, H4 D = some (.lst acc) ∧ acc.length < sizeLine ∧ Nx (upd H4 D (.lst (acc ++ [y]))) else Nx H3) := by
  refine lc_it w (CW M G H R f D) (cw_0 (Stp.refl e) hD) (fun i H' _ c => ?_) (fun i x H' H'' hi c y => ?_) (fun H' c => ?_)
  · obtain ⟨G', ys, a, _⟩ := c.ex
    exact hWg _ (a.gg.trans a.gh)
  · obtain ⟨G', ys, a, hD', gD, hl, hs⟩ := c.ex
    refine hg i x G' H' H'' hi a y _ fun G2 H2 b => ⟨hw i hi, ?_⟩
    refine cw_turn mono ⟨G2, ys, a.trans b, hD', b.fr D (some_ne hl) gD, b.hh D _ (hM D hD') hl, sel_mono mono b.gg hs⟩ hi hn (fun G3 H3 c => ht i G3 H3 hi c) (fun hf G3 H3 c => he i G3 H3 hi hf c) hM
  · obtain ⟨G', ys, a, hD', gD, hl, hs⟩ := c.ex
    exact hd ys G' H' a gD hl hs
/-- the target is a name -/
theorem turn_name {xs : List V} {j i : Nat} {x v : V} {G' H' H'' : Hp} {σ0 : L2.St} {Q : L2.St → Hp → Prop} (a : Stp M G H G' H') (y : YAt xs i H' x H'') (hv : xs[i]? = some v) (q : ∀ G2 H2, Stp M G' H' G2 H2 → Q (σ0.set j (some v)) H2) : gName j x σ0 H'' Q := by
  obtain ⟨rfl, e⟩ := y
  rw [hv] at e; cases e
  exact q G' H'' (Stp.refl a.gh)
theorem turn_range {f : Nat → V} {j i : Nat} {x : V} {G' H' H'' : Hp} {σ0 : L2.St} {Q : L2.St → Hp → Prop} (a : Stp M G H G' H') (y : YFn f i H' x H'') (q : ∀ G2 H2, Stp M G' H' G2 H2 → Q (σ0.set j (some (f i))) H2) : gName j x σ0 H'' Q := by
  obtain ⟨rfl, rfl⟩ := y
  exact q G' H'' (Stp.refl a.gh)
end
/-- no test -/
theorem yes_t {M : Addr → Prop} {G H : Hp} {σ : L2.St} (e : Ex G H) {Q : Bool → Hp → Prop} (q : ∀ G2 H2, Stp M G H G2 H2 → Q true H2) : tYes σ H Q := q G H (Stp.refl e)
theorem sel_all {R : Nat → V → Hp → Prop} {n : Nat} {ys : List V} {G : Hp} (h : Sel R (fun _ => true) n ys G) : ys.length = n ∧ ∀ i, i < n → ∃ y, ys[i]? = some y ∧ R i y G := by
  have e : (List.range n).filter (fun _ => true) = List.range n := List.filter_eq_self.mpr fun _ _ => rfl
  have h' : Paired (fun i y => R i y G) (List.range n) ys := by
    have := h
    unfold Sel at this
    rw [e] at this
    exact this
  have hl := h'.length
  rw [List.length_range] at hl
  refine ⟨hl.symm, fun i hi => ?_⟩
  have gen : ∀ {as : List Nat} {bs : List V}, Paired (fun i y => R i y G) as bs → ∀ {j a : Nat}, as[j]? = some a → ∃ y, bs[j]? = some y ∧ R a y G := by
    intro as bs p
    induction p with
    | nil => intro j a e; simp at e
    | cons r t ih =>
      intro j a e
      cases j with
      | zero => simp at e; subst e; exact ⟨_, by simp, r⟩
      | succ j => simpa using ih (j := j) (a := a) (by simpa using e)
  exact gen h' (by simp [hi])
end Hx
namespace Hx
open PySem PySem.Spec PyProof.Rows L2
/-! ### the layer's rules with the written part by its own letter -/
section
variable {X : Cx} {K : PySem.W.Frag}
theorem ixL (h : X.K = K := by rfl) : IxR X (rIxL K) := by subst h; exact ix_list
theorem ixT (h : X.K = K := by rfl) : IxR X (rIxT K) := by subst h; exact ix_tup
theorem ixS (h : X.K = K := by rfl) : IxR X (fun x y H Q => rIxL K x y H Q ∨ rIxT K x y H Q) := (ixL h).or (ixT h)
theorem slL (h : X.K = K := by rfl) : SlR X (rSlL K) := by subst h; exact sl_list
theorem slT (h : X.K = K := by rfl) : SlR X (rSlT K) := by subst h; exact sl_tup
theorem inL (h : X.K = K := by rfl) : OpR X (compareOp .In) (rIn K false) := by subst h; exact op_in_seq
theorem ninL (h : X.K = K := by rfl) : OpR X (compareOp .NotIn) (rIn K true) := by subst h; exact op_notIn_seq
theorem catT (h : X.K = K := by rfl) : OpR X (binaryOp .Add) (rCatT K) := by subst h; exact op_catT
abbrev rLenQ (K : PySem.W.Frag) : List V → Hp → VK → Prop := fun xs H Q => ∃ p ys, xs = [.ref p] ∧ (SqL K H p ys ∨ SqT K H p ys) ∧ Q (.int ys.length) H
theorem lenL (h : X.K = K := by rfl) : CallR X (.builtin "len") (rLenQ K) := by subst h; exact call_len_seq
abbrev rListQ (K : PySem.W.Frag) : List V → Hp → VK → Prop := fun xs H Q => ∃ p ys, xs = [.ref p] ∧ (SqL K H p ys ∨ SqT K H p ys) ∧ ∀ l, H l = none → Q (.ref l) (upd H l (.lst ys))
theorem listOf (h : X.K = K := by rfl) : CallR X (.type "list") (rListQ K) := by subst h; exact call_list_of
abbrev rTupQ (K : PySem.W.Frag) : List V → Hp → VK → Prop := fun xs H Q => ∃ p ys, xs = [.ref p] ∧ ((SqL K H p ys ∧ ∀ l, H l = none → Q (.ref l) (upd H l (.tup ys))) ∨ (SqT K H p ys ∧ Q (.ref p) H))
theorem tupOf (h : X.K = K := by rfl) : CallR X (.type "tuple") (rTupQ K) := by subst h; exact call_tuple_of
theorem isiR (h : X.K = K := by rfl) : CallR X (.builtin "isinstance") (rIsi K) := by subst h; exact call_isi
theorem allR (hc : X.calm = true) (h : X.K = K := by rfl) : CallR X (.builtin "all") (rAll K) := by subst h; exact cr_all hc
theorem anyR (hc : X.calm = true) (h : X.K = K := by rfl) : CallR X (.builtin "any") (rAny K) := by subst h; exact cr_any hc
theorem sumR (hc : X.calm = true) (h : X.K = K := by rfl) : CallR X (.builtin "sum") (rSum K) := by subst h; exact cr_sum hc
theorem sortRev (h : X.K = K := by rfl) : CallRK X (.builtin "sorted") [Str.ofString "reverse"] (rSortedKw K true [.bl true]) := by subst h; exact cr_sortedRev
theorem idxL (h : X.K = K := by rfl) : MtR X "list.index" (rIndex K) := by subst h; exact mt_index
theorem piL {tg l : Expr} {tl : TE} (hl : PE X l tl) (h : X.K = K := by rfl) : PI X tg l (iList K tl) := by subst h; exact pi_list hl
theorem piT {tg l : Expr} {tl : TE} (hl : PE X l tl) (h : X.K = K := by rfl) : PI X tg l (iTup K tl) := by subst h; exact pi_tup hl
theorem piEnum {e : Expr} {ta : TA} {p pos tpos : Pos} {elts : List Expr} {kk : Nat} (hg : Gl X "enumerate") (hm : X.mg "enumerate" = none) (ha : PA X [e] ta) (hs : starEach [e] X.env = [(false, eval e X.env)] := by rfl) (h : X.K = K := by rfl) :
    PI X (.Tuple elts kk tpos) (.Call (.Name "enumerate" p) [e] [] pos) (iEnum K ta) := by subst h; exact pi_enum hg hm ha hs
theorem pgTup {es : List Expr} {k : Nat} {t : TGs} {n : Nat} {pos : Pos} (hc : X.calm = true) (h : PGs X es t) (hn : (assignEach es X.env).length = n := by rfl) (hst : (assignEach es X.env).findIdx? (·.1) = none := by rfl) (hk : X.K = K := by rfl) :
    PG X (.Tuple es k pos) (gTup K n t) := by subst hk; exact pg_tup hc h hn hst
theorem eqD (hu : X.A.units + 64 < cLine) (h : X.K = K := by rfl) : OpR X (compareOp .Eq) (rEqD K) := by subst h; exact op_eqD hu
theorem neD (hu : X.A.units + 64 < cLine) (h : X.K = K := by rfl) : OpR X (compareOp .NotEq) (rNeD K) := by subst h; exact op_neD hu
theorem revL {e : Expr} {te : TE} {k : Nat} {p1 p2 p3 pos : Pos} (he : PE X e te) (h : X.K = K := by rfl) : PE X (.Subscript e (.Slice none none (some (.UnaryOp .USub (.Constant (.int 1) k p1) p2)) p3) pos) (tRevL K te) := by subst h; exact pe_revL he
end
/-! ### sorted(xs) of data of one shape, any number -/
def rSortedB (K : PySem.W.Frag) {β : Type} (enc : β → PyData) (n : Nat) : List V → Hp → VK → Prop := fun vs H Q => ∃ (a : Addr) (xs : List V) (bs : List β) (G : Hp), vs = [V.ref a] ∧ SqL K H a xs ∧ Ex G H ∧ DpAll K G xs (bs.map enc) ∧
  ∀ ys p, H p = none → ys.length = bs.length → DpAll K G ys ((bs.mergeSort (PySem.W.dataLe false enc)).map enc) → Q (.ref p) (upd H p (.lst ys))
section
variable {X : Cx} {β : Type}
theorem dpa_zip {K : PySem.W.Frag} {H : Hp} {enc : β → PyData} : ∀ {xs : List V} {bs : List β} {us : List Value}, DpAll K H xs (bs.map enc) → Vals xs us → PySem.W.EachIs (fun u (b : V × β) => RelV b.1 u ∧ Dp K H b.1 (enc b.2)) us (xs.zip bs)
  | [], [], _, h, r => by cases r; exact .nil
  | x :: xs, b :: bs, _, h, r => by
    cases r with
    | cons r1 r2 =>
      cases h with
      | cons h1 h2 => exact .cons ⟨r1, h1⟩ (dpa_zip h2 r2)
  | [], b :: bs, _, h, _ => by cases h
  | x :: xs, [], _, h, _ => by cases h
theorem each_out {K : PySem.W.Frag} {H : Hp} {enc : β → PyData} : ∀ {us : List Value} {bs : List (V × β)}, PySem.W.EachIs (fun u (b : V × β) => RelV b.1 u ∧ Dp K H b.1 (enc b.2)) us bs → Vals (bs.map (·.1)) us ∧ DpAll K H (bs.map (·.1)) ((bs.map (·.2)).map enc)
  | _, _, .nil => ⟨.nil, .nil⟩
  | _, _, .cons h1 t => ⟨.cons h1.1 (each_out t).1, .cons h1.2 (each_out t).2⟩
theorem cr_sortedB {K : PySem.W.Frag} (enc : β → PyData) {n : Nat} (hal : ∀ b b', PySem.W.alike (enc b) (enc b') = true) (hk : (∀ b, ∃ x r, enc b = .tuple (x :: r)) ∨ ∀ b, enc b ≠ .none ∧ ∀ xs, enc b ≠ .tuple xs) (hd : ∀ b, (enc b).depth ≤ n) (hn : n ≤ 60)
    (hu : X.A.units + 64 < cLine) (hK : X.K = K := by rfl) : CallR X (.builtin "sorted") (rSortedB K enc n) := by
  subst hK
  intro pins s σ H vs us Q I r h
  obtain ⟨a, xs, bs, G, rfl, hs, eG, hx, q⟩ := h
  obtain ⟨its, rv, hl, hz⟩ := I.list hs
  obtain ⟨u, rfl, ru⟩ := vals1 r
  obtain rfl : u = Value.ref a := ru
  have e := dpa_zip hx rv
  have hlen : xs.length = bs.length := by rw [dpa_len hx, List.length_map]
  refine PySem.W.sorted_data (enc := fun b : V × β => enc b.2) hl.isList e (e.mono fun u b hb => ?_) (PySem.W.AllAlike.of fun b b' => hal _ _) ?_ (by rw [← e.length, ← rv.length]; exact hz) (fun b _ => by have := hd b.2; omega) fun out ho eo => ?_
  · obtain ⟨as, hr⟩ := Dp.reads I _ _ _ (ex_dp eG _ _ hb.2) hb.1
    exact ⟨as, hr⟩
  · rcases hk with hk | hk
    · exact PySem.W.Sortable.tuples fun b => hk b.2
    · exact PySem.W.Sortable.others fun b => hk b.2
  · obtain ⟨v1, v2⟩ := each_out eo
    obtain ⟨c, hc⟩ := sortedAll_at s.heap its out.toArray
    have em : ((xs.zip bs).mergeSort (PySem.W.dataLe false fun b : V × β => enc b.2)).map (·.2) = bs.mergeSort (PySem.W.dataLe false enc) := by
      have z := PySem.W.sort_maps (r := PySem.W.dataLe false fun b : V × β => enc b.2) (s := PySem.W.dataLe false enc) (fun b : V × β => b.2) (l := xs.zip bs) (fun _ _ _ _ => rfl)
      have z2 : (xs.zip bs).map (fun b : V × β => b.2) = bs := List.map_snd_zip (by omega)
      rw [z2] at z
      exact z
    rw [em] at v2
    have hy : (((xs.zip bs).mergeSort (PySem.W.dataLe false fun b : V × β => enc b.2)).map (·.1)).length = bs.length := by
      rw [List.length_map, List.length_mergeSort, List.length_zip]; omega
    refine ⟨.ref (s.heap.objs.size + 1), _, I.laid (a := s.heap.objs.size + 1) (o := .lst (((xs.zip bs).mergeSort (PySem.W.dataLe false fun b : V × β => enc b.2)).map (·.1))) (t' := s.toks) (fun b o z => sortedAll_old z) (Nat.le_succ _) ⟨by rw [hy, ← hlen]; exact hz, out, c, v1, hc⟩, rfl,
      q _ _ (I.hok.fresh (Nat.le_succ _)) hy v2⟩
end
/-- pairs, triples of ints; ints -/
abbrev encQ (p : Int × Int) : PyData := .tuple [.int p.1, .int p.2]
abbrev encT (p : Int × Int × Int) : PyData := .tuple [.int p.1, .int p.2.1, .int p.2.2]
section
variable {X : Cx} {K : PySem.W.Frag}
theorem sortP (hu : X.A.units + 64 < cLine) (hK : X.K = K := by rfl) : CallR X (.builtin "sorted") (rSortedB K encQ 5) :=
  cr_sortedB encQ (fun _ _ => by simp [PySem.W.alike, PySem.W.alikeAll]) (.inl fun b => ⟨_, _, rfl⟩) (fun b => by simp [PyData.depth, PyData.depthAll]) (by decide) hu hK
theorem sortT (hu : X.A.units + 64 < cLine) (hK : X.K = K := by rfl) : CallR X (.builtin "sorted") (rSortedB K encT 5) :=
  cr_sortedB encT (fun _ _ => by simp [PySem.W.alike, PySem.W.alikeAll]) (.inl fun b => ⟨_, _, rfl⟩) (fun b => by simp [PyData.depth, PyData.depthAll]) (by decide) hu hK
theorem sortI (hu : X.A.units + 64 < cLine) (hK : X.K = K := by rfl) : CallR X (.builtin "sorted") (rSortedB K PyData.int 5) :=
  cr_sortedB PyData.int (fun _ _ => by simp [PySem.W.alike]) (.inr fun b => ⟨(fun z => nomatch z), fun _ z => nomatch z⟩) (fun b => by simp [PyData.depth]) (by decide) hu hK
end
end Hx
namespace Hx
open PySem PySem.Spec PyProof.Rows L2
section
variable {P : Program} {w : World} {K : PySem.W.Frag} {mg : Str → Option Value} {base : Heap}
/-- a def that lets no exception out keeps its promise -/
theorem mkCal {x : Str} {st : Stmt} {N ps : List Str} {k : Nat} {sp : Sp} (g : mg x = some (.ref (He.ga K x))) (d : ∃ fd, FunD K x x (defArgs st) (defBody st) (defScope st) [] [] (He.ga K x) fd) (sc : FnScope N ps (defScope st))
    (hb : ∀ (kV doc pm : Value) (an : Option Addr) (cdv ct : Value) (us : List Value), us.length = ps.length → bindArgs (PySem.W.fnOf x x (defArgs st) (defBody st) (defScope st) .none kV doc pm an cdv ct) ⟨us, []⟩ = pure (ps.zip us))
    (len : ∀ vs H Q E, sp vs H Q E → vs.length = ps.length)
    (body : ∀ (cdv : Value) (A : Around) (outer : List Env) (s : Shared) (H : Hp) (vs : List V) (Q : VK) (E : XK), Room k (A.deeper (envOfC x (defScope st) s.heap.objs.size (He.ga K x) cdv)) → sp vs H Q E →
      ∃ t, PSs (cxOf CX0 P w K mg base N x (defScope st) (He.ga K x) cdv A outer s H E).nox (defBody st) t ∧ t { nx := fun _ H' => Q .non H', rt := Q } (start N vs) H) : Cal P w K mg base CX0 (k + 1) x ps sp := by
  obtain ⟨fd, F⟩ := d
  refine ⟨g, fd, F.kp, F.ok sc len fun cdv A outer s H vs Q E hr h => ?_, F.bindsN hb⟩
  obtain ⟨t, a, b⟩ := body cdv A outer s H vs Q E hr h
  exact ⟨t, a.nox, b⟩
/-- one that may -/
theorem mkCalX {x : Str} {st : Stmt} {N ps : List Str} {k : Nat} {sp : Sp} (g : mg x = some (.ref (He.ga K x))) (d : ∃ fd, FunD K x x (defArgs st) (defBody st) (defScope st) [] [] (He.ga K x) fd) (sc : FnScope N ps (defScope st))
    (hb : ∀ (kV doc pm : Value) (an : Option Addr) (cdv ct : Value) (us : List Value), us.length = ps.length → bindArgs (PySem.W.fnOf x x (defArgs st) (defBody st) (defScope st) .none kV doc pm an cdv ct) ⟨us, []⟩ = pure (ps.zip us))
    (len : ∀ vs H Q E, sp vs H Q E → vs.length = ps.length)
    (body : ∀ (cdv : Value) (A : Around) (outer : List Env) (s : Shared) (H : Hp) (vs : List V) (Q : VK) (E : XK), Room k (A.deeper (envOfC x (defScope st) s.heap.objs.size (He.ga K x) cdv)) → sp vs H Q E →
      ∃ t, PSs (cxOf (L2.CX P w) P w K mg base N x (defScope st) (He.ga K x) cdv A outer s H E) (defBody st) t ∧ t { nx := fun _ H' => Q .non H', rt := Q } (start N vs) H) : Cal P w K mg base (L2.CX P w) (k + 1) x ps sp := by
  obtain ⟨fd, F⟩ := d
  exact ⟨g, fd, F.kp, F.ok sc len body, F.bindsN hb⟩
end
end Hx
/-! sets of whole numbers made by a comprehension; len, sorted of them -/
namespace Hx
open PySem PySem.Spec PyProof.Rows L2
section
variable {X : Cx}
theorem addI_ok {pq : List (Addr × Obj)} {σ : L2.St} {H : Hp} {s : Shared} {E : Value → Shared → Prop} {D : Addr} {S : Int → Bool} {n : Nat} {y : Int} {t : Tok} {Q : Value → Shared → Prop} (Iv : Inv X pq σ H s) (hD : H D = some (SetO X.w D S n)) (room : n + 1 < scanBound)
    (h : ∀ s', Inv X pq σ (upd H D (SetO X.w D (fun j => S j || decide (j = y)) (if S y = true then n else n + 1))) s' → Q .none s') : wpAny (model X.prog X.w) X.A (call (.builtin "set.add") [.ref D, .int y t]) Q E s := by
  refine setR_add (setO_get Iv hD) room fun h' sb new => ?_
  obtain ⟨o, _, _, _, ho, _⟩ := id new
  exact h _ (Iv.write (e := D) (t' := s.toks + 1) (by rw [hD]; trivial) (.inl rfl) (fun b u hb hu => (sb.2 b hb).trans hu) ⟨o, ho⟩ (setO_new new))
def tScI (w : World) (wi : TI) (g : TG) (tt : TT) (te : TE) (vs : List Nat) : TE := fun σ H Q => wi σ H fun J B1 => ∀ D, B1 D = none → ∃ W : Nat → Nat → Hp → Prop, (∃ m, W 0 m (upd B1 D (SetO w D (fun _ => false) 0))) ∧ ∀ i m H, W i m H →
  (J.stop i H ∧ Q (.ref D) H) ∨ (J.go i H ∧ ∃ Nx : Hp → Prop, (∀ H', Nx H' → ∃ m', m' < m ∧ W (i + 1) m' H') ∧ ∀ x H', J.yld i H x H' → g x (wipe σ vs) H' fun σ2 B2 => wipe σ2 vs = wipe σ vs ∧ tt σ2 B2 fun b B3 =>
    if b = true then te σ2 B3 fun y B4 => ∃ (c : Int) (S : Int → Bool) (n : Nat), y = .int c ∧ B4 D = some (SetO w D S n) ∧ n + 1 < scanBound ∧ Nx (upd B4 D (SetO w D (fun j => S j || decide (j = c)) (if S c = true then n else n + 1))) else Nx B3)
theorem scI_core {pq : List (Addr × Obj)} {s : Shared} {σ : L2.St} {H : Hp} {Q : VK} {elt tg iter : Expr} {ifs : List Expr} {scope : Scope} {own : List (PySem.Str × Nat)} {pos pos' : Pos} {wi : TI} {g : TG} {tt : TT} {te : TE} {use : Option (Value → Sem Unit)} {Qf : Value → Shared → Prop}
    (hc : X.calm = true) (hN : X.N.Nodup) (Iv : Inv X pq σ H s) (hi : PI X tg iter wi) (ok : BlkOk X.N X.env.scope scope own)
    (hg : ∀ (s : Shared) (H : Hp) (C : Addr) (cl : List (PySem.Str × Addr)) (fq : List Addr), PG (X.blk s H scope (compEnvC scope cl C X.env) fq) tg g) (ht : ∀ (s : Shared) (H : Hp) (C : Addr) (cl : List (PySem.Str × Addr)) (fq : List Addr), PTs (X.blk s H scope (compEnvC scope cl C X.env) fq) ifs tt)
    (he : ∀ (s : Shared) (H : Hp) (C : Addr) (cl : List (PySem.Str × Addr)) (fq : List Addr), PE (X.blk s H scope (compEnvC scope cl C X.env) fq) elt te) (hs : ∀ x, foldedSetIterable iter X.env x = pure x)
    (h : tScI X.w wi g tt te (own.map (·.2)) σ H Q)
    (hRR : ∀ D C s' m H', Inv X pq σ H' s' → Q (.ref D) H' → s'.heap.Ns C m → FpOk X pq H' C → compPost (model X.prog X.w) X.A X.xe use Qf (.ref D) C (.ok .next) s') :
    wpAny (model X.prog X.w) X.A (comprehension (.SetComp elt [⟨tg, iter, ifs, 0⟩] scope pos) scope X.env pos' (newSet (.type "set")) false (eval iter X.env) use) Qf X.xe s := by
  have hfree : ∀ y ∈ scope.names, y.2 = .free → ∃ c, X.env.cells.lookup y.1 = some c := fun y hy e => by
    rcases ok.free y hy e with k | k
    · exact Iv.ok.has _ (.inl k)
    · exact Iv.ok.has _ (.inr k)
  refine wpAny_comprehension_free (use := use) rfl hs (closure_ok hfree) ok.kind (fun y hy e => by rw [ok.uniq y hy, e])
    (thn (hi.run pq s σ H _ Iv h) fun xv z1s hx => thn hx fun itv z2s h2 => ?_)
  obtain ⟨it, fq, tn, J, B2, e, Iv2, T, st2, f2, q⟩ := h2
  subst e
  refine PpSet.newSet_ok (newEnv_comp ?_)
  generalize hD : z2s.heap.objs.size = D
  have hDn : B2 D = none := Iv2.hok.fresh (Nat.le_of_eq hD)
  obtain ⟨W, ⟨m0, w0⟩, turn⟩ := q D hDn
  generalize hs3 : ({ z2s with heap := z2s.heap.push { cls := .type "set", dict := none, data := .set #[] 0 (.fresh 0 0 (!X.w.params.followText "set-order")) } } : Shared) = z3s
  have Iv3 : Inv X pq σ (upd B2 D (SetO X.w D (fun _ => false) 0)) z3s := by
    rw [← hs3]
    refine Iv2.laid (t' := z2s.toks) (fun b o e => Heap.get?_push_of_some _ e) (Nat.le_of_eq hD) ?_
    rw [← hD]
    exact setO_new (setR_fresh X.w)
  have h3 : z3s.heap = z2s.heap.push { cls := .type "set", dict := none, data := .set #[] 0 (.fresh 0 0 (!X.w.params.followText "set-order")) } := by rw [← hs3]
  have sz : ∀ b ∈ fq, b < z2s.heap.objs.size := fun b hb => by
    obtain ⟨o, e, _⟩ := T.obj _ _ st2 b hb
    exact Heap.lt_size e
  have f3 : ∀ b ∈ fq, FpOk X pq (upd B2 D (SetO X.w D (fun _ => false) 0)) b ∧ b < z3s.heap.objs.size := fun b hb => by
    have hlt := sz b hb
    refine ⟨⟨?_, (f2 b hb).2⟩, by rw [h3, Heap.size_push]; exact Nat.lt_succ_of_lt hlt⟩
    rw [upd_ne (by rw [← hD]; exact Nat.ne_of_lt hlt)]
    exact (f2 b hb).1
  have st3 : tn 0 z3s.heap := T.keep _ _ _ st2 fun b _ o e => by rw [h3]; exact Heap.get?_push_of_some _ e
  have Iv4 := block_start Iv3 ok hN f3
  have pg := hg z3s (upd B2 D (SetO X.w D (fun _ => false) 0)) z3s.heap.objs.size (cellsFrom (z3s.heap.objs.size + 1) scope.names (cloFrom X.env.cells scope.names [])) fq
  have pt := ht z3s (upd B2 D (SetO X.w D (fun _ => false) 0)) z3s.heap.objs.size (cellsFrom (z3s.heap.objs.size + 1) scope.names (cloFrom X.env.cells scope.names [])) fq
  have pe := he z3s (upd B2 D (SetO X.w D (fun _ => false) 0)) z3s.heap.objs.size (cellsFrom (z3s.heap.objs.size + 1) scope.names (cloFrom X.env.cells scope.names [])) fq
  show codeAny _ _ (.compStart (.SetComp elt [⟨tg, iter, ifs, 0⟩] scope pos) 0 (.ref it) (.ref D) (compEnvC scope (cellsFrom (z3s.heap.objs.size + 1) scope.names (cloFrom X.env.cells scope.names [])) z3s.heap.objs.size X.env)) (compPost (model X.prog X.w) X.A X.xe use Qf (.ref D) z3s.heap.objs.size) { z3s with heap := pushCells (z3s.heap.push { cls := .type "dict", data := .dict #[] }) scope.names }
  have nfp : ∀ b ∈ fq, (upd B2 D (SetO X.w D (fun _ => false) 0)) b = none := fun b hb => (f3 b hb).1.1
  generalize hce : compEnvC scope (cellsFrom (z3s.heap.objs.size + 1) scope.names (cloFrom X.env.cells scope.names [])) z3s.heap.objs.size X.env = ce at Iv4 pg pt pe ⊢
  have cL : ce.locals = z3s.heap.objs.size := by subst hce; rfl
  generalize hH3 : upd B2 D (SetO X.w D (fun _ => false) 0) = B3 at Iv3 Iv4 pg pt pe w0 nfp f3
  generalize hs4 : ({ z3s with heap := pushCells (z3s.heap.push { cls := .type "dict", data := .dict #[] }) scope.names } : Shared) = z4s at Iv4 ⊢
  have st4 : tn 0 z4s.heap := T.keep _ _ _ st3 fun b _ o e => by rw [← hs4]; exact pushCells_keeps _ _ _ _ (Heap.get?_push_of_some _ e)
  have stat : ∀ {σ' : L2.St} {H' : Hp} {s' : Shared}, Inv (X.blk z3s B3 scope ce fq) [] σ' H' s' → (∀ b ∈ fq, H' b = none) → ∀ b ∈ fq, FpOk (X.blk z3s B3 scope ce fq) [] H' b := fun {σ' H' s'} Iv' hn b hb =>
    ⟨hn b hb, (Iv'.ok.exf b hb).1, Iv'.ok.exfs b hb, .inl hb, fun x c e => (Iv'.ok.exf b hb).2 x c e, fun p hp => absurd (show p ∈ ([] : List (Addr × Obj)) ++ [] from hp) (by simp)⟩
  have loop : codeAny (model X.prog X.w) X.A (.compLoop (.SetComp elt [⟨tg, iter, ifs, 0⟩] scope pos) 0 (.ref it) (.ref D) ce) (compPost (model X.prog X.w) X.A X.xe use Qf (.ref D) z3s.heap.objs.size) z4s := by
    refine PpSet.compLoopS_any (fun n s' => ∃ i H', Inv (X.blk z3s B3 scope ce fq) [] (wipe σ (own.map (·.2))) H' s' ∧ tn i s'.heap ∧ (∀ b ∈ fq, H' b = none) ∧ W i n H') ?_ m0 ⟨0, B3, Iv4, st4, nfp, w0⟩
    rintro n z5s ⟨i, B5, Iv5, st5, n5, w5⟩
    rcases turn i n B5 w5 with ⟨stop, qq⟩ | ⟨go, Nx, hNx, step⟩
    · have td := T.done (X.blk z3s B3 scope ce fq) rfl rfl rfl hc i [] z5s _ B5 (fun _ _ => False) Iv5 (stat Iv5 n5) st5 stop
      refine thnF td fun r z6s ⟨hr, Iv6⟩ => ?_
      subst hr
      have Iv7 : Inv X pq σ B5 z6s := Iv3.call' (ch := fq) Iv6.os Iv6.base Iv6.hok Iv6.bare fun b hb => ⟨(f3 b hb).1.2.2.2.1, (f3 b hb).1.2.1, (f3 b hb).1.2.2.2.2.1, (f3 b hb).1.2.2.2.2.2⟩
      have nC : B5 z3s.heap.objs.size = none := by
        have z : B5 ce.locals = none := Iv6.free
        rw [cL] at z
        exact z
      obtain ⟨m, hn, _⟩ := Iv6.loc
      have hn : z6s.heap.Ns ce.locals m := hn
      rw [cL] at hn
      exact hRR D z3s.heap.objs.size z6s m B5 Iv7 qq hn (Iv3.fpOk (Nat.le_refl _) nC)
    · have ti := T.item (X.blk z3s B3 scope ce fq) rfl rfl rfl hc i [] z5s _ B5 (fun _ _ => False) Iv5 (stat Iv5 n5) st5 go
      refine thnF ti fun r z6s ⟨u, hr, h6⟩ => ?_
      subst hr
      refine thnF h6 fun _ z7s ⟨x, B7, Iv7, r7, y7, st7, n7⟩ => ?_
      have Iv7' := Iv7.pinned (stat Iv7 n7) (T.obj _ _ st7)
      refine thnF (pg.run _ z7s _ B7 x u _ Iv7' r7 (step x B7 y7)) fun _ z8s ⟨σ8, B8, Iv8, hw8, q8⟩ => ?_
      refine thnF (pt.run _ z8s σ8 B8 _ Iv8 q8) fun b z9s ⟨B9, Iv9, q9⟩ => ?_
      have fin : ∀ {s' : Shared} {H' : Hp}, Inv (X.blk z3s B3 scope ce fq) ([] ++ pinsAt fq z7s.heap) σ8 H' s' → Nx H' → ∃ m, m < n ∧ ∃ i H', Inv (X.blk z3s B3 scope ce fq) [] (wipe σ (own.map (·.2))) H' s' ∧ tn i s'.heap ∧ (∀ b ∈ fq, H' b = none) ∧ W i m H' := fun {s' H'} Iv' nx => by
        obtain ⟨m', hm, w'⟩ := hNx H' nx
        have pin' : ∀ b ∈ fq, ∀ o, z7s.heap.get? b = some o → s'.heap.get? b = some o ∧ H' b = none := fun b hb o e =>
          let z := Iv'.pin (b, o) (List.mem_append_right _ (List.mem_append_right _ (mem_pinsAt hb e)))
          ⟨z.1, z.2.1⟩
        have hl : (wipe σ (own.map (·.2))).length = σ8.length := by rw [← hw8, wipe_length]
        refine ⟨m', hm, i + 1, H', (Iv'.unpinned (pins := [])).weak hl (fun j v e => ?_), T.keep _ _ _ st7 fun b hb o e => (pin' b hb o e).1, fun b hb => ?_, w'⟩
        · rw [← hw8] at e
          exact (wipe_some e).1
        · obtain ⟨o, e, _⟩ := T.obj _ _ st7 b hb
          exact (pin' b hb o e).2
      cases b with
      | false =>
        simp only [Bool.false_eq_true, if_false] at q9 ⊢
        exact fin Iv9 q9
      | true =>
        simp only [if_true] at q9 ⊢
        refine thnF (pe.run _ z9s σ8 B9 _ Iv9 q9) fun z z10s ⟨yv, B10, I10, r10, cb, S0, n0, ey, hD10, hz10, nx⟩ => ?_
        subst ey
        obtain ⟨tk10, rfl⟩ := (show ∃ t, z = Value.int cb t from r10)
        exact addI_ok (X := X.blk z3s B3 scope ce fq) I10 hD10 hz10 fun z11s I11 => fin I11 nx
  exact PpSet.codeAny_compStart_set loop (T.self X.A 0 _ _ _ st4 loop)
theorem pe_scI {elt tg iter : Expr} {ifs : List Expr} {scope : Scope} {own : List (PySem.Str × Nat)} {pos : Pos} {wi : TI} {g : TG} {tt : TT} {te : TE} (hc : X.calm = true) (hN : X.N.Nodup) (hi : PI X tg iter wi) (ok : BlkOk X.N X.env.scope scope own)
    (hg : ∀ (s : Shared) (H : Hp) (C : Addr) (cl : List (PySem.Str × Addr)) (fq : List Addr), PG (X.blk s H scope (compEnvC scope cl C X.env) fq) tg g) (ht : ∀ (s : Shared) (H : Hp) (C : Addr) (cl : List (PySem.Str × Addr)) (fq : List Addr), PTs (X.blk s H scope (compEnvC scope cl C X.env) fq) ifs tt)
    (he : ∀ (s : Shared) (H : Hp) (C : Addr) (cl : List (PySem.Str × Addr)) (fq : List Addr), PE (X.blk s H scope (compEnvC scope cl C X.env) fq) elt te) (hs : ∀ x, foldedSetIterable iter X.env x = pure x := by intro _; rfl) :
    PE X (.SetComp elt [⟨tg, iter, ifs, 0⟩] scope pos) (tScI X.w wi g tt te (own.map (·.2))) := by
  refine ⟨fun pq s σ H Q Iv h => ?_⟩
  rw [PpSet.eval_SetComp]
  refine scI_core hc hN Iv hi ok hg ht he hs h fun D C s' m H' Iv' q hn f => ⟨m, hn, fun h'' sb => ?_⟩
  obtain ⟨f0, f1, f2, f3, f4, f5⟩ := f
  exact ⟨.ref D, H', Iv'.turned (t' := s'.toks) (fun b o hb e => (sb.2 b hb).trans e) f0 f1 f3 f4 f5, rfl, q⟩
end
theorem tYes_if {σ : L2.St} {H : Hp} {A B : Hp → Prop} (h : A H) : tYes σ H (fun b H3 => if b = true then A H3 else B H3) := by
  show (if true = true then A H else B H)
  rw [if_pos rfl]
  exact h
section
variable {M : Addr → Prop} {G H : Hp} {σ : L2.St} {g : TG} {tt : TT} {te : TE} {vs : List Nat}
/-- what such a comprehension leaves: the set of what was made (v i, where f i) -/
theorem scW {w : World} {J : It} {n : Nat} {Wg : Hp → Prop} {Y : Nat → Hp → V → Hp → Prop} (W : Walk J n Wg Y) (e : Ex G H) (hWg : ∀ H', Ex G H' → Wg H') (hn : n ≤ 4000) (v : Nat → Int) (σt : Nat → L2.St)
    (hg : ∀ i x G' H' H'', i < n → Stp M G H G' H' → Y i H' x H'' → ∀ Q : L2.St → Hp → Prop, (∀ G2 H2, Stp M G' H' G2 H2 → Q (σt i) H2) → g x (wipe σ vs) H'' Q) (hw : ∀ i, i < n → wipe (σt i) vs = wipe σ vs)
    (he : ∀ i G' H', i < n → Stp M G H G' H' → ∀ Q : VK, (∀ G2 H2, Stp M G' H' G2 H2 → Q (.int (v i)) H2) → te (σt i) H' Q) (hM : ∀ D, H D = none → ¬ M D) {D : Addr} (hD : H D = none) {Qd : Hp → Prop}
    (hd : ∀ S m G' H', Stp M G H G' H' → G' D = none → H' D = some (SetO w D S m) → (∀ k, S k = true ↔ k ∈ (List.range n).map v) → m = ((List.range n).map v).eraseDups.length → Qd H') :
    ∃ W : Nat → Nat → Hp → Prop, (∃ m, W 0 m (upd H D (SetO w D (fun _ => false) 0))) ∧ ∀ i m H, W i m H →
      (J.stop i H ∧ Qd H) ∨ (J.go i H ∧ ∃ Nx : Hp → Prop, (∀ H', Nx H' → ∃ m', m' < m ∧ W (i + 1) m' H') ∧ ∀ x H', J.yld i H x H' → g x (wipe σ vs) H' fun σ2 H2 => wipe σ2 vs = wipe σ vs ∧ tYes σ2 H2 fun b H3 =>
        if b = true then te σ2 H3 fun y H4 => ∃ (c : Int) (S : Int → Bool) (n : Nat), y = .int c ∧ H4 D = some (SetO w D S n) ∧ n + 1 < scanBound ∧ Nx (upd H4 D (SetO w D (fun j => S j || decide (j = c)) (if S c = true then n else n + 1))) else Nx H3) := by
  refine ⟨fun i m H' => m = n - i ∧ i ≤ n ∧ ∃ S k G', Stp M G H G' H' ∧ G' D = none ∧ H' D = some (SetO w D S k) ∧ (∀ j, S j = true ↔ j ∈ (List.range i).map v) ∧ k = ((List.range i).map v).eraseDups.length ∧ k ≤ i,
    ⟨n, by simp, Nat.zero_le _, fun _ => false, 0, G, Stp.lay e hD, Evl.fresh_back e hD, upd_same, fun j => by simp, rfl, Nat.zero_le _⟩, ?_⟩
  rintro i m H' ⟨rfl, hi, S, k, G', a, gD, hS, hm, hk, hki⟩
  by_cases hlt : i < n
  · refine .inr ⟨W.goes i H' hlt (hWg H' (a.gg.trans a.gh)), fun H2 => i + 1 ≤ n ∧ ∃ S k G', Stp M G H G' H2 ∧ G' D = none ∧ H2 D = some (SetO w D S k) ∧ (∀ j, S j = true ↔ j ∈ (List.range (i + 1)).map v) ∧ k = ((List.range (i + 1)).map v).eraseDups.length ∧ k ≤ i + 1, fun H2 q => ⟨n - (i + 1), by omega, rfl, q⟩, fun x H2 y => ?_⟩
    refine hg i x G' H' H2 hlt a (W.yields i H' x H2 hlt (hWg _ (a.gg.trans a.gh)) y) _ fun G3 H3 b => ⟨hw i hlt, ?_⟩
    refine tYes_if ?_
    refine he i G3 H3 hlt (a.trans b) _ fun G4 H4 c => ?_
    have hS3 : H3 D = some (SetO w D S k) := b.hh D _ (hM D hD) hS
    have hS4 : H4 D = some (SetO w D S k) := c.hh D _ (hM D hD) hS3
    have g4 : G4 D = none := c.fr D (some_ne hS3) (b.fr D (some_ne hS) gD)
    have er : (List.range (i + 1)).map v = (List.range i).map v ++ [v i] := by rw [List.range_succ, List.map_append]; rfl
    refine ⟨v i, S, k, rfl, hS4, Nat.lt_of_lt_of_le (show k + 1 < 4095 by omega) (by decide), hlt, _, _, G4, ((a.trans b).trans c).mut (.inl hD) g4, g4, upd_same, fun j => ?_, ?_, ?_⟩
    · show (S j || decide (j = v i)) = true ↔ _
      rw [Bool.or_eq_true, decide_eq_true_iff, hm j, er, List.mem_append, List.mem_singleton]
    · rw [er]
      by_cases hv : S (v i) = true
      · rw [if_pos hv, hk, List.eraseDups_append]
        have : List.removeAll [v i] ((List.range i).map v) = [] := by
          unfold List.removeAll
          rw [List.filter_cons, if_neg (by simp [List.elem_iff]; exact List.mem_map.mp ((hm _).mp hv) |>.imp fun _ h => ⟨List.mem_range.mp h.1, h.2⟩)]
          rfl
        rw [this]; simp
      · rw [if_neg hv, hk, List.eraseDups_append]
        have : List.removeAll [v i] ((List.range i).map v) = [v i] := by
          unfold List.removeAll
          rw [List.filter_cons, if_pos]
          · rfl
          · have hn : ¬ v i ∈ (List.range i).map v := fun z => hv ((hm _).mpr z)
            simpa [List.elem_iff] using hn
        rw [this, List.length_append]
        rfl
    · split <;> omega
  · have en : i = n := by omega
    subst en
    exact .inl ⟨W.stops H' (hWg _ (a.gg.trans a.gh)), hd S k G' H' a gD hS hm hk⟩
end
section
variable {X : Cx}
/-- len of a set of whole numbers -/
def rLenSet (w : World) : List V → Hp → VK → Prop := fun vs H Q => ∃ (a : Addr) (S : Int → Bool) (n : Nat), vs = [V.ref a] ∧ H a = some (SetO w a S n) ∧ Q (.int n) H
theorem lenSet : CallR X (.builtin "len") (rLenSet X.w) := by
  intro pq s σ H vs us Q Iv r h
  obtain ⟨a, S, n, rfl, ha, q⟩ := h
  rw [Vals.ref1 r]
  obtain ⟨o, es, ep, t, ho, hex, hd, g, nd, hm, hb, hf, hn, hr, hl⟩ := setO_get Iv ha
  exact call_len_set ho hex hd hf (by have z := hb; unfold scanBound at z; omega) ⟨.int n, H, Iv.tok _, ⟨_, by rw [hn]⟩, q⟩
/-- sorted of a set of whole numbers, any number -/
def rSortSet (w : World) : List V → Hp → VK → Prop := fun vs H Q => ∃ (a : Addr) (S : Int → Bool) (n : Nat), vs = [V.ref a] ∧ H a = some (SetO w a S n) ∧
  ∀ (ns : List Int) (p : Addr), ns.Pairwise (· < ·) → (∀ k : Int, k ∈ ns ↔ S k = true) → ns.length = n → H p = none → Q (.ref p) (upd H p (.lst (ns.map V.int)))
theorem ints_each {vs : List Value} {ns : List Int} {h : Heap} {a : Addr} (x : IntsAre vs ns) : PySem.W.EachIs (fun v b => ∃ as, Reads h v (PyData.int b) as ∧ a ∉ as) vs ns :=
  (PySem.W.readsAll_each PyData.int (IntsAre.reads h x)).mono fun v b ⟨as, r⟩ => by
    cases r
    exact ⟨[], Reads.int _ _, by simp⟩
theorem each_ints {h : Heap} : ∀ {vs : List Value} {ns : List Int}, PySem.W.EachIs (fun v b => ∃ as, Reads h v (PyData.int b) as) vs ns → ∃ as, ReadsAll h vs (ns.map PyData.int) as
  | _, _, e => PySem.W.each_readsAll PyData.int e
theorem ints_of_each {h : Heap} : ∀ {vs : List Value} {ns : List Int}, PySem.W.EachIs (fun v b => ∃ as, Reads h v (PyData.int b) as) vs ns → Vals (ns.map V.int) vs
  | _, _, .nil => .nil
  | _, _, .cons h1 t => by
    obtain ⟨as, r⟩ := h1
    cases r
    exact .cons ⟨_, rfl⟩ (ints_of_each t)
theorem lt_of_le_nd : ∀ (l : List Int), l.Pairwise (· ≤ ·) → l.Nodup → l.Pairwise (· < ·)
  | [], _, _ => .nil
  | x :: l, h, n => by
    obtain ⟨h1, h2⟩ := List.pairwise_cons.mp h
    obtain ⟨n1, n2⟩ := List.nodup_cons.mp n
    exact List.pairwise_cons.mpr ⟨fun y hy => by
      have a := h1 y hy
      have b : x ≠ y := fun z => n1 (by rw [z]; exact hy)
      omega, lt_of_le_nd l h2 n2⟩
theorem sortSet (hc : X.calm = true) (hu : X.A.units + 64 < cLine) : CallR X (.builtin "sorted") (rSortSet X.w) := by
  intro pq s σ H vs us Q Iv r h
  obtain ⟨a, S, n, rfl, ha, q⟩ := h
  have hh := Iv.ok.hd hc
  rw [Vals.ref1 r]
  obtain ⟨o, es, ep, t, ho, hex, hd, g, nd, hm, hb, hf, hn, hr, hl⟩ := setO_get Iv ha
  refine Calls.call_function_entry kind_sorted plain_sorted entry_sorted (args_sorted1 _) ?_
  unfold Builtin.«sorted»
  refine wpAny_bind (m := checkCount "sorted" 1 1 _) (wpAny_pure ?_)
  refine wpAny_bind (collect_set (A := X.A.in1) hh ⟨o, ho, hex.1, hd⟩ hf hb hr hl fun s1 vs k1 hz g1 o1 pm => ?_)
  have hvl : vs.length = n := by rw [pm.length_eq, List.length_map, Array.length_toList]; exact hn
  have hI : IntsAre vs (vs.map Builtin.Re.reRawOf) := ints_of vs fun v hv => by
    obtain ⟨e, he, q⟩ := List.mem_map.mp (pm.mem_iff.mp hv)
    obtain ⟨k, tk, h1, _⟩ := g e he
    exact ⟨k, tk, q ▸ h1⟩
  have pk : (vs.map Builtin.Re.reRawOf).Perm (es.toList.map keyOf) := by
    have z := pm.map Builtin.Re.reRawOf
    rwa [List.map_map] at z
  have hn4 : n < 4096 := by rw [← hn]; exact hb
  have hz4 : vs.length ≤ sizeLine := by rw [hvl, sizeLine_eq]; omega
  refine wpAny_bind (wpAny_newList ?_ hz4)
  have hoL : (s1.heap.push (seqObj "list" vs.toArray 0)).get? s1.heap.objs.size = some (seqObj "list" vs.toArray 0) := Heap.get?_push_size _ rfl
  have en := ints_each (h := s1.heap.push (seqObj "list" vs.toArray 0)) (a := s1.heap.objs.size) hI
  refine wpAny_bind (wpAny_holding (PySem.W.list_sort_data (R := fun v b => ∃ as, Reads (s1.heap.push (seqObj "list" vs.toArray 0)) v (PyData.int b) as) (enc := PyData.int) (s := { s1 with heap := s1.heap.push (seqObj "list" vs.toArray 0) }) hoL (en.mono fun v b ⟨as, r, _⟩ => ⟨as, r⟩) en
    (PySem.W.AllAlike.of fun _ _ => by simp [PySem.W.alike]) (PySem.W.Sortable.others fun b => ⟨(fun z => nomatch z), fun _ z => nomatch z⟩) (by rw [List.length_map]; exact hz4)
    (fun b _ => by have : (PyData.int b).depth = 0 := by simp [PyData.depth]
                   rw [this]; show X.A.units + 1 + 1 + 0 < cLine; omega) fun out hlo eo => ?_))
  have vo := ints_of_each eo
  rw [PySem.W.dataLe_int (fun b : Int => b)] at vo
  generalize hns : (vs.map Builtin.Re.reRawOf).mergeSort (fun a b => decide (a ≤ b)) = ns at vo
  have pn : ns.Perm (es.toList.map keyOf) := by rw [← hns]; exact (List.mergeSort_perm _ _).trans pk
  have sn : ns.Pairwise (· < ·) := lt_of_le_nd ns (by
    rw [← hns]
    have := List.pairwise_mergeSort (le := fun a b : Int => decide (a ≤ b)) (fun a b c h1 h2 => by simp at *; omega) (fun a b => by simp; omega) (vs.map Builtin.Re.reRawOf)
    exact this.imp fun h => of_decide_eq_true h) (pn.nodup_iff.mpr nd)
  have hl2 : ns.length = n := by rw [pn.length_eq, List.length_map, Array.length_toList]; exact hn
  obtain ⟨c, hc2⟩ := sortedHeap_at (vs := vs) (out := out.toArray) hoL
  have kp : ∀ b u, s.heap.get? b = some u → (sortedHeap (s1.heap.push (seqObj "list" vs.toArray 0)) s1.heap.objs.size vs out.toArray).get? b = some u := fun b u e => by
    have q := k1 b u e
    have hlt := Heap.lt_size q
    rw [sortedHeap_old (Nat.ne_of_lt hlt) (by rw [size_push']; exact Nat.lt_succ_of_lt hlt)]
    exact Heap.get?_push_of_some _ q
  have hp : H s1.heap.objs.size = none := Iv.hok.fresh hz
  have J : Inv X pq σ (upd H s1.heap.objs.size (.lst (ns.map V.int))) { s with heap := sortedHeap (s1.heap.push (seqObj "list" vs.toArray 0)) s1.heap.objs.size vs out.toArray, gens := s1.gens, drawn := s1.drawn, toks := s1.toks } :=
    Iv.call (ch := []) (Un.laid kp hz hp) (Iv.hok.laid kp hz ⟨by rw [List.length_map, hl2, ← hvl]; exact hz4, out, c, vo, hc2⟩) (by rw [g1]; exact Iv.bare) (fun _ z => nomatch z)
  refine wpAny_pure ⟨_, rfl, ?_⟩
  obtain ⟨h1, g1', d1, t1, os1⟩ := s1
  obtain rfl : os1 = s.os := o1
  exact ⟨.ref _, _, J, rfl, q ns _ sn (fun k => by rw [pn.mem_iff, ← hm k]) hl2 hp⟩
end
end Hx
/-! defs that are called while an exception is handled and handed over to them; list.count of flat things -/
namespace Hx
open PySem PySem.Spec PyProof.Rows L2 L2H
/-- such a def: p, the exception's object, stands still -/
structure FnP (P : Program) (w : World) (K : PySem.W.Frag) (mg : Str → Option Value) (base : Heap) (k : Nat) (f : Addr) (fd : FuncData) (ps : List Str) (p : Addr × Obj) (sp : Sp) : Prop where
  len : ∀ vs H Q E, sp vs H Q E → vs.length = ps.length
  run : ∀ (A : Around) (outer : List Env) (s : Shared) (H : Hp) (args : Args) (us : List Value) (vs : List V) (Q : VK), RoomH k A → PinOk outer H s p → Env0 P w K mg base A outer s H → BindsTo s fd args (ps.zip us) → Vals vs us → sp vs H Q E0 →
    codeAny (model P w) A (.call (.ref f) args) (CR CX0 outer P w H s Q E0) s
section
variable {P : Program} {w : World} {K : PySem.W.Frag} {mg : Str → Option Value} {base : Heap}
theorem fn_ofP {k : Nat} {f : Addr} {x qual : Str} {params : Arguments} {body : List Stmt} {scope : Scope} {fd : FuncData} {N ps : List Str} {sp : Sp} {p : Addr × Obj} (F : FunD K x qual params body scope [] [] f fd) (S : FnScope N ps scope)
    (len : ∀ vs H Q E, sp vs H Q E → vs.length = ps.length)
    (hbody : ∀ (cdv : Value) (A : Around) (outer : List Env) (s : Shared) (H : Hp) (vs : List V) (Q : VK), RoomH k (A.deeper (envOfC qual scope s.heap.objs.size f cdv)) → sp vs H Q E0 →
      ∃ t, PSs (cxH CX0 P w K mg base N qual scope f cdv A outer s H E0 p).nox body t ∧ t { nx := fun _ H' => Q .non H', rt := Q } (L2.start N vs) H) : FnP P w K mg base (k + 1) f fd ps p sp := by
  obtain ⟨oc, od, dV, kV, doc, pm, an, cdv, ct, osl, rfl, lk, hcd, _, _⟩ := F.ex
  refine ⟨len, fun A outer s H args us vs Q hr hpin e0 hb r hsp => ?_⟩
  have KX : K.In s.heap := e0.mod.kin.keeps fun b o e => (e0.bs b o e).1
  have lim : s.heap.NoLimit := e0.mod.nolimit.keeps fun b o e => (e0.bs b o e).1
  refine codeAny_call_function hr.depth (KX _ _ lk) rfl S.co S.gen rfl (PySem.W.codeRec_of KX hcd) (hb _ _ _ _ ?_)
  refine wpAny_newFunctionEnv_cells S.kind (fun ⟨n, v⟩ hy => ?_) fun env he s1 x1 => ?_
  · rcases S.par n (List.of_mem_zip hy).1 with q | q
    · exact .inl q
    · exact .inr ⟨q, PySem.W.cellsFrom_some _ _ _ (.inl q)⟩
  subst he
  refine ⟨lim.keeps x1.toInCall.keep, codeAny_func ?_⟩
  obtain ⟨t, ht, hq⟩ := hbody cdv A outer s H vs Q (hr.deeper _) hsp
  have Iv : Inv (cxH CX0 P w K mg base N qual scope f cdv A outer s H E0 p) [] (L2.start N vs) H s1 := inv_startH S hpin e0 (len _ _ _ _ hsp) r x1
  refine wpAny_mono (ht.nox.run [] s1 (L2.start N vs) H _ Iv hq) (fun fl s' hs => ?_) fun e s' hs => hs
  have fin : ∀ {σ' : L2.St} {H' : Hp} {v : V} {u : Value}, Inv (cxH CX0 P w K mg base N qual scope f cdv A outer s H E0 p) [] σ' H' s' → RelV v u → Q v H' → CE outer P w H s Q u s' :=
    fun {σ' H' v u} J rv q => ⟨v, H', J.os, J.bare, J.base, J.hok, rv, q⟩
  cases fl with
  | ret u => obtain ⟨v, σ', H', J, rv, q⟩ := hs; exact fin J rv q
  | next => obtain ⟨σ', H', J, q⟩ := hs; exact fin (v := V.non) (u := Value.none) J rfl q
  | brk => obtain ⟨_, _, _, q⟩ := hs; exact False.elim q
  | cont => obtain ⟨_, _, _, q⟩ := hs; exact False.elim q
structure CalP (P : Program) (w : World) (K : PySem.W.Frag) (mg : Str → Option Value) (base : Heap) (k : Nat) (x : Str) (ps : List Str) (p : Addr × Obj) (sp : Sp) : Prop where
  g : mg x = some (.ref (He.ga K x))
  ex : ∃ fd, PySem.W.keepIn K (.ref (He.ga K x)) = true ∧ FnP P w K mg base k (He.ga K x) fd ps p sp ∧ Binds K fd ps []
theorem mkCalP {x : Str} {st : Stmt} {N ps : List Str} {k : Nat} {sp : Sp} {p : Addr × Obj} (g : mg x = some (.ref (He.ga K x))) (d : ∃ fd, FunD K x x (defArgs st) (defBody st) (defScope st) [] [] (He.ga K x) fd) (sc : FnScope N ps (defScope st))
    (hb : ∀ (kV doc pm : Value) (an : Option Addr) (cdv ct : Value) (us : List Value), us.length = ps.length → bindArgs (PySem.W.fnOf x x (defArgs st) (defBody st) (defScope st) .none kV doc pm an cdv ct) ⟨us, []⟩ = pure (ps.zip us))
    (len : ∀ vs H Q E, sp vs H Q E → vs.length = ps.length)
    (body : ∀ (cdv : Value) (A : Around) (outer : List Env) (s : Shared) (H : Hp) (vs : List V) (Q : VK), RoomH k (A.deeper (envOfC x (defScope st) s.heap.objs.size (He.ga K x) cdv)) → sp vs H Q E0 →
      ∃ t, PSs (cxH CX0 P w K mg base N x (defScope st) (He.ga K x) cdv A outer s H E0 p).nox (defBody st) t ∧ t { nx := fun _ H' => Q .non H', rt := Q } (L2.start N vs) H) : CalP P w K mg base (k + 1) x ps p sp := by
  obtain ⟨fd, F⟩ := d
  exact ⟨g, fd, F.kp, fn_ofP F sc len body, F.bindsN hb⟩
end
section
variable {X : Cx}
theorem pe_calP {k : Nat} {x : Str} {ps : List Str} {sp : Sp} {p : Addr × Obj} {q pos : Pos} {e : Expr} {es : List Expr} {t : TA} (C : CalP X.prog X.w X.K X.mg X.base k x ps p sp) (hp : p ∈ X.pn) (hr : RoomH k X.A)
    (ha : PA X (e :: es) t) (hg : Gl X x := by rfl) (hdb : (x == ("__debug__" : Str)) = false := by decide) (he : starEach (e :: es) X.env = (false, eval e X.env) :: starEach es X.env := by rfl) (hpl : (backTo pos (starEach es X.env)).any (·.1) = false := by rfl) :
    PE X (.Call (.Name x q) (e :: es) [] pos) (tCall sp [] E0 t) := by
  obtain ⟨fd, kp, F, hb⟩ := C.ex
  refine ⟨fun pq s σ H Q Iv h => ?_⟩
  refine wpAny_Call_Name_kw (ld_glob Iv hg C.g ?_ hdb)
  refine PySem.W.callWith_K (h₀ := X.base) Iv.ok.mod.kin kp (thn (ha.run pos pq s σ H _ Iv h) fun us s1 ⟨vs, H1, I1, r, q⟩ => ⟨I1.kIn, ?_⟩) he hpl
  replace q : sp (vs ++ []) H1 Q E0 := q
  rw [List.append_nil] at q
  have hl : us.length = ps.length := by rw [← r.length]; exact F.len _ _ _ _ q
  have b := hb s1 us I1.kIn (by rw [List.append_nil]; exact hl)
  rw [List.append_nil] at b
  have P1 := I1.pin p (List.mem_append_left _ hp)
  have hpin : PinOk X.stack H1 s1 p := ⟨P1.1, P1.2.1, fun hm => (List.mem_cons.mp (I1.stkSub p.1 hm)).elim P1.2.2.1 P1.2.2.2.1, P1.2.2.2.2⟩
  refine wpAny_call (codeAny_mono (F.run X.A X.stack s1 H1 ⟨us, []⟩ us vs Q hr hpin I1.env0 b r q) fun r s' hq => ?_)
  cases r with
  | error e => exact False.elim hq
  | ok fl =>
    cases fl with
    | ret u => exact I1.after hq
    | next => exact False.elim hq
    | brk => exact False.elim hq
    | cont => exact False.elim hq
/-- isinstance(e, c), e the exception at hand -/
theorem isiP {K : PySem.W.Frag} {a D : Addr} {oe : Obj} (C : ExcC K D) (hp : (a, oe) ∈ X.pn) {d : Option Addr} {fs : List (Str × V)} (hc : oe.cls = .ref D) (hd : oe.dict = d) (hf : ∃ vs, oe.data = .fields vs) (hK : X.K = K := by rfl) :
    CallR X (.builtin "isinstance") (fun xs H Q => ∃ (c : V) (cv : Value) (b : Bool) (dd : Addr), xs = [.ref a, c] ∧ d = some dd ∧ H dd = some (.xd fs) ∧ (∀ u, RelV c u → u = cv) ∧ PySem.W.kitOne K (.ref D) cv = some b ∧ Q (.bl b) H) := by
  subst hK
  intro pq s σ H xs us Q Iv r h
  obtain ⟨c, cv, b, dd, rfl, ed, hdd, hcv, e, q⟩ := h
  cases r with
  | cons rx rr =>
    cases rr with
    | cons rt rr =>
      cases rr
      cases rx
      have ec := hcv _ rt
      subst ec
      obtain ⟨hget, _⟩ := Iv.pin (a, oe) (List.mem_append_left _ hp)
      obtain ⟨vs, hv⟩ := hf
      have hx : ObjOk X.prog X.w H s.heap dd (.xd fs) := Iv.hok dd _ hdd
      obtain ⟨mA, hns, _⟩ := hx
      obtain ⟨od, ho, _⟩ := lookIn_ns hns
      have J : PySem.W.InstAt s.heap a oe D (some od) := ⟨hget, hc, by unfold PySem.W.notCls; rw [hv] <;> rfl, by rw [hd, ed]; exact ho⟩
      have hcl : (PySem.W.clsIn X.K D).isSome = true := by
        obtain ⟨cd, hcd, _⟩ := PySem.W.any_some C.hd
        rw [hcd] <;> rfl
      exact PySem.W.kia_one (PySem.W.kitx_exc hcl C.hg C.hk C.hs C.ha C.hn C.ht C.hm) Iv.kIn J e (fun z => nomatch z) fun tk => ⟨.bl b, H, Iv.tok tk, rfl, q⟩
/-- e.f, e the exception at hand -/
theorem pe_atP {K : PySem.W.Frag} {a D : Addr} {oe : Obj} {d : Option Addr} {e : Expr} {te : TE} {pos : Pos} {n : Str} (C : ExcC K D) (hp : (a, oe) ∈ X.pn) (hc : oe.cls = .ref D) (hd : oe.dict = d) (hf : ∃ vs, oe.data = .fields vs) (hno : PySem.W.findIn K (.ref D) n = some none)
    (he : PE X e te) (hb : attributeBase e n X.env (eval e X.env) = eval e X.env := by rfl) (hK : X.K = K := by rfl) :
    PE X (.Attribute e n pos) (fun σ H Q => te σ H fun x H1 => x = .ref a ∧ ∃ (dd : Addr) (fs : List (Str × V)) (v : V), d = some dd ∧ H1 dd = some (.xd fs) ∧ fs.lookup n = some v ∧ Q v H1) := by
  subst hK
  refine ⟨fun pq s σ H Q Iv h => ?_⟩
  refine attr_of hb (thn (he.run pq s σ H _ Iv h) fun u s1 hh => ?_)
  obtain ⟨x, H1, I1, rx, ex, dd, fs, v, ed, ea, l, q⟩ := hh
  subst ex
  obtain rfl : u = Value.ref a := rx
  obtain ⟨hget, _⟩ := I1.pin (a, oe) (List.mem_append_left _ hp)
  obtain ⟨vs, hv⟩ := hf
  have hx : ObjOk X.prog X.w H1 s1.heap dd (.xd fs) := I1.hok dd _ ea
  obtain ⟨mA, hns, hr⟩ := hx
  obtain ⟨od, ho, hl⟩ := lookIn_ns hns
  obtain ⟨u, hu, ru⟩ := RelO.some_of (v := v) (o := mA n) (by rw [← l]; exact hr n)
  have J : PySem.W.InstAt s1.heap a oe D (some od) := ⟨hget, hc, by unfold PySem.W.notCls; rw [hv] <;> rfl, by rw [hd, ed]; exact ho⟩
  exact HandSPX.exc_get I1.kIn J C.hg C.hk C.hs (PySem.W.findObj_own C.hd hno rfl (by rw [hl, hu])) (handed_of ru) ⟨v, H1, I1.tok _, ru, q⟩
/-- xs.count(y), flat things -/
def rCntF (K : PySem.W.Frag) : V → List V → Hp → VK → Prop := fun x xs H Q => ∃ (p : Addr) (ys : List V) (y : V), x = .ref p ∧ xs = [y] ∧ SqL K H p ys ∧ flatV y = true ∧ ys.all flatV = true ∧ Q (.int (ys.countP (fun z => eqV z y) : Nat)) H
theorem count_eqU {x : V} : ∀ {xs : List V} {us : List Value}, Vals xs us → xs.all flatV = true → us.countP (eqU x) = xs.countP fun y => eqV y x
  | _, _, .nil, _ => rfl
  | _, _, .cons r t, f => by
    rw [List.all_cons, Bool.and_eq_true] at f
    rw [List.countP_cons, List.countP_cons, count_eqU t f.2, eqU_of r f.1]
theorem cntF {K : PySem.W.Frag} (hK : X.K = K := by rfl) : MtR X "list.count" (rCntF K) := by
  subst hK
  intro pq s σ H x xs v us Q Iv rx rxs h
  obtain ⟨p, ys, y, rfl, rfl, hs, fy, fa, q⟩ := h
  cases rx
  obtain ⟨u, rfl, ru⟩ := rxs.one
  obtain ⟨its, rv, ⟨⟨cls, dd, data, sl⟩, n, ho, hc, hdn, hd⟩, hlen⟩ := Iv.list hs
  simp only at hc hd
  subst hc hd
  refine call_meets PySem.F.slot_list_count ⟨_, ho, rfl⟩ PySem.F.entry_list_count (PySem.F.args_list_count_2 _ _)
    (SeqAt.list_countAt p its.toArray n dd sl u (eqU y)) ⟨ho, fun z hz => mem_eqAt ru fy rv fa z (by simpa using hz), ?_⟩
  refine ⟨.int (ys.countP (fun z => eqV z y) : Nat), H, Iv.tok _, ⟨s.toks, ?_⟩, q⟩
  show Value.int ((its.toArray.toList.countP (eqU y) : Nat) : Int) s.toks = _
  rw [show its.toArray.toList = its from rfl, count_eqU rv fa]
end
end Hx
namespace Hd
open PySem PySem.Spec PyProof.Rows L2
def top (i : Nat) : Stmt := PySem.Challenge.pw_holdtogether_k44_seats_or_a_crowd.main.body.getD i (.Pass ⟨0, 0, 0, 0⟩)
def mkD (x : Str) (i : Nat) : He.DefD := ⟨(x, none), x, x, defArgs (top i), defBody (top i), defScope (top i), [], []⟩
def mkM (c m q : Str) (i j : Nat) : He.DefD := ⟨(c, some m), m, q, defArgs (inClass (top i) j), defBody (inClass (top i) j), defScope (inClass (top i) j), [], []⟩
/-- an own class over ValueError, as the layer asks -/
def oexB (K : PySem.W.Frag) (C : Addr) : Bool := (match K.lookup C with
  | some ⟨.type ty, dd, .cls cd, sl⟩ => decide (ty = "type") && (decide (cd.mro.head? = some (.ref C)) && (PySem.HandSPX.refsVE cd.mro.tail && (cd.hasDict && (!cd.hasDel && (decide (sl.size = 6) && decide (sl[4]? = some (some (.builtin "ValueError.__new__"))))))))
  | _ => false) && (He.eqO (PySem.W.findIn K (.ref C) "__setattr__") (some (some (.builtin "object.__setattr__"))) && (decide (PySem.W.subIn K (.ref C) (.type "BaseException") = some true) && (decide (PySem.W.typeIn K (.ref C) = some (.type "type")) && PySem.W.keepIn K (.ref C))))
def kitB1 (K : PySem.W.Frag) (C : Addr) (q : Value × Bool) : Bool := decide (PySem.W.kitOne K (.ref C) q.1 = some q.2)
def excsB (K : PySem.W.Frag) (C : Addr) : Bool := He.eqO (PySem.W.findIn K (.ref C) "__getattribute__") (some (some (.builtin "BaseException.__getattribute__"))) && (He.eqO (PySem.W.findIn K (.ref C) "__getattr__") (some none) && (PySem.W.hasDictIn K C && (He.eqO (PySem.W.findIn K (.ref C) "__class__") (some (some (.builtin "object.__class__"))) && (He.eqO (PySem.W.specialIn K (.builtin "object.__class__") "__get__") (some (some (.builtin "getset_descriptor.__get__"))) && (decide (PySem.W.takesIn K (.builtin "object.__class__") = some true) && decide (PySem.W.mroIn K C (.type "object") = some true))))))
def fn : List He.DefD := [mkD "is_number" 14, mkD "is_window" 17, mkD "check_windows" 18, mkD "numbers_in" 19, mkD "seats_of" 20, mkD "greatest_low" 21, mkD "crowd_of" 22, mkD "seated" 23, mkD "are_seats" 24, mkD "is_crowd" 25, mkD "is_seated" 26, mkD "_law_stream" 28, mkD "_law_next" 29, mkD "_law_pick" 30, mkD "_law_shuffled" 31, mkD "_law_number" 32, mkD "_law_is_word" 33, mkD "_law_is_row" 34, mkD "_law_same" 35, mkD "_law_copy" 36, mkD "_law_named" 37, mkD "_law_attributes" 38, mkD "_law_error" 39, mkD "_law_some_windows" 40, mkD "_law_swept" 41, mkD "_law_told_seats" 42, mkD "_law_count" 43, mkD "_law_inside_places" 44, mkD "_law_told_crowd" 45, mkD "_law_right" 46, mkD "_law_near_seats" 47, mkD "_law_near_crowds" 48, mkD "_law_refusals" 49, mkD "law" 50, mkM "BadValue" "__init__" "BadValue.__init__" 7 0, mkM "TooMany" "__init__" "TooMany.__init__" 9 0]
def fa : List He.Fa := [.glo "is_number", .glo "is_window", .glo "check_windows", .glo "numbers_in", .glo "seats_of", .glo "greatest_low", .glo "crowd_of", .glo "seated", .glo "are_seats", .glo "is_crowd", .glo "is_seated", .glo "_law_stream", .glo "_law_next", .glo "_law_pick", .glo "_law_shuffled", .glo "_law_number", .glo "_law_is_word", .glo "_law_is_row", .glo "_law_same", .glo "_law_copy", .glo "_law_named", .glo "_law_attributes", .glo "_law_error", .glo "_law_some_windows", .glo "_law_swept", .glo "_law_told_seats", .glo "_law_count", .glo "_law_inside_places", .glo "_law_told_crowd", .glo "_law_right", .glo "_law_near_seats", .glo "_law_near_crowds", .glo "_law_refusals", .glo "law", .glo "HoldError", .glo "BadText", .glo "BadSort", .glo "BadLine", .glo "BadModel", .glo "BadPlan", .glo "BadValue", .glo "BadEdit", .glo "TooMany", .glo "TooLong", .glo "NothingToUndo", .glo "NothingToRedo", .free "isinstance", .free "len", .free "all", .free "max", .free "min", .free "range", .free "sorted", .free "enumerate", .free "list", .free "tuple", .free "int", .free "abs", .free "str", .free "bool", .free "dict", .free "ValueError", .int "MOST_WINDOWS" 400]
def kl_BadValue (K : PySem.W.Frag) : List (Value × Bool) := [(.ref (He.ga K "HoldError"), true), (.ref (He.ga K "BadText"), false), (.ref (He.ga K "BadSort"), false), (.ref (He.ga K "BadLine"), false), (.ref (He.ga K "BadModel"), false), (.ref (He.ga K "BadPlan"), false), (.ref (He.ga K "BadValue"), true), (.ref (He.ga K "BadEdit"), false), (.ref (He.ga K "TooMany"), false), (.ref (He.ga K "TooLong"), false), (.ref (He.ga K "NothingToUndo"), false), (.ref (He.ga K "NothingToRedo"), false), (.type "ValueError", true)]
def kl_TooMany (K : PySem.W.Frag) : List (Value × Bool) := [(.ref (He.ga K "HoldError"), true), (.ref (He.ga K "BadText"), false), (.ref (He.ga K "BadSort"), false), (.ref (He.ga K "BadLine"), false), (.ref (He.ga K "BadModel"), false), (.ref (He.ga K "BadPlan"), false), (.ref (He.ga K "BadValue"), false), (.ref (He.ga K "BadEdit"), false), (.ref (He.ga K "TooMany"), true), (.ref (He.ga K "TooLong"), false), (.ref (He.ga K "NothingToUndo"), false), (.ref (He.ga K "NothingToRedo"), false), (.type "ValueError", true)]
def ex (K : PySem.W.Frag) : Bool := (oexB K (He.ga K "BadValue") && (excsB K (He.ga K "BadValue") && (decide (PySem.W.findIn K (.ref (He.ga K "BadValue")) "__init__" = some (some (.ref (He.ma K (He.ga K "BadValue") "__init__")))) && (decide (PySem.W.typeIn K (.ref (He.ma K (He.ga K "BadValue") "__init__")) = some (.type "function")) && (decide (PySem.W.exmOne K (.ref (He.ga K "BadValue")) (.ref (He.ga K "HoldError")) = some true) && (decide (PySem.W.findIn K (.ref (He.ga K "BadValue")) "name" = some none) && (decide (PySem.W.findIn K (.ref (He.ga K "BadValue")) "word" = some none) && (kl_BadValue K).all (kitB1 K (He.ga K "BadValue"))))))))) && (oexB K (He.ga K "TooMany") && (excsB K (He.ga K "TooMany") && (decide (PySem.W.findIn K (.ref (He.ga K "TooMany")) "__init__" = some (some (.ref (He.ma K (He.ga K "TooMany") "__init__")))) && (decide (PySem.W.typeIn K (.ref (He.ma K (He.ga K "TooMany") "__init__")) = some (.type "function")) && (decide (PySem.W.exmOne K (.ref (He.ga K "TooMany")) (.ref (He.ga K "HoldError")) = some true) && (decide (PySem.W.findIn K (.ref (He.ga K "TooMany")) "name" = some none) && (decide (PySem.W.findIn K (.ref (He.ga K "TooMany")) "word" = some none) && (kl_TooMany K).all (kitB1 K (He.ga K "TooMany")))))))))
/-- what the top has written -/
structure ExF (K : PySem.W.Frag) (C fI : Addr) : Prop where
  oex : OexC K C
  ini : PySem.W.findIn K (.ref C) "__init__" = some (some (.ref fI))
  tyI : PySem.W.typeIn K (.ref fI) = some (.type "function")
  excC : ExcC K C
  exm : PySem.W.exmOne K (.ref C) (.ref (He.ga K "HoldError")) = some true
  noF : PySem.W.findIn K (.ref C) "name" = some none ∧ PySem.W.findIn K (.ref C) "word" = some none
structure Txt (K : PySem.W.Frag) (mg : Str → Option Value) : Prop where
  n_isinstance : mg "isinstance" = none
  n_len : mg "len" = none
  n_all : mg "all" = none
  n_max : mg "max" = none
  n_min : mg "min" = none
  n_range : mg "range" = none
  n_sorted : mg "sorted" = none
  n_enumerate : mg "enumerate" = none
  n_list : mg "list" = none
  n_tuple : mg "tuple" = none
  n_int : mg "int" = none
  n_abs : mg "abs" = none
  n_str : mg "str" = none
  n_bool : mg "bool" = none
  n_dict : mg "dict" = none
  n_ValueError : mg "ValueError" = none
  g_is_number : mg "is_number" = some (.ref (He.ga K "is_number"))
  g_is_window : mg "is_window" = some (.ref (He.ga K "is_window"))
  g_check_windows : mg "check_windows" = some (.ref (He.ga K "check_windows"))
  g_numbers_in : mg "numbers_in" = some (.ref (He.ga K "numbers_in"))
  g_seats_of : mg "seats_of" = some (.ref (He.ga K "seats_of"))
  g_greatest_low : mg "greatest_low" = some (.ref (He.ga K "greatest_low"))
  g_crowd_of : mg "crowd_of" = some (.ref (He.ga K "crowd_of"))
  g_seated : mg "seated" = some (.ref (He.ga K "seated"))
  g_are_seats : mg "are_seats" = some (.ref (He.ga K "are_seats"))
  g_is_crowd : mg "is_crowd" = some (.ref (He.ga K "is_crowd"))
  g_is_seated : mg "is_seated" = some (.ref (He.ga K "is_seated"))
  g__law_stream : mg "_law_stream" = some (.ref (He.ga K "_law_stream"))
  g__law_next : mg "_law_next" = some (.ref (He.ga K "_law_next"))
  g__law_pick : mg "_law_pick" = some (.ref (He.ga K "_law_pick"))
  g__law_shuffled : mg "_law_shuffled" = some (.ref (He.ga K "_law_shuffled"))
  g__law_number : mg "_law_number" = some (.ref (He.ga K "_law_number"))
  g__law_is_word : mg "_law_is_word" = some (.ref (He.ga K "_law_is_word"))
  g__law_is_row : mg "_law_is_row" = some (.ref (He.ga K "_law_is_row"))
  g__law_same : mg "_law_same" = some (.ref (He.ga K "_law_same"))
  g__law_copy : mg "_law_copy" = some (.ref (He.ga K "_law_copy"))
  g__law_named : mg "_law_named" = some (.ref (He.ga K "_law_named"))
  g__law_attributes : mg "_law_attributes" = some (.ref (He.ga K "_law_attributes"))
  g__law_error : mg "_law_error" = some (.ref (He.ga K "_law_error"))
  g__law_some_windows : mg "_law_some_windows" = some (.ref (He.ga K "_law_some_windows"))
  g__law_swept : mg "_law_swept" = some (.ref (He.ga K "_law_swept"))
  g__law_told_seats : mg "_law_told_seats" = some (.ref (He.ga K "_law_told_seats"))
  g__law_count : mg "_law_count" = some (.ref (He.ga K "_law_count"))
  g__law_inside_places : mg "_law_inside_places" = some (.ref (He.ga K "_law_inside_places"))
  g__law_told_crowd : mg "_law_told_crowd" = some (.ref (He.ga K "_law_told_crowd"))
  g__law_right : mg "_law_right" = some (.ref (He.ga K "_law_right"))
  g__law_near_seats : mg "_law_near_seats" = some (.ref (He.ga K "_law_near_seats"))
  g__law_near_crowds : mg "_law_near_crowds" = some (.ref (He.ga K "_law_near_crowds"))
  g__law_refusals : mg "_law_refusals" = some (.ref (He.ga K "_law_refusals"))
  g_law : mg "law" = some (.ref (He.ga K "law"))
  g_HoldError : mg "HoldError" = some (.ref (He.ga K "HoldError"))
  g_BadText : mg "BadText" = some (.ref (He.ga K "BadText"))
  g_BadSort : mg "BadSort" = some (.ref (He.ga K "BadSort"))
  g_BadLine : mg "BadLine" = some (.ref (He.ga K "BadLine"))
  g_BadModel : mg "BadModel" = some (.ref (He.ga K "BadModel"))
  g_BadPlan : mg "BadPlan" = some (.ref (He.ga K "BadPlan"))
  g_BadValue : mg "BadValue" = some (.ref (He.ga K "BadValue"))
  g_BadEdit : mg "BadEdit" = some (.ref (He.ga K "BadEdit"))
  g_TooMany : mg "TooMany" = some (.ref (He.ga K "TooMany"))
  g_TooLong : mg "TooLong" = some (.ref (He.ga K "TooLong"))
  g_NothingToUndo : mg "NothingToUndo" = some (.ref (He.ga K "NothingToUndo"))
  g_NothingToRedo : mg "NothingToRedo" = some (.ref (He.ga K "NothingToRedo"))
  c_MOST_WINDOWS : ∃ t, mg "MOST_WINDOWS" = some (.int 400 t)
  d_is_number : ∃ fd, FunD K "is_number" "is_number" (defArgs (top 14)) (defBody (top 14)) (defScope (top 14)) [] [] (He.ga K "is_number") fd
  d_is_window : ∃ fd, FunD K "is_window" "is_window" (defArgs (top 17)) (defBody (top 17)) (defScope (top 17)) [] [] (He.ga K "is_window") fd
  d_check_windows : ∃ fd, FunD K "check_windows" "check_windows" (defArgs (top 18)) (defBody (top 18)) (defScope (top 18)) [] [] (He.ga K "check_windows") fd
  d_numbers_in : ∃ fd, FunD K "numbers_in" "numbers_in" (defArgs (top 19)) (defBody (top 19)) (defScope (top 19)) [] [] (He.ga K "numbers_in") fd
  d_seats_of : ∃ fd, FunD K "seats_of" "seats_of" (defArgs (top 20)) (defBody (top 20)) (defScope (top 20)) [] [] (He.ga K "seats_of") fd
  d_greatest_low : ∃ fd, FunD K "greatest_low" "greatest_low" (defArgs (top 21)) (defBody (top 21)) (defScope (top 21)) [] [] (He.ga K "greatest_low") fd
  d_crowd_of : ∃ fd, FunD K "crowd_of" "crowd_of" (defArgs (top 22)) (defBody (top 22)) (defScope (top 22)) [] [] (He.ga K "crowd_of") fd
  d_seated : ∃ fd, FunD K "seated" "seated" (defArgs (top 23)) (defBody (top 23)) (defScope (top 23)) [] [] (He.ga K "seated") fd
  d_are_seats : ∃ fd, FunD K "are_seats" "are_seats" (defArgs (top 24)) (defBody (top 24)) (defScope (top 24)) [] [] (He.ga K "are_seats") fd
  d_is_crowd : ∃ fd, FunD K "is_crowd" "is_crowd" (defArgs (top 25)) (defBody (top 25)) (defScope (top 25)) [] [] (He.ga K "is_crowd") fd
  d_is_seated : ∃ fd, FunD K "is_seated" "is_seated" (defArgs (top 26)) (defBody (top 26)) (defScope (top 26)) [] [] (He.ga K "is_seated") fd
  d__law_stream : ∃ fd, FunD K "_law_stream" "_law_stream" (defArgs (top 28)) (defBody (top 28)) (defScope (top 28)) [] [] (He.ga K "_law_stream") fd
  d__law_next : ∃ fd, FunD K "_law_next" "_law_next" (defArgs (top 29)) (defBody (top 29)) (defScope (top 29)) [] [] (He.ga K "_law_next") fd
  d__law_pick : ∃ fd, FunD K "_law_pick" "_law_pick" (defArgs (top 30)) (defBody (top 30)) (defScope (top 30)) [] [] (He.ga K "_law_pick") fd
  d__law_shuffled : ∃ fd, FunD K "_law_shuffled" "_law_shuffled" (defArgs (top 31)) (defBody (top 31)) (defScope (top 31)) [] [] (He.ga K "_law_shuffled") fd
  d__law_number : ∃ fd, FunD K "_law_number" "_law_number" (defArgs (top 32)) (defBody (top 32)) (defScope (top 32)) [] [] (He.ga K "_law_number") fd
  d__law_is_word : ∃ fd, FunD K "_law_is_word" "_law_is_word" (defArgs (top 33)) (defBody (top 33)) (defScope (top 33)) [] [] (He.ga K "_law_is_word") fd
  d__law_is_row : ∃ fd, FunD K "_law_is_row" "_law_is_row" (defArgs (top 34)) (defBody (top 34)) (defScope (top 34)) [] [] (He.ga K "_law_is_row") fd
  d__law_same : ∃ fd, FunD K "_law_same" "_law_same" (defArgs (top 35)) (defBody (top 35)) (defScope (top 35)) [] [] (He.ga K "_law_same") fd
  d__law_copy : ∃ fd, FunD K "_law_copy" "_law_copy" (defArgs (top 36)) (defBody (top 36)) (defScope (top 36)) [] [] (He.ga K "_law_copy") fd
  d__law_named : ∃ fd, FunD K "_law_named" "_law_named" (defArgs (top 37)) (defBody (top 37)) (defScope (top 37)) [] [] (He.ga K "_law_named") fd
  d__law_attributes : ∃ fd, FunD K "_law_attributes" "_law_attributes" (defArgs (top 38)) (defBody (top 38)) (defScope (top 38)) [] [] (He.ga K "_law_attributes") fd
  d__law_error : ∃ fd, FunD K "_law_error" "_law_error" (defArgs (top 39)) (defBody (top 39)) (defScope (top 39)) [] [] (He.ga K "_law_error") fd
  d__law_some_windows : ∃ fd, FunD K "_law_some_windows" "_law_some_windows" (defArgs (top 40)) (defBody (top 40)) (defScope (top 40)) [] [] (He.ga K "_law_some_windows") fd
  d__law_swept : ∃ fd, FunD K "_law_swept" "_law_swept" (defArgs (top 41)) (defBody (top 41)) (defScope (top 41)) [] [] (He.ga K "_law_swept") fd
  d__law_told_seats : ∃ fd, FunD K "_law_told_seats" "_law_told_seats" (defArgs (top 42)) (defBody (top 42)) (defScope (top 42)) [] [] (He.ga K "_law_told_seats") fd
  d__law_count : ∃ fd, FunD K "_law_count" "_law_count" (defArgs (top 43)) (defBody (top 43)) (defScope (top 43)) [] [] (He.ga K "_law_count") fd
  d__law_inside_places : ∃ fd, FunD K "_law_inside_places" "_law_inside_places" (defArgs (top 44)) (defBody (top 44)) (defScope (top 44)) [] [] (He.ga K "_law_inside_places") fd
  d__law_told_crowd : ∃ fd, FunD K "_law_told_crowd" "_law_told_crowd" (defArgs (top 45)) (defBody (top 45)) (defScope (top 45)) [] [] (He.ga K "_law_told_crowd") fd
  d__law_right : ∃ fd, FunD K "_law_right" "_law_right" (defArgs (top 46)) (defBody (top 46)) (defScope (top 46)) [] [] (He.ga K "_law_right") fd
  d__law_near_seats : ∃ fd, FunD K "_law_near_seats" "_law_near_seats" (defArgs (top 47)) (defBody (top 47)) (defScope (top 47)) [] [] (He.ga K "_law_near_seats") fd
  d__law_near_crowds : ∃ fd, FunD K "_law_near_crowds" "_law_near_crowds" (defArgs (top 48)) (defBody (top 48)) (defScope (top 48)) [] [] (He.ga K "_law_near_crowds") fd
  d__law_refusals : ∃ fd, FunD K "_law_refusals" "_law_refusals" (defArgs (top 49)) (defBody (top 49)) (defScope (top 49)) [] [] (He.ga K "_law_refusals") fd
  d_law : ∃ fd, FunD K "law" "law" (defArgs (top 50)) (defBody (top 50)) (defScope (top 50)) [] [] (He.ga K "law") fd
  i_BadValue : ∃ fd, FunD K "__init__" "BadValue.__init__" (defArgs (inClass (top 7) 0)) (defBody (inClass (top 7) 0)) (defScope (inClass (top 7) 0)) [] [] (He.ma K (He.ga K "BadValue") "__init__") fd
  x_BadValue : ExF K (He.ga K "BadValue") (He.ma K (He.ga K "BadValue") "__init__")
  q_BadValue : ∀ q ∈ kl_BadValue K, PySem.W.kitOne K (.ref (He.ga K "BadValue")) q.1 = some q.2
  i_TooMany : ∃ fd, FunD K "__init__" "TooMany.__init__" (defArgs (inClass (top 9) 0)) (defBody (inClass (top 9) 0)) (defScope (inClass (top 9) 0)) [] [] (He.ma K (He.ga K "TooMany") "__init__") fd
  x_TooMany : ExF K (He.ga K "TooMany") (He.ma K (He.ga K "TooMany") "__init__")
  q_TooMany : ∀ q ∈ kl_TooMany K, PySem.W.kitOne K (.ref (He.ga K "TooMany")) q.1 = some q.2
def lo0 : List Str := ["is_number", "is_window", "check_windows", "numbers_in", "seats_of", "greatest_low", "crowd_of", "seated", "are_seats", "is_crowd", "is_seated", "_law_stream", "_law_next", "_law_pick", "_law_shuffled", "_law_number", "_law_is_word", "_law_is_row", "_law_same", "_law_copy", "_law_named", "_law_attributes", "_law_error", "_law_some_windows", "_law_swept", "_law_told_seats", "_law_count", "_law_inside_places", "_law_told_crowd", "_law_right"]
def lo1 : List Str := ["_law_near_seats", "_law_near_crowds", "_law_refusals", "HoldError", "BadText", "BadSort", "BadLine", "BadModel", "BadPlan", "BadValue", "BadEdit", "TooMany", "TooLong", "NothingToUndo", "NothingToRedo", "MOST_WINDOWS"]
def loose : List Str := lo0 ++ lo1
abbrev R : PySem.W.OpenRow := PySem.W.OpenLaw.row PySem.Challenge.rw_holdtogether_k44_seats_or_a_crowd
abbrev hk : PySem.W.Hook := He.hookX 5 fa fn [] [] ex
def ob (s : PySem.W.SharedT) : He.AlX := He.obsX 5 fa fn [] [] ex (HandSHeadRun.getT s)
theorem ob_eq (s : PySem.W.SharedT) : ob s = hk.obs s.abs := He.obsX_eq (HandSHeadRun.getT_eq s)
theorem run (w : World) : HandSHeadRun.RunEq R (PySem.W.view R.prog [50]) hk ob 6000 loose w := by
  intro os
  kernel_rfl
theorem oexB_ok {K : PySem.W.Frag} {C : Addr} (h : oexB K C = true) : OexC K C := by
  unfold oexB at h
  obtain ⟨h1, h⟩ := He.ba h
  obtain ⟨h2, h⟩ := He.ba h
  obtain ⟨h3, h⟩ := He.ba h
  obtain ⟨h4, h5⟩ := He.ba h
  refine ⟨?_, He.eqO_ok h2, of_decide_eq_true h3, of_decide_eq_true h4, h5⟩
  cases q : K.lookup C with
  | none => rw [q] at h1; cases h1
  | some o =>
    rw [q] at h1
    obtain ⟨oc, od, dt, sl⟩ := o
    cases oc with
    | type ty =>
      cases dt with
      | cls cd =>
        obtain ⟨a1, b⟩ := He.ba h1
        obtain ⟨a2, b⟩ := He.ba b
        obtain ⟨a3, b⟩ := He.ba b
        obtain ⟨a4, b⟩ := He.ba b
        obtain ⟨a5, b⟩ := He.ba b
        obtain ⟨a6, a7⟩ := He.ba b
        have e1 : ty = "type" := of_decide_eq_true a1
        have e2 := of_decide_eq_true a2
        have e6 := of_decide_eq_true a6
        have e7 := of_decide_eq_true a7
        obtain ⟨nm, bs, mro, ns, qn, hd, sn, sb, ab, col, del⟩ := cd
        dsimp only at e2 a3 a4 a5
        obtain ⟨bm, rfl⟩ : ∃ bm, mro = .ref C :: bm := by
          cases mro with
          | nil => cases e2
          | cons m r => exact ⟨r, by rw [Option.some.inj e2]⟩
        have hdl : del = false := by
          cases del with
          | false => rfl
          | true => cases a5
        have hds : hd = true := a4
        subst e1 hdl hds
        have hsl : sl = #[sl[0]'(by omega), sl[1]'(by omega), sl[2]'(by omega), sl[3]'(by omega), some (.builtin "ValueError.__new__"), sl[5]'(by omega)] := by
          apply Array.ext
          · simp [e6]
          · intro i hi hi2
            have hi6 : i < 6 := by omega
            rcases (by omega : i = 0 ∨ i = 1 ∨ i = 2 ∨ i = 3 ∨ i = 4 ∨ i = 5) with rfl | rfl | rfl | rfl | rfl | rfl
            · rfl
            · rfl
            · rfl
            · rfl
            · have z := e7
              rw [Array.getElem?_eq_getElem (by omega)] at z
              simpa using z
            · rfl
        exact ⟨nm, qn, ns, bs, bm, sn, sb, ab, col, od, _, _, _, _, _, by rw [hsl], a3⟩
      | _ => cases h1
    | _ => cases h1
theorem excsB_ok {K : PySem.W.Frag} {C : Addr} (h : excsB K C = true) (hs : PySem.W.subIn K (.ref C) (.type "BaseException") = some true) : ExcC K C := by
  unfold excsB at h
  obtain ⟨h1, h⟩ := He.ba h
  obtain ⟨h2, h⟩ := He.ba h
  obtain ⟨h3, h⟩ := He.ba h
  obtain ⟨h4, h⟩ := He.ba h
  obtain ⟨h5, h⟩ := He.ba h
  obtain ⟨h6, h7⟩ := He.ba h
  exact ⟨He.eqO_ok h1, He.eqO_ok h2, hs, h3, He.eqO_ok h4, He.eqO_ok h5, of_decide_eq_true h6, of_decide_eq_true h7⟩
theorem txt_of {w : World} {K : PySem.W.Frag} {h : Heap} {mg : Str → Option Value} (X : K.In h) (G : h.Ns mainGlobals mg) (c : He.SaysX fa fn [] [] ex w h K) : Txt K mg := by
  have cd := c.t.d
  have cm : ex K = true := c.more
  unfold ex at cm
  obtain ⟨cm, p1⟩ := He.ba cm
  have p0 := cm
  obtain ⟨a01, p0⟩ := He.ba p0
  obtain ⟨a02, p0⟩ := He.ba p0
  obtain ⟨a03, p0⟩ := He.ba p0
  obtain ⟨a04, p0⟩ := He.ba p0
  obtain ⟨a05, p0⟩ := He.ba p0
  obtain ⟨a06, p0⟩ := He.ba p0
  obtain ⟨a07, a08⟩ := He.ba p0
  have o0 := oexB_ok a01
  obtain ⟨a11, p1⟩ := He.ba p1
  obtain ⟨a12, p1⟩ := He.ba p1
  obtain ⟨a13, p1⟩ := He.ba p1
  obtain ⟨a14, p1⟩ := He.ba p1
  obtain ⟨a15, p1⟩ := He.ba p1
  obtain ⟨a16, p1⟩ := He.ba p1
  obtain ⟨a17, a18⟩ := He.ba p1
  have o1 := oexB_ok a11
  exact {
    n_isinstance := He.free_ok X G (cd.fact 46 (f := .free "isinstance") rfl)
    n_len := He.free_ok X G (cd.fact 47 (f := .free "len") rfl)
    n_all := He.free_ok X G (cd.fact 48 (f := .free "all") rfl)
    n_max := He.free_ok X G (cd.fact 49 (f := .free "max") rfl)
    n_min := He.free_ok X G (cd.fact 50 (f := .free "min") rfl)
    n_range := He.free_ok X G (cd.fact 51 (f := .free "range") rfl)
    n_sorted := He.free_ok X G (cd.fact 52 (f := .free "sorted") rfl)
    n_enumerate := He.free_ok X G (cd.fact 53 (f := .free "enumerate") rfl)
    n_list := He.free_ok X G (cd.fact 54 (f := .free "list") rfl)
    n_tuple := He.free_ok X G (cd.fact 55 (f := .free "tuple") rfl)
    n_int := He.free_ok X G (cd.fact 56 (f := .free "int") rfl)
    n_abs := He.free_ok X G (cd.fact 57 (f := .free "abs") rfl)
    n_str := He.free_ok X G (cd.fact 58 (f := .free "str") rfl)
    n_bool := He.free_ok X G (cd.fact 59 (f := .free "bool") rfl)
    n_dict := He.free_ok X G (cd.fact 60 (f := .free "dict") rfl)
    n_ValueError := He.free_ok X G (cd.fact 61 (f := .free "ValueError") rfl)
    g_is_number := He.glo_ok X G (cd.fact 0 (f := .glo "is_number") rfl)
    g_is_window := He.glo_ok X G (cd.fact 1 (f := .glo "is_window") rfl)
    g_check_windows := He.glo_ok X G (cd.fact 2 (f := .glo "check_windows") rfl)
    g_numbers_in := He.glo_ok X G (cd.fact 3 (f := .glo "numbers_in") rfl)
    g_seats_of := He.glo_ok X G (cd.fact 4 (f := .glo "seats_of") rfl)
    g_greatest_low := He.glo_ok X G (cd.fact 5 (f := .glo "greatest_low") rfl)
    g_crowd_of := He.glo_ok X G (cd.fact 6 (f := .glo "crowd_of") rfl)
    g_seated := He.glo_ok X G (cd.fact 7 (f := .glo "seated") rfl)
    g_are_seats := He.glo_ok X G (cd.fact 8 (f := .glo "are_seats") rfl)
    g_is_crowd := He.glo_ok X G (cd.fact 9 (f := .glo "is_crowd") rfl)
    g_is_seated := He.glo_ok X G (cd.fact 10 (f := .glo "is_seated") rfl)
    g__law_stream := He.glo_ok X G (cd.fact 11 (f := .glo "_law_stream") rfl)
    g__law_next := He.glo_ok X G (cd.fact 12 (f := .glo "_law_next") rfl)
    g__law_pick := He.glo_ok X G (cd.fact 13 (f := .glo "_law_pick") rfl)
    g__law_shuffled := He.glo_ok X G (cd.fact 14 (f := .glo "_law_shuffled") rfl)
    g__law_number := He.glo_ok X G (cd.fact 15 (f := .glo "_law_number") rfl)
    g__law_is_word := He.glo_ok X G (cd.fact 16 (f := .glo "_law_is_word") rfl)
    g__law_is_row := He.glo_ok X G (cd.fact 17 (f := .glo "_law_is_row") rfl)
    g__law_same := He.glo_ok X G (cd.fact 18 (f := .glo "_law_same") rfl)
    g__law_copy := He.glo_ok X G (cd.fact 19 (f := .glo "_law_copy") rfl)
    g__law_named := He.glo_ok X G (cd.fact 20 (f := .glo "_law_named") rfl)
    g__law_attributes := He.glo_ok X G (cd.fact 21 (f := .glo "_law_attributes") rfl)
    g__law_error := He.glo_ok X G (cd.fact 22 (f := .glo "_law_error") rfl)
    g__law_some_windows := He.glo_ok X G (cd.fact 23 (f := .glo "_law_some_windows") rfl)
    g__law_swept := He.glo_ok X G (cd.fact 24 (f := .glo "_law_swept") rfl)
    g__law_told_seats := He.glo_ok X G (cd.fact 25 (f := .glo "_law_told_seats") rfl)
    g__law_count := He.glo_ok X G (cd.fact 26 (f := .glo "_law_count") rfl)
    g__law_inside_places := He.glo_ok X G (cd.fact 27 (f := .glo "_law_inside_places") rfl)
    g__law_told_crowd := He.glo_ok X G (cd.fact 28 (f := .glo "_law_told_crowd") rfl)
    g__law_right := He.glo_ok X G (cd.fact 29 (f := .glo "_law_right") rfl)
    g__law_near_seats := He.glo_ok X G (cd.fact 30 (f := .glo "_law_near_seats") rfl)
    g__law_near_crowds := He.glo_ok X G (cd.fact 31 (f := .glo "_law_near_crowds") rfl)
    g__law_refusals := He.glo_ok X G (cd.fact 32 (f := .glo "_law_refusals") rfl)
    g_law := He.glo_ok X G (cd.fact 33 (f := .glo "law") rfl)
    g_HoldError := He.glo_ok X G (cd.fact 34 (f := .glo "HoldError") rfl)
    g_BadText := He.glo_ok X G (cd.fact 35 (f := .glo "BadText") rfl)
    g_BadSort := He.glo_ok X G (cd.fact 36 (f := .glo "BadSort") rfl)
    g_BadLine := He.glo_ok X G (cd.fact 37 (f := .glo "BadLine") rfl)
    g_BadModel := He.glo_ok X G (cd.fact 38 (f := .glo "BadModel") rfl)
    g_BadPlan := He.glo_ok X G (cd.fact 39 (f := .glo "BadPlan") rfl)
    g_BadValue := He.glo_ok X G (cd.fact 40 (f := .glo "BadValue") rfl)
    g_BadEdit := He.glo_ok X G (cd.fact 41 (f := .glo "BadEdit") rfl)
    g_TooMany := He.glo_ok X G (cd.fact 42 (f := .glo "TooMany") rfl)
    g_TooLong := He.glo_ok X G (cd.fact 43 (f := .glo "TooLong") rfl)
    g_NothingToUndo := He.glo_ok X G (cd.fact 44 (f := .glo "NothingToUndo") rfl)
    g_NothingToRedo := He.glo_ok X G (cd.fact 45 (f := .glo "NothingToRedo") rfl)
    c_MOST_WINDOWS := He.int_ok X G (cd.fact 62 (f := .int "MOST_WINDOWS" 400) rfl)
    d_is_number := cd.def_ 0 (d := mkD "is_number" 14) rfl
    d_is_window := cd.def_ 1 (d := mkD "is_window" 17) rfl
    d_check_windows := cd.def_ 2 (d := mkD "check_windows" 18) rfl
    d_numbers_in := cd.def_ 3 (d := mkD "numbers_in" 19) rfl
    d_seats_of := cd.def_ 4 (d := mkD "seats_of" 20) rfl
    d_greatest_low := cd.def_ 5 (d := mkD "greatest_low" 21) rfl
    d_crowd_of := cd.def_ 6 (d := mkD "crowd_of" 22) rfl
    d_seated := cd.def_ 7 (d := mkD "seated" 23) rfl
    d_are_seats := cd.def_ 8 (d := mkD "are_seats" 24) rfl
    d_is_crowd := cd.def_ 9 (d := mkD "is_crowd" 25) rfl
    d_is_seated := cd.def_ 10 (d := mkD "is_seated" 26) rfl
    d__law_stream := cd.def_ 11 (d := mkD "_law_stream" 28) rfl
    d__law_next := cd.def_ 12 (d := mkD "_law_next" 29) rfl
    d__law_pick := cd.def_ 13 (d := mkD "_law_pick" 30) rfl
    d__law_shuffled := cd.def_ 14 (d := mkD "_law_shuffled" 31) rfl
    d__law_number := cd.def_ 15 (d := mkD "_law_number" 32) rfl
    d__law_is_word := cd.def_ 16 (d := mkD "_law_is_word" 33) rfl
    d__law_is_row := cd.def_ 17 (d := mkD "_law_is_row" 34) rfl
    d__law_same := cd.def_ 18 (d := mkD "_law_same" 35) rfl
    d__law_copy := cd.def_ 19 (d := mkD "_law_copy" 36) rfl
    d__law_named := cd.def_ 20 (d := mkD "_law_named" 37) rfl
    d__law_attributes := cd.def_ 21 (d := mkD "_law_attributes" 38) rfl
    d__law_error := cd.def_ 22 (d := mkD "_law_error" 39) rfl
    d__law_some_windows := cd.def_ 23 (d := mkD "_law_some_windows" 40) rfl
    d__law_swept := cd.def_ 24 (d := mkD "_law_swept" 41) rfl
    d__law_told_seats := cd.def_ 25 (d := mkD "_law_told_seats" 42) rfl
    d__law_count := cd.def_ 26 (d := mkD "_law_count" 43) rfl
    d__law_inside_places := cd.def_ 27 (d := mkD "_law_inside_places" 44) rfl
    d__law_told_crowd := cd.def_ 28 (d := mkD "_law_told_crowd" 45) rfl
    d__law_right := cd.def_ 29 (d := mkD "_law_right" 46) rfl
    d__law_near_seats := cd.def_ 30 (d := mkD "_law_near_seats" 47) rfl
    d__law_near_crowds := cd.def_ 31 (d := mkD "_law_near_crowds" 48) rfl
    d__law_refusals := cd.def_ 32 (d := mkD "_law_refusals" 49) rfl
    d_law := cd.def_ 33 (d := mkD "law" 50) rfl
    i_BadValue := cd.def_ 34 (d := mkM "BadValue" "__init__" "BadValue.__init__" 7 0) rfl
    x_BadValue := ⟨o0, of_decide_eq_true a03, of_decide_eq_true a04, excsB_ok a02 o0.exC, of_decide_eq_true a05, of_decide_eq_true a06, of_decide_eq_true a07⟩
    q_BadValue := fun q hq => of_decide_eq_true (List.all_eq_true.mp a08 q hq)
    i_TooMany := cd.def_ 35 (d := mkM "TooMany" "__init__" "TooMany.__init__" 9 0) rfl
    x_TooMany := ⟨o1, of_decide_eq_true a13, of_decide_eq_true a14, excsB_ok a12 o1.exC, of_decide_eq_true a15, of_decide_eq_true a16, of_decide_eq_true a17⟩
    q_TooMany := fun q hq => of_decide_eq_true (List.all_eq_true.mp a18 q hq)
  }
end Hd
/-! windows, seats, crowds: what the defs compute, over plain lists -/
namespace M44
open PySem (PyData)
abbrev Wn := Int × Int
def isNum (d : PyData) : Bool := match d with | .int _ => true | _ => false
def isWin (d : PyData) : Bool := match d with | .tuple [a, b] => isNum a && isNum b | _ => false
def isWins (d : PyData) : Bool := match d with | .list ds => ds.all isWin | _ => false
abbrev encP (p : Int × Int) : PyData := .tuple [.int p.1, .int p.2]
theorem isNum_int {d : PyData} (h : isNum d = true) : ∃ i, d = .int i := by cases d <;> first | exact ⟨_, rfl⟩ | cases h
theorem isWin_enc {d : PyData} (h : isWin d = true) : ∃ w : Wn, d = encP w := by
  unfold isWin at h
  split at h
  · rename_i a b
    rw [Bool.and_eq_true] at h
    obtain ⟨i, rfl⟩ := isNum_int h.1
    obtain ⟨j, rfl⟩ := isNum_int h.2
    exact ⟨(i, j), rfl⟩
  · cases h
theorem isWins_enc {d : PyData} (h : isWins d = true) : ∃ ws : List Wn, d = .list (ws.map encP) := by
  unfold isWins at h
  split at h
  · rename_i ds
    have gen : ∀ ds : List PyData, ds.all isWin = true → ∃ ws : List Wn, ds = ws.map encP := by
      intro ds
      induction ds with
      | nil => intro _; exact ⟨[], rfl⟩
      | cons d ds ih =>
        intro h
        rw [List.all_cons, Bool.and_eq_true] at h
        obtain ⟨w, rfl⟩ := isWin_enc h.1
        obtain ⟨ws, rfl⟩ := ih h.2
        exact ⟨w :: ws, rfl⟩
    obtain ⟨ws, rfl⟩ := gen ds h
    exact ⟨ws, rfl⟩
  · cases h
theorem enc_isWins (ws : List Wn) : isWins (.list (ws.map encP)) = true := by
  show (ws.map encP).all isWin = true
  rw [List.all_map, List.all_eq_true]
  intro w _
  rfl
/-- how many ints there are from lo to hi -/
def cnt (lo hi : Int) : Int := if hi - lo + 1 > 0 then hi - lo + 1 else 0
/-- the order of pairs -/
def leP (p q : Int × Int) : Bool := decide (p.1 < q.1 ∨ (p.1 = q.1 ∧ p.2 ≤ q.2))
/-- from n on the first that is not taken, or what is beyond high -/
def climb (tk : List Int) (high n : Int) : Int := if n ≤ high ∧ n ∈ tk then climb tk high (n + 1) else n
termination_by (high + 1 - n).toNat
decreasing_by omega
def row (ws : List Wn) (i : Nat) : Int × Int := ((ws.getD i (0, 0)).2, (i : Int))
def rows (ws : List Wn) : List (Int × Int) := ((List.range ws.length).map (row ws)).mergeSort leP
def seatRun (ws : List Wn) : List (Int × Int) → List Int → List Int → Option (List Int)
  | [], seats, _ => some seats
  | (high, place) :: r, seats, tk =>
    if climb tk high (ws.getD place.toNat (0, 0)).1 > high then none
    else seatRun ws r (seats.set place.toNat (climb tk high (ws.getD place.toNat (0, 0)).1)) (climb tk high (ws.getD place.toNat (0, 0)).1 :: tk)
def seatsOf (ws : List Wn) : Option (List Int) := seatRun ws (rows ws) (List.replicate ws.length 0) []
/-- the lows of the windows up to high, downwards -/
def lowsOf (ws : List Wn) (high : Int) : List Int := ((ws.filter fun w => decide (w.2 ≤ high)).map (·.1)).mergeSort fun a b => decide (b ≤ a)
def firstLow (high : Int) : List Int → Nat → Option Int
  | [], _ => none
  | low :: r, k => if (k : Int) + 1 > cnt low high then some low else firstLow high r (k + 1)
def greatestLow (ws : List Wn) (high : Int) : Option Int := firstLow high (lowsOf ws high) 0
def inside (ws : List Wn) (low high : Int) : List Int :=
  ((List.range ws.length).filter fun i => decide (low ≤ (ws.getD i (0, 0)).1 ∧ (ws.getD i (0, 0)).2 ≤ high)).map fun (i : Nat) => (i : Int)
def crowdRun (ws : List Wn) : List Int → Option (Int × Int × List Int)
  | [] => none
  | high :: r => match greatestLow ws high with
    | some low => some (low, high, inside ws low high)
    | none => crowdRun ws r
def crowdOf (ws : List Wn) : Option (Int × Int × List Int) := crowdRun ws ((ws.map (·.2)).mergeSort fun a b => decide (a ≤ b))
theorem crowdRun_none {ws : List Wn} : ∀ {l : List Int}, (∀ h ∈ l, greatestLow ws h = none) → crowdRun ws l = none
  | [], _ => rfl
  | h :: l, a => by
    show (match greatestLow ws h with | some low => some (low, h, inside ws low h) | none => crowdRun ws l) = none
    rw [a h (.head _)]
    exact crowdRun_none fun k hk => a k (.tail _ hk)
theorem crowdRun_none' {ws : List Wn} : ∀ {l : List Int}, crowdRun ws l = none → ∀ h ∈ l, greatestLow ws h = none
  | [], _, _, m => nomatch m
  | h :: l, a, k, m => by
    have a : (match greatestLow ws h with | some low => some (low, h, inside ws low h) | none => crowdRun ws l) = none := a
    cases e : greatestLow ws h with
    | some low => rw [e] at a; cases a
    | none =>
      rw [e] at a
      rcases List.mem_cons.mp m with rfl | m
      · exact e
      · exact crowdRun_none' a k m
theorem crowdRun_some {ws : List Wn} : ∀ {l : List Int} {h lo : Int}, l.Pairwise (· ≤ ·) → h ∈ l → greatestLow ws h = some lo → (∀ k ∈ l, k < h → greatestLow ws k = none) → crowdRun ws l = some (lo, h, inside ws lo h)
  | [], _, _, _, m, _, _ => nomatch m
  | x :: l, h, lo, s, m, e, b => by
    show (match greatestLow ws x with | some low => some (low, x, inside ws low x) | none => crowdRun ws l) = _
    obtain ⟨s1, s2⟩ := List.pairwise_cons.mp s
    by_cases hx : x = h
    · rw [hx, e]
    · have m' : h ∈ l := by
        rcases List.mem_cons.mp m with z | z
        · exact absurd z.symm hx
        · exact z
      rw [b x (.head _) (by have := s1 h m'; omega)]
      exact crowdRun_some s2 m' e fun k hk => b k (.tail _ hk)
theorem crowdRun_some' {ws : List Wn} : ∀ {l : List Int} {r : Int × Int × List Int}, l.Pairwise (· ≤ ·) → crowdRun ws l = some r → ∃ h ∈ l, ∃ lo, greatestLow ws h = some lo ∧ r = (lo, h, inside ws lo h) ∧ ∀ k ∈ l, k < h → greatestLow ws k = none
  | [], _, _, e => nomatch e
  | x :: l, r, s, e => by
    have e : (match greatestLow ws x with | some low => some (low, x, inside ws low x) | none => crowdRun ws l) = some r := e
    obtain ⟨s1, s2⟩ := List.pairwise_cons.mp s
    cases g : greatestLow ws x with
    | some low =>
      rw [g] at e
      refine ⟨x, .head _, low, g, (Option.some.inj e).symm, fun k hk lt => ?_⟩
      rcases List.mem_cons.mp hk with rfl | hk
      · omega
      · have := s1 k hk; omega
    | none =>
      rw [g] at e
      obtain ⟨h, m, lo, g2, er, b⟩ := crowdRun_some' s2 e
      refine ⟨h, .tail _ m, lo, g2, er, fun k hk lt => ?_⟩
      rcases List.mem_cons.mp hk with rfl | hk
      · exact g
      · exact b k hk lt
theorem crowdRun_same {ws : List Wn} {l m : List Int} (hl : l.Pairwise (· ≤ ·)) (hm : m.Pairwise (· ≤ ·)) (h : ∀ k, k ∈ l ↔ k ∈ m) : crowdRun ws l = crowdRun ws m := by
  cases e : crowdRun ws m with
  | none => exact crowdRun_none fun k hk => crowdRun_none' e k ((h k).mp hk)
  | some r =>
    obtain ⟨k, hk, lo, g, rfl, b⟩ := crowdRun_some' hm e
    exact crowdRun_some hl ((h k).mpr hk) g fun j hj => b j ((h j).mp hj)
theorem sorted_le (l : List Int) : (l.mergeSort fun a b => decide (a ≤ b)).Pairwise (· ≤ ·) := by
  have := List.pairwise_mergeSort (le := fun a b : Int => decide (a ≤ b)) (fun a b c h1 h2 => by simp at *; omega) (fun a b => by simp; omega) l
  exact this.imp fun h => of_decide_eq_true h
theorem crowd_by {ws : List Wn} {l : List Int} (hl : l.Pairwise (· ≤ ·)) (h : ∀ k, k ∈ l ↔ k ∈ ws.map (·.2)) : crowdRun ws l = crowdOf ws :=
  crowdRun_same hl (sorted_le _) fun k => by rw [h k, List.mem_mergeSort]
theorem lows_by {ws : List Wn} {high : Int} {l : List Int} (p : l.Perm ((ws.filter fun w => decide (w.2 ≤ high)).map (·.1))) (s : l.Pairwise (· ≥ ·)) : l = lowsOf ws high := by
  refine List.Perm.eq_of_pairwise (le := fun a b : Int => a ≥ b) (fun a b _ _ h1 h2 => by omega) s ?_ (p.trans (List.mergeSort_perm _ _).symm)
  have := List.pairwise_mergeSort (le := fun a b : Int => decide (b ≤ a)) (fun a b c h1 h2 => by simp at *; omega) (fun a b => by simp; omega) ((ws.filter fun w => decide (w.2 ≤ high)).map (·.1))
  exact this.imp fun h => of_decide_eq_true h
theorem range_sel {α β : Type} (l : List α) (d : α) (p : α → Bool) (g : α → β) : ((List.range l.length).filter fun i => p (l.getD i d)).map (fun i => g (l.getD i d)) = (l.filter p).map g := by
  have e : (List.range l.length).map (fun i => l.getD i d) = l := by
    apply List.ext_getElem
    · simp
    · intro i h1 h2
      simp [List.getD_eq_getElem?_getD, h2]
  have z : l.filter p = ((List.range l.length).filter (p ∘ fun i => l.getD i d)).map fun i => l.getD i d := by rw [← List.filter_map, e]
  rw [z, List.map_map]
  rfl
/-! the judges -/
def toI (d : PyData) : Int := match d with | .int i => i | _ => 0
def areSeats (ws : List Wn) (d : PyData) : Bool := match d with
  | .list ds => decide (ds.length = ws.length) && (ds.all isNum && ((List.range ws.length).all (fun i => decide ((ws.getD i (0, 0)).1 ≤ toI (ds.getD i .none) ∧ toI (ds.getD i .none) ≤ (ws.getD i (0, 0)).2)) && decide ((ds.map toI).eraseDups.length = ds.length)))
  | _ => false
def isCrowd (ws : List Wn) (lo hi pl : PyData) : Bool := isNum lo && (isNum hi && match pl with
  | .list ps => (ps.all fun p => isNum p && decide (0 ≤ toI p ∧ toI p < (ws.length : Int))) && (((List.range (ps.length - 1)).all fun i => decide (toI (ps.getD i .none) < toI (ps.getD (i + 1) .none))) &&
      ((ps.all fun p => decide (toI lo ≤ (ws.getD (toI p).toNat (0, 0)).1 ∧ (ws.getD (toI p).toNat (0, 0)).2 ≤ toI hi)) && decide ((ps.length : Int) > cnt (toI lo) (toI hi))))
  | _ => false)
def isSeated (ws : List Wn) (d : PyData) : Bool := match d with
  | .tuple [.str z, x] => decide (z = PySem.Str.ofString "seats") && areSeats ws x
  | .tuple [.str z, lo, hi, ps] => decide (z = PySem.Str.ofString "crowd") && isCrowd ws lo hi ps
  | _ => false
end M44
namespace K44
open PySem PySem.Spec PyProof.Rows L2 Hx M44
/-- the windows at a -/
def Wns (K : PySem.W.Frag) (H : Hp) (a : Addr) (ws : List Wn) : Prop := ∃ xs, SqL K H a xs ∧ DpAll K H xs (ws.map encP)
section
variable {K : PySem.W.Frag} {H H' : Hp} {a : Addr} {ws : List Wn}
theorem Wns.keep (h : Wns K H a ws) (e : Ex H H') : Wns K H' a ws := by
  obtain ⟨xs, h1, h2⟩ := h
  exact ⟨xs, Evl.ex_l e h1, ex_dpa e h2⟩
theorem at_nat {xs : List V} {i : Nat} {x : V} (h : xs[i]? = some x) : atI xs ((i : Nat) : Int) = some x := at_of rfl h
theorem Wns.get (h : Wns K H a ws) {i : Nat} (hi : i < ws.length) : ∃ xs r, SqL K H a xs ∧ xs.length = ws.length ∧ xs[i]? = some (.ref r) ∧ SqT K H r [.int (ws.getD i (0, 0)).1, .int (ws.getD i (0, 0)).2] := by
  obtain ⟨xs, h1, h2⟩ := h
  have e : (ws.map encP)[i]? = some (encP (ws.getD i (0, 0))) := by
    rw [List.getElem?_map, List.getD_eq_getElem?_getD, List.getElem?_eq_getElem hi]; rfl
  obtain ⟨v, e1, d⟩ := dpa_get' h2 e
  obtain ⟨r, ys, rfl, ht, hy⟩ := dp_tup d
  cases hy with
  | cons y1 hy => cases hy with
    | cons y2 hy =>
      cases hy; cases y1; cases y2
      exact ⟨xs, r, h1, by have := dpa_len h2; rwa [List.length_map] at this, e1, ht⟩
theorem Wns.len (h : Wns K H a ws) : ∃ xs, SqL K H a xs ∧ xs.length = ws.length := by
  obtain ⟨xs, h1, h2⟩ := h
  exact ⟨xs, h1, by have := dpa_len h2; rwa [List.length_map] at this⟩
/-- windows[i][0], windows[i][1] -/
theorem wix0 (h : Wns K H a ws) {i : Nat} (hi : i < ws.length) {Q : VK} (q : Q (.int (ws.getD i (0, 0)).1) H) : rIxL K (.ref a) (.int (i : Nat)) H fun x H1 => rIxT K x (.int 0) H1 Q := by
  obtain ⟨xs, r, h1, _, h2, h3⟩ := h.get hi
  exact ⟨a, xs, _, _, rfl, rfl, h1, at_nat h2, r, _, 0, _, rfl, rfl, h3, rfl, q⟩
theorem wix1 (h : Wns K H a ws) {i : Nat} (hi : i < ws.length) {Q : VK} (q : Q (.int (ws.getD i (0, 0)).2) H) : rIxL K (.ref a) (.int (i : Nat)) H fun x H1 => rIxT K x (.int 1) H1 Q := by
  obtain ⟨xs, r, h1, _, h2, h3⟩ := h.get hi
  exact ⟨a, xs, _, _, rfl, rfl, h1, at_nat h2, r, _, 1, _, rfl, rfl, h3, rfl, q⟩
theorem paired_dpa {enc : Nat → PyData} {G : Hp} : ∀ {as : List Nat} {ys : List V}, Paired (fun i y => Dp K G y (enc i)) as ys → DpAll K G ys (as.map enc)
  | _, _, .nil => .nil
  | _, _, .cons r t => .cons r (paired_dpa t)
/-- data made in a comprehension -/
theorem sel_dpa {enc : Nat → PyData} {f : Nat → Bool} {n : Nat} {ys : List V} {G : Hp} (h : Sel (fun i y G => Dp K G y (enc i)) f n ys G) : DpAll K G ys (((List.range n).filter f).map enc) := paired_dpa h
theorem sel_dpa1 {enc : Nat → PyData} {n : Nat} {ys : List V} {G : Hp} (h : Sel (fun i y G => Dp K G y (enc i)) (fun _ => true) n ys G) : DpAll K G ys ((List.range n).map enc) := by
  have z := sel_dpa h
  rwa [List.filter_eq_self.mpr fun _ _ => rfl] at z
theorem dp_mono {enc : Nat → PyData} : ∀ (i : Nat) (v : V) (G G' : Hp), Ex G G' → Dp K G v (enc i) → Dp K G' v (enc i) := fun i v G G' e h => ex_dp e _ _ h
theorem turn_range0 {M : Addr → Prop} {G H G' H' H'' : Hp} {j i : Nat} {x : V} {σ0 : L2.St} {Q : L2.St → Hp → Prop} (a : Stp M G H G' H') (y : YFn (fun i => .int (0 + (i : Int))) i H' x H'') (q : ∀ G2 H2, Stp M G' H' G2 H2 → Q (σ0.set j (some (.int (i : Nat)))) H2) : gName j x σ0 H'' Q := by
  obtain ⟨rfl, rfl⟩ := y
  show Q (σ0.set j (some (.int (0 + (i : Int))))) _
  rw [Int.zero_add]
  exact q G' H'' (Stp.refl a.gh)
/-- a comprehension of truth values, nothing is left behind by a turn's value -/
theorem lcB {K : PySem.W.Frag} {H : Hp} {σ : L2.St} {g : TG} {te : TE} {vs : List Nat} {J : It} {n : Nat} {Wg : Hp → Prop} {Y : Nat → Hp → V → Hp → Prop} (W : Walk J n Wg Y) (hWg : ∀ H', Ex H H' → Wg H') (hn : n ≤ 1000000) (b : Nat → Bool) (σt : Nat → L2.St)
    (hg : ∀ i x G' H' H'', i < n → Stp NoM H H G' H' → Y i H' x H'' → ∀ Q : L2.St → Hp → Prop, (∀ G2 H2, Stp NoM G' H' G2 H2 → Q (σt i) H2) → g x (wipe σ vs) H'' Q) (hw : ∀ i, i < n → wipe (σt i) vs = wipe σ vs)
    (he : ∀ i H', i < n → Ex H H' → ∀ Q : VK, (∀ H2, Ex H' H2 → Q (.bl (b i)) H2) → te (σt i) H' Q) {D : Addr} (hD : H D = none) {Qd : Hp → Prop}
    (hd : ∀ H', Ex H H' → SqL K H' D (((List.range n).map b).map V.bl) → Qd H') :
    ∃ W : Nat → Nat → Hp → Prop, (∃ m, W 0 m (upd H D (.lst []))) ∧ ∀ i m H, W i m H →
      (J.stop i H ∧ Qd H) ∨ (J.go i H ∧ ∃ Nx : Hp → Prop, (∀ H', Nx H' → ∃ m', m' < m ∧ W (i + 1) m' H') ∧ ∀ x H', J.yld i H x H' → g x (wipe σ vs) H' fun σ2 H2 => wipe σ2 vs = wipe σ vs ∧ tYes σ2 H2 fun b H3 =>
        if b = true then te σ2 H3 fun y H4 => ∃ acc, H4 D = some (.lst acc) ∧ acc.length < sizeLine ∧ Nx (upd H4 D (.lst (acc ++ [y]))) else Nx H3) := by
  refine lcW (M := NoM) W (Evl.Ex.refl H) hWg hn (fun i y _ => y = .bl (b i)) (fun _ _ _ _ _ h => h) (fun _ => true) σt hg hw (fun i G' H' hi a' Q q => yes_t a'.gh q)
    (fun i G' H' hi _ a' Q q => he i H' hi (a'.gg.trans a'.gh) Q fun H2 e => q _ G' H2 (Stp.of a'.gh e) rfl) (fun _ _ h => h) hD (fun ys G' H' a' gD hl' hsel => ?_)
  refine hd H' (a'.gg.trans a'.gh) ?_
  have gen : ∀ {as : List Nat} {bs : List V}, Paired (fun i y => y = V.bl (b i)) as bs → bs = (as.map b).map V.bl := by
    intro as bs p
    induction p with
    | nil => rfl
    | cons r t ih => rw [List.map_cons, List.map_cons, ← ih, r]
  have z := gen hsel
  rw [List.filter_eq_self.mpr fun _ _ => rfl] at z
  rw [← z]
  exact SqL.of hl'
/-- for x, y in pairs -/
theorem gpair {K : PySem.W.Frag} {H : Hp} {x : V} {p : Int × Int} {i j : Nat} {σ : L2.St} {Q : L2.St → Hp → Prop} (h : Dp K H x (encP p)) (q : Q ((σ.set i (some (.int p.1))).set j (some (.int p.2))) H) : gTup K 2 (gCons (gName i) (gCons (gName j) gNil)) x σ H Q := by
  obtain ⟨r, ys, rfl, ht, hy⟩ := dp_tup h
  cases hy with
  | cons y1 hy => cases hy with
    | cons y2 hy =>
      cases hy; cases y1; cases y2
      exact ⟨r, _, rfl, ht, rfl, _, _, rfl, _, _, rfl, rfl, q⟩
/-- a pair of ints in a fresh tuple -/
theorem dp_pair {p : Addr} {x y : Int} (h : H p = some (.tup [.int x, .int y])) : Dp K H (.ref p) (encP (x, y)) := .tup (SqT.of h) (.cons (.int x) (.cons (.int y) .nil))
end
end K44
namespace K44
open PySem PySem.Spec PyProof.Rows L2 Hx Hd M44
open Evl (pss_cut tCut ex_l ex_t)
/-- data, or the empty dict -/
def Dz (K : PySem.W.Frag) (H : Hp) (v : V) (d : PyData) : Prop := Dp K H v d ∨ ∃ a, v = .ref a ∧ H a = some (.dK []) ∧ d = .dict []
theorem ty_dz {K : PySem.W.Frag} {H : Hp} {v : V} {d : PyData} (h : Dz K H v d) : TyX K H v (.type (tyN d)) := by
  rcases h with h | ⟨a, rfl, h, rfl⟩
  · exact ty_dp h
  · exact .base (.dK h)
theorem sel_flat {v : Nat → V} {f : Nat → Bool} {n : Nat} {ys : List V} {G : Hp} (h : Sel (fun i y _ => y = v i) f n ys G) : ys = ((List.range n).filter f).map v := by
  have gen : ∀ {as : List Nat} {bs : List V}, Paired (fun i y => y = v i) as bs → bs = as.map v := by
    intro as bs p
    induction p with
    | nil => rfl
    | cons r t ih => rw [List.map_cons, ← ih, r]
  exact gen h
theorem sel_flat1 {v : Nat → V} {n : Nat} {ys : List V} {G : Hp} (h : Sel (fun i y _ => y = v i) (fun _ => true) n ys G) : ys = (List.range n).map v := by
  rw [sel_flat h, List.filter_eq_self.mpr fun _ _ => rfl]
theorem range_map {α β : Type} (l : List α) (d : α) (f : α → β) : (List.range l.length).map (fun i => f (l.getD i d)) = l.map f := by
  apply List.ext_getElem
  · simp
  · intro i h1 h2
    have hi : i < l.length := by simpa using h1
    simp [List.getD_eq_getElem?_getD, hi]
theorem getD_of {α : Type} {l : List α} {d x : α} {i : Nat} (h : l[i]? = some x) : l.getD i d = x := by rw [List.getD_eq_getElem?_getD, h]; rfl
section
variable {P : Program} {w : World} {K : PySem.W.Frag} {mg : Str → Option Value} {base : Heap}
/-! is_number -/
def spNum (K : PySem.W.Frag) : Sp := fun vs H Q _ => ∃ x d, vs = [x] ∧ Dp K H x d ∧ Q (.bl (isNum d)) H
abbrev Nis_number : List Str := ["value"]
theorem scis_number : FnScope Nis_number ["value"] (defScope (top 14)) := ⟨rfl, rfl, rfl, by decide +kernel, rfl, by decide +kernel, by decide +kernel⟩
theorem ok_number (T : Txt K mg) : Cal P w K mg base CX0 1 "is_number" ["value"] (spNum K) := by
  refine mkCal T.g_is_number T.d_is_number scis_number (fun _ _ _ _ _ _ us hl => match us, hl with | [_], _ => rfl) (fun vs H Q E h => ?_) fun cdv A outer s H vs Q E hr h => ?_
  · obtain ⟨x, d, rfl, _⟩ := h; rfl
  obtain ⟨x, d, rfl, hd, q⟩ := h
  refine ⟨_, pss_one (ps_ret (pe_and (pe_callB (isiR (K := K)) (by rfl) T.n_isinstance (by decide +kernel) (pa_cons (pv 0) (pa_cons (pe_bltn (v := .ty "int") rfl T.n_int (by decide +kernel) rfl) pa_nil))) (pe_one (pe_not (pe_callB (isiR (K := K)) (by rfl) T.n_isinstance (by decide +kernel) (pa_cons (pv 0) (pa_cons (pe_bltn (v := .ty "bool") rfl T.n_bool (by decide +kernel) rfl) pa_nil))))))), ?_⟩
  refine ⟨_, rfl, x, _, _, _, _, rfl, .ty "int", ty_dp hd, kit_ty (kit_int d), _, rfl, ?_⟩
  refine ite2 (fun h1 => ⟨_, rfl, x, _, _, _, _, rfl, .ty "bool", ty_dp hd, kit_ty (kit_bool d), _, rfl, ?_⟩) fun h1 => ?_
  · have e : (!isT "bool" d) = isNum d := by cases d <;> first | rfl | (exfalso; revert h1; simp [isT])
    show Q (.bl (!isT "bool" d)) H
    rw [e]; exact q
  · have e : isNum d = false := by cases d <;> first | rfl | (exfalso; revert h1; simp [isT])
    show Q (.bl false) H
    rw [e] at q; exact q
/-! is_window -/
def spWin (K : PySem.W.Frag) : Sp := fun vs H Q _ => ∃ x d, vs = [x] ∧ Dp K H x d ∧ Q (.bl (isWin d)) H
abbrev Nis_window : List Str := ["value"]
theorem scis_window : FnScope Nis_window ["value"] (defScope (top 17)) := ⟨rfl, rfl, rfl, by decide +kernel, rfl, by decide +kernel, by decide +kernel⟩
theorem ok_window (T : Txt K mg) (C_is_number : Cal P w K mg base CX0 1 "is_number" ["value"] (spNum K)) : Cal P w K mg base CX0 2 "is_window" ["value"] (spWin K) := by
  refine mkCal T.g_is_window T.d_is_window scis_window (fun _ _ _ _ _ _ us hl => match us, hl with | [_], _ => rfl) (fun vs H Q E h => ?_) fun cdv A outer s H vs Q E hr h => ?_
  · obtain ⟨x, d, rfl, _⟩ := h; rfl
  obtain ⟨x, d, rfl, hd, q⟩ := h
  refine ⟨_, (pss_one (ps_ret (pe_and (pe_callB (isiR (K := K)) (by rfl) T.n_isinstance (by decide +kernel) (pa_cons (pv 0) (pa_cons (pe_bltn (v := .ty "tuple") rfl T.n_tuple (by decide +kernel) rfl) pa_nil))) (pe_and (pe_cmpR op_eq (pe_callB (lenL (K := K)) (by rfl) T.n_len PySem.boot_len (pa_cons (pv 0) pa_nil)) pe_int (nomark _)) (pe_and (pe_cal (E := E0) C_is_number (hr.mono (by decide)) pass0 (pa_cons (pe_ix (ixT (K := K)) (pv 0) pe_int (fun _ _ => rfl)) pa_nil)) (pe_one (pe_cal (E := E0) C_is_number (hr.mono (by decide)) pass0 (pa_cons (pe_ix (ixT (K := K)) (pv 0) pe_int (fun _ _ => rfl)) pa_nil)))))))), ?_⟩
  refine ⟨_, rfl, x, _, _, _, _, rfl, .ty "tuple", ty_dp hd, kit_ty (kit_tup d), _, rfl, ?_⟩
  refine ite2 (fun h1 => ?_) fun h1 => ?_
  · obtain ⟨ds, rfl⟩ : ∃ ds, d = .tuple ds := by cases d <;> first | exact ⟨_, rfl⟩ | (exfalso; revert h1; simp [isT])
    obtain ⟨a, xs, rfl, hs, ha⟩ := dp_tup hd
    have hl := dpa_len ha
    refine ⟨_, rfl, a, xs, rfl, .inr hs, rfl, _, rfl, ?_⟩
    refine ite2 (fun h2 => ?_) fun h2 => ?_
    · have h2' : xs.length = 2 := by have := of_decide_eq_true h2; injection this with this; omega
      obtain ⟨d1, d2, rfl⟩ : ∃ d1 d2, ds = [d1, d2] := by
        match ds, (show ds.length = 2 by omega) with
        | [d1, d2], _ => exact ⟨d1, d2, rfl⟩
      cases ha with
      | cons g1 ha => cases ha with
        | cons g2 ha =>
          cases ha
          refine ⟨_, rfl, a, _, 0, _, rfl, rfl, hs, rfl, _, d1, rfl, g1, _, rfl, ?_⟩
          refine ite2 (fun h3 => ⟨_, rfl, a, _, 1, _, rfl, rfl, hs, rfl, _, d2, rfl, g2, ?_⟩) fun h3 => ?_
          · have e : isWin (.tuple [d1, d2]) = isNum d2 := by show (isNum d1 && isNum d2) = _; rw [h3]; rfl
            rw [e] at q; exact q
          · have e : isWin (.tuple [d1, d2]) = false := by show (isNum d1 && isNum d2) = _; rw [Bool.not_eq_true] at h3; rw [h3]; rfl
            rw [e] at q; exact q
    · have h2' : ¬ xs.length = 2 := fun z => h2 (decide_eq_true (by rw [z]; rfl))
      have e : isWin (.tuple ds) = false := by
        match ds, hl with
        | [], _ => rfl
        | [_], _ => rfl
        | [_, _], hl => exact absurd hl h2'
        | _ :: _ :: _ :: _, _ => rfl
      rw [e] at q; exact q
  · have e : isWin d = false := by cases d <;> first | rfl | (exfalso; revert h1; simp [isT])
    rw [e] at q; exact q
/-! numbers_in -/
def spCnt : Sp := fun vs H Q _ => ∃ lo hi, vs = [.int lo, .int hi] ∧ Q (.int (cnt lo hi)) H
abbrev Nnumbers_in : List Str := ["low", "high"]
theorem scnumbers_in : FnScope Nnumbers_in ["low", "high"] (defScope (top 19)) := ⟨rfl, rfl, rfl, by decide +kernel, rfl, by decide +kernel, by decide +kernel⟩
theorem ok_cnt (T : Txt K mg) : Cal P w K mg base CX0 1 "numbers_in" ["low", "high"] spCnt := by
  refine mkCal T.g_numbers_in T.d_numbers_in scnumbers_in (fun _ _ _ _ _ _ us hl => match us, hl with | [_, _], _ => rfl) (fun vs H Q E h => ?_) fun cdv A outer s H vs Q E hr h => ?_
  · obtain ⟨x, d, rfl, _⟩ := h; rfl
  obtain ⟨lo, hi, rfl, q⟩ := h
  refine ⟨_, (pss_one (ps_ret (pe_callB (call_max2 rfl) (by rfl) T.n_max (by decide +kernel) (pa_cons pe_int (pa_cons (pe_op op_add (pe_op op_sub (pv 1) (pv 0)) pe_int) pa_nil))))), ?_⟩
  exact ⟨_, rfl, _, rfl, hi, lo, rfl, rfl, _, 1, rfl, rfl, 0, _, rfl, q⟩
/-! the errors' __init__ -/
def spIni (C : Addr) (f : Str) : Sp := fun vs H Q _ => ∃ a y, vs = [.ref a, y] ∧ H a = some (exo a C none) ∧ ∀ dx, H dx = none → dx ≠ a → Q .non (upd (upd H dx (exd dx [(f, y)])) a (exo a C (some dx)))
theorem scBV : FnScope ["self", "name"] ["self", "name"] (defScope (inClass (top 7) 0)) := ⟨rfl, rfl, rfl, by decide +kernel, rfl, by decide +kernel, by decide +kernel⟩
theorem scTM : FnScope ["self", "word"] ["self", "word"] (defScope (inClass (top 9) 0)) := ⟨rfl, rfl, rfl, by decide +kernel, rfl, by decide +kernel, by decide +kernel⟩
theorem ok_iniBV (T : Txt K mg) : ∃ fd, FnOk P w K mg base CX0 1 (He.ma K (He.ga K "BadValue") "__init__") fd ["self", "name"] (spIni (He.ga K "BadValue") "name") ∧ Binds K fd ["self", "name"] [] := by
  obtain ⟨fd, F⟩ := T.i_BadValue
  refine ⟨fd, F.ok scBV (fun vs H Q E h => ?_) (fun cdv A outer s H vs Q E hr h => ?_), F.bindsN fun _ _ _ _ _ _ us hl => match us, hl with | [_, _], _ => rfl⟩
  · obtain ⟨x, d, rfl, _⟩ := h; rfl
  obtain ⟨a, y, rfl, ha, q⟩ := h
  refine ⟨_, pss_one (ps_ost (pv 0) (pv 1)), ?_⟩
  exact ⟨_, rfl, _, rfl, a, _, rfl, T.x_BadValue.oex, T.x_BadValue.noF.1, .inl ⟨ha, fun dx h1 h2 => q dx h1 h2⟩⟩
theorem ok_iniTM (T : Txt K mg) : ∃ fd, FnOk P w K mg base CX0 1 (He.ma K (He.ga K "TooMany") "__init__") fd ["self", "word"] (spIni (He.ga K "TooMany") "word") ∧ Binds K fd ["self", "word"] [] := by
  obtain ⟨fd, F⟩ := T.i_TooMany
  refine ⟨fd, F.ok scTM (fun vs H Q E h => ?_) (fun cdv A outer s H vs Q E hr h => ?_), F.bindsN fun _ _ _ _ _ _ us hl => match us, hl with | [_, _], _ => rfl⟩
  · obtain ⟨x, d, rfl, _⟩ := h; rfl
  obtain ⟨a, y, rfl, ha, q⟩ := h
  refine ⟨_, pss_one (ps_ost (pv 0) (pv 1)), ?_⟩
  exact ⟨_, rfl, _, rfl, a, _, rfl, T.x_TooMany.oex, T.x_TooMany.noF.2, .inl ⟨ha, fun dx h1 h2 => q dx h1 h2⟩⟩
/-! check_windows -/
/-- how an error of a class with one field is told -/
def Err (C : Addr) (f : Str) (z : Str) (H : Hp) (E : XK) : Prop := ∀ d H2, Ex H H2 → H d = none → H2 d = some (.xd [(f, .str z)]) → E (.ref C) (some d) H2
def spChk (K : PySem.W.Frag) : Sp := fun vs H Q E => ∃ x d, vs = [x] ∧ Dz K H x d ∧ (∀ ds, d = .list ds → ds.length ≤ 100000) ∧ (isWins d = true → ∀ H2, Ex H H2 → Q .non H2) ∧ (isWins d = false → Err (He.ga K "BadValue") "name" "windows" H E)
abbrev Ncheck_windows : List Str := ["windows", "item"]
theorem sccheck_windows : FnScope Ncheck_windows ["windows"] (defScope (top 18)) := ⟨rfl, rfl, rfl, by decide +kernel, rfl, by decide +kernel, by decide +kernel⟩
theorem ok_check (T : Txt K mg) (C_is_window : Cal P w K mg base CX0 2 "is_window" ["value"] (spWin K)) : Cal P w K mg base (L2.CX P w) 3 "check_windows" ["windows"] (spChk K) := by
  obtain ⟨fdB, FB, bB⟩ := ok_iniBV (P := P) (w := w) (base := base) T
  refine mkCalX T.g_check_windows T.d_check_windows sccheck_windows (fun _ _ _ _ _ _ us hl => match us, hl with | [_], _ => rfl) (fun vs H Q E h => ?_) fun cdv A outer s H vs Q E hr h => ?_
  · obtain ⟨x, d, rfl, _⟩ := h; rfl
  obtain ⟨x, d, rfl, hd, hz, q1, q2⟩ := h
  refine ⟨_, (pss_one (ps_if (PT.nox (PW.pt (pw_or (pt_not (pt_val (pe_callB (isiR (K := K)) (by rfl) T.n_isinstance (by decide +kernel) (pa_cons (pv 0) (pa_cons (pe_bltn (v := .ty "list") rfl T.n_list (by decide +kernel) rfl) pa_nil))))) (pw_or1 (pt_not (pt_val (pe_callB (allR (K := K) rfl) (by rfl) T.n_all (by decide +kernel) (pa_cons (pe_lc (own := [("item", 1)]) (g := gName 1) rfl sccheck_windows.nd (piL (K := K) (pv 0)) (blkOk_by (N := Ncheck_windows) (sc := defScope (top 18)) (by decide +kernel)) (fun _ _ _ _ _ => (pg_name (i := 1) sccheck_windows.nd rfl (Or.inl rfl))) (fun _ _ _ _ _ => pts_nil) (fun _ _ _ _ _ => (pe_cal (E := E0) C_is_window (hr.mono (by decide)) pass0 (pa_cons (pv 1) pa_nil)))) pa_nil))))))))
    (pss_one (ps_raise rfl (takes_of rfl rfl rfl rfl) (pmk_oex T.x_BadValue.oex T.x_BadValue.ini T.x_BadValue.tyI FB (hr.mono (by decide)) bB .nil pass0 rfl T.g_BadValue (pa_cons pe_str pa_nil)))) pss_nil)), ?_⟩
  have raise_ : ∀ (H1 : Hp), Ex H H1 → isWins d = false → ∀ a, H1 a = none → spIni (He.ga K "BadValue") "name" (.ref a :: ([V.str "windows"] ++ [])) (upd H1 a (exo a (He.ga K "BadValue") none))
      (fun v H2 => v = .non ∧ ∃ (d : Addr) (fs : List (Str × V)), H2 a = some (exo a (He.ga K "BadValue") (some d)) ∧ H2 d = some (exd d fs) ∧ H1 d = none ∧ E (.ref (He.ga K "BadValue")) (some d) (upd (L2.del H2 a) d (.xd fs))) (fun _ _ _ => False) := by
    intro H1 e hf a ha
    refine ⟨a, _, rfl, upd_same, fun dx hx hne => ⟨rfl, dx, _, upd_same, by rw [upd_ne hne, upd_same], ?_, q2 hf dx _ ?_ ?_ upd_same⟩⟩
    · rw [upd_ne hne] at hx; exact hx
    · intro b o hb
      have hb1 := e b o hb
      have n1 : b ≠ a := ne_of_none hb1 ha
      have n2 : b ≠ dx := ne_of_none hb1 (by rw [upd_ne hne] at hx; exact hx)
      rw [upd_ne n2, L2.del_ne n1, upd_ne n1, upd_ne n2, upd_ne n1]
      exact hb1
    · rw [upd_ne hne] at hx
      exact Evl.fresh_back e hx
  refine ⟨_, rfl, x, _, _, _, _, rfl, .ty "list", ty_dz hd, kit_ty (kit_list d), _, rfl, ?_⟩
  cases hT : isT "list" d with
  | false =>
    have hw : isWins d = false := by cases d <;> first | rfl | (exfalso; revert hT; simp [isT])
    exact ⟨by decide, fun a ha => raise_ H (Evl.Ex.refl H) hw a ha⟩
  | true =>
    obtain ⟨ds, rfl⟩ : ∃ ds, d = .list ds := by cases d <;> first | exact ⟨_, rfl⟩ | (exfalso; revert hT; simp [isT])
    have hd' : Dp K H x (.list ds) := by
      rcases hd with hd | ⟨_, _, _, e⟩
      · exact hd
      · cases e
    obtain ⟨a, xs, rfl, hs, ha⟩ := dp_list hd'
    have hl := dpa_len ha
    have hz' := hz ds rfl
    refine ⟨_, rfl, a, rfl, ⟨xs, hs⟩, fun D hD => ?_⟩
    refine lcW (M := NoM) walk_list (Evl.Ex.refl H) (fun H' e => ex_l e hs) (by omega) (fun i y _ => y = .bl (isWin (ds.getD i .none))) (fun _ _ _ _ _ h => h) (fun _ => true) (fun i => [some (.ref a), some (xs.getD i .non)])
      (fun i y G' H' H'' hi a' yy Q q => turn_name (σ0 := [some (.ref a), none]) (j := 1) a' yy (by rw [List.getD_eq_getElem?_getD]; simp [hi]) q) (fun _ _ => rfl) (fun i G' H' hi a' Q q => yes_t a'.gh q) (fun i G' H' hi _ a' Q q => ?_) (fun _ _ h => h) hD (fun ys G' H' a' gD hl' hsel => ?_)
    · obtain ⟨d1, e1, g1⟩ := dpa_get ha (i := i) (v := xs.getD i .non) (by rw [List.getD_eq_getElem?_getD]; simp [hi])
      refine ⟨_, rfl, _, d1, rfl, ex_dp (a'.gg.trans a'.gh) _ _ g1, q _ _ _ (Stp.refl a'.gh) ?_⟩
      rw [getD_of e1]
    · have ey : ys = (ds.map isWin).map V.bl := by
        rw [sel_flat1 hsel, hl, ← range_map ds .none isWin, List.map_map]
        rfl
      subst ey
      refine ⟨D, ds.map isWin, rfl, SqL.of hl', _, rfl, ?_⟩
      have ew : (ds.map isWin).all id = isWins (.list ds) := by rw [List.all_map]; rfl
      rw [ew]
      cases hw : isWins (.list ds) with
      | true => exact q1 hw H' (a'.gg.trans a'.gh)
      | false => exact ⟨by decide, fun b hb => raise_ H' (a'.gg.trans a'.gh) hw b hb⟩
end
end K44
namespace K44
open PySem PySem.Spec PyProof.Rows L2 Hx Hd
open Evl (pss_cut tCut ex_l ex_t)
/-- the stream at s: the script's list, the cell, the place -/
structure Strm (H : Hp) (s L : Addr) : Prop where
  ex : ∃ (ns : List Int) (c k : Int), H s = some (.lst [.ref L, .int c, .int k]) ∧ H L = some (.lst (ns.map V.int)) ∧ L ≠ s ∧ 0 ≤ c ∧ 0 ≤ k ∧ ns.length ≤ 63
/-- all but s as it was -/
abbrev Kp (s : Addr) (H H' : Hp) : Prop := ∀ a o, a ≠ s → H a = some o → H' a = some o
theorem Kp.refl (s : Addr) (H : Hp) : Kp s H H := fun _ _ _ h => h
theorem Kp.trans {s : Addr} {H H1 H2 : Hp} (a : Kp s H H1) (b : Kp s H1 H2) : Kp s H H2 := fun x o n h => b x o n (a x o n h)
theorem Kp.upd {s : Addr} {H H1 : Hp} {o : HO} (a : Kp s H H1) : Kp s H (upd H1 s o) := fun x u n h => by rw [upd_ne n]; exact a x u n h
def spNext : Sp := fun vs H Q _ => ∃ s L m, vs = [.ref s, .int m] ∧ Strm H s L ∧ 1 ≤ m ∧ m < 1073741824 ∧ ∀ d H2, 0 ≤ d → d < m → Kp s H H2 → Strm H2 s L → Q (.int d) H2
theorem big1 : CMulW ((10 : Int) ^ (64 : Int).toNat) ((10 : Int) ^ (64 : Int).toNat) := wide_mul (a := 300) (b := 300) (by decide +kernel) (by decide +kernel) (by decide) (by decide) (by decide)
theorem big2 : CMulW ((10 : Int) ^ (64 : Int).toNat * (10 : Int) ^ (64 : Int).toNat) ((10 : Int) ^ (64 : Int).toNat) := wide_mul (a := 600) (b := 300) (by decide +kernel) (by decide +kernel) (by decide) (by decide) (by decide)
theorem big3 : (10 : Int) ^ (64 : Int).toNat * (10 : Int) ^ (64 : Int).toNat * (10 : Int) ^ (64 : Int).toNat > 0 := by decide +kernel
section
variable {P : Program} {w : World} {K : PySem.W.Frag} {mg : Str → Option Value} {base : Heap}
abbrev N_law_next : List Str := ["stream", "many", "k", "cell", "digit"]
theorem sc_law_next : FnScope N_law_next ["stream", "many"] (defScope (top 29)) := ⟨rfl, rfl, rfl, by decide +kernel, rfl, by decide +kernel, by decide +kernel⟩
theorem ok_next (T : Txt K mg) : Cal P w K mg base CX0 1 "_law_next" ["stream", "many"] spNext := by
  refine mkCal T.g__law_next T.d__law_next sc_law_next (fun _ _ _ _ _ _ us hl => match us, hl with | [_, _], _ => rfl) (fun vs H Q E h => ?_) fun cdv A outer s0 H vs Q E hr h => ?_
  · obtain ⟨x, _, d, rfl, _⟩ := h; rfl
  obtain ⟨s, L, m, rfl, st, m1, m2, q⟩ := h
  obtain ⟨ns, c, k, hs, hL, hne, c0, k0, hn⟩ := st.ex
  refine ⟨_, (pss_cut (ps_if (pt_cmpR op_eq (pe_ix (ixL (K := K)) (pv 0) pe_int (fun _ _ => rfl)) pe_int (nomark _)) (pss_cons (ps_set (i := 2) sc_law_next.nd rfl (Or.inl rfl) (pe_ix (ixL (K := K)) (pv 0) pe_int (fun _ _ => rfl)))
      (pss_cons (ps_set (i := 3) sc_law_next.nd rfl (Or.inl rfl) (pe_op op_add pe_int (pv 2)))
      (pss_cut (ps_if (pt_cmpR op_lt (pv 2) (pe_callB (lenL (K := K)) (by rfl) T.n_len PySem.boot_len (pa_cons (pe_ix (ixL (K := K)) (pv 0) pe_int (fun _ _ => rfl)) pa_nil)) (nomark _)) (pss_one (ps_set (i := 3) sc_law_next.nd rfl (Or.inl rfl) (pe_op op_mod (pe_callTy call_int1 (by rfl) T.n_int (by decide +kernel) (pa_cons (pe_callB call_abs (by rfl) T.n_abs (by decide +kernel) (pa_cons (pe_ix (ixL (K := K)) (pe_ix (ixL (K := K)) (pv 0) pe_int (fun _ _ => rfl)) (pv 2) (fun _ _ => rfl)) pa_nil)) pa_nil)) (pe_op op_mulW (pe_op op_mulW (pe_op op_pow pe_int pe_int) (pe_op op_pow pe_int pe_int)) (pe_op op_pow pe_int pe_int))))) pss_nil)
      (pss_cut (ps_if (pt_cmpR op_lt (pv 3) (pe_op op_pow pe_int pe_int) (nomark _)) (pss_cons (ps_set (i := 3) sc_law_next.nd rfl (Or.inl rfl) (pe_op op_mod (pe_callTy call_int1 (by rfl) T.n_int (by decide +kernel) (pa_cons (pe_op op_add (pe_op op_add (pe_op op_mul (pv 3) pe_int) (pe_op op_mul (pv 2) pe_int)) pe_int) pa_nil)) pe_int))
      (pss_one (ps_set (i := 3) sc_law_next.nd rfl (Or.inl rfl) (pe_op op_add (pe_op op_mul (pe_op op_mod (pe_callTy call_int1 (by rfl) T.n_int (by decide +kernel) (pa_cons (pe_op op_add (pe_op op_mul (pv 3) pe_int) pe_int) pa_nil)) pe_int) pe_int) (pv 3))))) pss_nil)
      (pss_cons (ps_asg (pv 3) (pg_sub (pv 0) pe_int set_list))
      (pss_one (ps_asg (pe_op op_add (pv 2) pe_int) (pg_sub (pv 0) pe_int set_list)))))))) pss_nil)
      (pss_cons (ps_set (i := 4) sc_law_next.nd rfl (Or.inl rfl) (pe_op op_mod (pe_callTy call_int1 (by rfl) T.n_int (by decide +kernel) (pa_cons (pe_ix (ixL (K := K)) (pv 0) pe_int (fun _ _ => rfl)) pa_nil)) (pv 1)))
      (pss_cons (ps_asg (pe_op op_fdiv (pe_ix (ixL (K := K)) (pv 0) pe_int (fun _ _ => rfl)) (pv 1)) (pg_sub (pv 0) pe_int set_list))
      (pss_one (ps_ret (pv 4)))))), ?_⟩
  refine ⟨fun σ' H' => ∃ kv cv c' k', σ' = [some (.ref s), some (.int m), kv, cv, none] ∧ 0 ≤ c' ∧ 0 ≤ k' ∧ H' s = some (.lst [.ref L, .int c', .int k']) ∧ Kp s H H', ?_, ?_⟩
  · -- the cell
    refine ⟨_, rfl, s, _, 1, _, rfl, rfl, SqL.of hs, rfl, rfl, _, rfl, ?_⟩
    refine ite2 (fun _ => ?_) (fun _ => ⟨none, none, c, k, rfl, c0, k0, hs, Kp.refl s H⟩)
    refine ⟨_, rfl, s, _, 2, _, rfl, rfl, SqL.of hs, rfl, ?_⟩
    refine ⟨_, rfl, 7, k, rfl, rfl, ?_⟩
    refine ⟨fun σ' H' => ∃ cv, σ' = [some (.ref s), some (.int m), some (.int k), some (.int cv), none] ∧ 0 ≤ cv ∧ H = H', ?_, ?_⟩
    · refine ⟨_, rfl, _, rfl, s, _, 0, _, rfl, rfl, SqL.of hs, rfl, L, _, rfl, .inl (SqL.of hL), k, _, rfl, rfl, _, rfl, ?_⟩
      refine ite2 (fun hk => ?_) (fun _ => ⟨7 + k, rfl, by omega, rfl⟩)
      have hk' : k.toNat < ns.length := by have := of_decide_eq_true hk; rw [List.length_map] at this; omega
      refine ⟨_, rfl, s, _, 0, _, rfl, rfl, SqL.of hs, rfl, _, rfl, L, _, k, .int (ns[k.toNat]'hk'), rfl, rfl, SqL.of hL, at_of (show k = ((k.toNat : Nat) : Int) by omega) (by simp [hk']), ns[k.toNat]'hk', rfl, .inl ⟨_, rfl, ?_⟩⟩
      refine ⟨10, 64, rfl, rfl, ⟨by decide, by decide, by decide⟩, 10, 64, rfl, rfl, ⟨by decide, by decide, by decide⟩, _, _, rfl, rfl, big1, 10, 64, rfl, rfl, ⟨by decide, by decide, by decide⟩, _, _, rfl, rfl, big2, _, _, rfl, rfl, big3, ?_⟩
      exact ⟨_, rfl, Int.emod_nonneg _ (by have := big3; omega), rfl⟩
    · rintro σ' H' ⟨cv, rfl, cv0, rfl⟩
      refine ⟨fun σ' H' => ∃ cv, σ' = [some (.ref s), some (.int m), some (.int k), some (.int cv), none] ∧ 0 ≤ cv ∧ H = H', ?_, ?_⟩
      · refine ⟨_, rfl, 10, 18, rfl, rfl, ⟨by decide, by decide, by decide⟩, cv, _, rfl, rfl, _, rfl, ?_⟩
        refine ite2 (fun hc => ?_) (fun _ => ⟨cv, rfl, cv0, rfl⟩)
        refine ⟨_, rfl, cv, 48271, rfl, rfl, .inr (by decide), _, rfl, k, 69621, rfl, rfl, .inr (by decide), _, _, rfl, rfl, _, 11, rfl, rfl, .inl ⟨_, rfl, _, 2147483647, rfl, rfl, (show (0 : Int) < 2147483647 by decide), ?_⟩⟩
        refine ⟨_, rfl, _, 16807, rfl, rfl, .inr (by decide), _, 13, rfl, rfl, .inl ⟨_, rfl, _, 2147483647, rfl, rfl, (show (0 : Int) < 2147483647 by decide), _, 65537, rfl, rfl, .inr (by decide), _, rfl, _, _, rfl, rfl, ?_⟩⟩
        refine ⟨_, rfl, ?_, rfl⟩
        have e1 := Int.emod_nonneg ((cv * 48271 + k * 69621 + 11) % 2147483647 * 16807 + 13) (show (2147483647 : Int) ≠ 0 by decide)
        have e2 := Int.emod_nonneg (cv * 48271 + k * 69621 + 11) (show (2147483647 : Int) ≠ 0 by decide)
        show 0 ≤ ((cv * 48271 + k * 69621 + 11) % 2147483647 * 16807 + 13) % 2147483647 * 65537 + (cv * 48271 + k * 69621 + 11) % 2147483647
        omega
      · rintro σ' H' ⟨cv, rfl, cv0, rfl⟩
        refine ⟨_, rfl, _, rfl, s, _, 1, 1, rfl, rfl, hs, rfl, ?_⟩
        refine ⟨_, rfl, k, 1, rfl, rfl, _, rfl, s, _, 2, 2, rfl, rfl, upd_same, rfl, ?_⟩
        exact ⟨_, _, cv, k + 1, rfl, cv0, by omega, upd_same, (Kp.upd (Kp.upd (Kp.refl s _)))⟩
  · rintro σ' H' ⟨kv, cv, c', k', rfl, c0', k0', hs', kp⟩
    refine ⟨_, rfl, s, _, 1, _, rfl, rfl, SqL.of hs', rfl, .inl ⟨_, rfl, _, rfl, _, m, rfl, rfl, by omega, ?_⟩⟩
    refine ⟨_, rfl, s, _, 1, _, rfl, rfl, SqL.of hs', rfl, _, rfl, _, m, rfl, rfl, ⟨by omega, m2⟩, _, rfl, s, _, 1, 1, rfl, rfl, hs', rfl, ?_⟩
    refine ⟨_, rfl, q _ _ (Int.emod_nonneg _ (by omega)) (Int.emod_lt_of_pos _ (by omega)) (Kp.upd kp) ⟨ns, c' / m, k', upd_same, ?_, hne, Int.ediv_nonneg c0' (by omega), k0', hn⟩⟩
    rw [upd_ne hne]
    exact kp L _ hne hL
end
end K44
namespace K44
open PySem PySem.Spec PyProof.Rows L2 Hx Hd
open Evl (pss_cut tCut ex_l ex_t)
theorem kp_seqL {K : PySem.W.Frag} {s r : Addr} {H H' : Hp} {xs : List V} (k : Kp s H H') (hn : r ≠ s) (h : SqL K H r xs) : SqL K H' r xs := by
  rcases h with (h | ⟨o, h⟩) | h
  · exact .inl (.inl (k _ _ hn h))
  · exact .inl (.inr ⟨o, k _ _ hn h⟩)
  · exact .inr h
theorem kp_seqT {K : PySem.W.Frag} {s r : Addr} {H H' : Hp} {xs : List V} (k : Kp s H H') (hn : r ≠ s) (h : SqT K H r xs) : SqT K H' r xs := by
  rcases h with (h | ⟨o, h⟩) | h
  · exact .inl (.inl (k _ _ hn h))
  · exact .inl (.inr ⟨o, k _ _ hn h⟩)
  · exact .inr h
theorem Strm.there {H : Hp} {s L : Addr} (h : Strm H s L) : ∃ o, H s = some o := by
  obtain ⟨ns, c, k, h, _⟩ := h.ex
  exact ⟨_, h⟩
theorem Strm.thereL {H : Hp} {s L : Addr} (h : Strm H s L) : ∃ o, H L = some o := by
  obtain ⟨ns, c, k, _, h, _⟩ := h.ex
  exact ⟨_, h⟩
theorem Strm.keep {H H' : Hp} {s L : Addr} (h : Strm H s L) (e : Ex H H') : Strm H' s L := by
  obtain ⟨ns, c, k, h1, h2, h3⟩ := h.ex
  exact ⟨ns, c, k, e _ _ h1, e _ _ h2, h3⟩
/-- what was not there at the start changes -/
theorem Strm.mut {H H' : Hp} {s L p : Addr} {o : HO} (h : Strm H' s L) (h0 : Strm H s L) (hp : H p = Option.none) : Strm (L2.upd H' p o) s L := by
  obtain ⟨ns, c, k, h1, h2, h3⟩ := h.ex
  obtain ⟨o1, e1⟩ := h0.there
  obtain ⟨o2, e2⟩ := h0.thereL
  exact ⟨ns, c, k, by rw [upd_ne (ne_of_none e1 hp)]; exact h1, by rw [upd_ne (ne_of_none e2 hp)]; exact h2, h3⟩
theorem Kp.none {s p : Addr} {H H' : Hp} (k : Kp s H H') (hs : ∃ o, H' s = some o) (h : H' p = Option.none) : H p = Option.none := by
  cases e : H p with
  | none => rfl
  | some o =>
    by_cases hp : p = s
    · obtain ⟨u, hu⟩ := hs
      rw [hp, hu] at h; cases h
    · rw [k p o hp e] at h; cases h
theorem Kp.new {s p : Addr} {H : Hp} {o : HO} (h : H p = Option.none) : Kp s H (L2.upd H p o) := fun x u _ q => by rw [upd_ne (ne_of_none q h)]; exact q
/-- what is new since H changes -/
theorem Kp.mut {s p : Addr} {H H' : Hp} {o : HO} (k : Kp s H H') (h : H p = Option.none) : Kp s H (L2.upd H' p o) := fun x u n q => by rw [upd_ne (ne_of_none q h)]; exact k x u n q
/-- a step of G beside it -/
theorem stp_kp {s : Addr} {G H H' : Hp} (e : Ex G H) (g : G s = Option.none) (k : Kp s H H') (hs : ∃ o, H' s = some o) : Stp (· = s) G H G H' :=
  ⟨fun a o n h => k a o n h, fun a h => k.none hs h, Evl.Ex.refl _, fun a o h => k a o (fun z => by rw [z, g] at h; cases h) (e a o h), fun _ _ h => h⟩
section
variable {P : Program} {w : World} {K : PySem.W.Frag} {mg : Str → Option Value} {base : Heap}
def spStream (K : PySem.W.Frag) : Sp := fun vs H Q _ => ∃ (a : Addr) (ns : List Int), vs = [.ref a] ∧ SqL K H a (ns.map V.int) ∧ ns.length ≤ 63 ∧ ∀ s L H2, H s = none → H L = none → Ex H H2 → Strm H2 s L → Q (.ref s) H2
abbrev N_law_stream : List Str := ["script"]
theorem sc_law_stream : FnScope N_law_stream ["script"] (defScope (top 28)) := ⟨rfl, rfl, rfl, by decide +kernel, rfl, by decide +kernel, by decide +kernel⟩
theorem ok_stream (T : Txt K mg) : Cal P w K mg base CX0 1 "_law_stream" ["script"] (spStream K) := by
  refine mkCal T.g__law_stream T.d__law_stream sc_law_stream (fun _ _ _ _ _ _ us hl => match us, hl with | [_], _ => rfl) (fun vs H Q E h => ?_) fun cdv A outer s0 H vs Q E hr h => ?_
  · obtain ⟨x, d, rfl, _⟩ := h; rfl
  obtain ⟨a, ns, rfl, hs, hn, q⟩ := h
  refine ⟨_, (pss_one (ps_ret (pe_lst (pa_cons (pe_callTy (listOf (K := K)) (by rfl) T.n_list (by decide +kernel) (pa_cons (pv 0) pa_nil)) (pa_cons pe_int (pa_cons pe_int pa_nil)))))), ?_⟩
  refine ⟨_, rfl, a, _, rfl, .inl hs, fun L hL => ⟨by show 3 ≤ sizeLine; decide, fun s h2 => ?_⟩⟩
  have hne : L ≠ s := ne_of_none upd_same h2
  have hs0 : H s = none := by rw [upd_ne (Ne.symm hne)] at h2; exact h2
  exact q s L _ hs0 hL ((Evl.Ex.new hL).trans (Evl.Ex.new h2)) ⟨ns, 0, 0, upd_same, by rw [upd_ne hne]; exact upd_same, hne, by decide, by decide, hn⟩
def spPick (K : PySem.W.Frag) : Sp := fun vs H Q _ => ∃ s L r xs, vs = [.ref s, .ref r] ∧ Strm H s L ∧ (SqL K H r xs ∨ SqT K H r xs) ∧ r ≠ s ∧ 1 ≤ xs.length ∧ xs.length < 1073741824 ∧ ∀ (i : Nat) x H2, xs[i]? = some x → Kp s H H2 → Strm H2 s L → Q x H2
abbrev N_law_pick : List Str := ["stream", "rows"]
theorem sc_law_pick : FnScope N_law_pick ["stream", "rows"] (defScope (top 30)) := ⟨rfl, rfl, rfl, by decide +kernel, rfl, by decide +kernel, by decide +kernel⟩
theorem ok_pick (T : Txt K mg) (C__law_next : Cal P w K mg base CX0 1 "_law_next" ["stream", "many"] spNext) : Cal P w K mg base CX0 2 "_law_pick" ["stream", "rows"] (spPick K) := by
  refine mkCal T.g__law_pick T.d__law_pick sc_law_pick (fun _ _ _ _ _ _ us hl => match us, hl with | [_, _], _ => rfl) (fun vs H Q E h => ?_) fun cdv A outer s0 H vs Q E hr h => ?_
  · obtain ⟨x, _, d, _, rfl, _⟩ := h; rfl
  obtain ⟨s, L, r, xs, rfl, st, hx, hne, h1, h2, q⟩ := h
  refine ⟨_, (pss_one (ps_ret (pe_ix (ixS (K := K)) (pv 1) (pe_cal (E := E0) C__law_next (hr.mono (by decide)) pass0 (pa_cons (pv 0) (pa_cons (pe_callB (lenL (K := K)) (by rfl) T.n_len PySem.boot_len (pa_cons (pv 1) pa_nil)) pa_nil))) (fun _ _ => rfl)))), ?_⟩
  refine ⟨_, rfl, _, rfl, _, rfl, r, xs, rfl, hx, s, L, _, rfl, st, by omega, by omega, fun d H2 d0 d1 kp st2 => ?_⟩
  have hd : d.toNat < xs.length := by omega
  have ha : atI xs d = some xs[d.toNat] := at_of (show d = ((d.toNat : Nat) : Int) by omega) (by simp [hd])
  rcases hx with hx | hx
  · exact .inl ⟨r, xs, d, _, rfl, rfl, kp_seqL kp hne hx, ha, q d.toNat _ H2 (by simp [hd]) kp st2⟩
  · exact .inr ⟨r, xs, d, _, rfl, rfl, kp_seqT kp hne hx, ha, q d.toNat _ H2 (by simp [hd]) kp st2⟩
def spShuf (K : PySem.W.Frag) : Sp := fun vs H Q _ => ∃ s L r xs, vs = [.ref s, .ref r] ∧ Strm H s L ∧ SqL K H r xs ∧ r ≠ s ∧ xs.length < 1000000 ∧ ∀ p ys H2, H p = none → Kp s H H2 → Strm H2 s L → H2 p = some (.lst ys) → ys.Perm xs → Q (.ref p) H2
abbrev N_law_shuffled : List Str := ["stream", "rows", "left", "found", "turn"]
theorem sc_law_shuffled : FnScope N_law_shuffled ["stream", "rows"] (defScope (top 31)) := ⟨rfl, rfl, rfl, by decide +kernel, rfl, by decide +kernel, by decide +kernel⟩
theorem ok_shuf (T : Txt K mg) (C__law_next : Cal P w K mg base CX0 1 "_law_next" ["stream", "many"] spNext) : Cal P w K mg base CX0 2 "_law_shuffled" ["stream", "rows"] (spShuf K) := by
  refine mkCal T.g__law_shuffled T.d__law_shuffled sc_law_shuffled (fun _ _ _ _ _ _ us hl => match us, hl with | [_, _], _ => rfl) (fun vs H Q E h => ?_) fun cdv A outer s0 H vs Q E hr h => ?_
  · obtain ⟨x, _, d, _, rfl, _⟩ := h; rfl
  obtain ⟨s, L, r, xs, rfl, st, hx, hne, h2, q⟩ := h
  refine ⟨_, (pss_cons (ps_set (i := 2) sc_law_shuffled.nd rfl (Or.inl rfl) (pe_callTy (listOf (K := K)) (by rfl) T.n_list (by decide +kernel) (pa_cons (pv 1) pa_nil)))
      (pss_cons (ps_set (i := 3) sc_law_shuffled.nd rfl (Or.inl rfl) (pe_lst pa_nil))
      (pss_cons (ps_for PassesOwn.never rfl (pi_range1 (by rfl) T.n_range (pa_cons (pe_callB (lenL (K := K)) (by rfl) T.n_len PySem.boot_len (pa_cons (pv 1) pa_nil)) pa_nil)) (pg_name (i := 4) sc_law_shuffled.nd rfl (Or.inl rfl)) (pss_one (ps_expr (pe_bm PySem.F.plainAttrs_list PySem.F.slot_list_append PySem.F.type_list_append mt_append (pv 3) (pa_cons (pe_bm PySem.F.plainAttrs_list PySem.F.slot_list_pop PySem.F.type_list_pop mt_popAt (pv 2) (pa_cons (pe_cal (E := E0) C__law_next (hr.mono (by decide)) pass0 (pa_cons (pv 0) (pa_cons (pe_callB (lenL (K := K)) (by rfl) T.n_len PySem.boot_len (pa_cons (pv 2) pa_nil)) pa_nil))) pa_nil)) pa_nil)))))
      (pss_one (ps_ret (pv 3)))))), ?_⟩
  refine ⟨_, rfl, r, xs, rfl, .inl hx, fun l hl => ⟨Nat.zero_le _, fun f hf => ?_⟩⟩
  have nlf : l ≠ f := ne_of_none upd_same hf
  have hf0 : H f = none := by rw [upd_ne (Ne.symm nlf)] at hf; exact hf
  have nls : s ≠ l := ne_of_none st.there.choose_spec hl
  have nfs : s ≠ f := ne_of_none st.there.choose_spec hf0
  have ex0 : Ex H (upd (upd H l (.lst xs)) f (.lst [])) := (Evl.Ex.new hl).trans (Evl.Ex.new hf)
  refine ⟨_, rfl, r, xs, rfl, .inl (ex_l ex0 hx), xs.length, rfl, by omega, by omega, ?_⟩
  refine for_it walk_range (fun i σ' H' => ∃ tv left found, σ' = [some (.ref s), some (.ref r), some (.ref l), some (.ref f), tv] ∧ Kp s H H' ∧ Strm H' s L ∧ H' l = some (.lst left) ∧ H' f = some (.lst found) ∧ (left ++ found).Perm xs ∧ left.length + i = xs.length)
    ⟨none, xs, [], rfl, fun a o _ h => ex0 a o h, st.keep ex0, by rw [upd_ne nlf]; exact upd_same, upd_same, by rw [List.append_nil], by omega⟩ (fun _ _ _ _ _ => trivial) ?_ ?_
  · rintro i x σ' H' H'' hi ⟨tv, left, found, rfl, kp, st', hl', hf', pm, hlen⟩ ⟨rfl, rfl⟩
    have hi' : i < xs.length := by simpa using hi
    refine ⟨_, rfl, .inl ⟨rfl, _, SqL.of hf'⟩, _, rfl, .inl ⟨rfl, _, SqL.of hl'⟩, _, rfl, _, rfl, l, left, rfl, (.inl (SqL.of hl')), s, L, _, rfl, st', by omega, by omega, fun d H2 d0 d1 kp2 st2 => ?_⟩
    have hd : d.toNat < left.length := by omega
    refine ⟨l, left, d, d.toNat, left[d.toNat], rfl, rfl, kp2 _ _ nls.symm hl', by omega, by omega, ?_, by simp [hd], ?_⟩
    · exact (ixN_seq (by unfold ixN; rw [if_pos d0, if_pos d1])).1
    have hf2 := kp2 _ _ nfs.symm hf'
    refine ⟨f, found, _, rfl, rfl, by rw [upd_ne (Ne.symm nlf)]; exact hf2, Nat.lt_of_le_of_lt (show found.length ≤ 1000000 by have := pm.length_eq; rw [List.length_append] at this; omega) (by decide), ?_⟩
    refine ⟨_, left.eraseIdx d.toNat, found ++ [left[d.toNat]], rfl, ((kp.trans kp2).mut hl).mut hf0, ?_, ?_, upd_same, ?_, ?_⟩
    · exact (st2.mut st hl).mut st hf0
    · rw [upd_ne nlf, upd_same]
    · have e := erase_perm left d.toNat _ (List.getElem?_eq_getElem hd)
      refine List.Perm.trans ?_ pm
      refine List.Perm.trans ?_ (List.Perm.append_right found e)
      rw [← List.append_assoc]
      exact (List.perm_append_singleton _ _)
    · rw [List.length_eraseIdx, if_pos hd]; omega
  · rintro σ' H' ⟨tv, left, found, rfl, kp, st', hl', hf', pm, hlen⟩
    have e0 : left = [] := List.eq_nil_of_length_eq_zero (by have : (xs.length : Int).toNat = xs.length := by omega
                                                             omega)
    subst e0
    exact ⟨_, rfl, q f found H' hf0 kp st' hf' (by simpa using pm)⟩
end
end K44
namespace K44
open PySem PySem.Spec PyProof.Rows L2 Hx Hd M44
open Evl (pss_cut tCut ex_l ex_t)
section
variable {P : Program} {w : World} {K : PySem.W.Frag} {mg : Str → Option Value} {base : Heap}
def spSeats (K : PySem.W.Frag) : Sp := fun vs H Q _ => ∃ a ws, vs = [.ref a] ∧ Wns K H a ws ∧ ws.length ≤ 100000 ∧ (seatsOf ws = none → ∀ H2, Ex H H2 → Q .non H2) ∧
  (∀ seats, seatsOf ws = some seats → ∀ p H2, H p = none → Ex H H2 → H2 p = some (.lst (seats.map V.int)) → Q (.ref p) H2)
abbrev Nseats_of : List Str := ["windows", "seats", "taken", "rows", "place", "high", "number"]
theorem scseats_of : FnScope Nseats_of ["windows"] (defScope (top 20)) := ⟨rfl, rfl, rfl, by decide +kernel, rfl, by decide +kernel, by decide +kernel⟩
theorem le_dataLe : (PySem.W.dataLe false encP) = leP := PySem.W.dataLe_ii (fun b : Int × Int => b.1) (fun b => b.2)
theorem climb_step {tk : List Int} {high n : Int} (h : n ≤ high ∧ n ∈ tk) : climb tk high n = climb tk high (n + 1) := by rw [climb, if_pos h]
theorem climb_stop {tk : List Int} {high n : Int} (h : ¬ (n ≤ high ∧ n ∈ tk)) : climb tk high n = n := by rw [climb, if_neg h]
theorem rows_place {ws : List Wn} {q : Int × Int} (h : q ∈ rows ws) : ∃ i : Nat, i < ws.length ∧ q = row ws i := by
  have h' := (List.mergeSort_perm _ _).mem_iff.mp h
  obtain ⟨i, hi, rfl⟩ := List.mem_map.mp h'
  exact ⟨i, List.mem_range.mp hi, rfl⟩
theorem rows_len (ws : List Wn) : (rows ws).length = ws.length := by unfold rows; rw [List.length_mergeSort]; simp
theorem ok_seats (T : Txt K mg) : Cal P w K mg base CX0 1 "seats_of" ["windows"] (spSeats K) := by
  refine mkCal T.g_seats_of T.d_seats_of scseats_of (fun _ _ _ _ _ _ us hl => match us, hl with | [_], _ => rfl) (fun vs H Q E h => ?_) fun cdv A outer s H vs Q E hr h => ?_
  · obtain ⟨x, d, rfl, _⟩ := h; rfl
  obtain ⟨a, ws, rfl, hw, hn, q1, q2⟩ := h
  refine ⟨_, (pss_cons (ps_set (i := 1) scseats_of.nd rfl (Or.inl rfl) (pe_op op_rep (pe_lst (pa_cons pe_int pa_nil)) (pe_callB (lenL (K := K)) (by rfl) T.n_len PySem.boot_len (pa_cons (pv 0) pa_nil))))
      (pss_cons (ps_set (i := 2) scseats_of.nd rfl (Or.inl rfl) pe_dnewK)
      (pss_cons (ps_setLc (i := 3) (own := [("place", 4)]) (g := gName 4) rfl scseats_of.nd rfl rfl (sw_true rfl rfl rfl (by decide +kernel)) (pi_range1 (by rfl) T.n_range (pa_cons (pe_callB (lenL (K := K)) (by rfl) T.n_len PySem.boot_len (pa_cons (pv 0) pa_nil)) pa_nil)) (blkOk_by (N := Nseats_of) (sc := defScope (top 20)) (by decide +kernel)) (fun _ _ _ _ _ => (pg_name (i := 4) scseats_of.nd rfl (Or.inl rfl))) (fun _ _ _ _ _ => pts_nil) (fun _ _ _ _ _ => (pe_tup (pa_cons (pe_ix (ixT (K := K)) (pe_ix (ixL (K := K)) (pv 0) (pv 4) (fun _ _ => rfl)) pe_int (fun _ _ => rfl)) (pa_cons (pv 4) pa_nil)))))
      (pss_cons (ps_for PassesOwn.never rfl (piL (K := K) (pe_callB (sortP (K := K) hr.units) (by rfl) T.n_sorted (by decide +kernel) (pa_cons (pv 3) pa_nil))) (pgTup (K := K) rfl (pgs_cons (pg_name (i := 5) scseats_of.nd rfl (Or.inl rfl)) (pgs_cons (pg_name (i := 4) scseats_of.nd rfl (Or.inl rfl)) pgs_nil))) (pss_cons (ps_set (i := 6) scseats_of.nd rfl (Or.inl rfl) (pe_ix (ixT (K := K)) (pe_ix (ixL (K := K)) (pv 0) (pv 4) (fun _ _ => rfl)) pe_int (fun _ _ => rfl)))
      (pss_cut (ps_while PassesOwn.never (PW.pt (pw_and (pt_cmpR op_le (pv 6) (pv 5) (nomark _)) (pw_and1 (pt_cmp (pc_din (hu_of hr) (pv 6) (pv 2)))))) (pss_one (ps_aug (i := 6) scseats_of.nd rfl (Or.inl rfl) pe_int ip_add)))
      (pss_cons (ps_if (pt_cmpR op_gt (pv 6) (pv 5) (nomark _)) (pss_one (ps_ret pe_non)) pss_nil)
      (pss_cons (ps_dput (hu_of hr) (pv 2) (pv 6) pe_bl rfl)
      (pss_one (ps_asg (pv 6) (pg_sub (pv 1) (pv 4) set_list))))))))
      (pss_one (ps_ret (pv 1))))))), ?_⟩
  obtain ⟨xs, hx, hxl⟩ := hw.len
  have hz : ∀ m : Nat, m ≤ 100000 → m ≤ sizeLine := fun m h => Nat.le_trans h (by decide)
  refine ⟨hz 1 (by omega), fun p0 h0 => ?_⟩
  refine ⟨_, rfl, a, xs, rfl, .inl (ex_l (Evl.Ex.new h0) hx), ?_⟩
  refine ⟨p0, (xs.length : Int), [.int 0], rfl, rfl, upd_same, by omega, by omega, ?_, fun s0 hs0 => ?_⟩
  · exact hz _ (by show 1 * (xs.length : Int).toNat ≤ _; rw [Int.toNat_natCast]; omega)
  intro t0 ht0
  have e0 : Ex H (upd (upd (upd H p0 (.lst [.int 0])) s0 (.lst (List.replicate (xs.length : Int).toNat [V.int 0]).flatten)) t0 (.dK [])) := ((Evl.Ex.new h0).trans (Evl.Ex.new hs0)).trans (Evl.Ex.new ht0)
  generalize hH1 : upd (upd (upd H p0 (.lst [.int 0])) s0 (.lst (List.replicate (xs.length : Int).toNat [V.int 0]).flatten)) t0 (.dK []) = H1 at e0 ⊢
  have nst : s0 ≠ t0 := ne_of_none upd_same ht0
  have gs : H s0 = none := Evl.fresh_back (Evl.Ex.new h0) hs0
  have gt : H t0 = none := Evl.fresh_back ((Evl.Ex.new h0).trans (Evl.Ex.new hs0)) ht0
  have hs1 : H1 s0 = some (.lst ((List.replicate ws.length (0 : Int)).map V.int)) := by
    rw [← hH1, upd_ne nst, upd_same, Int.toNat_natCast, hxl]
    congr 2
    rw [List.map_replicate]
    generalize ws.length = m
    induction m with
    | zero => rfl
    | succ m ih => rw [List.replicate_succ, List.flatten_cons, ih]; rfl
  have ht1 : H1 t0 = some (.dK []) := by rw [← hH1]; exact upd_same
  clear hH1
  refine ⟨_, rfl, a, xs, rfl, .inl (ex_l e0 hx), (xs.length : Int), rfl, by omega, by omega, fun D hD => ?_⟩
  rw [Int.toNat_natCast, hxl]
  refine lcW (M := NoM) walk_range e0 (fun _ _ => trivial) (by omega) (fun i y G => Dp K G y (encP (row ws i))) dp_mono (fun _ => true) (fun i => [some (.ref a), some (.ref s0), some (.ref t0), none, some (.int (i : Nat)), none, none])
    (fun i y G' H' H'' hi a' yy Q q => turn_range0 (σ0 := [some (.ref a), some (.ref s0), some (.ref t0), none, none, none, none]) (j := 4) a' yy q) (fun _ _ => rfl) (fun i G' H' hi a' Q q => yes_t a'.gh q) (fun i G' H' hi _ a' Q q => ?_) (fun _ _ h => h) hD (fun ys G1 H2 a1 gD hD2 hsel => ?_)
  · refine ⟨_, rfl, _, rfl, wix1 (hw.keep (a'.gg.trans a'.gh)) hi ⟨_, rfl, hz 2 (by omega), fun p hp => ?_⟩⟩
    exact q _ _ _ (Stp.new a'.gh hp) (dp_pair (x := (row ws i).1) (y := (row ws i).2) upd_same)
  have hsel' := sel_dpa1 (enc := fun i => encP (row ws i)) hsel
  have ew : (List.range ws.length).map (fun i => encP (row ws i)) = ((List.range ws.length).map (row ws)).map encP := by rw [List.map_map]; rfl
  rw [ew] at hsel'
  have hs2 : H2 s0 = _ := a1.hh s0 _ (fun h => h) hs1
  have ht2 : H2 t0 = _ := a1.hh t0 _ (fun h => h) ht1
  have g1s : G1 s0 = none := a1.fr s0 (some_ne hs1) gs
  have g1t : G1 t0 = none := a1.fr t0 (some_ne ht1) gt
  refine ⟨_, rfl, D, ys, (List.range ws.length).map (row ws), G1, rfl, SqL.of hD2, a1.gh, hsel', fun zs p hp hzl hzs => ?_⟩
  rw [le_dataLe] at hzs
  have hzs : DpAll K G1 zs ((rows ws).map encP) := hzs
  have nps : s0 ≠ p := ne_of_none hs2 hp
  have npt : t0 ≠ p := ne_of_none ht2 hp
  have hg1p : G1 p = none := Evl.fresh_back a1.gh hp
  have eHG : Ex H (upd G1 p (.lst zs)) := a1.gg.trans (Evl.Ex.new hg1p)
  have eG : Ex (upd G1 p (.lst zs)) (upd H2 p (.lst zs)) := fun x o h => by
    by_cases hx : x = p
    · rw [hx, upd_same] at h ⊢; exact h
    · rw [upd_ne hx] at h ⊢; exact a1.gh x o h
  have ggs : upd G1 p (.lst zs) s0 = none := by rw [upd_ne nps]; exact g1s
  have ggt : upd G1 p (.lst zs) t0 = none := by rw [upd_ne npt]; exact g1t
  have hzs2 : DpAll K (upd G1 p (.lst zs)) zs ((rows ws).map encP) := ex_dpa (Evl.Ex.new hg1p) hzs
  have hgp : upd G1 p (.lst zs) p = some (.lst zs) := upd_same
  generalize upd G1 p (.lst zs) = G at eHG eG ggs ggt hzs2 hgp
  have hzl2 : zs.length = ws.length := by have := dpa_len hzs; rw [List.length_map, rows_len] at this; exact this
  refine ⟨p, rfl, ⟨zs, SqL.of upd_same⟩, ?_⟩
  refine for_it walk_list (fun i σ' H' => ∃ pv hv nv seats tk kvs, σ' = [some (.ref a), some (.ref s0), some (.ref t0), some (.ref D), pv, hv, nv] ∧ Ex G H' ∧ H' s0 = some (.lst (seats.map V.int)) ∧ H' t0 = some (.dK kvs) ∧
      (∀ n : Int, (valV kvs (Sum.inl n : Key)).isSome = true ↔ n ∈ tk) ∧ kvs.length ≤ i ∧ seats.length = ws.length ∧ seatRun ws ((rows ws).drop i) seats tk = seatsOf ws)
    ⟨none, none, none, List.replicate ws.length 0, [], [], rfl, eG, by rw [upd_ne nps]; exact hs2, by rw [upd_ne npt]; exact ht2, fun n => ⟨fun h => by simp [valV_nil] at h, fun h => by simp at h⟩, Nat.zero_le _, by simp, rfl⟩
    (fun i σ' H' hi ⟨_, _, _, _, _, _, _, eG', _⟩ => ex_l eG' (SqL.of hgp)) ?_ ?_
  · rintro i x σ' H' H'' hi ⟨pv, hv, nv, seats, tk, kvs, rfl, eG', hs', ht', hkv, hkl, hsl, hrun⟩ ⟨rfl, hx'⟩
    have hir : i < (rows ws).length := by rw [rows_len]; omega
    obtain ⟨d, hd1, hd2⟩ := dpa_get hzs2 hx'
    have hd0 : ((rows ws).map encP)[i]? = some (encP (rows ws)[i]) := by rw [List.getElem?_map, List.getElem?_eq_getElem hir]; rfl
    rw [hd0] at hd1
    obtain rfl := Option.some.inj hd1
    obtain ⟨k, hk, ek⟩ := rows_place (List.getElem_mem hir)
    have hdrop : (rows ws).drop i = (rows ws)[i] :: (rows ws).drop (i + 1) := List.drop_eq_getElem_cons hir
    rw [hdrop, ek] at hrun
    rw [ek] at hd2
    refine gpair (ex_dp eG' _ _ hd2) ?_
    have hw' : Wns K H'' a ws := hw.keep (eHG.trans eG')
    refine ⟨_, rfl, _, rfl, wix0 hw' hk ?_⟩
    have hseat : seatRun ws (row ws k :: (rows ws).drop (i + 1)) seats tk = if climb tk (row ws k).1 (ws.getD k (0, 0)).1 > (row ws k).1 then none else seatRun ws ((rows ws).drop (i + 1)) (seats.set k (climb tk (row ws k).1 (ws.getD k (0, 0)).1)) (climb tk (row ws k).1 (ws.getD k (0, 0)).1 :: tk) := rfl
    generalize hh : (row ws k).1 = high at hseat
    generalize (ws.getD k (0, 0)).1 = n0 at hseat
    refine ⟨fun σ' H' => σ' = [some (.ref a), some (.ref s0), some (.ref t0), some (.ref D), some (.int (k : Nat)), some (.int high), some (.int (climb tk high n0))] ∧ H'' = H', ?_, ?_⟩
    · refine ⟨fun m σ' H' => ∃ n : Int, m = (high + 1 - n).toNat ∧ σ' = [some (.ref a), some (.ref s0), some (.ref t0), some (.ref D), some (.int (k : Nat)), some (.int high), some (.int n)] ∧ H'' = H' ∧ climb tk high n = climb tk high n0, ⟨_, n0, rfl, rfl, rfl, rfl⟩, ?_⟩
      rintro m σ' H' ⟨n, rfl, rfl, rfl, hn⟩
      refine ⟨_, rfl, _, rfl, n, high, rfl, rfl, _, rfl, ?_⟩
      refine ite2 (fun h1 => ⟨_, rfl, _, rfl, t0, _, rfl, .k (k := Sum.inl n) ht', _, rfl, ?_⟩) (fun h1 => ?_)
      · cases h2 : (valV kvs (Sum.inl n : Key)).isSome with
        | true =>
          refine ⟨fun σ' H' => σ' = [some (.ref a), some (.ref s0), some (.ref t0), some (.ref D), some (.int (k : Nat)), some (.int high), some (.int (n + 1))] ∧ H'' = H', ?_, ?_⟩
          · rintro σ' H' ⟨rfl, rfl⟩
            have := of_decide_eq_true h1
            exact ⟨_, by omega, n + 1, rfl, rfl, rfl, by rw [← hn, climb_step ⟨this, (hkv n).mp h2⟩]⟩
          · exact ⟨_, rfl, n, 1, rfl, rfl, rfl, rfl⟩
        | false =>
          refine ⟨?_, rfl⟩
          rw [← hn, climb_stop fun z => by rw [(hkv n).mpr z.2] at h2; cases h2]
      · refine ⟨?_, rfl⟩
        rw [← hn, climb_stop fun z => h1 (decide_eq_true z.1)]
    · rintro σ' H' ⟨rfl, rfl⟩
      generalize climb tk high n0 = n at hseat
      refine ⟨_, rfl, _, rfl, n, high, rfl, rfl, _, rfl, ?_⟩
      refine ite2 (fun h1 => ?_) (fun h1 => ?_)
      · rw [if_pos (of_decide_eq_true h1)] at hseat
        exact q1 (hrun.symm.trans hseat) _ (eHG.trans eG')
      · rw [if_neg fun z => h1 (decide_eq_true z)] at hseat
        have nts : t0 ≠ s0 := Ne.symm nst
        have hdl : (putK kvs (Sum.inl n : Key) (V.bl true)).length ≤ i + 1 := Nat.le_trans (length_putK kvs _ _) (Nat.succ_le_succ hkl)
        refine ⟨_, rfl, _, rfl, t0, _, rfl, .k (k := Sum.inl n) ht' (Nat.lt_of_le_of_lt hkl (Nat.lt_of_lt_of_le (show i < 100000 by omega) (by decide))), ?_⟩
        refine ⟨_, rfl, _, rfl, _, rfl, s0, seats.map V.int, (k : Nat), k, rfl, rfl, by rw [upd_ne nst]; exact hs', ?_, ?_⟩
        · unfold ixN
          rw [if_pos (by omega), if_pos (by rw [List.length_map]; omega), Int.toNat_natCast]
        · refine ⟨_, _, _, seats.set k n, n :: tk, _, rfl, fun x o h => ?_, ?_, ?_, fun m => ?_, hdl, by rw [List.length_set]; exact hsl, by rw [← hseat]; exact hrun⟩
          · rw [upd_ne (fun z => by rw [z, ggs] at h; cases h), upd_ne (fun z => by rw [z, ggt] at h; cases h)]
            exact eG' x o h
          · rw [upd_same, List.map_set]
          · rw [upd_ne nts]; exact upd_same
          · rw [valV_put]
            by_cases e : m = n
            · rw [e]; simp
            · have e' : ¬ (Sum.inl m : Key) = Sum.inl n := fun z => e (Sum.inl.inj z)
              rw [if_neg e', hkv m]
              simp [e]
  · rintro σ' H' ⟨pv, hv, nv, seats, tk, kvs, rfl, eG', hs', ht', hkv, hkl, hsl, hrun⟩
    rw [hzl2, List.drop_eq_nil_of_le (by rw [rows_len]; exact Nat.le_refl _)] at hrun
    exact ⟨_, rfl, q2 seats hrun.symm s0 H' gs (eHG.trans eG') hs'⟩
end
end K44
namespace K44
open PySem PySem.Spec PyProof.Rows L2 Hx Hd M44
open Evl (pss_cut tCut ex_l ex_t)
section
variable {P : Program} {w : World} {K : PySem.W.Frag} {mg : Str → Option Value} {base : Heap}
def spGl (K : PySem.W.Frag) : Sp := fun vs H Q _ => ∃ a ws high, vs = [.ref a, .int high] ∧ Wns K H a ws ∧ ws.length ≤ 100000 ∧ (greatestLow ws high = none → ∀ H2, Ex H H2 → Q .non H2) ∧ (∀ l, greatestLow ws high = some l → ∀ H2, Ex H H2 → Q (.int l) H2)
abbrev Ngreatest_low : List Str := ["windows", "high", "lows", "low", "top", "at"]
theorem scgreatest_low : FnScope Ngreatest_low ["windows", "high"] (defScope (top 21)) := ⟨rfl, rfl, rfl, by decide +kernel, rfl, by decide +kernel, by decide +kernel⟩
theorem ok_gl (T : Txt K mg) (C_numbers_in : Cal P w K mg base CX0 1 "numbers_in" ["low", "high"] spCnt) : Cal P w K mg base CX0 2 "greatest_low" ["windows", "high"] (spGl K) := by
  refine mkCal T.g_greatest_low T.d_greatest_low scgreatest_low (fun _ _ _ _ _ _ us hl => match us, hl with | [_, _], _ => rfl) (fun vs H Q E h => ?_) fun cdv A outer s H vs Q E hr h => ?_
  · obtain ⟨x, _, d, rfl, _⟩ := h; rfl
  obtain ⟨a, ws, high, rfl, hw, hn, q1, q2⟩ := h
  refine ⟨_, (pss_cons (ps_set (i := 2) scgreatest_low.nd rfl (Or.inl rfl) (pe_callBK (sortRev (K := K)) (by rfl) T.n_sorted (by decide +kernel) (pa_cons (pe_lc (own := [("low", 3), ("top", 4)]) (g := gTup K 2 (gCons (gName 3) (gCons (gName 4) gNil))) rfl scgreatest_low.nd (piL (K := K) (pv 0)) (blkOk_by (N := Ngreatest_low) (sc := defScope (top 21)) (by decide +kernel)) (fun _ _ _ _ _ => (pgTup (K := K) rfl (pgs_cons (pg_name (i := 3) scgreatest_low.nd rfl (Or.inl rfl)) (pgs_cons (pg_name (i := 4) scgreatest_low.nd rfl (Or.inl rfl)) pgs_nil)))) (fun _ _ _ _ _ => pts_one (pt_cmpR op_le (pv 4) (pv 1) (nomark _))) (fun _ _ _ _ _ => (pv 3))) pa_nil) (pk_cons pe_bl pk_nil)))
      (pss_cons (ps_for PassesOwn.never rfl (piEnum (K := K) (by rfl) T.n_enumerate (pa_cons (pv 2) pa_nil)) (pgTup (K := K) rfl (pgs_cons (pg_name (i := 5) scgreatest_low.nd rfl (Or.inl rfl)) (pgs_cons (pg_name (i := 3) scgreatest_low.nd rfl (Or.inl rfl)) pgs_nil))) (pss_one (ps_if (pt_cmpR op_gt (pe_op op_add (pv 5) pe_int) (pe_cal (E := E0) C_numbers_in (hr.mono (by decide)) pass0 (pa_cons (pv 3) (pa_cons (pv 1) pa_nil))) (nomark _)) (pss_one (ps_ret (pv 3))) pss_nil)))
      (pss_one (ps_ret pe_non)))), ?_⟩
  obtain ⟨xs, hx, hd⟩ := id hw
  have hxl : xs.length = ws.length := by have := dpa_len hd; rwa [List.length_map] at this
  refine ⟨_, rfl, a, rfl, ⟨xs, hx⟩, fun D hD => ?_⟩
  refine lcW (M := NoM) walk_list (Evl.Ex.refl H) (fun H' e => ex_l e hx) (by omega) (fun i y _ => y = .int (ws.getD i (0, 0)).1) (fun _ _ _ _ _ h => h) (fun i => decide ((ws.getD i (0, 0)).2 ≤ high)) (fun i => [some (.ref a), some (.int high), none, some (.int (ws.getD i (0, 0)).1), some (.int (ws.getD i (0, 0)).2), none])
    (fun i y G' H' H'' hi a' yy Q q => ?_) (fun _ _ => rfl) (fun i G' H' hi a' Q q => ?_) (fun i G' H' hi _ a' Q q => ?_) (fun _ _ h => h) hD (fun ys G1 H1 a1 gD hD1 hsel => ?_)
  · obtain ⟨rfl, hx'⟩ := yy
    obtain ⟨d, hd1, hd2⟩ := dpa_get hd hx'
    have hd0 : (ws.map encP)[i]? = some (encP (ws.getD i (0, 0))) := by
      rw [List.getElem?_map, List.getD_eq_getElem?_getD, List.getElem?_eq_getElem (by omega)]; rfl
    rw [hd0] at hd1
    obtain rfl := Option.some.inj hd1
    exact gpair (ex_dp (a'.gg.trans a'.gh) _ _ hd2) (q G' _ (Stp.refl a'.gh))
  · exact ⟨_, rfl, _, rfl, _, high, rfl, rfl, _, rfl, q G' H' (Stp.refl a'.gh)⟩
  · exact ⟨_, rfl, q _ _ _ (Stp.refl a'.gh) rfl⟩
  · have ey : ys = ((ws.filter fun w => decide (w.2 ≤ high)).map (·.1)).map V.int := by
      rw [sel_flat hsel, hxl, ← range_sel ws (0, 0) (fun w => decide (w.2 ≤ high)) (·.1), List.map_map]
      rfl
    refine ⟨D, _, rfl, rfl, by rw [← ey]; exact SqL.of hD1, fun ls p pm ob hp => ?_⟩
    have e : ls = lowsOf ws high := lows_by pm ob
    have e01 := a1.gg.trans a1.gh
    have ex1 : Ex H (upd H1 p (.lst (ls.map V.int))) := e01.trans (Evl.Ex.new hp)
    have hll : ls.length ≤ 100000 := by
      rw [pm.length_eq, List.length_map]; exact Nat.le_trans (List.length_filter_le _ _) hn
    refine ⟨_, rfl, p, _, rfl, SqL.of upd_same, ?_⟩
    refine for_it walk_enum (fun i σ' H' => ∃ lv av, σ' = [some (.ref a), some (.int high), some (.ref p), lv, none, av] ∧ Ex (upd H1 p (.lst (ls.map V.int))) H' ∧ firstLow high (ls.drop i) i = greatestLow ws high)
      ⟨none, none, rfl, Evl.Ex.refl _, by rw [e]; rfl⟩ (fun i σ' H' hi ⟨_, _, _, e', _⟩ => ex_l e' (SqL.of upd_same)) ?_ ?_
    · rintro i x σ' H' H'' hi ⟨lv, av, rfl, e', hf⟩ ⟨t, y1, y2, rfl, ht, rfl, hy1, hy2⟩
      have hi' : i < ls.length := by simpa using hi
      obtain rfl : V.int (i : Nat) = y1 := Option.some.inj hy1
      obtain rfl : V.int ls[i] = y2 := by
        have : (ls.map V.int)[i]? = some (V.int ls[i]) := by rw [List.getElem?_map, List.getElem?_eq_getElem hi']; rfl
        exact Option.some.inj (this.symm.trans hy2)
      refine ⟨t, _, rfl, SqT.of upd_same, rfl, _, _, rfl, _, _, rfl, rfl, ?_⟩
      have e2 := e'.trans (Evl.Ex.new ht (o := .tup [.int (i : Nat), .int ls[i]]))
      refine ⟨_, rfl, (i : Nat), 1, rfl, rfl, _, rfl, _, rfl, ls[i], high, rfl, _, _, rfl, rfl, _, rfl, ?_⟩
      rw [List.drop_eq_getElem_cons hi'] at hf
      have hf : (if ((i : Nat) : Int) + 1 > cnt ls[i] high then some ls[i] else firstLow high (ls.drop (i + 1)) (i + 1)) = greatestLow ws high := hf
      refine ite2 (fun h1 => ?_) (fun h1 => ?_)
      · rw [if_pos (of_decide_eq_true h1)] at hf
        exact ⟨_, rfl, q2 _ hf.symm _ (ex1.trans e2)⟩
      · rw [if_neg fun z => h1 (decide_eq_true z)] at hf
        exact ⟨_, _, rfl, e2, hf⟩
    · rintro σ' H' ⟨lv, av, rfl, e', hf⟩
      rw [List.length_map, List.drop_eq_nil_of_le (Nat.le_refl _)] at hf
      exact q1 hf.symm _ (ex1.trans e')
/-- what crowd_of gives -/
def Crw (Q : VK) (H : Hp) : Option (Int × Int × List Int) → Prop
  | none => ∀ H2, Ex H H2 → Q .non H2
  | some r => ∀ p l H2, H p = none → H l = none → Ex H H2 → H2 p = some (.tup [.str "crowd", .int r.1, .int r.2.1, .ref l]) → H2 l = some (.lst (r.2.2.map V.int)) → Q (.ref p) H2
def spCrowd (K : PySem.W.Frag) : Sp := fun vs H Q _ => ∃ a ws, vs = [.ref a] ∧ Wns K H a ws ∧ ws.length ≤ 4000 ∧ Crw Q H (crowdOf ws)
abbrev Ncrowd_of : List Str := ["windows", "high", "low", "top", "places", "at", "window"]
theorem sccrowd_of : FnScope Ncrowd_of ["windows"] (defScope (top 22)) := ⟨rfl, rfl, rfl, by decide +kernel, rfl, by decide +kernel, by decide +kernel⟩
theorem ok_crowd (T : Txt K mg) (C_greatest_low : Cal P w K mg base CX0 2 "greatest_low" ["windows", "high"] (spGl K)) : Cal P w K mg base CX0 3 "crowd_of" ["windows"] (spCrowd K) := by
  refine mkCal T.g_crowd_of T.d_crowd_of sccrowd_of (fun _ _ _ _ _ _ us hl => match us, hl with | [_], _ => rfl) (fun vs H Q E h => ?_) fun cdv A outer s H vs Q E hr h => ?_
  · obtain ⟨x, d, rfl, _⟩ := h; rfl
  obtain ⟨a, ws, rfl, hw, hn, q⟩ := h
  refine ⟨_, (pss_cons (ps_for PassesOwn.never rfl (piL (K := K) (pe_callB (sortSet rfl hr.units) (by rfl) T.n_sorted (by decide +kernel) (pa_cons (pe_scI (own := [("low", 2), ("top", 3)]) (g := gTup K 2 (gCons (gName 2) (gCons (gName 3) gNil))) rfl sccrowd_of.nd (piL (K := K) (pv 0)) (blkOk_by (N := Ncrowd_of) (sc := defScope (top 22)) (by decide +kernel)) (fun _ _ _ _ _ => (pgTup (K := K) rfl (pgs_cons (pg_name (i := 2) sccrowd_of.nd rfl (Or.inl rfl)) (pgs_cons (pg_name (i := 3) sccrowd_of.nd rfl (Or.inl rfl)) pgs_nil)))) (fun _ _ _ _ _ => pts_nil) (fun _ _ _ _ _ => (pv 3))) pa_nil))) (pg_name (i := 1) sccrowd_of.nd rfl (Or.inr rfl)) (pss_cons (ps_set (i := 2) sccrowd_of.nd rfl (Or.inr rfl) (pe_cal (E := E0) C_greatest_low (hr.mono (by decide)) pass0 (pa_cons (pv 0) (pa_cons (pv 1) pa_nil))))
      (pss_one (ps_if (pt_cmpR op_notN (pv 2) pe_non (nomark _)) (pss_cons (ps_setLc (i := 4) (own := [("at", 5), ("window", 6)]) (g := gTup K 2 (gCons (gName 5) (gCons (gName 6) gNil))) rfl sccrowd_of.nd rfl rfl (sw_true rfl rfl rfl (by decide +kernel)) (piEnum (K := K) (by rfl) T.n_enumerate (pa_cons (pv 0) pa_nil)) (blkOk_by (N := Ncrowd_of) (sc := defScope (top 22)) (by decide +kernel)) (fun _ _ _ _ _ => (pgTup (K := K) rfl (pgs_cons (pg_name (i := 5) sccrowd_of.nd rfl (Or.inl rfl)) (pgs_cons (pg_name (i := 6) sccrowd_of.nd rfl (Or.inl rfl)) pgs_nil)))) (fun _ _ _ _ _ => pts_one (PW.pt (pw_and (pt_cmpR op_le (pv 2) (pe_ix (ixT (K := K)) (pv 6) pe_int (fun _ _ => rfl)) (nomark _)) (pw_and1 (pt_cmpR op_le (pe_ix (ixT (K := K)) (pv 6) pe_int (fun _ _ => rfl)) (pv 1) (nomark _)))))) (fun _ _ _ _ _ => (pv 5)))
      (pss_one (ps_ret (pe_tup (pa_cons pe_str (pa_cons (pv 2) (pa_cons (pv 1) (pa_cons (pv 4) pa_nil)))))))) pss_nil))))
      (pss_one (ps_ret pe_non))), ?_⟩
  obtain ⟨xs, hx, hd⟩ := id hw
  have hxl : xs.length = ws.length := by have := dpa_len hd; rwa [List.length_map] at this
  have hget : ∀ {i : Nat} {x : V}, xs[i]? = some x → i < ws.length ∧ Dp K H x (encP (ws.getD i (0, 0))) := fun {i x} hx' => by
    obtain ⟨d, hd1, hd2⟩ := dpa_get hd hx'
    have hi : i < ws.length := by have := (List.getElem?_eq_some_iff.mp hx').1; omega
    have hd0 : (ws.map encP)[i]? = some (encP (ws.getD i (0, 0))) := by
      rw [List.getElem?_map, List.getD_eq_getElem?_getD, List.getElem?_eq_getElem hi]; rfl
    rw [hd0] at hd1
    obtain rfl := Option.some.inj hd1
    exact ⟨hi, hd2⟩
  refine ⟨_, rfl, a, rfl, ⟨xs, hx⟩, fun D hD => ?_⟩
  refine scW (M := NoM) walk_list (Evl.Ex.refl H) (fun H' e => ex_l e hx) (by omega) (fun i => (ws.getD i (0, 0)).2) (fun i => [some (.ref a), none, some (.int (ws.getD i (0, 0)).1), some (.int (ws.getD i (0, 0)).2), none, none, none])
    (fun i y G' H' H'' hi a' yy Q q => ?_) (fun _ _ => rfl) (fun i G' H' hi a' Q q => ?_) (fun _ _ h => h) hD (fun S m G1 H1 a1 gD hS hm hk => ?_)
  · obtain ⟨rfl, hx'⟩ := yy
    exact gpair (ex_dp (a'.gg.trans a'.gh) _ _ (hget hx').2) (q G' _ (Stp.refl a'.gh))
  · exact ⟨_, rfl, q _ _ (Stp.refl a'.gh)⟩
  refine ⟨D, S, m, rfl, hS, fun ns p hns hmem hlen hp => ?_⟩
  have e01 := a1.gg.trans a1.gh
  have ec : crowdRun ws ns = crowdOf ws := crowd_by (hns.imp fun h => by omega) fun k => by
    rw [hmem k, hm k, hxl]
    have z : (List.range ws.length).map (fun i => (ws.getD i (0, 0)).2) = ws.map (·.2) := range_map ws (0, 0) (·.2)
    rw [z]
  rw [← ec] at q
  have ex1 : Ex H (upd H1 p (.lst (ns.map V.int))) := e01.trans (Evl.Ex.new hp)
  refine ⟨p, rfl, ⟨_, SqL.of upd_same⟩, ?_⟩
  refine for_it walk_list (fun i σ' H' => ∃ hv lv, σ' = [some (.ref a), hv, lv, none, none, none, none] ∧ Ex (upd H1 p (.lst (ns.map V.int))) H' ∧ crowdRun ws (ns.drop i) = crowdRun ws ns)
    ⟨none, none, rfl, Evl.Ex.refl _, rfl⟩ (fun i σ' H' hi ⟨_, _, _, e', _⟩ => ex_l e' (SqL.of upd_same)) ?_ ?_
  · rintro i x σ' H' H'' hi ⟨hv, lv, rfl, e', hf⟩ ⟨rfl, hy1⟩
    have hi' : i < ns.length := by simpa using hi
    obtain rfl : V.int ns[i] = x := by
      have : (ns.map V.int)[i]? = some (V.int ns[i]) := by rw [List.getElem?_map, List.getElem?_eq_getElem hi']; rfl
      exact Option.some.inj (this.symm.trans hy1)
    rw [List.drop_eq_getElem_cons hi'] at hf
    have hf : (match greatestLow ws ns[i] with | some low => some (low, ns[i], inside ws low ns[i]) | none => crowdRun ws (ns.drop (i + 1))) = crowdRun ws ns := hf
    refine ⟨_, rfl, _, rfl, a, ws, ns[i], rfl, hw.keep (ex1.trans e'), by omega, fun hg H2 e2 => ?_, fun l hg H2 e2 => ?_⟩
    · rw [hg] at hf
      exact ⟨_, rfl, rfl, _, rfl, _, _, rfl, e'.trans e2, hf⟩
    · rw [hg] at hf
      rw [← hf] at q
      refine ⟨_, rfl, rfl, _, rfl, ?_⟩
      have ex2 := ex1.trans (e'.trans e2)
      refine ⟨_, rfl, a, xs, rfl, ex_l ex2 hx, fun D2 hD2 => ?_⟩
      refine lcW (M := NoM) walk_enum (Evl.Ex.refl H2) (fun H' e => ex_l (ex2.trans e) hx) (by omega) (fun i y _ => y = .int (i : Nat)) (fun _ _ _ _ _ h => h) (fun j => decide (l ≤ (ws.getD j (0, 0)).1 ∧ (ws.getD j (0, 0)).2 ≤ ns[i])) (fun j => [some (.ref a), some (.int ns[i]), some (.int l), none, none, some (.int (j : Nat)), some (xs.getD j .non)])
        (fun j y G' H' H'' hj a' yy Q q => ?_) (fun _ _ => rfl) (fun j G' H' hj a' Q q => ?_) (fun j G' H' hj _ a' Q q => ?_) (fun _ _ h => h) hD2 (fun ys G3 H3 a3 gD3 hD3 hsel => ?_)
      · obtain ⟨t, y1, y2, rfl, ht, rfl, hz1, hz2⟩ := yy
        obtain rfl : V.int (j : Nat) = y1 := Option.some.inj hz1
        obtain rfl : xs.getD j .non = y2 := by rw [List.getD_eq_getElem?_getD]; exact (congrArg (Option.getD · V.non) hz2)
        exact ⟨t, _, rfl, SqT.of upd_same, rfl, _, _, rfl, _, _, rfl, rfl, q _ _ (Stp.new a'.gh ht (o := .tup [.int (j : Nat), xs.getD j .non]))⟩
      · have hj' : xs[j]? = some (xs.getD j .non) := by rw [List.getD_eq_getElem?_getD, List.getElem?_eq_getElem hj]; rfl
        obtain ⟨_, hd2⟩ := hget hj'
        obtain ⟨r, zs, er, ht, hz⟩ := dp_tup (ex_dp (ex2.trans (a'.gg.trans a'.gh)) _ _ hd2)
        rw [er]
        cases hz with
        | cons y1 hz => cases hz with
          | cons y2 hz =>
            cases hz; cases y1; cases y2
            refine ⟨_, rfl, _, rfl, r, _, 0, _, rfl, rfl, ht, rfl, l, _, rfl, rfl, _, rfl, ?_⟩
            refine ite2 (fun h1 => ⟨_, rfl, r, _, 1, _, rfl, rfl, ht, rfl, _, rfl, _, ns[i], rfl, rfl, _, rfl, ?_⟩) (fun h1 => ?_)
            · have := q G' H' (Stp.refl a'.gh)
              have h1 := of_decide_eq_true h1
              simp only [h1, true_and] at this
              exact this
            · have := q G' H' (Stp.refl a'.gh)
              have h1 : ¬ l ≤ (ws.getD j (0, 0)).1 := fun z => h1 (decide_eq_true z)
              simp only [h1, false_and] at this
              exact this
      · exact ⟨_, rfl, q _ _ _ (Stp.refl a'.gh) rfl⟩
      · have ey : ys = (inside ws l ns[i]).map V.int := by
          rw [sel_flat hsel, hxl]
          unfold inside
          rw [List.map_map]
          rfl
        refine ⟨_, rfl, _, rfl, _, rfl, Nat.le_trans (show 4 ≤ 100000 by decide) (by decide), fun p2 hp2 => ?_⟩
        have e13 := ex2.trans (a3.gg.trans a3.gh)
        refine q p2 D2 _ (Evl.fresh_back e13 hp2) (Evl.fresh_back ex2 hD2) (e13.trans (Evl.Ex.new hp2)) upd_same ?_
        rw [upd_ne (ne_of_none hD3 hp2), hD3, ey]
  · rintro σ' H' ⟨hv, lv, rfl, e', hf⟩
    rw [List.length_map, List.drop_eq_nil_of_le (Nat.le_refl _)] at hf
    rw [← hf] at q
    exact q _ (ex1.trans e')
end
end K44
namespace K44
open PySem PySem.Spec PyProof.Rows L2 Hx Hd M44
open Evl (pss_cut tCut ex_l ex_t)
section
variable {P : Program} {w : World} {K : PySem.W.Frag} {mg : Str → Option Value} {base : Heap}
/-- windows handed over as data -/
theorem wns_of {H : Hp} {x : V} {ws : List Wn} (h : Dz K H x (.list (ws.map encP))) : ∃ a, x = .ref a ∧ Wns K H a ws := by
  rcases h with h | ⟨_, _, _, e⟩
  · obtain ⟨a, xs, rfl, h1, h2⟩ := dp_list h
    exact ⟨a, rfl, xs, h1, h2⟩
  · cases e
theorem Err.mono {C : Addr} {f z : Str} {H H1 : Hp} {E : XK} (h : Err C f z H E) (e : Ex H H1) : Err C f z H1 E := fun d H2 e2 n q => h d H2 (e.trans e2) (Evl.fresh_back e n) q
theorem raises {C : Addr} {f z : Str} {H1 : Hp} {E : XK} (q2 : Err C f z H1 E) : ∀ a, H1 a = none → spIni C f (.ref a :: ([V.str z] ++ [])) (upd H1 a (exo a C none))
      (fun v H2 => v = .non ∧ ∃ (d : Addr) (fs : List (Str × V)), H2 a = some (exo a C (some d)) ∧ H2 d = some (exd d fs) ∧ H1 d = none ∧ E (.ref C) (some d) (upd (L2.del H2 a) d (.xd fs))) (fun _ _ _ => False) := by
  intro a ha
  refine ⟨a, _, rfl, upd_same, fun dx hx hne => ⟨rfl, dx, _, upd_same, by rw [upd_ne hne, upd_same], ?_, q2 dx _ ?_ ?_ upd_same⟩⟩
  · rw [upd_ne hne] at hx; exact hx
  · intro b o hb
    have n1 : b ≠ a := ne_of_none hb ha
    have n2 : b ≠ dx := ne_of_none hb (by rw [upd_ne hne] at hx; exact hx)
    rw [upd_ne n2, L2.del_ne n1, upd_ne n1, upd_ne n2, upd_ne n1]
    exact hb
  · rw [upd_ne hne] at hx; exact hx
/-- what seated gives -/
def Std (Q : VK) (H : Hp) (ws : List Wn) : Prop := match seatsOf ws with
  | some seats => ∀ p l H2, H p = none → H l = none → Ex H H2 → H2 p = some (.tup [.str "seats", .ref l]) → H2 l = some (.lst (seats.map V.int)) → Q (.ref p) H2
  | none => Crw Q H (crowdOf ws)
theorem Crw.mono {Q : VK} {H H1 : Hp} {r : Option (Int × Int × List Int)} (h : Crw Q H r) (e : Ex H H1) : Crw Q H1 r := by
  cases r with
  | none => exact fun H2 e2 => h H2 (e.trans e2)
  | some r => exact fun p l H2 n1 n2 e2 => h p l H2 (Evl.fresh_back e n1) (Evl.fresh_back e n2) (e.trans e2)
def spStd (K : PySem.W.Frag) : Sp := fun vs H Q E => ∃ x d, vs = [x] ∧ Dz K H x d ∧ (∀ ds, d = .list ds → ds.length ≤ 100000) ∧ (isWins d = false → Err (He.ga K "BadValue") "name" "windows" H E) ∧
  (∀ ws : List Wn, d = .list (ws.map encP) → (400 < ws.length → Err (He.ga K "TooMany") "word" "windows" H E) ∧ (ws.length ≤ 400 → Std Q H ws))
abbrev Nseated : List Str := ["windows", "seats"]
theorem scseated : FnScope Nseated ["windows"] (defScope (top 23)) := ⟨rfl, rfl, rfl, by decide +kernel, rfl, by decide +kernel, by decide +kernel⟩
theorem ok_seated (T : Txt K mg) (C_check : Cal P w K mg base (L2.CX P w) 3 "check_windows" ["windows"] (spChk K)) (C_seats_of : Cal P w K mg base CX0 1 "seats_of" ["windows"] (spSeats K)) (C_crowd_of : Cal P w K mg base CX0 3 "crowd_of" ["windows"] (spCrowd K)) :
    Cal P w K mg base (L2.CX P w) 4 "seated" ["windows"] (spStd K) := by
  obtain ⟨fdB, FB, bB⟩ := ok_iniTM (P := P) (w := w) (base := base) T
  obtain ⟨ct, hct⟩ := T.c_MOST_WINDOWS
  refine mkCalX T.g_seated T.d_seated scseated (fun _ _ _ _ _ _ us hl => match us, hl with | [_], _ => rfl) (fun vs H Q E h => ?_) fun cdv A outer s H vs Q E hr h => ?_
  · obtain ⟨x, d, rfl, _⟩ := h; rfl
  obtain ⟨x, d, rfl, hd, hz, q1, q2⟩ := h
  refine ⟨_, (pss_cons (ps_expr (pe_cal (E := E) C_check (hr.mono (by decide)) (passes_call (takes_of rfl rfl rfl rfl) (fun _ _ _ _ h => h)) (pa_cons (pv 0) pa_nil)))
    (pss_cut (ps_if (PT.nox (pt_cmpR op_gt (pe_callB (lenL (K := K)) (by rfl) T.n_len PySem.boot_len (pa_cons (pv 0) pa_nil)) (pe_glob (v := .int 400) rfl hct ⟨_, rfl⟩) (nomark _)))
      (pss_one (ps_raise rfl (takes_of rfl rfl rfl rfl) (pmk_oex T.x_TooMany.oex T.x_TooMany.ini T.x_TooMany.tyI FB (hr.mono (by decide)) bB .nil pass0 rfl T.g_TooMany (pa_cons pe_str pa_nil)))) pss_nil)
    (PSs.nox (pss_cons (ps_set (i := 1) scseated.nd rfl (Or.inl rfl) (pe_cal (E := E0) C_seats_of (hr.mono (by decide)) pass0 (pa_cons (pv 0) pa_nil)))
      (pss_cut (ps_if (pt_cmpR op_isN (pv 1) pe_non (nomark _)) (pss_one (ps_ret (pe_cal (E := E0) C_crowd_of (hr.mono (by decide)) pass0 (pa_cons (pv 0) pa_nil)))) pss_nil)
      (pss_one (ps_ret (pe_tup (pa_cons pe_str (pa_cons (pv 1) pa_nil)))))))))), ?_⟩
  refine ⟨_, rfl, x, d, rfl, hd, hz, fun hw H1 e1 => ?_, q1⟩
  obtain ⟨ws, rfl⟩ := isWins_enc hw
  obtain ⟨a, rfl, hW⟩ := wns_of hd
  have hW1 := hW.keep e1
  obtain ⟨xs, hx, hxl⟩ := hW1.len
  obtain ⟨q3, q4⟩ := q2 ws rfl
  refine ⟨fun σ' H' => σ' = [some (.ref a), none] ∧ H1 = H' ∧ ws.length ≤ 400, ?_, ?_⟩
  · refine ⟨_, rfl, a, xs, rfl, .inl hx, _, 400, rfl, rfl, _, rfl, ?_⟩
    refine ite2 (fun h1 => ?_) (fun h1 => ?_)
    · have h1 := of_decide_eq_true h1
      exact ⟨by decide, fun b hb => raises ((q3 (by omega)).mono e1) b hb⟩
    · exact ⟨rfl, rfl, by have : ¬ (400 : Int) < (xs.length : Int) := fun z => h1 (decide_eq_true z)
                          omega⟩
  · rintro σ' H' ⟨rfl, rfl, hl⟩
    have q5 := q4 hl
    unfold Std at q5
    refine ⟨_, rfl, a, ws, rfl, hW1, by omega, fun hs H2 e2 => ?_, fun seats hs l H2 hl0 e2 hl2 => ?_⟩
    · rw [hs] at q5
      refine ⟨fun _ _ => False, ?_, fun _ _ h => h.elim⟩
      exact ⟨_, rfl, rfl, _, rfl, _, rfl, a, ws, rfl, hW1.keep e2, by omega, q5.mono (e1.trans e2)⟩
    · rw [hs] at q5
      refine ⟨fun σ' H' => σ' = [some (.ref a), some (.ref l)] ∧ H2 = H', ?_, ?_⟩
      · exact ⟨_, rfl, rfl, _, rfl, rfl, rfl⟩
      · rintro σ' H' ⟨rfl, rfl⟩
        refine ⟨_, rfl, Nat.le_trans (show 2 ≤ 100000 by decide) (by decide), fun p hp => ?_⟩
        have e12 := e1.trans e2
        refine q5 p l _ (Evl.fresh_back e12 hp) (Evl.fresh_back e1 hl0) (e12.trans (Evl.Ex.new hp)) upd_same ?_
        rw [upd_ne (ne_of_none hl2 hp)]
        exact hl2
end
end K44
namespace K44
open PySem PySem.Spec PyProof.Rows L2 Hx Hd M44
open Evl (pss_cut tCut ex_l ex_t)
theorem isT_list {d : PyData} (h : isT "list" d = true) : ∃ ds, d = .list ds := by cases d <;> first | exact ⟨_, rfl⟩ | (exfalso; revert h; simp [isT])
theorem isT_tup {d : PyData} (h : isT "tuple" d = true) : ∃ ds, d = .tuple ds := by cases d <;> first | exact ⟨_, rfl⟩ | (exfalso; revert h; simp [isT])
theorem isT_str {d : PyData} (h : isT "str" d = true) : ∃ z, d = .str z := by cases d <;> first | exact ⟨_, rfl⟩ | (exfalso; revert h; simp [isT])
section
variable {P : Program} {w : World} {K : PySem.W.Frag} {mg : Str → Option Value} {base : Heap}
def spAre (K : PySem.W.Frag) : Sp := fun vs H Q _ => ∃ a ws x d, vs = [.ref a, x] ∧ Wns K H a ws ∧ ws.length ≤ 4000 ∧ Dp K H x d ∧ ∀ H2, Ex H H2 → Q (.bl (areSeats ws d)) H2
abbrev Nare_seats : List Str := ["windows", "value", "item", "at", "number"]
theorem scare_seats : FnScope Nare_seats ["windows", "value"] (defScope (top 24)) := ⟨rfl, rfl, rfl, by decide +kernel, rfl, by decide +kernel, by decide +kernel⟩
theorem num_ds {K : PySem.W.Frag} {H : Hp} {xs : List V} {ds : List PyData} (h : DpAll K H xs ds) (hn : ds.all isNum = true) : xs = (ds.map toI).map V.int := by
  induction ds generalizing xs with
  | nil => cases h; rfl
  | cons d ds ih =>
    rw [List.all_cons, Bool.and_eq_true] at hn
    cases h with
    | cons h1 h2 =>
      obtain ⟨i, rfl⟩ := isNum_int hn.1
      cases h1
      rw [ih h2 hn.2]
      rfl
theorem getD_int {ds : List PyData} {i : Nat} (hi : i < ds.length) : ((ds.map toI).map V.int)[i]? = some (.int (toI (ds.getD i .none))) := by
  rw [List.map_map, List.getElem?_map, List.getD_eq_getElem?_getD, List.getElem?_eq_getElem hi]; rfl
theorem ok_are (T : Txt K mg) (C_is_number : Cal P w K mg base CX0 1 "is_number" ["value"] (spNum K)) : Cal P w K mg base CX0 2 "are_seats" ["windows", "value"] (spAre K) := by
  refine mkCal T.g_are_seats T.d_are_seats scare_seats (fun _ _ _ _ _ _ us hl => match us, hl with | [_, _], _ => rfl) (fun vs H Q E h => ?_) fun cdv A outer s H vs Q E hr h => ?_
  · obtain ⟨x, _, _, d, rfl, _⟩ := h; rfl
  obtain ⟨a, ws, x, d, rfl, hw, hn, hd, q⟩ := h
  refine ⟨_, (pss_cut (ps_if (PW.pt (pw_or (pt_not (pt_val (pe_callB (isiR (K := K)) (by rfl) T.n_isinstance (by decide +kernel) (pa_cons (pv 1) (pa_cons (pe_bltn (v := .ty "list") rfl T.n_list (by decide +kernel) rfl) pa_nil))))) (pw_or (pt_cmpR op_ne (pe_callB (lenL (K := K)) (by rfl) T.n_len PySem.boot_len (pa_cons (pv 1) pa_nil)) (pe_callB (lenL (K := K)) (by rfl) T.n_len PySem.boot_len (pa_cons (pv 0) pa_nil)) (nomark _)) (pw_or1 (pt_not (pt_val (pe_callB (allR (K := K) rfl) (by rfl) T.n_all (by decide +kernel) (pa_cons (pe_lc (own := [("item", 2)]) (g := gName 2) rfl scare_seats.nd (piL (K := K) (pv 1)) (blkOk_by (N := Nare_seats) (sc := defScope (top 24)) (by decide +kernel)) (fun _ _ _ _ _ => (pg_name (i := 2) scare_seats.nd rfl (Or.inl rfl))) (fun _ _ _ _ _ => pts_nil) (fun _ _ _ _ _ => (pe_cal (E := E0) C_is_number (hr.mono (by decide)) pass0 (pa_cons (pv 2) pa_nil)))) pa_nil)))))))) (pss_one (ps_ret pe_bl)) pss_nil)
      (pss_cut (ps_if (pt_not (pt_val (pe_callB (allR (K := K) rfl) (by rfl) T.n_all (by decide +kernel) (pa_cons (pe_lc (own := [("at", 3)]) (g := gName 3) rfl scare_seats.nd (pi_range1 (by rfl) T.n_range (pa_cons (pe_callB (lenL (K := K)) (by rfl) T.n_len PySem.boot_len (pa_cons (pv 0) pa_nil)) pa_nil)) (blkOk_by (N := Nare_seats) (sc := defScope (top 24)) (by decide +kernel)) (fun _ _ _ _ _ => (pg_name (i := 3) scare_seats.nd rfl (Or.inl rfl))) (fun _ _ _ _ _ => pts_nil) (fun _ _ _ _ _ => (pe_chain op_le op_le (pe_ix (ixT (K := K)) (pe_ix (ixL (K := K)) (pv 0) (pv 3) (fun _ _ => rfl)) pe_int (fun _ _ => rfl)) (pe_ix (ixL (K := K)) (pv 1) (pv 3) (fun _ _ => rfl)) (pe_ix (ixT (K := K)) (pe_ix (ixL (K := K)) (pv 0) (pv 3) (fun _ _ => rfl)) pe_int (fun _ _ => rfl))))) pa_nil)))) (pss_one (ps_ret pe_bl)) pss_nil)
      (pss_one (ps_ret (pe_cmpR op_eq (pe_callB lenSet (by rfl) T.n_len PySem.boot_len (pa_cons (pe_scI (own := [("number", 4)]) (g := gName 4) rfl scare_seats.nd (piL (K := K) (pv 1)) (blkOk_by (N := Nare_seats) (sc := defScope (top 24)) (by decide +kernel)) (fun _ _ _ _ _ => (pg_name (i := 4) scare_seats.nd rfl (Or.inl rfl))) (fun _ _ _ _ _ => pts_nil) (fun _ _ _ _ _ => (pv 4))) pa_nil)) (pe_callB (lenL (K := K)) (by rfl) T.n_len PySem.boot_len (pa_cons (pv 1) pa_nil)) (nomark _)))))), ?_⟩
  obtain ⟨xs, hx, hxl⟩ := hw.len
  refine ⟨fun σ' H' => ∃ ds, d = .list ds ∧ σ' = [some (.ref a), some x, none, none, none] ∧ Ex H H' ∧ ds.length = ws.length ∧ ds.all isNum = true, ?_, ?_⟩
  · refine ⟨_, rfl, x, _, _, _, _, rfl, .ty "list", ty_dp hd, kit_ty (kit_list d), _, rfl, ?_⟩
    cases hT : isT "list" d with
    | false =>
      have e : areSeats ws d = false := by cases d <;> first | rfl | (exfalso; revert hT; simp [isT])
      rw [e] at q; exact q H (Evl.Ex.refl H)
    | true =>
      obtain ⟨ds, rfl⟩ := isT_list hT
      obtain ⟨b, ys, rfl, hs, ha⟩ := dp_list hd
      have hl := dpa_len ha
      have eA : areSeats ws (.list ds) = (decide (ds.length = ws.length) && (ds.all isNum && ((List.range ws.length).all (fun i => decide ((ws.getD i (0, 0)).1 ≤ toI (ds.getD i .none) ∧ toI (ds.getD i .none) ≤ (ws.getD i (0, 0)).2)) && decide ((ds.map toI).eraseDups.length = ds.length)))) := rfl
      rw [eA] at q
      refine ⟨_, rfl, b, ys, rfl, .inl hs, _, rfl, a, xs, rfl, .inl hx, rfl, _, rfl, ?_⟩
      rw [dec_int]
      refine ite2 (fun h1 => ?_) (fun h1 => ?_)
      · have h1 : ¬ ds.length = ws.length := by
          intro z
          have := (by simpa using h1 : ¬ ((ys.length : Int) = (xs.length : Int)))
          omega
        rw [decide_eq_false h1] at q
        exact q H (Evl.Ex.refl H)
      · have h1 : ds.length = ws.length := by
          have := (by simpa using h1 : ((ys.length : Int) = (xs.length : Int)))
          omega
        rw [decide_eq_true h1] at q
        refine ⟨_, rfl, b, rfl, ⟨ys, hs⟩, fun D hD => ?_⟩
        refine lcW (M := NoM) walk_list (Evl.Ex.refl H) (fun H' e => ex_l e hs) (by omega) (fun i y _ => y = .bl (isNum (ds.getD i .none))) (fun _ _ _ _ _ h => h) (fun _ => true) (fun i => [some (.ref a), some (.ref b), some (ys.getD i .non), none, none])
          (fun i y G' H' H'' hi a' yy Q q => turn_name (σ0 := [some (.ref a), some (.ref b), none, none, none]) (j := 2) a' yy (by rw [List.getD_eq_getElem?_getD]; simp [hi]) q) (fun _ _ => rfl) (fun i G' H' hi a' Q q => yes_t a'.gh q) (fun i G' H' hi _ a' Q q => ?_) (fun _ _ h => h) hD (fun zs G' H' a' gD hl' hsel => ?_)
        · obtain ⟨d1, e1, g1⟩ := dpa_get ha (i := i) (v := ys.getD i .non) (by rw [List.getD_eq_getElem?_getD]; simp [hi])
          refine ⟨_, rfl, _, d1, rfl, ex_dp (a'.gg.trans a'.gh) _ _ g1, q _ _ _ (Stp.refl a'.gh) ?_⟩
          rw [getD_of e1]
        · have ey : zs = (ds.map isNum).map V.bl := by
            rw [sel_flat1 hsel, hl, ← range_map ds .none isNum, List.map_map]
            rfl
          subst ey
          refine ⟨D, ds.map isNum, rfl, SqL.of hl', _, rfl, ?_⟩
          have ew : (ds.map isNum).all id = ds.all isNum := by rw [List.all_map]; rfl
          rw [ew]
          cases hw2 : ds.all isNum with
          | false => rw [hw2] at q; exact q H' (a'.gg.trans a'.gh)
          | true => exact ⟨ds, rfl, rfl, a'.gg.trans a'.gh, h1, hw2⟩
  · rintro σ' H1 ⟨ds, rfl, rfl, e1, hl, hnum⟩
    have eA : areSeats ws (.list ds) = (decide (ds.length = ws.length) && (ds.all isNum && ((List.range ws.length).all (fun i => decide ((ws.getD i (0, 0)).1 ≤ toI (ds.getD i .none) ∧ toI (ds.getD i .none) ≤ (ws.getD i (0, 0)).2)) && decide ((ds.map toI).eraseDups.length = ds.length)))) := rfl
    rw [eA, decide_eq_true hl, hnum] at q
    obtain ⟨b, ys, rfl, hs, ha⟩ := dp_list hd
    have hyl := dpa_len ha
    obtain rfl := num_ds ha hnum
    refine ⟨fun σ' H' => σ' = [some (.ref a), some (.ref b), none, none, none] ∧ Ex H H' ∧ (List.range ws.length).all (fun i => decide ((ws.getD i (0, 0)).1 ≤ toI (ds.getD i .none) ∧ toI (ds.getD i .none) ≤ (ws.getD i (0, 0)).2)) = true, ?_, ?_⟩
    · refine ⟨_, rfl, a, xs, rfl, .inl (ex_l e1 hx), _, rfl, by omega, by omega, fun D hD => ?_⟩
      rw [Int.toNat_natCast, hxl]
      refine lcW (M := NoM) walk_range (Evl.Ex.refl H1) (fun _ _ => trivial) (by omega) (fun i y G => y = .bl (decide ((ws.getD i (0, 0)).1 ≤ toI (ds.getD i .none) ∧ toI (ds.getD i .none) ≤ (ws.getD i (0, 0)).2))) (fun _ _ _ _ _ h => h) (fun _ => true) (fun i => [some (.ref a), some (.ref b), none, some (.int (i : Nat)), none])
        (fun i y G' H' H'' hi a' yy Q q => turn_range0 (σ0 := [some (.ref a), some (.ref b), none, none, none]) (j := 3) a' yy q) (fun _ _ => rfl) (fun i G' H' hi a' Q q => yes_t a'.gh q) (fun i G' H' hi _ a' Q q => ?_) (fun _ _ h => h) hD (fun zs G' H' a' gD hl' hsel => ?_)
      · have e2 := e1.trans (a'.gg.trans a'.gh)
        refine ⟨_, rfl, _, rfl, wix0 (hw.keep e2) hi ⟨_, rfl, _, rfl, b, _, _, _, rfl, rfl, ex_l e2 hs, at_nat (getD_int (by omega)), _, _, rfl, rfl, _, rfl, ?_⟩⟩
        refine ite2 (fun h1 => ?_) (fun h1 => ?_)
        · have h1 := of_decide_eq_true h1
          refine ⟨_, rfl, _, rfl, wix1 (hw.keep e2) hi ⟨_, _, rfl, rfl, q _ _ _ (Stp.refl a'.gh) ?_⟩⟩
          simp only [h1, true_and]
        · have h1 : ¬ (ws.getD i (0, 0)).1 ≤ toI (ds.getD i .none) := fun z => h1 (decide_eq_true z)
          refine q _ _ _ (Stp.refl a'.gh) ?_
          simp only [h1, false_and, decide_false]
      · have ey : zs = ((List.range ws.length).map fun i => decide ((ws.getD i (0, 0)).1 ≤ toI (ds.getD i .none) ∧ toI (ds.getD i .none) ≤ (ws.getD i (0, 0)).2)).map V.bl := by
          rw [sel_flat1 hsel, List.map_map]
          rfl
        subst ey
        refine ⟨D, _, rfl, SqL.of hl', _, rfl, ?_⟩
        rw [List.all_map]
        show (if (!((List.range ws.length).all fun i => decide ((ws.getD i (0, 0)).1 ≤ toI (ds.getD i .none) ∧ toI (ds.getD i .none) ≤ (ws.getD i (0, 0)).2))) = true then _ else _)
        cases hw2 : (List.range ws.length).all fun i => decide ((ws.getD i (0, 0)).1 ≤ toI (ds.getD i .none) ∧ toI (ds.getD i .none) ≤ (ws.getD i (0, 0)).2) with
        | false => rw [hw2] at q; exact q H' (e1.trans (a'.gg.trans a'.gh))
        | true => exact ⟨rfl, e1.trans (a'.gg.trans a'.gh), rfl⟩
    · rintro σ' H2 ⟨rfl, e2, hall⟩
      rw [hall] at q
      have hs2 := ex_l e2 hs
      have hml : ((ds.map toI).map V.int).length = ds.length := by simp
      refine ⟨_, rfl, b, rfl, ⟨_, hs2⟩, fun D hD => ?_⟩
      refine scW (M := NoM) walk_list (Evl.Ex.refl H2) (fun H' e => ex_l e hs2) (by omega) (fun i => toI (ds.getD i .none)) (fun i => [some (.ref a), some (.ref b), none, none, some (.int (toI (ds.getD i .none)))])
        (fun i y G' H' H'' hi a' yy Q q => turn_name (σ0 := [some (.ref a), some (.ref b), none, none, none]) (j := 4) a' yy (getD_int (by omega)) q) (fun _ _ => rfl) (fun i G' H' hi a' Q q => ?_) (fun _ _ h => h) hD (fun S m G1 H3 a1 gD hS hm hk => ?_)
      · exact ⟨_, rfl, q _ _ (Stp.refl a'.gh)⟩
      · refine ⟨D, S, m, rfl, hS, _, rfl, b, _, rfl, .inl (ex_l (a1.gg.trans a1.gh) hs2), rfl, ?_⟩
        rw [dec_int]
        have e3 : m = (ds.map toI).eraseDups.length := by rw [hk, hml, range_map ds .none toI]
        have q := q H3 (e2.trans (a1.gg.trans a1.gh))
        have eq : (((m : Int) == (((ds.map toI).map V.int).length : Int))) = decide ((ds.map toI).eraseDups.length = ds.length) := by
          rw [e3, hml]
          rw [Bool.eq_iff_iff, beq_iff_eq, decide_eq_true_iff]
          omega
        rw [eq]
        exact q
end
end K44
namespace K44
open PySem PySem.Spec PyProof.Rows L2 Hx Hd M44
open Evl (pss_cut tCut ex_l ex_t)
theorem all_at {α : Type} (l : List α) (d : α) (p : α → Bool) : ((List.range l.length).map fun i => p (l.getD i d)).all id = l.all p := by
  rw [range_map l d p, List.all_map]; rfl
section
variable {P : Program} {w : World} {K : PySem.W.Frag} {mg : Str → Option Value} {base : Heap}
def spCrd (K : PySem.W.Frag) : Sp := fun vs H Q _ => ∃ a ws x y z dl dh d, vs = [.ref a, x, y, z] ∧ Wns K H a ws ∧ ws.length ≤ 4000 ∧ Dp K H x dl ∧ Dp K H y dh ∧ Dp K H z d ∧ (∀ ds, d = .list ds → ds.length ≤ 100000) ∧ ∀ H2, Ex H H2 → Q (.bl (isCrowd ws dl dh d)) H2
abbrev Nis_crowd : List Str := ["windows", "low", "high", "places", "place", "at"]
theorem scis_crowd : FnScope Nis_crowd ["windows", "low", "high", "places"] (defScope (top 25)) := ⟨rfl, rfl, rfl, by decide +kernel, rfl, by decide +kernel, by decide +kernel⟩
theorem dp_isInt {K : PySem.W.Frag} {H : Hp} {x : V} {d : PyData} (h : Dp K H x d) (hn : isNum d = true) : ∃ i, d = .int i ∧ x = .int i := by
  obtain ⟨i, rfl⟩ := isNum_int hn
  cases h
  exact ⟨i, rfl, rfl⟩
theorem ok_iscrowd (T : Txt K mg) (C_is_number : Cal P w K mg base CX0 1 "is_number" ["value"] (spNum K)) (C_numbers_in : Cal P w K mg base CX0 1 "numbers_in" ["low", "high"] spCnt) :
    Cal P w K mg base CX0 2 "is_crowd" ["windows", "low", "high", "places"] (spCrd K) := by
  refine mkCal T.g_is_crowd T.d_is_crowd scis_crowd (fun _ _ _ _ _ _ us hl => match us, hl with | [_, _, _, _], _ => rfl) (fun vs H Q E h => ?_) fun cdv A outer s H vs Q E hr h => ?_
  · obtain ⟨x, _, _, _, _, _, _, d, rfl, _⟩ := h; rfl
  obtain ⟨a, ws, x, y, z, dl, dh, d, rfl, hw, hn, hx, hy, hd, hz, q⟩ := h
  refine ⟨_, (pss_cut (ps_if (PW.pt (pw_or (pt_not (pt_val (pe_cal (E := E0) C_is_number (hr.mono (by decide)) pass0 (pa_cons (pv 1) pa_nil)))) (pw_or (pt_not (pt_val (pe_cal (E := E0) C_is_number (hr.mono (by decide)) pass0 (pa_cons (pv 2) pa_nil)))) (pw_or1 (pt_not (pt_val (pe_callB (isiR (K := K)) (by rfl) T.n_isinstance (by decide +kernel) (pa_cons (pv 3) (pa_cons (pe_bltn (v := .ty "list") rfl T.n_list (by decide +kernel) rfl) pa_nil))))))))) (pss_one (ps_ret pe_bl)) pss_nil)
      (pss_cut (ps_if (pt_not (pt_val (pe_callB (allR (K := K) rfl) (by rfl) T.n_all (by decide +kernel) (pa_cons (pe_lc (own := [("place", 4)]) (g := gName 4) rfl scis_crowd.nd (piL (K := K) (pv 3)) (blkOk_by (N := Nis_crowd) (sc := defScope (top 25)) (by decide +kernel)) (fun _ _ _ _ _ => (pg_name (i := 4) scis_crowd.nd rfl (Or.inl rfl))) (fun _ _ _ _ _ => pts_nil) (fun _ _ _ _ _ => (pe_and (pe_cal (E := E0) C_is_number (hr.mono (by decide)) pass0 (pa_cons (pv 4) pa_nil)) (pe_one (pe_chain op_le op_lt pe_int (pv 4) (pe_callB (lenL (K := K)) (by rfl) T.n_len PySem.boot_len (pa_cons (pv 0) pa_nil))))))) pa_nil)))) (pss_one (ps_ret pe_bl)) pss_nil)
      (pss_cut (ps_if (pt_not (pt_val (pe_callB (allR (K := K) rfl) (by rfl) T.n_all (by decide +kernel) (pa_cons (pe_lc (own := [("at", 5)]) (g := gName 5) rfl scis_crowd.nd (pi_range1 (by rfl) T.n_range (pa_cons (pe_op op_sub (pe_callB (lenL (K := K)) (by rfl) T.n_len PySem.boot_len (pa_cons (pv 3) pa_nil)) pe_int) pa_nil)) (blkOk_by (N := Nis_crowd) (sc := defScope (top 25)) (by decide +kernel)) (fun _ _ _ _ _ => (pg_name (i := 5) scis_crowd.nd rfl (Or.inl rfl))) (fun _ _ _ _ _ => pts_nil) (fun _ _ _ _ _ => (pe_cmpR op_lt (pe_ix (ixL (K := K)) (pv 3) (pv 5) (fun _ _ => rfl)) (pe_ix (ixL (K := K)) (pv 3) (pe_op op_add (pv 5) pe_int) (fun _ _ => rfl)) (nomark _)))) pa_nil)))) (pss_one (ps_ret pe_bl)) pss_nil)
      (pss_cut (ps_if (pt_not (pt_val (pe_callB (allR (K := K) rfl) (by rfl) T.n_all (by decide +kernel) (pa_cons (pe_lc (own := [("place", 4)]) (g := gName 4) rfl scis_crowd.nd (piL (K := K) (pv 3)) (blkOk_by (N := Nis_crowd) (sc := defScope (top 25)) (by decide +kernel)) (fun _ _ _ _ _ => (pg_name (i := 4) scis_crowd.nd rfl (Or.inl rfl))) (fun _ _ _ _ _ => pts_nil) (fun _ _ _ _ _ => (pe_and (pe_cmpR op_le (pv 1) (pe_ix (ixT (K := K)) (pe_ix (ixL (K := K)) (pv 0) (pv 4) (fun _ _ => rfl)) pe_int (fun _ _ => rfl)) (nomark _)) (pe_one (pe_cmpR op_le (pe_ix (ixT (K := K)) (pe_ix (ixL (K := K)) (pv 0) (pv 4) (fun _ _ => rfl)) pe_int (fun _ _ => rfl)) (pv 2) (nomark _)))))) pa_nil)))) (pss_one (ps_ret pe_bl)) pss_nil)
      (pss_one (ps_ret (pe_cmpR op_gt (pe_callB (lenL (K := K)) (by rfl) T.n_len PySem.boot_len (pa_cons (pv 3) pa_nil)) (pe_cal (E := E0) C_numbers_in (hr.mono (by decide)) pass0 (pa_cons (pv 1) (pa_cons (pv 2) pa_nil))) (nomark _)))))))), ?_⟩
  obtain ⟨xs, hxs, hxl⟩ := hw.len
  have eA : ∀ l h ps, isCrowd ws (.int l) (.int h) (.list ps) = ((ps.all fun p => isNum p && decide (0 ≤ toI p ∧ toI p < (ws.length : Int))) && (((List.range (ps.length - 1)).all fun i => decide (toI (ps.getD i .none) < toI (ps.getD (i + 1) .none))) &&
      ((ps.all fun p => decide (l ≤ (ws.getD (toI p).toNat (0, 0)).1 ∧ (ws.getD (toI p).toNat (0, 0)).2 ≤ h)) && decide ((ps.length : Int) > cnt l h)))) := fun _ _ _ => rfl
  refine ⟨fun σ' H' => ∃ l h ds, dl = .int l ∧ dh = .int h ∧ d = .list ds ∧ σ' = [some (.ref a), some x, some y, some z, none, none] ∧ H = H', ?_, ?_⟩
  · refine ⟨_, rfl, x, dl, rfl, hx, _, rfl, ?_⟩
    cases h1 : isNum dl with
    | false =>
      have e : isCrowd ws dl dh d = false := by unfold isCrowd; rw [h1]; rfl
      rw [e] at q; exact q H (Evl.Ex.refl H)
    | true =>
      refine ⟨_, rfl, y, dh, rfl, hy, _, rfl, ?_⟩
      cases h2 : isNum dh with
      | false =>
        have e : isCrowd ws dl dh d = false := by unfold isCrowd; rw [h1, h2]; rfl
        rw [e] at q; exact q H (Evl.Ex.refl H)
      | true =>
        refine ⟨_, rfl, z, _, _, _, _, rfl, .ty "list", ty_dp hd, kit_ty (kit_list d), _, rfl, ?_⟩
        cases h3 : isT "list" d with
        | false =>
          have e : isCrowd ws dl dh d = false := by
            unfold isCrowd; rw [h1, h2]
            cases d <;> first | rfl | (exfalso; revert h3; simp [isT])
          rw [e] at q; exact q H (Evl.Ex.refl H)
        | true =>
          obtain ⟨ds, rfl⟩ := isT_list h3
          obtain ⟨l, rfl⟩ := isNum_int h1
          obtain ⟨h, rfl⟩ := isNum_int h2
          exact ⟨l, h, ds, rfl, rfl, rfl, rfl, rfl⟩
  rintro σ' H' ⟨l, h, ds, rfl, rfl, rfl, rfl, rfl⟩
  rw [eA] at q
  cases hx
  cases hy
  obtain ⟨b, ys, rfl, hs, ha⟩ := dp_list hd
  have hyl := dpa_len ha
  have hz := hz ds rfl
  refine ⟨fun σ' H' => σ' = [some (.ref a), some (.int l), some (.int h), some (.ref b), none, none] ∧ Ex H H' ∧ (ds.all fun p => isNum p && decide (0 ≤ toI p ∧ toI p < (ws.length : Int))) = true, ?_, ?_⟩
  · refine ⟨_, rfl, b, rfl, ⟨ys, hs⟩, fun D hD => ?_⟩
    refine lcB (K := K) walk_list (fun H' e => ex_l e hs) (by omega) (fun i => isNum (ds.getD i .none) && decide (0 ≤ toI (ds.getD i .none) ∧ toI (ds.getD i .none) < (ws.length : Int))) (fun i => [some (.ref a), some (.int l), some (.int h), some (.ref b), some (ys.getD i .non), none])
      (fun i y G' H' H'' hi a' yy Q q => turn_name (σ0 := [some (.ref a), some (.int l), some (.int h), some (.ref b), none, none]) (j := 4) a' yy (by rw [List.getD_eq_getElem?_getD]; simp [hi]) q) (fun _ _ => rfl) (fun i H' hi e Q q => ?_) hD (fun H' e hl' => ?_)
    · obtain ⟨d1, e1, g1⟩ := dpa_get ha (i := i) (v := ys.getD i .non) (by rw [List.getD_eq_getElem?_getD]; simp [hi])
      have e1' := getD_of (d := PyData.none) e1
      rw [e1'] at q
      have g1' := ex_dp e _ _ g1
      refine ⟨_, rfl, _, d1, rfl, g1', _, rfl, ?_⟩
      refine ite2 (fun h1 => ?_) (fun h1 => ?_)
      · obtain ⟨j, rfl, ej⟩ := dp_isInt g1' h1
        rw [ej]
        refine ⟨_, rfl, 0, j, rfl, rfl, _, rfl, ?_⟩
        have q : ∀ H2, Ex H' H2 → Q (.bl (decide (0 ≤ j ∧ j < (ws.length : Int)))) H2 := q
        refine ite2 (fun h2 => ?_) (fun h2 => ?_)
        · have h2 := of_decide_eq_true h2
          refine ⟨_, rfl, a, xs, rfl, .inl (ex_l e hxs), j, _, rfl, rfl, ?_⟩
          have q := q H' (Evl.Ex.refl _)
          simp only [h2, true_and] at q
          rw [hxl]
          exact q
        · have h2 : ¬ 0 ≤ j := fun z => h2 (decide_eq_true z)
          have q := q H' (Evl.Ex.refl _)
          simp only [h2, false_and, decide_false] at q
          exact q
      · have h1 : isNum d1 = false := by simpa using h1
        rw [h1] at q
        exact q H' (Evl.Ex.refl _)
    · refine ⟨D, _, rfl, hl', _, rfl, ?_⟩
      rw [hyl, all_at ds .none fun p => isNum p && decide (0 ≤ toI p ∧ toI p < (ws.length : Int))]
      cases hb : ds.all fun p => isNum p && decide (0 ≤ toI p ∧ toI p < (ws.length : Int)) with
      | false => rw [hb] at q; exact q H' e
      | true => exact ⟨rfl, e, rfl⟩
  rintro σ' H1 ⟨rfl, e1, hin⟩
  rw [hin] at q
  have hnum : ds.all isNum = true := by
    rw [List.all_eq_true] at hin ⊢
    intro d hd
    have := hin d hd
    rw [Bool.and_eq_true] at this
    exact this.1
  have hrg : ∀ i, i < ds.length → 0 ≤ toI (ds.getD i .none) ∧ toI (ds.getD i .none) < (ws.length : Int) := by
    intro i hi
    rw [List.all_eq_true] at hin
    have := hin (ds.getD i .none) (by rw [List.getD_eq_getElem?_getD, List.getElem?_eq_getElem hi]; exact List.getElem_mem hi)
    rw [Bool.and_eq_true] at this
    exact of_decide_eq_true this.2
  obtain rfl := num_ds ha hnum
  have hml : ((ds.map toI).map V.int).length = ds.length := by simp
  refine ⟨fun σ' H' => σ' = [some (.ref a), some (.int l), some (.int h), some (.ref b), none, none] ∧ Ex H H' ∧ ((List.range (ds.length - 1)).all fun i => decide (toI (ds.getD i .none) < toI (ds.getD (i + 1) .none))) = true, ?_, ?_⟩
  · refine ⟨_, rfl, b, _, rfl, .inl (ex_l e1 hs), _, 1, rfl, rfl, _, rfl, by rw [hml]; omega, by rw [hml]; omega, fun D hD => ?_⟩
    have en : ((((ds.map toI).map V.int).length : Int) - 1).toNat = ds.length - 1 := by rw [hml]; omega
    rw [en]
    refine lcB (K := K) walk_range (fun H' e => trivial) (by omega) (fun i => decide (toI (ds.getD i .none) < toI (ds.getD (i + 1) .none))) (fun i => [some (.ref a), some (.int l), some (.int h), some (.ref b), none, some (.int (i : Nat))])
      (fun i y G' H' H'' hi a' yy Q q => turn_range0 (σ0 := [some (.ref a), some (.int l), some (.int h), some (.ref b), none, none]) (j := 5) a' yy q) (fun _ _ => rfl) (fun i H' hi e Q q => ?_) hD (fun H' e hl' => ?_)
    · have hsH := ex_l (e1.trans e) hs
      refine ⟨_, rfl, _, rfl, b, _, _, _, rfl, rfl, hsH, at_nat (getD_int (by omega)), _, rfl, _, rfl, (i : Int), 1, rfl, rfl, b, _, _, _, rfl, rfl, hsH, at_of (j := i + 1) (by omega) (getD_int (by omega)), _, _, rfl, rfl, q H' (Evl.Ex.refl _)⟩
    · refine ⟨D, _, rfl, hl', _, rfl, ?_⟩
      have ea : (((List.range (ds.length - 1)).map fun i => decide (toI (ds.getD i .none) < toI (ds.getD (i + 1) .none))).all id) = ((List.range (ds.length - 1)).all fun i => decide (toI (ds.getD i .none) < toI (ds.getD (i + 1) .none))) := by rw [List.all_map]; rfl
      rw [ea]
      cases hb : ((List.range (ds.length - 1)).all fun i => decide (toI (ds.getD i .none) < toI (ds.getD (i + 1) .none))) with
      | false => rw [hb] at q; exact q H' (e1.trans e)
      | true => exact ⟨rfl, e1.trans e, rfl⟩
  rintro σ' H2 ⟨rfl, e2, hasc⟩
  rw [hasc] at q
  refine ⟨fun σ' H' => σ' = [some (.ref a), some (.int l), some (.int h), some (.ref b), none, none] ∧ Ex H H' ∧ (ds.all fun p => decide (l ≤ (ws.getD (toI p).toNat (0, 0)).1 ∧ (ws.getD (toI p).toNat (0, 0)).2 ≤ h)) = true, ?_, ?_⟩
  · have hs2 := ex_l e2 hs
    refine ⟨_, rfl, b, rfl, ⟨_, hs2⟩, fun D hD => ?_⟩
    refine lcB (K := K) walk_list (fun H' e => ex_l e hs2) (by omega) (fun i => decide (l ≤ (ws.getD (toI (ds.getD i .none)).toNat (0, 0)).1 ∧ (ws.getD (toI (ds.getD i .none)).toNat (0, 0)).2 ≤ h)) (fun i => [some (.ref a), some (.int l), some (.int h), some (.ref b), some (.int (toI (ds.getD i .none))), none])
      (fun i y G' H' H'' hi a' yy Q q => turn_name (σ0 := [some (.ref a), some (.int l), some (.int h), some (.ref b), none, none]) (j := 4) a' yy (getD_int (by omega)) q) (fun _ _ => rfl) (fun i H' hi e Q q => ?_) hD (fun H' e hl' => ?_)
    · obtain ⟨r0, r1⟩ := hrg i (by omega)
      have hw' := hw.keep (e2.trans e)
      generalize toI (ds.getD i .none) = j at q r0 r1 ⊢
      obtain ⟨k, rfl⟩ : ∃ k : Nat, j = (k : Int) := ⟨j.toNat, by omega⟩
      rw [Int.toNat_natCast] at q
      refine ⟨_, rfl, _, rfl, _, rfl, wix0 hw' (by omega) ⟨_, _, rfl, rfl, _, rfl, ?_⟩⟩
      refine ite2 (fun h1 => ?_) (fun h1 => ?_)
      · have h1 := of_decide_eq_true h1
        refine ⟨_, rfl, _, rfl, wix1 hw' (by omega) ⟨_, rfl, _, _, rfl, rfl, ?_⟩⟩
        have q := q H' (Evl.Ex.refl _)
        simp only [h1, true_and] at q
        exact q
      · have h1 : ¬ l ≤ (ws.getD k (0, 0)).1 := fun z => h1 (decide_eq_true z)
        have q := q H' (Evl.Ex.refl _)
        simp only [h1, false_and, decide_false] at q
        exact q
    · refine ⟨D, _, rfl, hl', _, rfl, ?_⟩
      rw [hml, all_at ds .none fun p => decide (l ≤ (ws.getD (toI p).toNat (0, 0)).1 ∧ (ws.getD (toI p).toNat (0, 0)).2 ≤ h)]
      cases hb : ds.all fun p => decide (l ≤ (ws.getD (toI p).toNat (0, 0)).1 ∧ (ws.getD (toI p).toNat (0, 0)).2 ≤ h) with
      | false => rw [hb] at q; exact q H' (e2.trans e)
      | true => exact ⟨rfl, e2.trans e, rfl⟩
  rintro σ' H3 ⟨rfl, e3, hins⟩
  rw [hins] at q
  refine ⟨_, rfl, b, _, rfl, .inl (ex_l e3 hs), _, rfl, _, rfl, l, h, rfl, _, _, rfl, rfl, ?_⟩
  rw [hml]
  exact q H3 e3
end
end K44
namespace K44
open PySem PySem.Spec PyProof.Rows L2 Hx Hd M44
open Evl (pss_cut tCut ex_l ex_t)
theorem dec_str {x y : Str} : decide (V.str x = V.str y) = decide (x = y) := decide_eq_decide.mpr ⟨fun h => V.str.inj h, fun h => congrArg V.str h⟩
section
variable {P : Program} {w : World} {K : PySem.W.Frag} {mg : Str → Option Value} {base : Heap}
/-- no list within the tuple is too long -/
def Small (v : PyData) : Prop := ∀ ds, v = .tuple ds → ∀ es, PyData.list es ∈ ds → es.length ≤ 100000
def spIs (K : PySem.W.Frag) : Sp := fun vs H Q E => ∃ x y d v, vs = [x, y] ∧ Dz K H x d ∧ Dp K H y v ∧ Small v ∧ (∀ ds, d = .list ds → ds.length ≤ 100000) ∧ (isWins d = false → Err (He.ga K "BadValue") "name" "windows" H E) ∧
  (∀ ws : List Wn, d = .list (ws.map encP) → ws.length ≤ 4000 ∧ ∀ H2, Ex H H2 → Q (.bl (isSeated ws v)) H2)
abbrev Nis_seated : List Str := ["windows", "value"]
theorem scis_seated : FnScope Nis_seated ["windows", "value"] (defScope (top 26)) := ⟨rfl, rfl, rfl, by decide +kernel, rfl, by decide +kernel, by decide +kernel⟩
theorem ok_isseated (T : Txt K mg) (C_check : Cal P w K mg base (L2.CX P w) 3 "check_windows" ["windows"] (spChk K)) (C_are_seats : Cal P w K mg base CX0 2 "are_seats" ["windows", "value"] (spAre K))
    (C_is_crowd : Cal P w K mg base CX0 2 "is_crowd" ["windows", "low", "high", "places"] (spCrd K)) : Cal P w K mg base (L2.CX P w) 4 "is_seated" ["windows", "value"] (spIs K) := by
  refine mkCalX T.g_is_seated T.d_is_seated scis_seated (fun _ _ _ _ _ _ us hl => match us, hl with | [_, _], _ => rfl) (fun vs H Q E h => ?_) fun cdv A outer s H vs Q E hr h => ?_
  · obtain ⟨x, _, _, d, rfl, _⟩ := h; rfl
  obtain ⟨x, y, d, v, rfl, hd, hv, hsm, hz, q1, q2⟩ := h
  refine ⟨_, (pss_cons (ps_expr (pe_cal (E := E) C_check (hr.mono (by decide)) (passes_call (takes_of rfl rfl rfl rfl) (fun _ _ _ _ h => h)) (pa_cons (pv 0) pa_nil)))
      (PSs.nox (pss_cut (ps_if (PW.pt (pw_or (pt_not (pt_val (pe_callB (isiR (K := K)) (by rfl) T.n_isinstance (by decide +kernel) (pa_cons (pv 1) (pa_cons (pe_bltn (v := .ty "tuple") rfl T.n_tuple (by decide +kernel) rfl) pa_nil))))) (pw_or (pt_cmpR op_eq (pe_callB (lenL (K := K)) (by rfl) T.n_len PySem.boot_len (pa_cons (pv 1) pa_nil)) pe_int (nomark _)) (pw_or1 (pt_not (pt_val (pe_callB (isiR (K := K)) (by rfl) T.n_isinstance (by decide +kernel) (pa_cons (pe_ix (ixT (K := K)) (pv 1) pe_int (fun _ _ => rfl)) (pa_cons (pe_bltn (v := .ty "str") rfl T.n_str (by decide +kernel) rfl) pa_nil))))))))) (pss_one (ps_ret pe_bl)) pss_nil)
      (pss_cut (ps_if (PW.pt (pw_and (pt_cmpR op_eq (pe_callB (lenL (K := K)) (by rfl) T.n_len PySem.boot_len (pa_cons (pv 1) pa_nil)) pe_int (nomark _)) (pw_and1 (pt_cmpR op_eq (pe_ix (ixT (K := K)) (pv 1) pe_int (fun _ _ => rfl)) pe_str (nomark _))))) (pss_one (ps_ret (pe_cal (E := E0) C_are_seats (hr.mono (by decide)) pass0 (pa_cons (pv 0) (pa_cons (pe_ix (ixT (K := K)) (pv 1) pe_int (fun _ _ => rfl)) pa_nil))))) pss_nil)
      (pss_one (ps_ret (pe_and (pe_cmpR op_eq (pe_callB (lenL (K := K)) (by rfl) T.n_len PySem.boot_len (pa_cons (pv 1) pa_nil)) pe_int (nomark _)) (pe_and (pe_cmpR op_eq (pe_ix (ixT (K := K)) (pv 1) pe_int (fun _ _ => rfl)) pe_str (nomark _)) (pe_one (pe_cal (E := E0) C_is_crowd (hr.mono (by decide)) pass0 (pa_cons (pv 0) (pa_cons (pe_ix (ixT (K := K)) (pv 1) pe_int (fun _ _ => rfl)) (pa_cons (pe_ix (ixT (K := K)) (pv 1) pe_int (fun _ _ => rfl)) (pa_cons (pe_ix (ixT (K := K)) (pv 1) pe_int (fun _ _ => rfl)) pa_nil)))))))))))))), ?_⟩
  refine ⟨_, rfl, x, d, rfl, hd, hz, fun hw H1 e1 => ?_, q1⟩
  obtain ⟨ws, rfl⟩ := isWins_enc hw
  obtain ⟨a, rfl, hW⟩ := wns_of hd
  have hW1 := hW.keep e1
  obtain ⟨hn, q⟩ := q2 ws rfl
  have hv1 := ex_dp e1 _ _ hv
  refine ⟨fun σ' H' => ∃ z ds, v = .tuple (.str z :: ds) ∧ σ' = [some (.ref a), some y] ∧ H1 = H', ?_, ?_⟩
  · refine ⟨_, rfl, y, _, _, _, _, rfl, .ty "tuple", ty_dp hv1, kit_ty (kit_tup v), _, rfl, ?_⟩
    cases hT : isT "tuple" v with
    | false =>
      have e : isSeated ws v = false := by cases v <;> first | rfl | (exfalso; revert hT; simp [isT])
      rw [e] at q; exact q H1 e1
    | true =>
      obtain ⟨ds, rfl⟩ := isT_tup hT
      obtain ⟨b, ys, rfl, hs, ha⟩ := dp_tup hv1
      refine ⟨_, rfl, b, ys, rfl, .inr hs, rfl, _, rfl, ?_⟩
      rw [dec_int]
      cases ha with
      | nil => exact q H1 e1
      | cons h1 h2 =>
        rename_i d0 v0 ds0 vs0
        refine ite2 (fun h => ?_) (fun _ => ?_)
        · exfalso
          rw [beq_iff_eq, List.length_cons] at h
          omega
        refine ⟨_, rfl, b, _, 0, _, rfl, rfl, hs, at_of (j := 0) rfl rfl, _, _, _, _, _, rfl, .ty "str", ty_dp h1, kit_ty (kit_str _), _, rfl, ?_⟩
        cases h3 : isT "str" ds0 with
        | false =>
          have e : ∀ ds : List PyData, isSeated ws (.tuple (ds0 :: ds)) = false := by
            intro ds
            cases ds0 <;> first | (rcases ds with _ | ⟨_, _ | ⟨_, _ | ⟨_, _ | _⟩⟩⟩ <;> rfl) | (exfalso; revert h3; simp [isT])
          rw [e] at q; exact q H1 e1
        | true =>
          obtain ⟨z, rfl⟩ := isT_str h3
          exact ⟨z, _, rfl, rfl, rfl⟩
  rintro σ' H' ⟨z, ds, rfl, rfl, rfl⟩
  obtain ⟨b, ys, rfl, hs, ha⟩ := dp_tup hv1
  have hl := dpa_len ha
  cases ha with
  | cons h1 h2 =>
    cases h1
    rename_i vs0
    refine ⟨fun σ' H' => σ' = [some (.ref a), some (.ref b)] ∧ H1 = H' ∧ (ds.length = 1 → isSeated ws (.tuple (.str z :: ds)) = false), ?_, ?_⟩
    · refine ⟨_, rfl, b, _, rfl, .inr hs, rfl, _, rfl, ?_⟩
      rw [dec_int]
      refine ite2 (fun h => ?_) (fun h => ⟨rfl, rfl, fun h' => ?_⟩)
      · rw [beq_iff_eq, List.length_cons] at h
        obtain ⟨d1, rfl⟩ : ∃ d1, ds = [d1] := by
          match ds, (show ds.length = 1 by rw [List.length_cons, List.length_cons] at hl; omega) with
          | [d1], _ => exact ⟨d1, rfl⟩
        refine ⟨_, rfl, b, _, 0, _, rfl, rfl, hs, at_of (j := 0) rfl rfl, rfl, _, rfl, ?_⟩
        rw [dec_str]
        have e : isSeated ws (.tuple [.str z, d1]) = (decide (z = PySem.Str.ofString "seats") && areSeats ws d1) := rfl
        rw [e] at q
        refine ite2 (fun hz1 => ?_) (fun hz1 => ?_)
        · cases h2 with
          | cons g1 g2 =>
            cases g2
            have q' : ∀ H2, Ex H H2 → Q (.bl (areSeats ws d1)) H2 := by rw [hz1] at q; exact q
            exact ⟨_, rfl, _, rfl, b, _, 1, _, rfl, rfl, hs, rfl, a, ws, _, d1, rfl, hW1, hn, g1, fun H2 e2 => q' H2 (e1.trans e2)⟩
        · refine ⟨rfl, rfl, fun _ => ?_⟩
          rw [e]
          have hz1 : decide (z = PySem.Str.ofString "seats") = false := by simpa using hz1
          rw [hz1]; rfl
      · exfalso
        apply h
        rw [beq_iff_eq, hl, List.length_cons, h']
        rfl
    · rintro σ' H' ⟨rfl, rfl, hno⟩
      refine ⟨_, rfl, b, _, rfl, .inr hs, rfl, _, rfl, ?_⟩
      rw [dec_int]
      refine ite2 (fun h => ?_) (fun h => ?_)
      · rw [beq_iff_eq, List.length_cons] at h
        obtain ⟨d1, d2, d3, rfl⟩ : ∃ d1 d2 d3, ds = [d1, d2, d3] := by
          match ds, (show ds.length = 3 by rw [List.length_cons, List.length_cons] at hl; omega) with
          | [d1, d2, d3], _ => exact ⟨d1, d2, d3, rfl⟩
        have e : isSeated ws (.tuple [.str z, d1, d2, d3]) = (decide (z = PySem.Str.ofString "crowd") && isCrowd ws d1 d2 d3) := rfl
        rw [e] at q
        refine ⟨_, rfl, b, _, 0, _, rfl, rfl, hs, at_of (j := 0) rfl rfl, rfl, _, rfl, ?_⟩
        rw [dec_str]
        refine ite2 (fun hz1 => ?_) (fun hz1 => ?_)
        · cases h2 with
          | cons g1 g2 => cases g2 with
            | cons g2 g3 => cases g3 with
              | cons g3 g4 =>
                cases g4
                have q' : ∀ H2, Ex H H2 → Q (.bl (isCrowd ws d1 d2 d3)) H2 := by rw [hz1] at q; exact q
                exact ⟨_, rfl, _, rfl, b, _, 1, _, rfl, rfl, hs, rfl, _, rfl, b, _, 2, _, rfl, rfl, hs, rfl, _, rfl, b, _, 3, _, rfl, rfl, hs, rfl, a, ws, _, _, _, d1, d2, d3, rfl, hW1, hn, g1, g2, g3, fun es he => hsm _ rfl es (by simp [he]), fun H2 e2 => q' H2 (e1.trans e2)⟩
        · have hz1 : decide (z = PySem.Str.ofString "crowd") = false := by simpa using hz1
          rw [hz1] at q
          exact q H1 e1
      · have hf : isSeated ws (.tuple (.str z :: ds)) = false := by
          rcases ds with _ | ⟨d1, _ | ⟨d2, _ | ⟨d3, _ | _⟩⟩⟩
          · rfl
          · exact hno rfl
          · rfl
          · exfalso
            apply h
            rw [beq_iff_eq, hl]
            rfl
          · rfl
        rw [hf] at q
        have hb : ((((V.str z :: vs0).length : Nat) : Int) == 4) = false := by simpa using h
        have q := q H1 e1
        first
          | exact q
          | (show Q (.bl ((((V.str z :: vs0).length : Nat) : Int) == 4)) H1
             rw [hb]; exact q)
end
end K44
namespace K44
open PySem PySem.Spec PyProof.Rows L2 Hx Hd M44
open Evl (pss_cut tCut ex_l ex_t)
section
variable {P : Program} {w : World} {K : PySem.W.Frag} {mg : Str → Option Value} {base : Heap}
/-! the law's small judges -/
def spLNum (K : PySem.W.Frag) : Sp := fun vs H Q _ => ∃ x lo hi d, vs = [x, lo, hi] ∧ Dp K H x d ∧ (isNum d = false → Q (.bl false) H) ∧ (∀ i, d = .int i → ∃ l h, lo = .int l ∧ hi = .int h ∧ Q (.bl (decide (l ≤ i) && decide (i ≤ h))) H)
abbrev N_law_number : List Str := ["value", "low", "high"]
theorem sc_law_number : FnScope N_law_number ["value", "low", "high"] (defScope (top 32)) := ⟨rfl, rfl, rfl, by decide +kernel, rfl, by decide +kernel, by decide +kernel⟩
theorem ok_lnum (T : Txt K mg) : Cal P w K mg base CX0 1 "_law_number" ["value", "low", "high"] (spLNum K) := by
  refine mkCal T.g__law_number T.d__law_number sc_law_number (fun _ _ _ _ _ _ us hl => match us, hl with | [_, _, _], _ => rfl) (fun vs H Q E h => ?_) fun cdv A outer s H vs Q E hr h => ?_
  · obtain ⟨x, _, _, d, rfl, _⟩ := h; rfl
  obtain ⟨x, lo, hi, d, rfl, hd, q1, q2⟩ := h
  refine ⟨_, (pss_cut (ps_if (PW.pt (pw_or (pt_not (pt_val (pe_callB (isiR (K := K)) (by rfl) T.n_isinstance (by decide +kernel) (pa_cons (pv 0) (pa_cons (pe_bltn (v := .ty "int") rfl T.n_int (by decide +kernel) rfl) pa_nil))))) (pw_or1 (pt_val (pe_callB (isiR (K := K)) (by rfl) T.n_isinstance (by decide +kernel) (pa_cons (pv 0) (pa_cons (pe_bltn (v := .ty "bool") rfl T.n_bool (by decide +kernel) rfl) pa_nil))))))) (pss_one (ps_ret pe_bl)) pss_nil)
      (pss_one (ps_ret (pe_and (pe_cmpR op_le (pv 1) (pv 0) (nomark _)) (pe_one (pe_cmpR op_le (pv 0) (pv 2) (nomark _))))))), ?_⟩
  refine ⟨fun σ' H' => ∃ i, d = .int i ∧ σ' = [some x, some lo, some hi] ∧ H = H', ?_, ?_⟩
  · refine ⟨_, rfl, x, _, _, _, _, rfl, .ty "int", ty_dp hd, kit_ty (kit_int d), _, rfl, ?_⟩
    cases h1 : isT "int" d with
    | false => exact q1 (by cases d <;> first | rfl | (exfalso; revert h1; simp [isT]))
    | true =>
      refine ⟨_, rfl, x, _, _, _, _, rfl, .ty "bool", ty_dp hd, kit_ty (kit_bool d), _, rfl, ?_⟩
      cases h2 : isT "bool" d with
      | true => exact q1 (by cases d <;> first | rfl | (exfalso; revert h2; simp [isT]))
      | false =>
        obtain ⟨i, rfl⟩ : ∃ i, d = .int i := by cases d <;> first | exact ⟨_, rfl⟩ | (exfalso; revert h1 h2; simp [isT])
        exact ⟨i, rfl, rfl, rfl⟩
  · rintro σ' H' ⟨i, rfl, rfl, rfl⟩
    obtain ⟨l, h, rfl, rfl, q⟩ := q2 i rfl
    cases hd
    refine ⟨_, rfl, _, rfl, l, i, rfl, rfl, _, rfl, ?_⟩
    refine ite2 (fun h1 => ?_) (fun h1 => ?_)
    · rw [h1] at q
      exact ⟨_, rfl, _, rfl, i, h, rfl, rfl, q⟩
    · have h1 : decide (l ≤ i) = false := by simpa using h1
      rw [h1] at q
      exact q
def isWord (z : Str) (d : PyData) : Bool := match d with | .str y => decide (y = z) | _ => false
def spWord (K : PySem.W.Frag) : Sp := fun vs H Q _ => ∃ x z d, vs = [x, .str z] ∧ Dp K H x d ∧ Q (.bl (isWord z d)) H
abbrev N_law_is_word : List Str := ["value", "word"]
theorem sc_law_is_word : FnScope N_law_is_word ["value", "word"] (defScope (top 33)) := ⟨rfl, rfl, rfl, by decide +kernel, rfl, by decide +kernel, by decide +kernel⟩
theorem ok_word (T : Txt K mg) : Cal P w K mg base CX0 1 "_law_is_word" ["value", "word"] (spWord K) := by
  refine mkCal T.g__law_is_word T.d__law_is_word sc_law_is_word (fun _ _ _ _ _ _ us hl => match us, hl with | [_, _], _ => rfl) (fun vs H Q E h => ?_) fun cdv A outer s H vs Q E hr h => ?_
  · obtain ⟨x, _, d, rfl, _⟩ := h; rfl
  obtain ⟨x, z, d, rfl, hd, q⟩ := h
  refine ⟨_, (pss_one (ps_ret (pe_and (pe_callB (isiR (K := K)) (by rfl) T.n_isinstance (by decide +kernel) (pa_cons (pv 0) (pa_cons (pe_bltn (v := .ty "str") rfl T.n_str (by decide +kernel) rfl) pa_nil))) (pe_one (pe_cmpR op_eq (pv 0) (pv 1) (nomark _)))))), ?_⟩
  refine ⟨_, rfl, x, _, _, _, _, rfl, .ty "str", ty_dp hd, kit_ty (kit_str d), _, rfl, ?_⟩
  cases h1 : isT "str" d with
  | false =>
    have e : isWord z d = false := by cases d <;> first | rfl | (exfalso; revert h1; simp [isT])
    rw [e] at q; exact q
  | true =>
    obtain ⟨y, rfl⟩ := isT_str h1
    cases hd
    refine ⟨_, rfl, _, rfl, rfl, ?_⟩
    rw [dec_str]
    exact q
def isTupN (m : Int) (d : PyData) : Bool := match d with | .tuple ds => decide ((ds.length : Int) = m) | _ => false
def isLstN (m : Int) (d : PyData) : Bool := match d with | .list ds => decide ((ds.length : Int) = m) | _ => false
def spRow (K : PySem.W.Frag) : Sp := fun vs H Q _ => ∃ x z m d, vs = [x, .str z, .int m] ∧ Dp K H x d ∧ ((z = Str.ofString "T" ∧ Q (.bl (isTupN m d)) H) ∨ (z = Str.ofString "L" ∧ Q (.bl (isLstN m d)) H))
abbrev N_law_is_row : List Str := ["value", "kind", "many"]
theorem sc_law_is_row : FnScope N_law_is_row ["value", "kind", "many"] (defScope (top 34)) := ⟨rfl, rfl, rfl, by decide +kernel, rfl, by decide +kernel, by decide +kernel⟩
theorem ok_row (T : Txt K mg) : Cal P w K mg base CX0 1 "_law_is_row" ["value", "kind", "many"] (spRow K) := by
  refine mkCal T.g__law_is_row T.d__law_is_row sc_law_is_row (fun _ _ _ _ _ _ us hl => match us, hl with | [_, _, _], _ => rfl) (fun vs H Q E h => ?_) fun cdv A outer s H vs Q E hr h => ?_
  · obtain ⟨x, _, _, d, rfl, _⟩ := h; rfl
  obtain ⟨x, z, m, d, rfl, hd, q⟩ := h
  refine ⟨_, (pss_cut (ps_if (PW.pt (pw_and (pt_cmpR op_eq (pv 1) pe_str (nomark _)) (pw_and1 (pt_not (pt_val (pe_callB (isiR (K := K)) (by rfl) T.n_isinstance (by decide +kernel) (pa_cons (pv 0) (pa_cons (pe_bltn (v := .ty "list") rfl T.n_list (by decide +kernel) rfl) pa_nil)))))))) (pss_one (ps_ret pe_bl)) pss_nil)
      (pss_cut (ps_if (PW.pt (pw_and (pt_cmpR op_eq (pv 1) pe_str (nomark _)) (pw_and1 (pt_not (pt_val (pe_callB (isiR (K := K)) (by rfl) T.n_isinstance (by decide +kernel) (pa_cons (pv 0) (pa_cons (pe_bltn (v := .ty "tuple") rfl T.n_tuple (by decide +kernel) rfl) pa_nil)))))))) (pss_one (ps_ret pe_bl)) pss_nil)
      (pss_one (ps_ret (pe_or (pe_cmpR op_isN (pv 2) pe_non (nomark _)) (pe_one (pe_cmpR op_eq (pe_callB (lenL (K := K)) (by rfl) T.n_len PySem.boot_len (pa_cons (pv 0) pa_nil)) (pv 2) (nomark _)))))))), ?_⟩
  refine ⟨fun σ' H' => σ' = [some x, some (.str z), some (.int m)] ∧ H = H' ∧ (z = Str.ofString "L" → isT "list" d = true), ?_, ?_⟩
  · refine ⟨_, rfl, rfl, _, rfl, ?_⟩
    rw [dec_str]
    rcases q with ⟨rfl, q⟩ | ⟨rfl, q⟩
    · exact ⟨rfl, rfl, fun h => absurd h (by decide +kernel)⟩
    · refine ⟨_, rfl, x, _, _, _, _, rfl, .ty "list", ty_dp hd, kit_ty (kit_list d), _, rfl, ?_⟩
      cases h1 : isT "list" d with
      | false =>
        have e : isLstN m d = false := by cases d <;> first | rfl | (exfalso; revert h1; simp [isT])
        rw [e] at q; exact q
      | true => exact ⟨rfl, rfl, fun _ => rfl⟩
  rintro σ' H' ⟨rfl, rfl, hL⟩
  refine ⟨fun σ' H' => σ' = [some x, some (.str z), some (.int m)] ∧ H = H' ∧ (z = Str.ofString "T" → isT "tuple" d = true), ?_, ?_⟩
  · refine ⟨_, rfl, rfl, _, rfl, ?_⟩
    rw [dec_str]
    rcases q with ⟨rfl, q⟩ | ⟨rfl, q⟩
    · refine ⟨_, rfl, x, _, _, _, _, rfl, .ty "tuple", ty_dp hd, kit_ty (kit_tup d), _, rfl, ?_⟩
      cases h1 : isT "tuple" d with
      | false =>
        have e : isTupN m d = false := by cases d <;> first | rfl | (exfalso; revert h1; simp [isT])
        rw [e] at q; exact q
      | true => exact ⟨rfl, rfl, fun _ => rfl⟩
    · exact ⟨rfl, rfl, fun h => absurd h (by decide +kernel)⟩
  rintro σ' H' ⟨rfl, rfl, hT⟩
  refine ⟨_, rfl, rfl, _, rfl, ?_⟩
  rcases q with ⟨rfl, q⟩ | ⟨rfl, q⟩
  · obtain ⟨ds, rfl⟩ := isT_tup (hT rfl)
    obtain ⟨b, ys, rfl, hs, ha⟩ := dp_tup hd
    refine ⟨_, rfl, b, ys, rfl, .inr hs, _, rfl, rfl, ?_⟩
    rw [dec_int, dpa_len ha]
    have e : ((ds.length : Int) == m) = isTupN m (.tuple ds) := by rw [Bool.eq_iff_iff, beq_iff_eq]; exact decide_eq_true_iff.symm
    rw [e]; exact q
  · obtain ⟨ds, rfl⟩ := isT_list (hL rfl)
    obtain ⟨b, ys, rfl, hs, ha⟩ := dp_list hd
    refine ⟨_, rfl, b, ys, rfl, .inl hs, _, rfl, rfl, ?_⟩
    rw [dec_int, dpa_len ha]
    have e : ((ds.length : Int) == m) = isLstN m (.list ds) := by rw [Bool.eq_iff_iff, beq_iff_eq]; exact decide_eq_true_iff.symm
    rw [e]; exact q
abbrev N_law_count : List Str := ["low", "high"]
theorem sc_law_count : FnScope N_law_count ["low", "high"] (defScope (top 43)) := ⟨rfl, rfl, rfl, by decide +kernel, rfl, by decide +kernel, by decide +kernel⟩
theorem ok_count (T : Txt K mg) : Cal P w K mg base CX0 1 "_law_count" ["low", "high"] spCnt := by
  refine mkCal T.g__law_count T.d__law_count sc_law_count (fun _ _ _ _ _ _ us hl => match us, hl with | [_, _], _ => rfl) (fun vs H Q E h => ?_) fun cdv A outer s H vs Q E hr h => ?_
  · obtain ⟨x, d, rfl, _⟩ := h; rfl
  obtain ⟨lo, hi, rfl, q⟩ := h
  refine ⟨_, (pss_one (ps_ret (pe_callB (call_max2 rfl) (by rfl) T.n_max (by decide +kernel) (pa_cons pe_int (pa_cons (pe_op op_add (pe_op op_sub (pv 1) (pv 0)) pe_int) pa_nil))))), ?_⟩
  exact ⟨_, rfl, _, rfl, hi, lo, rfl, rfl, _, 1, rfl, rfl, 0, _, rfl, q⟩
def spInside (K : PySem.W.Frag) : Sp := fun vs H Q _ => ∃ a ws lo hi, vs = [.ref a, .int lo, .int hi] ∧ Wns K H a ws ∧ ws.length ≤ 100000 ∧ ∀ p H2, H p = none → Ex H H2 → H2 p = some (.lst ((inside ws lo hi).map V.int)) → Q (.ref p) H2
abbrev N_law_inside_places : List Str := ["windows", "low", "high", "at"]
theorem sc_law_inside_places : FnScope N_law_inside_places ["windows", "low", "high"] (defScope (top 44)) := ⟨rfl, rfl, rfl, by decide +kernel, rfl, by decide +kernel, by decide +kernel⟩
theorem ok_inside (T : Txt K mg) : Cal P w K mg base CX0 1 "_law_inside_places" ["windows", "low", "high"] (spInside K) := by
  refine mkCal T.g__law_inside_places T.d__law_inside_places sc_law_inside_places (fun _ _ _ _ _ _ us hl => match us, hl with | [_, _, _], _ => rfl) (fun vs H Q E h => ?_) fun cdv A outer s H vs Q E hr h => ?_
  · obtain ⟨x, _, _, d, rfl, _⟩ := h; rfl
  obtain ⟨a, ws, lo, hi, rfl, hw, hn, q⟩ := h
  refine ⟨_, (pss_one (ps_ret (pe_lc (own := [("at", 3)]) (g := gName 3) rfl sc_law_inside_places.nd (pi_range1 (by rfl) T.n_range (pa_cons (pe_callB (lenL (K := K)) (by rfl) T.n_len PySem.boot_len (pa_cons (pv 0) pa_nil)) pa_nil)) (blkOk_by (N := N_law_inside_places) (sc := defScope (top 44)) (by decide +kernel)) (fun _ _ _ _ _ => (pg_name (i := 3) sc_law_inside_places.nd rfl (Or.inl rfl))) (fun _ _ _ _ _ => pts_one (PW.pt (pw_and (pt_cmpR op_le (pv 1) (pe_ix (ixT (K := K)) (pe_ix (ixL (K := K)) (pv 0) (pv 3) (fun _ _ => rfl)) pe_int (fun _ _ => rfl)) (nomark _)) (pw_and1 (pt_cmpR op_le (pe_ix (ixT (K := K)) (pe_ix (ixL (K := K)) (pv 0) (pv 3) (fun _ _ => rfl)) pe_int (fun _ _ => rfl)) (pv 2) (nomark _)))))) (fun _ _ _ _ _ => (pv 3))))), ?_⟩
  obtain ⟨xs, hx, hxl⟩ := hw.len
  refine ⟨_, rfl, a, xs, rfl, .inl hx, _, rfl, by omega, by omega, fun D hD => ?_⟩
  rw [Int.toNat_natCast, hxl]
  refine lcW (M := NoM) walk_range (Evl.Ex.refl H) (fun H' e => trivial) (by omega) (fun i y _ => y = .int (i : Nat)) (fun _ _ _ _ _ h => h) (fun j => decide (lo ≤ (ws.getD j (0, 0)).1 ∧ (ws.getD j (0, 0)).2 ≤ hi)) (fun j => [some (.ref a), some (.int lo), some (.int hi), some (.int (j : Nat))])
    (fun j y G' H' H'' hj a' yy Q q => turn_range0 (σ0 := [some (.ref a), some (.int lo), some (.int hi), none]) (j := 3) a' yy q) (fun _ _ => rfl) (fun j G' H' hj a' Q q => ?_) (fun j G' H' hj _ a' Q q => ?_) (fun _ _ h => h) hD (fun ys G3 H3 a3 gD3 hD3 hsel => ?_)
  · have hw' := hw.keep (a'.gg.trans a'.gh)
    refine ⟨_, rfl, _, rfl, _, rfl, wix0 hw' hj ⟨_, _, rfl, rfl, _, rfl, ?_⟩⟩
    have q := q G' H' (Stp.refl a'.gh)
    refine ite2 (fun h1 => ?_) (fun h1 => ?_)
    · have h1 := of_decide_eq_true h1
      simp only [h1, true_and] at q
      exact ⟨_, rfl, _, rfl, wix1 hw' hj ⟨_, rfl, _, _, rfl, rfl, _, rfl, q⟩⟩
    · have h1 : ¬ lo ≤ (ws.getD j (0, 0)).1 := fun z => h1 (decide_eq_true z)
      simp only [h1, false_and, decide_false] at q
      exact q
  · exact ⟨_, rfl, q _ _ _ (Stp.refl a'.gh) rfl⟩
  · have ey : ys = (inside ws lo hi).map V.int := by
      rw [sel_flat hsel]
      unfold inside
      rw [List.map_map]
      rfl
    refine q D H3 hD (a3.gg.trans a3.gh) (by rw [hD3, ey])
end
end K44
namespace K44
open PySem PySem.Spec PyProof.Rows L2 Hx Hd M44
open Evl (pss_cut tCut ex_l ex_t)
mutual
def nodes : PyData → Nat
  | .list ds => nodesL ds + 1
  | .tuple ds => nodesL ds + 1
  | _ => 1
def nodesL : List PyData → Nat
  | [] => 0
  | d :: ds => nodes d + nodesL ds
end
theorem nodes_pos : ∀ d, 1 ≤ nodes d
  | .none => by simp [nodes]
  | .bool _ => by simp [nodes]
  | .int _ => by simp [nodes]
  | .str _ => by simp [nodes]
  | .list ds => by simp [nodes]
  | .tuple ds => by simp [nodes]
  | .dict _ => by simp [nodes]
theorem nodesL_app : ∀ (a b : List PyData), nodesL (a ++ b) = nodesL a + nodesL b
  | [], b => by simp [nodesL]
  | d :: a, b => by rw [List.cons_append, nodesL, nodesL, nodesL_app a b]; omega
theorem nodesL_len : ∀ (a : List PyData), a.length ≤ nodesL a
  | [] => by simp
  | d :: a => by
    have := nodesL_len a
    have := nodes_pos d
    rw [nodesL, List.length_cons]
    omega
theorem pss_no {X : Cx} {st : List Stmt} : PSs X st (fun _ _ _ => False) := ⟨fun _ _ _ _ _ _ h => h.elim⟩
theorem isi_k {K : PySem.W.Frag} {H : Hp} {v : V} {tn T : String} {b : Bool} {Q : VK} (t : TyX K H v (.type tn)) (k : kitB tn T = some b) (q : Q (.bl b) H) : rIsi K [v, .ty T] H Q :=
  ⟨v, .ty T, .type tn, .type T, _, rfl, .ty T, t, kit_ty k, q⟩
theorem paired_last {α β : Type} {F : α → β → Prop} : ∀ {as : List α} {bs : List β}, Paired F as bs → as ≠ [] → ∃ ai a bi b, as = ai ++ [a] ∧ bs = bi ++ [b] ∧ Paired F ai bi ∧ F a b
  | [], _, .nil, h => absurd rfl h
  | a :: as, b :: bs, .cons r t, _ => by
    by_cases h : as = []
    · subst h
      cases t
      exact ⟨[], a, [], b, rfl, rfl, .nil, r⟩
    · obtain ⟨ai, a', bi, b', rfl, rfl, p, f⟩ := paired_last t h
      exact ⟨a :: ai, a', b :: bi, b', rfl, rfl, .cons r p, f⟩
theorem ne_self {x : V} : V.bl (!decide (x = x)) = V.bl false := by simp
/-- a pair of two of the same data -/
abbrev Pr2 (K : PySem.W.Frag) (G : Hp) (v : V) (d : PyData) : Prop := ∃ r x y, v = .ref r ∧ G r = some (.tup [x, y]) ∧ Dp K G x d ∧ Dp K G y d
theorem pr2_mono {K : PySem.W.Frag} {G G' : Hp} (e : Ex G G') {v : V} {d : PyData} (h : Pr2 K G v d) : Pr2 K G' v d := by
  obtain ⟨r, x, y, rfl, h1, h2, h3⟩ := h
  exact ⟨r, x, y, rfl, e _ _ h1, ex_dp e _ _ h2, ex_dp e _ _ h3⟩
theorem sel_pr {K : PySem.W.Frag} {G : Hp} {ds : List PyData} {zs : List V} (h : Sel (fun j y G => Pr2 K G y (ds.getD j .none)) (fun _ => true) ds.length zs G) : Paired (Pr2 K G) zs ds := by
  have gen : ∀ {as : List Nat} {bs : List V}, Paired (fun j y => Pr2 K G y (ds.getD j .none)) as bs → Paired (Pr2 K G) bs (as.map fun j => ds.getD j .none) := by
    intro as bs p
    induction p with
    | nil => exact .nil
    | cons r t ih => exact .cons r ih
  have z := gen h
  rw [List.filter_eq_self.mpr fun _ _ => rfl] at z
  have e : (List.range ds.length).map (fun j => ds.getD j PyData.none) = ds := by
    apply List.ext_getElem
    · simp
    · intro i h1 h2
      simp [List.getD_eq_getElem?_getD, h2]
  rw [e] at z
  exact z
section
variable {P : Program} {w : World} {K : PySem.W.Frag} {mg : Str → Option Value} {base : Heap}
def spSame (K : PySem.W.Frag) : Sp := fun vs H Q _ => ∃ x y d, vs = [x, y] ∧ Dp K H x d ∧ Dp K H y d ∧ nodes d ≤ 100000 ∧ ∀ H2, Ex H H2 → Q (.bl true) H2
abbrev N_law_same : List Str := ["actual", "due", "left", "turn", "one", "other", "at", "key"]
theorem sc_law_same : FnScope N_law_same ["actual", "due"] (defScope (top 35)) := ⟨rfl, rfl, rfl, by decide +kernel, rfl, by decide +kernel, by decide +kernel⟩
theorem ok_same (T : Txt K mg) : Cal P w K mg base CX0 1 "_law_same" ["actual", "due"] (spSame K) := by
  refine mkCal T.g__law_same T.d__law_same sc_law_same (fun _ _ _ _ _ _ us hl => match us, hl with | [_, _], _ => rfl) (fun vs H Q E h => ?_) fun cdv A outer s H vs Q E hr h => ?_
  · obtain ⟨x, _, d, rfl, _⟩ := h; rfl
  obtain ⟨x0, y0, d0, rfl, hx0, hy0, hsz, q⟩ := h
  refine ⟨_, (pss_cons (ps_set (i := 2) sc_law_same.nd rfl (Or.inl rfl) (pe_lst (pa_cons (pe_tup (pa_cons (pv 0) (pa_cons (pv 1) pa_nil))) pa_nil)))
      (pss_cons (ps_for PassesOwn.never rfl (pi_range1 (by rfl) T.n_range (pa_cons (pe_op op_pow pe_int pe_int) pa_nil)) (pg_name (i := 3) sc_law_same.nd rfl (Or.inl rfl)) (pss_cons (ps_if (pt_cmpR op_eq (pe_callB (lenL (K := K)) (by rfl) T.n_len PySem.boot_len (pa_cons (pv 2) pa_nil)) pe_int (nomark _)) (pss_one (ps_ret pe_bl)) pss_nil)
      (pss_cons (ps_asg (pe_bm0 PySem.F.plainAttrs_list PySem.F.slot_list_pop PySem.F.type_list_pop mt_pop (pv 2)) (pgTup (K := K) rfl (pgs_cons (pg_name (i := 4) sc_law_same.nd rfl (Or.inr rfl)) (pgs_cons (pg_name (i := 5) sc_law_same.nd rfl (Or.inr rfl)) pgs_nil))))
      (pss_one (ps_if (PW.pt (pw_or (pt_val (pe_callB (isiR (K := K)) (by rfl) T.n_isinstance (by decide +kernel) (pa_cons (pv 5) (pa_cons (pe_bltn (v := .ty "tuple") rfl T.n_tuple (by decide +kernel) rfl) pa_nil)))) (pw_or1 (pt_val (pe_callB (isiR (K := K)) (by rfl) T.n_isinstance (by decide +kernel) (pa_cons (pv 5) (pa_cons (pe_bltn (v := .ty "list") rfl T.n_list (by decide +kernel) rfl) pa_nil))))))) (pss_cut (ps_if (PW.pt (pw_or (pt_cmpR op_ne (pe_callB (isiR (K := K)) (by rfl) T.n_isinstance (by decide +kernel) (pa_cons (pv 5) (pa_cons (pe_bltn (v := .ty "tuple") rfl T.n_tuple (by decide +kernel) rfl) pa_nil))) (pe_callB (isiR (K := K)) (by rfl) T.n_isinstance (by decide +kernel) (pa_cons (pv 4) (pa_cons (pe_bltn (v := .ty "tuple") rfl T.n_tuple (by decide +kernel) rfl) pa_nil))) (nomark _)) (pw_or (pt_cmpR op_ne (pe_callB (isiR (K := K)) (by rfl) T.n_isinstance (by decide +kernel) (pa_cons (pv 5) (pa_cons (pe_bltn (v := .ty "list") rfl T.n_list (by decide +kernel) rfl) pa_nil))) (pe_callB (isiR (K := K)) (by rfl) T.n_isinstance (by decide +kernel) (pa_cons (pv 4) (pa_cons (pe_bltn (v := .ty "list") rfl T.n_list (by decide +kernel) rfl) pa_nil))) (nomark _)) (pw_or1 (pt_cmpR op_ne (pe_callB (lenL (K := K)) (by rfl) T.n_len PySem.boot_len (pa_cons (pv 4) pa_nil)) (pe_callB (lenL (K := K)) (by rfl) T.n_len PySem.boot_len (pa_cons (pv 5) pa_nil)) (nomark _)))))) (pss_one (ps_ret pe_bl)) pss_nil)
      (pss_one (ps_expr (pe_bm PySem.F.plainAttrs_list PySem.F.slot_list_extend PySem.F.type_list_extend mt_extend (pv 2) (pa_cons (pe_lc (own := [("at", 6)]) (g := gName 6) rfl sc_law_same.nd (pi_range1 (by rfl) T.n_range (pa_cons (pe_callB (lenL (K := K)) (by rfl) T.n_len PySem.boot_len (pa_cons (pv 5) pa_nil)) pa_nil)) (blkOk_by (N := N_law_same) (sc := defScope (top 35)) (by decide +kernel)) (fun _ _ _ _ _ => (pg_name (i := 6) sc_law_same.nd rfl (Or.inl rfl))) (fun _ _ _ _ _ => pts_nil) (fun _ _ _ _ _ => (pe_tup (pa_cons (pe_ix (ixS (K := K)) (pv 4) (pv 6) (fun _ _ => rfl)) (pa_cons (pe_ix (ixS (K := K)) (pv 5) (pv 6) (fun _ _ => rfl)) pa_nil))))) pa_nil))))) (pss_one (ps_if (pt_val (pe_callB (isiR (K := K)) (by rfl) T.n_isinstance (by decide +kernel) (pa_cons (pv 5) (pa_cons (pe_bltn (v := .ty "dict") rfl T.n_dict (by decide +kernel) rfl) pa_nil)))) pss_no (pss_one (ps_if (PW.pt (pw_or (pt_val (pe_callB (isiR (K := K)) (by rfl) T.n_isinstance (by decide +kernel) (pa_cons (pv 5) (pa_cons (pe_bltn (v := .ty "bool") rfl T.n_bool (by decide +kernel) rfl) pa_nil)))) (pw_or1 (pt_val (pe_callB (isiR (K := K)) (by rfl) T.n_isinstance (by decide +kernel) (pa_cons (pv 5) (pa_cons (pe_bltn (v := .ty "str") rfl T.n_str (by decide +kernel) rfl) pa_nil))))))) (pss_one (ps_if (PW.pt (pw_or (pt_cmpR op_ne (pe_callB (isiR (K := K)) (by rfl) T.n_isinstance (by decide +kernel) (pa_cons (pv 4) (pa_cons (pe_bltn (v := .ty "bool") rfl T.n_bool (by decide +kernel) rfl) pa_nil))) (pe_callB (isiR (K := K)) (by rfl) T.n_isinstance (by decide +kernel) (pa_cons (pv 5) (pa_cons (pe_bltn (v := .ty "bool") rfl T.n_bool (by decide +kernel) rfl) pa_nil))) (nomark _)) (pw_or (pt_cmpR op_ne (pe_callB (isiR (K := K)) (by rfl) T.n_isinstance (by decide +kernel) (pa_cons (pv 4) (pa_cons (pe_bltn (v := .ty "str") rfl T.n_str (by decide +kernel) rfl) pa_nil))) (pe_callB (isiR (K := K)) (by rfl) T.n_isinstance (by decide +kernel) (pa_cons (pv 5) (pa_cons (pe_bltn (v := .ty "str") rfl T.n_str (by decide +kernel) rfl) pa_nil))) (nomark _)) (pw_or1 (pt_cmpR op_ne (pv 4) (pv 5) (nomark _)))))) (pss_one (ps_ret pe_bl)) pss_nil)) (pss_one (ps_if (pt_val (pe_callB (isiR (K := K)) (by rfl) T.n_isinstance (by decide +kernel) (pa_cons (pv 5) (pa_cons (pe_bltn (v := .ty "int") rfl T.n_int (by decide +kernel) rfl) pa_nil)))) (pss_one (ps_if (PW.pt (pw_or (pt_not (pt_val (pe_callB (isiR (K := K)) (by rfl) T.n_isinstance (by decide +kernel) (pa_cons (pv 4) (pa_cons (pe_bltn (v := .ty "int") rfl T.n_int (by decide +kernel) rfl) pa_nil))))) (pw_or (pt_val (pe_callB (isiR (K := K)) (by rfl) T.n_isinstance (by decide +kernel) (pa_cons (pv 4) (pa_cons (pe_bltn (v := .ty "bool") rfl T.n_bool (by decide +kernel) rfl) pa_nil)))) (pw_or1 (pt_cmpR op_ne (pv 4) (pv 5) (nomark _)))))) (pss_one (ps_ret pe_bl)) pss_nil)) (pss_one (ps_if (pt_cmpR op_notN (pv 4) pe_non (nomark _)) (pss_one (ps_ret pe_bl)) pss_nil)))))))))))))
      (pss_one (ps_ret pe_bl)))), ?_⟩
  have hz : ∀ m : Nat, m ≤ 100000 → m ≤ sizeLine := fun m h => Nat.le_trans h (by decide)
  refine ⟨_, rfl, _, rfl, hz 2 (by omega), fun t ht => ⟨hz 1 (by omega), fun p hp => ?_⟩⟩
  have hp0 : H p = none := Evl.fresh_back (Evl.Ex.new ht) hp
  refine ⟨10, 9, rfl, rfl, ⟨by decide, by decide, by decide⟩, _, rfl, by decide +kernel, by decide +kernel, ?_⟩
  refine for_it walk_range (fun i σ' H' => ∃ tv ov uv G stk dsk, σ' = [some x0, some y0, some (.ref p), tv, ov, uv, none, none] ∧ Ex H G ∧ Ex G H' ∧ G p = none ∧ H' p = some (.lst stk) ∧ Paired (Pr2 K G) stk dsk ∧ nodesL dsk + i = nodes d0)
    ⟨none, none, none, upd H t (.tup [x0, y0]), [.ref t], [d0], rfl, Evl.Ex.new ht, Evl.Ex.new hp, hp, upd_same, .cons ⟨t, x0, y0, rfl, upd_same, ex_dp (Evl.Ex.new ht) _ _ hx0, ex_dp (Evl.Ex.new ht) _ _ hy0⟩ .nil, by simp [nodesL]⟩ (fun _ _ _ _ _ => trivial) ?_ ?_
  · rintro i v σ' H' H'' hi ⟨tv, ov, uv, G, stk, dsk, rfl, eG, eH, gp, hp', pr, hsum⟩ ⟨rfl, rfl⟩
    refine ⟨_, rfl, p, stk, rfl, .inl (SqL.of hp'), rfl, _, rfl, ?_⟩
    rw [dec_int]
    have ens : ∀ (xs : List V), ((xs.length : Int) == 0) = true → xs = [] := fun xs h => List.eq_nil_of_length_eq_zero (by rw [beq_iff_eq] at h; omega)
    refine ite2 (fun h => q _ (eG.trans eH)) (fun hne => ?_)
    have hne' : stk ≠ [] := fun z => hne (by rw [z]; rfl)
    obtain ⟨ai, a, bi, d, rfl, rfl, pr', r, x, y, rfl, hr1, hx1, hy1⟩ := paired_last pr hne'
    have hlai : ai.length ≤ nodesL bi := by rw [pr'.length]; exact nodesL_len bi
    rw [nodesL_app] at hsum
    have hsum : nodesL bi + nodes d + i = nodes d0 := by simpa [nodesL] using hsum
    have hlast : (ai ++ [V.ref r])[(ai ++ [V.ref r]).length - 1]? = some (V.ref r) := by simp
    have hdl : (ai ++ [V.ref r]).dropLast = ai := by simp
    refine ⟨_, rfl, .inl ⟨rfl, _, SqL.of hp'⟩, p, _, V.ref r, rfl, rfl, hp', hlast, ?_⟩
    rw [hdl]
    have eH1 : Ex G (upd H'' p (.lst ai)) := fun b o hb => by
      rw [upd_ne (fun z => by rw [z, gp] at hb; cases hb)]; exact eH b o hb
    have hp1 : upd H'' p (.lst ai) p = some (.lst ai) := upd_same
    generalize upd H'' p (.lst ai) = H1 at eH1 hp1 ⊢
    refine ⟨r, [x, y], rfl, SqT.of (eH1 _ _ hr1), rfl, _, _, rfl, _, _, rfl, rfl, ?_⟩
    have hx := ex_dp eH1 _ _ hx1
    have hy := ex_dp eH1 _ _ hy1
    have done : nodes d = 1 → ∃ tv ov uv G stk dsk, [some x0, some y0, some (.ref p), some (.int (0 + (i : Int))), some x, some y, none, none] = [some x0, some y0, some (V.ref p), tv, ov, uv, none, none] ∧ Ex H G ∧ Ex G H1 ∧ G p = none ∧ H1 p = some (.lst stk) ∧ Paired (Pr2 K G) stk dsk ∧ nodesL dsk + (i + 1) = nodes d0 := fun e =>
      ⟨_, _, _, G, ai, bi, rfl, eG, eH1, gp, hp1, pr', by omega⟩
    have kids : ∀ (ds : List PyData), nodes d = nodesL ds + 1 → ∀ (zs : List V) (b : Addr) (G2 H2 : Hp), Stp NoM G H1 G2 H2 → H2 b = some (.lst zs) → Paired (Pr2 K G2) zs ds →
        zs.length = ds.length → ∃ l b' xs zs', (V.ref p) = .ref l ∧ [V.ref b] = [.ref b'] ∧ H2 l = some (.lst xs) ∧ H2 b' = some (.lst zs') ∧ xs.length + zs'.length ≤ sizeLine ∧
          ∃ tv ov uv G stk dsk, [some x0, some y0, some (.ref p), some (.int (0 + (i : Int))), some x, some y, none, none] = [some x0, some y0, some (V.ref p), tv, ov, uv, none, none] ∧ Ex H G ∧ Ex G (upd H2 l (.lst (xs ++ zs'))) ∧ G p = none ∧ (upd H2 l (.lst (xs ++ zs'))) p = some (.lst stk) ∧ Paired (Pr2 K G) stk dsk ∧ nodesL dsk + (i + 1) = nodes d0 := by
      intro ds hn zs b G2 H2 st hb hpz hzl
      have h2p : H2 p = some (.lst ai) := st.hh p _ (fun h => h) hp1
      have g2p : G2 p = none := st.fr p (some_ne hp1) gp
      have hdl := nodesL_len ds
      refine ⟨p, b, ai, zs, rfl, rfl, h2p, hb, hz _ (by omega), _, _, _, G2, ai ++ zs, bi ++ ds, rfl, eG.trans st.gg, fun c o hc => ?_, g2p, upd_same, ?_, ?_⟩
      · rw [upd_ne (fun z => by rw [z, g2p] at hc; cases hc)]; exact st.gh c o hc
      · exact paired_app (Paired.mapP pr' fun v d h => pr2_mono st.gg h) hpz
      · rw [nodesL_app]; omega
    cases d with
    | dict kvs => cases hx1
    | none =>
      cases hx1; cases hy1
      exact ⟨_, rfl, .non, _, _, _, _, rfl, .ty "tuple", .base .non, kit_ty (r := false) (by decide +kernel), _, rfl, _, rfl, .non, _, _, _, _, rfl, .ty "list", .base .non, kit_ty (r := false) (by decide +kernel), _, rfl, _, rfl, .non, _, _, _, _, rfl, .ty "dict", .base .non, kit_ty (r := false) (by decide +kernel), _, rfl, _, rfl, .non, _, _, _, _, rfl, .ty "bool", .base .non, kit_ty (r := false) (by decide +kernel), _, rfl, _, rfl, .non, _, _, _, _, rfl, .ty "str", .base .non, kit_ty (r := false) (by decide +kernel), _, rfl, _, rfl, .non, _, _, _, _, rfl, .ty "int", .base .non, kit_ty (r := false) (by decide +kernel), _, rfl, _, rfl, rfl, _, rfl, done (by simp [nodes])⟩
    | bool k =>
      cases hx1; cases hy1
      exact ⟨_, rfl, (.bl k), _, _, _, _, rfl, .ty "tuple", .base (.bl k), kit_ty (r := false) (by decide +kernel), _, rfl, _, rfl, (.bl k), _, _, _, _, rfl, .ty "list", .base (.bl k), kit_ty (r := false) (by decide +kernel), _, rfl, _, rfl, (.bl k), _, _, _, _, rfl, .ty "dict", .base (.bl k), kit_ty (r := false) (by decide +kernel), _, rfl, _, rfl, (.bl k), _, _, _, _, rfl, .ty "bool", .base (.bl k), kit_ty (r := true) (by decide +kernel), _, rfl, _, rfl, (.bl k), _, _, _, _, rfl, .ty "bool", .base (.bl k), kit_ty (r := true) (by decide +kernel), _, rfl, (.bl k), _, _, _, _, rfl, .ty "bool", .base (.bl k), kit_ty (r := true) (by decide +kernel), rfl, false, ne_self, _, rfl, (.bl k), _, _, _, _, rfl, .ty "str", .base (.bl k), kit_ty (r := false) (by decide +kernel), _, rfl, (.bl k), _, _, _, _, rfl, .ty "str", .base (.bl k), kit_ty (r := false) (by decide +kernel), rfl, false, ne_self, _, rfl, _, rfl, rfl, false, ne_self, done (by simp [nodes])⟩
    | str z =>
      cases hx1; cases hy1
      exact ⟨_, rfl, (.str z), _, _, _, _, rfl, .ty "tuple", .base (.str z), kit_ty (r := false) (by decide +kernel), _, rfl, _, rfl, (.str z), _, _, _, _, rfl, .ty "list", .base (.str z), kit_ty (r := false) (by decide +kernel), _, rfl, _, rfl, (.str z), _, _, _, _, rfl, .ty "dict", .base (.str z), kit_ty (r := false) (by decide +kernel), _, rfl, _, rfl, (.str z), _, _, _, _, rfl, .ty "bool", .base (.str z), kit_ty (r := false) (by decide +kernel), _, rfl, _, rfl, (.str z), _, _, _, _, rfl, .ty "str", .base (.str z), kit_ty (r := true) (by decide +kernel), _, rfl, _, rfl, (.str z), _, _, _, _, rfl, .ty "bool", .base (.str z), kit_ty (r := false) (by decide +kernel), _, rfl, (.str z), _, _, _, _, rfl, .ty "bool", .base (.str z), kit_ty (r := false) (by decide +kernel), rfl, false, ne_self, _, rfl, (.str z), _, _, _, _, rfl, .ty "str", .base (.str z), kit_ty (r := true) (by decide +kernel), _, rfl, (.str z), _, _, _, _, rfl, .ty "str", .base (.str z), kit_ty (r := true) (by decide +kernel), rfl, false, ne_self, _, rfl, _, rfl, rfl, false, ne_self, done (by simp [nodes])⟩
    | int z =>
      cases hx1; cases hy1
      exact ⟨_, rfl, (.int z), _, _, _, _, rfl, .ty "tuple", .base (.int z), kit_ty (r := false) (by decide +kernel), _, rfl, _, rfl, (.int z), _, _, _, _, rfl, .ty "list", .base (.int z), kit_ty (r := false) (by decide +kernel), _, rfl, _, rfl, (.int z), _, _, _, _, rfl, .ty "dict", .base (.int z), kit_ty (r := false) (by decide +kernel), _, rfl, _, rfl, (.int z), _, _, _, _, rfl, .ty "bool", .base (.int z), kit_ty (r := false) (by decide +kernel), _, rfl, _, rfl, (.int z), _, _, _, _, rfl, .ty "str", .base (.int z), kit_ty (r := false) (by decide +kernel), _, rfl, _, rfl, (.int z), _, _, _, _, rfl, .ty "int", .base (.int z), kit_ty (r := true) (by decide +kernel), _, rfl, _, rfl, (.int z), _, _, _, _, rfl, .ty "int", .base (.int z), kit_ty (r := true) (by decide +kernel), _, rfl, _, rfl, (.int z), _, _, _, _, rfl, .ty "bool", .base (.int z), kit_ty (r := false) (by decide +kernel), _, rfl, _, rfl, _, rfl, rfl, false, ne_self, done (by simp [nodes])⟩
    | list ds =>
      obtain ⟨ax, xs, rfl, sx1, hxa⟩ := dp_list hx1
      obtain ⟨ay, ys, rfl, sy1, hya⟩ := dp_list hy1
      have sx := ex_l eH1 sx1
      have sy := ex_l eH1 sy1
      have hxl := dpa_len hxa
      have hyl := dpa_len hya
      have hnd : nodes (.list ds) = nodesL ds + 1 := by simp [nodes]
      have hdl := nodesL_len ds
      refine ⟨_, rfl, (.ref ay), _, _, _, _, rfl, .ty "tuple", ty_l sy, kit_ty (r := false) (by decide +kernel), _, rfl, _, rfl, (.ref ay), _, _, _, _, rfl, .ty "list", ty_l sy, kit_ty (r := true) (by decide +kernel), _, rfl, ?_⟩
      refine ⟨fun σ' H' => σ' = [some x0, some y0, some (.ref p), some (.int (0 + (i : Int))), some (.ref ax), some (.ref ay), none, none] ∧ H1 = H', ?_, ?_⟩
      · refine ⟨_, rfl, (.ref ay), _, _, _, _, rfl, .ty "tuple", ty_l sy, kit_ty (r := false) (by decide +kernel), _, rfl, (.ref ax), _, _, _, _, rfl, .ty "tuple", ty_l sx, kit_ty (r := false) (by decide +kernel), rfl, false, ne_self, _, rfl, (.ref ay), _, _, _, _, rfl, .ty "list", ty_l sy, kit_ty (r := true) (by decide +kernel), _, rfl, (.ref ax), _, _, _, _, rfl, .ty "list", ty_l sx, kit_ty (r := true) (by decide +kernel), rfl, false, ne_self, _, rfl, ax, xs, rfl, .inl sx, _, rfl, ay, ys, rfl, .inl sy, rfl, false, ?_, rfl, rfl⟩
        rw [hxl, hyl]; exact ne_self
      · rintro σ' H' ⟨rfl, rfl⟩
        refine ⟨_, rfl, .inl ⟨rfl, _, SqL.of hp1⟩, _, rfl, ay, ys, rfl, .inl sy, _, rfl, by omega, by omega, fun D hD => ?_⟩
        rw [Int.toNat_natCast, hyl]
        refine lcW (M := NoM) walk_range eH1 (fun _ _ => trivial) (by omega) (fun j y G => Pr2 K G y (ds.getD j .none)) (fun _ _ _ _ e h => pr2_mono e h) (fun _ => true) (fun j => [some x0, some y0, some (.ref p), some (.int (0 + (i : Int))), some (.ref ax), some (.ref ay), some (.int (j : Nat)), none])
          (fun j y G' H' H'' hj a' yy Q q => turn_range0 (σ0 := [some x0, some y0, some (.ref p), some (.int (0 + (i : Int))), some (.ref ax), some (.ref ay), none, none]) (j := 6) a' yy q) (fun _ _ => rfl) (fun j G' H' hj a' Q q => yes_t a'.gh q) (fun j G' H' hj _ a' Q q => ?_) (fun _ _ h => h) hD (fun zs G' H' a' gD hl' hsel => ?_)
        · have e2 := a'.gg.trans a'.gh
          have hjx : xs[j]? = some (xs.getD j .non) := by rw [List.getD_eq_getElem?_getD, List.getElem?_eq_getElem (by omega)]; rfl
          have hjy : ys[j]? = some (ys.getD j .non) := by rw [List.getD_eq_getElem?_getD, List.getElem?_eq_getElem (by omega)]; rfl
          obtain ⟨d1, f1, g1⟩ := dpa_get hxa hjx
          obtain ⟨d2, f2, g2⟩ := dpa_get hya hjy
          rw [f1] at f2
          obtain rfl := Option.some.inj f2
          refine ⟨_, rfl, _, rfl, .inl ⟨ax, xs, _, _, rfl, rfl, ex_l (a'.gg.trans a'.gh) sx1, at_nat hjx, _, rfl, _, rfl, .inl ⟨ay, ys, _, _, rfl, rfl, ex_l (a'.gg.trans a'.gh) sy1, at_nat hjy, hz 2 (by omega), fun t ht => ?_⟩⟩⟩
          have gt : G' t = none := Evl.fresh_back a'.gh ht
          refine q _ _ _ (Stp.new a'.gh ht (o := .tup [xs.getD j .non, ys.getD j .non])) ⟨t, _, _, rfl, upd_same, ?_, ?_⟩
          · rw [getD_of f1]; exact ex_dp (a'.gg.trans (Evl.Ex.new gt)) _ _ g1
          · rw [getD_of f1]; exact ex_dp (a'.gg.trans (Evl.Ex.new gt)) _ _ g2
        · exact kids ds hnd zs D G' H' a' hl' (sel_pr hsel) (by have := sel_all hsel; exact this.1)
    | tuple ds =>
      obtain ⟨ax, xs, rfl, sx1, hxa⟩ := dp_tup hx1
      obtain ⟨ay, ys, rfl, sy1, hya⟩ := dp_tup hy1
      have sx := ex_t eH1 sx1
      have sy := ex_t eH1 sy1
      have hxl := dpa_len hxa
      have hyl := dpa_len hya
      have hnd : nodes (.tuple ds) = nodesL ds + 1 := by simp [nodes]
      have hdl := nodesL_len ds
      refine ⟨_, rfl, (.ref ay), _, _, _, _, rfl, .ty "tuple", ty_t sy, kit_ty (r := true) (by decide +kernel), _, rfl, ?_⟩
      refine ⟨fun σ' H' => σ' = [some x0, some y0, some (.ref p), some (.int (0 + (i : Int))), some (.ref ax), some (.ref ay), none, none] ∧ H1 = H', ?_, ?_⟩
      · refine ⟨_, rfl, (.ref ay), _, _, _, _, rfl, .ty "tuple", ty_t sy, kit_ty (r := true) (by decide +kernel), _, rfl, (.ref ax), _, _, _, _, rfl, .ty "tuple", ty_t sx, kit_ty (r := true) (by decide +kernel), rfl, false, ne_self, _, rfl, (.ref ay), _, _, _, _, rfl, .ty "list", ty_t sy, kit_ty (r := false) (by decide +kernel), _, rfl, (.ref ax), _, _, _, _, rfl, .ty "list", ty_t sx, kit_ty (r := false) (by decide +kernel), rfl, false, ne_self, _, rfl, ax, xs, rfl, .inr sx, _, rfl, ay, ys, rfl, .inr sy, rfl, false, ?_, rfl, rfl⟩
        rw [hxl, hyl]; exact ne_self
      · rintro σ' H' ⟨rfl, rfl⟩
        refine ⟨_, rfl, .inl ⟨rfl, _, SqL.of hp1⟩, _, rfl, ay, ys, rfl, .inr sy, _, rfl, by omega, by omega, fun D hD => ?_⟩
        rw [Int.toNat_natCast, hyl]
        refine lcW (M := NoM) walk_range eH1 (fun _ _ => trivial) (by omega) (fun j y G => Pr2 K G y (ds.getD j .none)) (fun _ _ _ _ e h => pr2_mono e h) (fun _ => true) (fun j => [some x0, some y0, some (.ref p), some (.int (0 + (i : Int))), some (.ref ax), some (.ref ay), some (.int (j : Nat)), none])
          (fun j y G' H' H'' hj a' yy Q q => turn_range0 (σ0 := [some x0, some y0, some (.ref p), some (.int (0 + (i : Int))), some (.ref ax), some (.ref ay), none, none]) (j := 6) a' yy q) (fun _ _ => rfl) (fun j G' H' hj a' Q q => yes_t a'.gh q) (fun j G' H' hj _ a' Q q => ?_) (fun _ _ h => h) hD (fun zs G' H' a' gD hl' hsel => ?_)
        · have e2 := a'.gg.trans a'.gh
          have hjx : xs[j]? = some (xs.getD j .non) := by rw [List.getD_eq_getElem?_getD, List.getElem?_eq_getElem (by omega)]; rfl
          have hjy : ys[j]? = some (ys.getD j .non) := by rw [List.getD_eq_getElem?_getD, List.getElem?_eq_getElem (by omega)]; rfl
          obtain ⟨d1, f1, g1⟩ := dpa_get hxa hjx
          obtain ⟨d2, f2, g2⟩ := dpa_get hya hjy
          rw [f1] at f2
          obtain rfl := Option.some.inj f2
          refine ⟨_, rfl, _, rfl, .inr ⟨ax, xs, _, _, rfl, rfl, ex_t (a'.gg.trans a'.gh) sx1, at_nat hjx, _, rfl, _, rfl, .inr ⟨ay, ys, _, _, rfl, rfl, ex_t (a'.gg.trans a'.gh) sy1, at_nat hjy, hz 2 (by omega), fun t ht => ?_⟩⟩⟩
          have gt : G' t = none := Evl.fresh_back a'.gh ht
          refine q _ _ _ (Stp.new a'.gh ht (o := .tup [xs.getD j .non, ys.getD j .non])) ⟨t, _, _, rfl, upd_same, ?_, ?_⟩
          · rw [getD_of f1]; exact ex_dp (a'.gg.trans (Evl.Ex.new gt)) _ _ g1
          · rw [getD_of f1]; exact ex_dp (a'.gg.trans (Evl.Ex.new gt)) _ _ g2
        · exact kids ds hnd zs D G' H' a' hl' (sel_pr hsel) (by have := sel_all hsel; exact this.1)
  · rintro σ' H' ⟨tv, ov, uv, G, stk, dsk, rfl, eG, eH, gp, hp', pr, hsum⟩
    exfalso
    have : (((10 : Int) ^ (9 : Int).toNat).toNat) = 1000000000 := by decide +kernel
    omega
end
end K44
namespace K44
open PySem PySem.Spec PyProof.Rows L2 Hx Hd M44
open Evl (pss_cut tCut ex_l ex_t)
def Fit : Nat → PyData → Prop
  | 0, d => ∀ ds, d ≠ .list ds ∧ d ≠ .tuple ds
  | n + 1, d => ∀ ds, (d = .list ds ∨ d = .tuple ds) → ds.length ≤ 100000 ∧ ∀ e ∈ ds, Fit n e
theorem range_id (ds : List PyData) : (List.range ds.length).map (fun j => ds.getD j PyData.none) = ds := by
  apply List.ext_getElem
  · simp
  · intro i h1 h2
    simp [List.getD_eq_getElem?_getD, h2]
section
variable {P : Program} {w : World} {K : PySem.W.Frag} {mg : Str → Option Value} {base : Heap}
def spCopy (n : Nat) (K : PySem.W.Frag) : Sp := fun vs H Q _ => ∃ x d G, vs = [x] ∧ Ex G H ∧ Dp K G x d ∧ Fit n d ∧ ∀ v G2 H2, Stp NoM G H G2 H2 → Dp K G2 v d → Q v H2
abbrev N_law_copy : List Str := ["value", "found", "key", "item"]
theorem sc_law_copy : FnScope N_law_copy ["value"] (defScope (top 36)) := ⟨rfl, rfl, rfl, by decide +kernel, rfl, by decide +kernel, by decide +kernel⟩
theorem ok_copy0 (T : Txt K mg) : Cal P w K mg base CX0 1 "_law_copy" ["value"] (spCopy 0 K) := by
  refine mkCal T.g__law_copy T.d__law_copy sc_law_copy (fun _ _ _ _ _ _ us hl => match us, hl with | [_], _ => rfl) (fun vs H Q E h => ?_) fun cdv A outer s H vs Q E hr h => ?_
  · obtain ⟨x, _, d, rfl, _⟩ := h; rfl
  obtain ⟨x, d, G, rfl, e, hd, hf, q⟩ := h
  refine ⟨_, (pss_cons (ps_if (pt_val (pe_callB (isiR (K := K)) (by rfl) T.n_isinstance (by decide +kernel) (pa_cons (pv 0) (pa_cons (pe_bltn (v := .ty "dict") rfl T.n_dict (by decide +kernel) rfl) pa_nil)))) pss_no pss_nil)
      (pss_cons (ps_if (pt_val (pe_callB (isiR (K := K)) (by rfl) T.n_isinstance (by decide +kernel) (pa_cons (pv 0) (pa_cons (pe_bltn (v := .ty "list") rfl T.n_list (by decide +kernel) rfl) pa_nil)))) pss_no pss_nil)
      (pss_cons (ps_if (pt_val (pe_callB (isiR (K := K)) (by rfl) T.n_isinstance (by decide +kernel) (pa_cons (pv 0) (pa_cons (pe_bltn (v := .ty "tuple") rfl T.n_tuple (by decide +kernel) rfl) pa_nil)))) pss_no pss_nil)
      (pss_one (ps_ret (pv 0)))))), ?_⟩
  have ht := ty_dp (ex_dp e _ _ hd)
  have fin := q x G H (Stp.refl e) hd
  refine ⟨_, rfl, x, _, _, _, _, rfl, .ty "dict", ht, kit_ty (kit_dict d), _, rfl, ?_⟩
  cases h1 : isT "dict" d with
  | true =>
    cases d <;> first | (exfalso; revert h1; simp [isT]; done) | skip
    cases hd
  | false =>
    refine ⟨_, rfl, x, _, _, _, _, rfl, .ty "list", ht, kit_ty (kit_list d), _, rfl, ?_⟩
    cases h2 : isT "list" d with
    | true =>
      obtain ⟨ds, rfl⟩ := isT_list h2
      exact absurd rfl (hf ds).1
    | false =>
      refine ⟨_, rfl, x, _, _, _, _, rfl, .ty "tuple", ht, kit_ty (kit_tup d), _, rfl, ?_⟩
      cases h3 : isT "tuple" d with
      | true =>
        obtain ⟨ds, rfl⟩ := isT_tup h3
        exact absurd rfl (hf ds).2
      | false => exact ⟨_, rfl, fin⟩
theorem ok_copyS (T : Txt K mg) {n : Nat} (C__law_copy : Cal P w K mg base CX0 (n + 1) "_law_copy" ["value"] (spCopy n K)) : Cal P w K mg base CX0 (n + 2) "_law_copy" ["value"] (spCopy (n + 1) K) := by
  refine mkCal T.g__law_copy T.d__law_copy sc_law_copy (fun _ _ _ _ _ _ us hl => match us, hl with | [_], _ => rfl) (fun vs H Q E h => ?_) fun cdv A outer s H vs Q E hr h => ?_
  · obtain ⟨x, _, d, rfl, _⟩ := h; rfl
  obtain ⟨x, d, G, rfl, e, hd, hf, q⟩ := h
  refine ⟨_, (pss_cons (ps_if (pt_val (pe_callB (isiR (K := K)) (by rfl) T.n_isinstance (by decide +kernel) (pa_cons (pv 0) (pa_cons (pe_bltn (v := .ty "dict") rfl T.n_dict (by decide +kernel) rfl) pa_nil)))) pss_no pss_nil)
      (pss_cons (ps_if (pt_val (pe_callB (isiR (K := K)) (by rfl) T.n_isinstance (by decide +kernel) (pa_cons (pv 0) (pa_cons (pe_bltn (v := .ty "list") rfl T.n_list (by decide +kernel) rfl) pa_nil)))) (pss_one (ps_ret (pe_lc (own := [("item", 3)]) (g := gName 3) rfl sc_law_copy.nd (piL (K := K) (pv 0)) (blkOk_by (N := N_law_copy) (sc := defScope (top 36)) (by decide +kernel)) (fun _ _ _ _ _ => (pg_name (i := 3) sc_law_copy.nd rfl (Or.inl rfl))) (fun _ _ _ _ _ => pts_nil) (fun _ _ _ _ _ => (pe_cal (E := E0) C__law_copy (hr.mono (Nat.le_refl _)) pass0 (pa_cons (pv 3) pa_nil)))))) pss_nil)
      (pss_cons (ps_if (pt_val (pe_callB (isiR (K := K)) (by rfl) T.n_isinstance (by decide +kernel) (pa_cons (pv 0) (pa_cons (pe_bltn (v := .ty "tuple") rfl T.n_tuple (by decide +kernel) rfl) pa_nil)))) (pss_one (ps_ret (pe_callTy (tupOf (K := K)) (by rfl) T.n_tuple (by decide +kernel) (pa_cons (pe_lc (own := [("item", 3)]) (g := gName 3) rfl sc_law_copy.nd (piT (K := K) (pv 0)) (blkOk_by (N := N_law_copy) (sc := defScope (top 36)) (by decide +kernel)) (fun _ _ _ _ _ => (pg_name (i := 3) sc_law_copy.nd rfl (Or.inl rfl))) (fun _ _ _ _ _ => pts_nil) (fun _ _ _ _ _ => (pe_cal (E := E0) C__law_copy (hr.mono (Nat.le_refl _)) pass0 (pa_cons (pv 3) pa_nil)))) pa_nil)))) pss_nil)
      (pss_one (ps_ret (pv 0)))))), ?_⟩
  have ht := ty_dp (ex_dp e _ _ hd)
  have fin := q x G H (Stp.refl e) hd
  refine ⟨_, rfl, x, _, _, _, _, rfl, .ty "dict", ht, kit_ty (kit_dict d), _, rfl, ?_⟩
  cases h1 : isT "dict" d with
  | true =>
    cases d <;> first | (exfalso; revert h1; simp [isT]; done) | skip
    cases hd
  | false =>
    refine ⟨_, rfl, x, _, _, _, _, rfl, .ty "list", ht, kit_ty (kit_list d), _, rfl, ?_⟩
    cases h2 : isT "list" d with
    | true =>
      obtain ⟨ds, rfl⟩ := isT_list h2
      obtain ⟨a, xs, rfl, hs, ha⟩ := dp_list hd
      obtain ⟨hz, hfd⟩ := hf ds (.inl rfl)
      have hl := dpa_len ha
      refine ⟨_, rfl, a, rfl, ⟨xs, ex_l e hs⟩, fun D hD => ?_⟩
      refine lcW (M := NoM) walk_list e (fun H' e => ex_l e hs) (by omega) (fun i y G => Dp K G y (ds.getD i .none)) dp_mono (fun _ => true) (fun i => [some (.ref a), none, none, some (xs.getD i .non)])
        (fun i y G' H' H'' hi a' yy Q q => turn_name (σ0 := [some (.ref a), none, none, none]) (j := 3) a' yy (by rw [List.getD_eq_getElem?_getD]; simp [hi]) q) (fun _ _ => rfl) (fun i G' H' hi a' Q q => yes_t a'.gh q) (fun i G' H' hi _ a' Q q => ?_) (fun _ _ h => h) hD (fun ys G' H' a' gD hl' hsel => ?_)
      · obtain ⟨d1, e1, g1⟩ := dpa_get ha (i := i) (v := xs.getD i .non) (by rw [List.getD_eq_getElem?_getD]; simp [hi])
        refine ⟨_, rfl, _, d1, G', rfl, a'.gh, ex_dp a'.gg _ _ g1, hfd d1 (List.mem_of_getElem? e1), fun v G2 H2 st hv => q _ _ _ st ?_⟩
        rw [getD_of e1]; exact hv
      · rw [hl] at hsel
        have hy := sel_dpa1 (enc := fun i => ds.getD i .none) hsel
        rw [range_id] at hy
        exact q _ _ _ (a'.fix hD hl') (.lst (SqL.of upd_same) (ex_dpa (Evl.Ex.new gD) hy))
    | false =>
      refine ⟨_, rfl, x, _, _, _, _, rfl, .ty "tuple", ht, kit_ty (kit_tup d), _, rfl, ?_⟩
      cases h3 : isT "tuple" d with
      | false => exact ⟨_, rfl, fin⟩
      | true =>
        obtain ⟨ds, rfl⟩ := isT_tup h3
        obtain ⟨a, xs, rfl, hs, ha⟩ := dp_tup hd
        obtain ⟨hz, hfd⟩ := hf ds (.inr rfl)
        have hl := dpa_len ha
        refine ⟨_, rfl, a, rfl, ⟨xs, ex_t e hs⟩, fun D hD => ?_⟩
        refine lcW (M := NoM) walk_tup e (fun H' e => ex_t e hs) (by omega) (fun i y G => Dp K G y (ds.getD i .none)) dp_mono (fun _ => true) (fun i => [some (.ref a), none, none, some (xs.getD i .non)])
          (fun i y G' H' H'' hi a' yy Q q => turn_name (σ0 := [some (.ref a), none, none, none]) (j := 3) a' yy (by rw [List.getD_eq_getElem?_getD]; simp [hi]) q) (fun _ _ => rfl) (fun i G' H' hi a' Q q => yes_t a'.gh q) (fun i G' H' hi _ a' Q q => ?_) (fun _ _ h => h) hD (fun ys G' H' a' gD hl' hsel => ?_)
        · obtain ⟨d1, e1, g1⟩ := dpa_get ha (i := i) (v := xs.getD i .non) (by rw [List.getD_eq_getElem?_getD]; simp [hi])
          refine ⟨_, rfl, _, d1, G', rfl, a'.gh, ex_dp a'.gg _ _ g1, hfd d1 (List.mem_of_getElem? e1), fun v G2 H2 st hv => q _ _ _ st ?_⟩
          rw [getD_of e1]; exact hv
        · rw [hl] at hsel
          have hy := sel_dpa1 (enc := fun i => ds.getD i .none) hsel
          rw [range_id] at hy
          refine ⟨D, ys, rfl, .inl ⟨SqL.of hl', fun l hl2 => ?_⟩⟩
          have gl : G' l = none := Evl.fresh_back a'.gh hl2
          exact q _ _ _ (a'.trans (Stp.new a'.gh hl2 (o := .tup ys))) (.tup (SqT.of upd_same) (ex_dpa (Evl.Ex.new gl) hy))
end
end K44
namespace K44
open PySem PySem.Spec PyProof.Rows L2 Hx Hd M44
open Evl (pss_cut tCut ex_l ex_t)
theorem wel {K : PySem.W.Frag} {G H : Hp} {xs : List V} {ws : List Wn} (h : DpAll K G xs (ws.map encP)) (e : Ex G H) {i : Nat} (hi : i < xs.length) :
    ∃ r, xs.getD i .non = .ref r ∧ SqT K H r [.int (ws.getD i (0, 0)).1, .int (ws.getD i (0, 0)).2] := by
  have hl := dpa_len h
  rw [List.length_map] at hl
  have hx : xs[i]? = some (xs.getD i .non) := by rw [List.getD_eq_getElem?_getD, List.getElem?_eq_getElem hi]; rfl
  obtain ⟨d, hd1, hd2⟩ := dpa_get h hx
  have hd0 : (ws.map encP)[i]? = some (encP (ws.getD i (0, 0))) := by
    rw [List.getElem?_map, List.getD_eq_getElem?_getD, List.getElem?_eq_getElem (by omega)]; rfl
  rw [hd0] at hd1
  obtain rfl := Option.some.inj hd1
  obtain ⟨r, zs, er, ht, hz⟩ := dp_tup (ex_dp e _ _ hd2)
  cases hz with
  | cons y1 hz => cases hz with
    | cons y2 hz =>
      cases hz; cases y1; cases y2
      exact ⟨r, er, ht⟩
theorem wel0 {K : PySem.W.Frag} {G H : Hp} {xs : List V} {ws : List Wn} (h : DpAll K G xs (ws.map encP)) (e : Ex G H) {i : Nat} (hi : i < xs.length) {Q : VK} (q : Q (.int (ws.getD i (0, 0)).1) H) : rIxT K (xs.getD i .non) (.int 0) H Q := by
  obtain ⟨r, er, ht⟩ := wel h e hi
  rw [er]
  exact ⟨r, _, 0, _, rfl, rfl, ht, rfl, q⟩
theorem wel1 {K : PySem.W.Frag} {G H : Hp} {xs : List V} {ws : List Wn} (h : DpAll K G xs (ws.map encP)) (e : Ex G H) {i : Nat} (hi : i < xs.length) {Q : VK} (q : Q (.int (ws.getD i (0, 0)).2) H) : rIxT K (xs.getD i .non) (.int 1) H Q := by
  obtain ⟨r, er, ht⟩ := wel h e hi
  rw [er]
  exact ⟨r, _, 1, _, rfl, rfl, ht, rfl, q⟩
section
variable {P : Program} {w : World} {K : PySem.W.Frag} {mg : Str → Option Value} {base : Heap}
abbrev N_law_told_crowd : List Str := ["windows", "high", "one", "lows", "at"]
theorem sc_law_told_crowd : FnScope N_law_told_crowd ["windows"] (defScope (top 45)) := ⟨rfl, rfl, rfl, by decide +kernel, rfl, by decide +kernel, by decide +kernel⟩
theorem ok_toldcrowd (T : Txt K mg) (C__law_count : Cal P w K mg base CX0 1 "_law_count" ["low", "high"] spCnt) (C__law_inside_places : Cal P w K mg base CX0 1 "_law_inside_places" ["windows", "low", "high"] (spInside K)) :
    Cal P w K mg base CX0 2 "_law_told_crowd" ["windows"] (spCrowd K) := by
  refine mkCal T.g__law_told_crowd T.d__law_told_crowd sc_law_told_crowd (fun _ _ _ _ _ _ us hl => match us, hl with | [_], _ => rfl) (fun vs H Q E h => ?_) fun cdv A outer s H vs Q E hr h => ?_
  · obtain ⟨x, d, rfl, _⟩ := h; rfl
  obtain ⟨a, ws, rfl, hw, hn, q⟩ := h
  refine ⟨_, (pss_cons (ps_for PassesOwn.never rfl (piL (K := K) (pe_callB (sortI (K := K) hr.units) (by rfl) T.n_sorted (by decide +kernel) (pa_cons (pe_lc (own := [("one", 2)]) (g := gName 2) rfl sc_law_told_crowd.nd (piL (K := K) (pv 0)) (blkOk_by (N := N_law_told_crowd) (sc := defScope (top 45)) (by decide +kernel)) (fun _ _ _ _ _ => (pg_name (i := 2) sc_law_told_crowd.nd rfl (Or.inl rfl))) (fun _ _ _ _ _ => pts_nil) (fun _ _ _ _ _ => (pe_ix (ixT (K := K)) (pv 2) pe_int (fun _ _ => rfl)))) pa_nil))) (pg_name (i := 1) sc_law_told_crowd.nd rfl (Or.inr rfl)) (pss_cons (ps_set (i := 3) sc_law_told_crowd.nd rfl (Or.inl rfl) (pe_callBK (sortRev (K := K)) (by rfl) T.n_sorted (by decide +kernel) (pa_cons (pe_lc (own := [("one", 2)]) (g := gName 2) rfl sc_law_told_crowd.nd (piL (K := K) (pv 0)) (blkOk_by (N := N_law_told_crowd) (sc := defScope (top 45)) (by decide +kernel)) (fun _ _ _ _ _ => (pg_name (i := 2) sc_law_told_crowd.nd rfl (Or.inl rfl))) (fun _ _ _ _ _ => pts_one (pt_cmpR op_le (pe_ix (ixT (K := K)) (pv 2) pe_int (fun _ _ => rfl)) (pv 1) (nomark _))) (fun _ _ _ _ _ => (pe_ix (ixT (K := K)) (pv 2) pe_int (fun _ _ => rfl)))) pa_nil) (pk_cons pe_bl pk_nil)))
      (pss_one (ps_for PassesOwn.never rfl (pi_range1 (by rfl) T.n_range (pa_cons (pe_callB (lenL (K := K)) (by rfl) T.n_len PySem.boot_len (pa_cons (pv 3) pa_nil)) pa_nil)) (pg_name (i := 4) sc_law_told_crowd.nd rfl (Or.inl rfl)) (pss_one (ps_if (pt_cmpR op_gt (pe_op op_add (pv 4) pe_int) (pe_cal (E := E0) C__law_count (hr.mono (by decide)) pass0 (pa_cons (pe_ix (ixL (K := K)) (pv 3) (pv 4) (fun _ _ => rfl)) (pa_cons (pv 1) pa_nil))) (nomark _)) (pss_one (ps_ret (pe_tup (pa_cons pe_str (pa_cons (pe_ix (ixL (K := K)) (pv 3) (pv 4) (fun _ _ => rfl)) (pa_cons (pv 1) (pa_cons (pe_cal (E := E0) C__law_inside_places (hr.mono (by decide)) pass0 (pa_cons (pv 0) (pa_cons (pe_ix (ixL (K := K)) (pv 3) (pv 4) (fun _ _ => rfl)) (pa_cons (pv 1) pa_nil)))) pa_nil))))))) pss_nil))))))
      (pss_one (ps_ret pe_non))), ?_⟩
  obtain ⟨xs, hx, hd⟩ := id hw
  have hxl : xs.length = ws.length := by have := dpa_len hd; rwa [List.length_map] at this
  refine ⟨_, rfl, a, rfl, ⟨xs, hx⟩, fun D hD => ?_⟩
  refine lcW (M := NoM) walk_list (Evl.Ex.refl H) (fun H' e => ex_l e hx) (by omega) (fun i y G => Dp K G y (.int (ws.getD i (0, 0)).2)) dp_mono (fun _ => true) (fun i => [some (.ref a), none, some (xs.getD i .non), none, none])
    (fun i y G' H' H'' hi a' yy Q q => turn_name (σ0 := [some (.ref a), none, none, none, none]) (j := 2) a' yy (by rw [List.getD_eq_getElem?_getD]; simp [hi]) q) (fun _ _ => rfl) (fun i G' H' hi a' Q q => yes_t a'.gh q) (fun i G' H' hi _ a' Q q => ?_) (fun _ _ h => h) hD (fun ys G1 H1 a1 gD hD1 hsel => ?_)
  · exact ⟨_, rfl, wel1 hd (a'.gg.trans a'.gh) hi (q _ _ _ (Stp.refl a'.gh) (.int _))⟩
  have hsel' := sel_dpa1 (enc := fun i => PyData.int (ws.getD i (0, 0)).2) hsel
  have ew : (List.range xs.length).map (fun i => PyData.int (ws.getD i (0, 0)).2) = (ws.map (·.2)).map PyData.int := by
    have z := range_map ws (0, 0) (fun w => PyData.int w.2)
    rw [hxl, z, List.map_map]
    rfl
  rw [ew] at hsel'
  refine ⟨D, ys, ws.map (·.2), G1, rfl, SqL.of hD1, a1.gh, hsel', fun zs p hp hzl hzs => ?_⟩
  have ele : (PySem.W.dataLe false PyData.int) = fun a b : Int => decide (a ≤ b) := PySem.W.dataLe_int (fun b : Int => b)
  rw [ele] at hzs
  have e01 := a1.gg.trans a1.gh
  obtain rfl := dpa_ints' hzs
  have hco : crowdOf ws = crowdRun ws ((ws.map (·.2)).mergeSort fun a b => decide (a ≤ b)) := rfl
  rw [hco] at q
  generalize (ws.map (·.2)).mergeSort (fun a b => decide (a ≤ b)) = ns at q ⊢
  have ex1 : Ex H (upd H1 p (.lst (ns.map V.int))) := e01.trans (Evl.Ex.new hp)
  refine ⟨p, rfl, ⟨_, SqL.of upd_same⟩, ?_⟩
  refine for_it walk_list (fun i σ' H' => ∃ hv lv av, σ' = [some (.ref a), hv, none, lv, av] ∧ Ex (upd H1 p (.lst (ns.map V.int))) H' ∧ crowdRun ws (ns.drop i) = crowdRun ws ns)
    ⟨none, none, none, rfl, Evl.Ex.refl _, rfl⟩ (fun i σ' H' hi ⟨_, _, _, _, e', _⟩ => ex_l e' (SqL.of upd_same)) ?_ ?_
  · rintro i x σ' H' H'' hi ⟨hv, lv, av, rfl, e', hf⟩ ⟨rfl, hy1⟩
    have hi' : i < ns.length := by simpa using hi
    obtain rfl : V.int ns[i] = x := by
      have : (ns.map V.int)[i]? = some (V.int ns[i]) := by rw [List.getElem?_map, List.getElem?_eq_getElem hi']; rfl
      exact Option.some.inj (this.symm.trans hy1)
    rw [List.drop_eq_getElem_cons hi'] at hf
    have hf : (match greatestLow ws ns[i] with | some low => some (low, ns[i], inside ws low ns[i]) | none => crowdRun ws (ns.drop (i + 1))) = crowdRun ws ns := hf
    generalize ns[i] = high at hf
    have e2 := ex1.trans e'
    refine ⟨_, rfl, a, rfl, ⟨xs, ex_l e2 hx⟩, fun D2 hD2 => ?_⟩
    refine lcW (M := NoM) walk_list (Evl.Ex.refl H'') (fun H' e => ex_l (e2.trans e) hx) (by omega) (fun i y _ => y = .int (ws.getD i (0, 0)).1) (fun _ _ _ _ _ h => h) (fun i => decide ((ws.getD i (0, 0)).2 ≤ high)) (fun i => [some (.ref a), some (.int high), some (xs.getD i .non), lv, av])
      (fun i y G' H' H'' hi a' yy Q q => turn_name (σ0 := [some (.ref a), some (.int high), none, lv, av]) (j := 2) a' yy (by rw [List.getD_eq_getElem?_getD]; simp [hi]) q) (fun _ _ => rfl) (fun i G' H' hi a' Q q => ?_) (fun i G' H' hi _ a' Q q => ?_) (fun _ _ h => h) hD2 (fun ys G3 H3 a3 gD3 hD3 hsel3 => ?_)
    · obtain ⟨r, er, ht⟩ := wel hd (e2.trans (a'.gg.trans a'.gh)) hi
      refine ⟨_, rfl, ?_⟩
      rw [er]
      exact ⟨r, _, 1, _, rfl, rfl, ht, rfl, _, rfl, _, high, rfl, rfl, _, rfl, q G' H' (Stp.refl a'.gh)⟩
    · exact ⟨_, rfl, wel0 hd (e2.trans (a'.gg.trans a'.gh)) hi (q _ _ _ (Stp.refl a'.gh) rfl)⟩
    have ey : ys = ((ws.filter fun w => decide (w.2 ≤ high)).map (·.1)).map V.int := by
      rw [sel_flat hsel3, hxl, ← range_sel ws (0, 0) (fun w => decide (w.2 ≤ high)) (·.1), List.map_map]
      rfl
    refine ⟨D2, _, rfl, rfl, by rw [← ey]; exact SqL.of hD3, fun ls p2 pm ob hp2 => ?_⟩
    have e : ls = lowsOf ws high := lows_by pm ob
    have e3 := e2.trans (a3.gg.trans a3.gh)
    have hll : ls.length ≤ 100000 := by
      rw [pm.length_eq, List.length_map]; exact Nat.le_trans (List.length_filter_le _ _) (by omega)
    have eL : Ex (upd H1 p (.lst (ns.map V.int))) (upd H3 p2 (.lst (ls.map V.int))) := (e'.trans (a3.gg.trans a3.gh)).trans (Evl.Ex.new hp2)
    have hLs : upd H3 p2 (.lst (ls.map V.int)) p2 = some (.lst (ls.map V.int)) := upd_same
    generalize upd H3 p2 (.lst (ls.map V.int)) = H4 at eL hLs ⊢
    refine ⟨_, rfl, p2, _, rfl, .inl (SqL.of hLs), _, rfl, by rw [List.length_map]; omega, by rw [List.length_map]; omega, ?_⟩
    rw [Int.toNat_natCast, List.length_map]
    refine for_it walk_range (fun j σ' H' => ∃ av, σ' = [some (.ref a), some (.int high), none, some (.ref p2), av] ∧ Ex H4 H' ∧ firstLow high (ls.drop j) j = greatestLow ws high)
      ⟨av, rfl, Evl.Ex.refl _, by rw [e]; rfl⟩ (fun _ _ _ _ _ => trivial) ?_ ?_
    · rintro j v σ' H5 H6 hj ⟨av, rfl, e5, hg⟩ ⟨rfl, rfl⟩
      show gName 4 (V.int (0 + (j : Int))) _ _ _
      rw [Int.zero_add]
      have hjx : (ls.map V.int)[j]? = some (V.int ls[j]) := by rw [List.getElem?_map, List.getElem?_eq_getElem hj]; rfl
      rw [List.drop_eq_getElem_cons hj] at hg
      have hg : (if ((j : Nat) : Int) + 1 > cnt ls[j] high then some ls[j] else firstLow high (ls.drop (j + 1)) (j + 1)) = greatestLow ws high := hg
      generalize ls[j] = low at hjx hg
      have hL6 : SqL K H6 p2 (ls.map V.int) := ex_l e5 (SqL.of hLs)
      have e6 := (ex1.trans eL).trans e5
      refine ⟨_, rfl, (j : Nat), 1, rfl, rfl, _, rfl, _, rfl, p2, _, _, _, rfl, rfl, hL6, at_nat hjx, _, rfl, low, high, rfl, _, _, rfl, rfl, _, rfl, ?_⟩
      refine ite2 (fun h1 => ?_) (fun h1 => ?_)
      · rw [if_pos (of_decide_eq_true h1)] at hg
        rw [← hg] at hf
        have q : Crw Q H (some (low, high, inside ws low high)) := by
          have z : some (low, high, inside ws low high) = crowdRun ws ns := hf
          rw [z]; exact q
        refine ⟨_, rfl, _, rfl, p2, _, _, _, rfl, rfl, hL6, at_nat hjx, _, rfl, _, rfl, _, rfl, _, rfl, p2, _, _, _, rfl, rfl, hL6, at_nat hjx, _, rfl, a, ws, low, high, rfl, hw.keep e6, by omega, fun l H7 hl e7 hl7 => ?_⟩
        refine ⟨Nat.le_trans (show 4 ≤ 100000 by decide) (by decide), fun t ht => ?_⟩
        have e67 := e6.trans e7
        refine q t l _ (Evl.fresh_back e67 ht) (Evl.fresh_back e6 hl) (e67.trans (Evl.Ex.new ht)) upd_same ?_
        rw [upd_ne (ne_of_none hl7 ht)]; exact hl7
      · rw [if_neg fun z => h1 (decide_eq_true z)] at hg
        exact ⟨_, rfl, e5, hg⟩
    · rintro σ' H5 ⟨av, rfl, e5, hg⟩
      rw [List.drop_eq_nil_of_le (Nat.le_refl _)] at hg
      rw [← hg] at hf
      exact ⟨_, _, _, rfl, eL.trans e5, hf⟩
  · rintro σ' H' ⟨hv, lv, av, rfl, e', hf⟩
    rw [List.length_map, List.drop_eq_nil_of_le (Nat.le_refl _)] at hf
    rw [← hf] at q
    exact q _ (ex1.trans e')
end
end K44
namespace K44
open PySem PySem.Spec PyProof.Rows L2 Hx Hd M44
open Evl (pss_cut tCut ex_l ex_t)
/-- k turns of: if the number is taken, the next -/
def stepn (tk : List Int) : Nat → Int → Int
  | 0, n => n
  | k + 1, n => if stepn tk k n ∈ tk then stepn tk k n + 1 else stepn tk k n
theorem stepn_at {tk : List Int} {n m : Int} (hm : m ∉ tk) (h : ∀ x, n ≤ x → x < m → x ∈ tk) (hle : n ≤ m) : ∀ k : Nat, stepn tk k n = if n + k ≤ m then n + k else m
  | 0 => by
    show n = _
    rw [if_pos (by omega)]; omega
  | k + 1 => by
    show (if stepn tk k n ∈ tk then stepn tk k n + 1 else stepn tk k n) = _
    rw [stepn_at hm h hle k]
    by_cases h1 : n + k ≤ m
    · rw [if_pos h1]
      by_cases h2 : n + k = m
      · rw [h2, if_neg hm, if_neg (by omega)]
      · rw [if_pos (h _ (by omega) (by omega)), if_pos (by omega)]; omega
    · rw [if_neg h1, if_neg hm, if_neg (by omega)]
/-- what climb finds -/
theorem climb_spec (tk : List Int) (high : Int) : ∀ n, n ≤ climb tk high n ∧ (∀ x, n ≤ x → x < climb tk high n → x ∈ tk ∧ x ≤ high) ∧ (climb tk high n ≤ high → climb tk high n ∉ tk) := by
  have key : ∀ (k : Nat) (n : Int), (high + 1 - n).toNat ≤ k → n ≤ climb tk high n ∧ (∀ x, n ≤ x → x < climb tk high n → x ∈ tk ∧ x ≤ high) ∧ (climb tk high n ≤ high → climb tk high n ∉ tk) := by
    intro k
    induction k with
    | zero =>
      intro n hk
      rw [climb_stop (fun z => by omega)]
      exact ⟨Int.le_refl _, fun x h1 h2 => by omega, fun h => by omega⟩
    | succ k ih =>
      intro n hk
      by_cases h : n ≤ high ∧ n ∈ tk
      · rw [climb_step h]
        obtain ⟨a, b, c⟩ := ih (n + 1) (by omega)
        refine ⟨by omega, fun x h1 h2 => ?_, c⟩
        by_cases e : x = n
        · rw [e]; exact ⟨h.2, h.1⟩
        · exact b x (by omega) h2
      · rw [climb_stop h]
        exact ⟨Int.le_refl _, fun x h1 h2 => by omega, fun h1 h2 => h ⟨h1, h2⟩⟩
  exact fun n => key _ n (Nat.le_refl _)
/-- so many numbers of a list, one beside the other -/
theorem run_len {tk : List Int} {n : Int} {k : Nat} (h : ∀ x, n ≤ x → x < n + k → x ∈ tk) : k ≤ tk.length := by
  have nd : ((List.range k).map fun i : Nat => n + (i : Int)).Nodup := by
    refine List.Pairwise.map _ (fun a b (hab : a ≠ b) => ?_) List.nodup_range
    intro e
    exact hab (by omega)
  have := nd.length_le_of_subset (l₂ := tk) fun x hx => by
    obtain ⟨i, hi, rfl⟩ := List.mem_map.mp hx
    have := List.mem_range.mp hi
    exact h _ (by omega) (by omega)
  simpa using this
theorem steps_climb {tk : List Int} {high n : Int} {k : Nat} (hk : tk.length < k) (h : climb tk high n ≤ high) : stepn tk k n = climb tk high n := by
  obtain ⟨a, b, c⟩ := climb_spec tk high n
  have hl : (climb tk high n - n).toNat ≤ tk.length := run_len (n := n) fun x h1 h2 => (b x h1 (by omega)).1
  rw [stepn_at (c h) (fun x h1 h2 => (b x h1 h2).1) a, if_neg (by omega)]
/-- what stands at the places: the seat where one was given -/
def fnd (ws : List Wn) (seats : List Int) (done : List Int) : List V := (List.range ws.length).map fun k => if ((k : Nat) : Int) ∈ done then V.int (seats.getD k 0) else V.non
theorem fnd_set {ws : List Wn} {seats : List Int} {done : List Int} {k : Nat} {n : Int} (hk : k < seats.length) : (fnd ws seats done).set k (.int n) = fnd ws (seats.set k n) (((k : Nat) : Int) :: done) := by
  apply List.ext_getElem
  · simp [fnd]
  · intro i h1 h2
    have hi : i < ws.length := by simpa [fnd] using h2
    rw [List.getElem_set]
    by_cases e : k = i
    · subst e
      simp [fnd, List.getD_eq_getElem?_getD, hk]
    · rw [if_neg e]
      simp only [fnd, List.getElem_map, List.getElem_range, List.mem_cons]
      have e' : ¬ ((i : Int) = (k : Int)) := fun z => e (by omega)
      simp only [e', false_or]
      simp [List.getD_eq_getElem?_getD, List.getElem?_set, e]
theorem fnd_nil (ws : List Wn) (seats : List Int) : fnd ws seats [] = List.replicate ws.length V.non := by
  unfold fnd
  apply List.ext_getElem
  · simp
  · intro i h1 h2; simp
theorem fnd_all {ws : List Wn} {seats : List Int} {done : List Int} (hl : seats.length = ws.length) (h : ∀ k : Nat, k < ws.length → ((k : Nat) : Int) ∈ done) : fnd ws seats done = seats.map V.int := by
  unfold fnd
  apply List.ext_getElem
  · simp [hl]
  · intro i h1 h2
    have hi : i < ws.length := by simpa using h1
    have hi2 : i < seats.length := by omega
    simp [h i hi, List.getD_eq_getElem?_getD, hi2]
theorem fnd_flat (ws : List Wn) (seats : List Int) (done : List Int) : (fnd ws seats done).all flatV = true := by
  rw [List.all_eq_true]
  intro x hx
  obtain ⟨k, _, rfl⟩ := List.mem_map.mp hx
  split <;> rfl
theorem inV_fnd {n : Int} {xs : List V} (h : ∀ x ∈ xs, x = .non ∨ ∃ m, x = .int m) : inV (.int n) xs = decide (V.int n ∈ xs) := by
  rw [Bool.eq_iff_iff, decide_eq_true_iff]
  unfold inV
  rw [List.any_eq_true]
  constructor
  · rintro ⟨x, hx, e⟩
    rcases h x hx with rfl | ⟨m, rfl⟩
    · cases e
    · have : m = n := by simpa [eqV] using e
      rw [← this]; exact hx
  · intro hx
    exact ⟨_, hx, by simp [eqV]⟩
theorem fnd_two (ws : List Wn) (seats : List Int) (done : List Int) : ∀ x ∈ fnd ws seats done, x = .non ∨ ∃ m, x = .int m := by
  intro x hx
  obtain ⟨k, _, rfl⟩ := List.mem_map.mp hx
  split
  · exact .inr ⟨_, rfl⟩
  · exact .inl rfl
theorem places_nd (ws : List Wn) : ((rows ws).map (·.2)).Nodup := by
  have p : ((rows ws).map (·.2)).Perm ((List.range ws.length).map fun i : Nat => (i : Int)) := by
    have z := (List.mergeSort_perm ((List.range ws.length).map (row ws)) leP).map (·.2)
    rw [List.map_map] at z
    exact z
  refine p.nodup_iff.mpr (List.Pairwise.map _ (fun a b (hab : a ≠ b) => ?_) List.nodup_range)
  intro e
  exact hab (by omega)
theorem fnd_mem {ws : List Wn} {seats : List Int} {done : List Int} {k : Nat} {n m : Int} (hk : k < ws.length) (hd : ((k : Nat) : Int) ∉ done) : V.int m ∈ (fnd ws seats done).set k (.int n) ↔ m = n ∨ V.int m ∈ fnd ws seats done := by
  have hl : (fnd ws seats done).length = ws.length := by simp [fnd]
  constructor
  · intro h
    rcases List.mem_or_eq_of_mem_set h with h | h
    · exact .inr h
    · exact .inl (V.int.inj h)
  · rintro (rfl | h)
    · exact List.mem_set (by omega) _
    · obtain ⟨j, hj, e⟩ := List.getElem_of_mem h
      have hjk : k ≠ j := by
        rintro rfl
        have : (fnd ws seats done)[k] = V.non := by simp [fnd, hd]
        rw [this] at e; cases e
      rw [← e]
      have : ((fnd ws seats done).set k (.int n))[j]'(by rw [List.length_set]; exact hj) = (fnd ws seats done)[j] := by rw [List.getElem_set, if_neg hjk]
      rw [← this]
      exact List.getElem_mem _
section
variable {P : Program} {w : World} {K : PySem.W.Frag} {mg : Str → Option Value} {base : Heap}
def spToldS (K : PySem.W.Frag) : Sp := fun vs H Q _ => ∃ a ws seats, vs = [.ref a] ∧ Wns K H a ws ∧ ws.length ≤ 100000 ∧ seatsOf ws = some seats ∧ ∀ p H2, H p = none → Ex H H2 → H2 p = some (.lst (seats.map V.int)) → Q (.ref p) H2
abbrev N_law_told_seats : List Str := ["windows", "found", "one", "high", "at", "number", "turn"]
theorem sc_law_told_seats : FnScope N_law_told_seats ["windows"] (defScope (top 42)) := ⟨rfl, rfl, rfl, by decide +kernel, rfl, by decide +kernel, by decide +kernel⟩
theorem ok_toldseats (T : Txt K mg) : Cal P w K mg base CX0 1 "_law_told_seats" ["windows"] (spToldS K) := by
  refine mkCal T.g__law_told_seats T.d__law_told_seats sc_law_told_seats (fun _ _ _ _ _ _ us hl => match us, hl with | [_], _ => rfl) (fun vs H Q E h => ?_) fun cdv A outer s H vs Q E hr h => ?_
  · obtain ⟨x, d, _, rfl, _⟩ := h; rfl
  obtain ⟨a, ws, final, rfl, hw, hn, hso, q⟩ := h
  refine ⟨_, (pss_cons (ps_setLc (i := 1) (own := [("one", 2)]) (g := gName 2) rfl sc_law_told_seats.nd rfl rfl (sw_true rfl rfl rfl (by decide +kernel)) (piL (K := K) (pv 0)) (blkOk_by (N := N_law_told_seats) (sc := defScope (top 42)) (by decide +kernel)) (fun _ _ _ _ _ => (pg_name (i := 2) sc_law_told_seats.nd rfl (Or.inl rfl))) (fun _ _ _ _ _ => pts_nil) (fun _ _ _ _ _ => pe_non))
      (pss_cons (ps_for PassesOwn.never rfl (piL (K := K) (pe_callB (sortP (K := K) hr.units) (by rfl) T.n_sorted (by decide +kernel) (pa_cons (pe_lc (own := [("at", 4)]) (g := gName 4) rfl sc_law_told_seats.nd (pi_range1 (by rfl) T.n_range (pa_cons (pe_callB (lenL (K := K)) (by rfl) T.n_len PySem.boot_len (pa_cons (pv 0) pa_nil)) pa_nil)) (blkOk_by (N := N_law_told_seats) (sc := defScope (top 42)) (by decide +kernel)) (fun _ _ _ _ _ => (pg_name (i := 4) sc_law_told_seats.nd rfl (Or.inl rfl))) (fun _ _ _ _ _ => pts_nil) (fun _ _ _ _ _ => (pe_tup (pa_cons (pe_ix (ixT (K := K)) (pe_ix (ixL (K := K)) (pv 0) (pv 4) (fun _ _ => rfl)) pe_int (fun _ _ => rfl)) (pa_cons (pv 4) pa_nil))))) pa_nil))) (pgTup (K := K) rfl (pgs_cons (pg_name (i := 3) sc_law_told_seats.nd rfl (Or.inl rfl)) (pgs_cons (pg_name (i := 4) sc_law_told_seats.nd rfl (Or.inl rfl)) pgs_nil))) (pss_cons (ps_set (i := 5) sc_law_told_seats.nd rfl (Or.inl rfl) (pe_ix (ixT (K := K)) (pe_ix (ixL (K := K)) (pv 0) (pv 4) (fun _ _ => rfl)) pe_int (fun _ _ => rfl)))
      (pss_cons (ps_for PassesOwn.never rfl (pi_range1 (by rfl) T.n_range (pa_cons (pe_callB (lenL (K := K)) (by rfl) T.n_len PySem.boot_len (pa_cons (pv 0) pa_nil)) pa_nil)) (pg_name (i := 6) sc_law_told_seats.nd rfl (Or.inl rfl)) (pss_one (ps_if (pt_cmpR (inL (K := K)) (pv 5) (pv 1) (by rfl)) (pss_one (ps_set (i := 5) sc_law_told_seats.nd rfl (Or.inl rfl) (pe_op op_add (pv 5) pe_int))) pss_nil)))
      (pss_one (ps_asg (pv 5) (pg_sub (pv 1) (pv 4) set_list))))))
      (pss_one (ps_ret (pv 1))))), ?_⟩
  have hz : ∀ m : Nat, m ≤ 100000 → m ≤ sizeLine := fun m h => Nat.le_trans h (by decide)
  obtain ⟨xs, hx, hxl⟩ := hw.len
  refine ⟨_, rfl, a, rfl, ⟨xs, hx⟩, fun f0 hf0 => ?_⟩
  refine lcW (M := NoM) walk_list (Evl.Ex.refl H) (fun H' e => ex_l e hx) (by omega) (fun i y _ => y = .non) (fun _ _ _ _ _ h => h) (fun _ => true) (fun i => [some (.ref a), none, some (xs.getD i .non), none, none, none, none])
    (fun i y G' H' H'' hi a' yy Q q => turn_name (σ0 := [some (.ref a), none, none, none, none, none, none]) (j := 2) a' yy (by rw [List.getD_eq_getElem?_getD]; simp [hi]) q) (fun _ _ => rfl) (fun i G' H' hi a' Q q => yes_t a'.gh q) (fun i G' H' hi _ a' Q q => q _ _ _ (Stp.refl a'.gh) rfl) (fun _ _ h => h) hf0 (fun fs G0 H0 a0 g0 hF0 hsel0 => ?_)
  have efs : fs = fnd ws (List.replicate ws.length 0) [] := by
    rw [fnd_nil, sel_flat1 hsel0, hxl]
    apply List.ext_getElem
    · simp
    · intro i h1 h2; simp
  subst efs
  have e0 := a0.gg.trans a0.gh
  refine ⟨_, rfl, a, xs, rfl, .inl (ex_l e0 hx), _, rfl, by omega, by omega, fun D hD => ?_⟩
  rw [Int.toNat_natCast, hxl]
  refine lcW (M := NoM) walk_range a0.gh (fun _ _ => trivial) (by omega) (fun i y G => Dp K G y (encP (row ws i))) dp_mono (fun _ => true) (fun i => [some (.ref a), some (.ref f0), none, none, some (.int (i : Nat)), none, none])
    (fun i y G' H' H'' hi a' yy Q q => turn_range0 (σ0 := [some (.ref a), some (.ref f0), none, none, none, none, none]) (j := 4) a' yy q) (fun _ _ => rfl) (fun i G' H' hi a' Q q => yes_t a'.gh q) (fun i G' H' hi _ a' Q q => ?_) (fun _ _ h => h) hD (fun ys G1 H2 a1 gD hD2 hsel => ?_)
  · refine ⟨_, rfl, _, rfl, wix1 (hw.keep (a0.gg.trans (a'.gg.trans a'.gh))) hi ⟨_, rfl, hz 2 (by omega), fun p hp => ?_⟩⟩
    exact q _ _ _ (Stp.new a'.gh hp) (dp_pair (x := (row ws i).1) (y := (row ws i).2) upd_same)
  have hsel' := sel_dpa1 (enc := fun i => encP (row ws i)) hsel
  have ew : (List.range ws.length).map (fun i => encP (row ws i)) = ((List.range ws.length).map (row ws)).map encP := by rw [List.map_map]; rfl
  rw [ew] at hsel'
  have hf2 : H2 f0 = _ := a1.hh f0 _ (fun h => h) hF0
  have g1f : G1 f0 = none := a1.fr f0 (some_ne hF0) g0
  refine ⟨D, ys, (List.range ws.length).map (row ws), G1, rfl, SqL.of hD2, a1.gh, hsel', fun zs p hp hzl hzs => ?_⟩
  rw [le_dataLe] at hzs
  have hzs : DpAll K G1 zs ((rows ws).map encP) := hzs
  have nfp : f0 ≠ p := ne_of_none hf2 hp
  have hg1p : G1 p = none := Evl.fresh_back a1.gh hp
  have eHG : Ex H (upd G1 p (.lst zs)) := (a0.gg.trans a1.gg).trans (Evl.Ex.new hg1p)
  have eG : Ex (upd G1 p (.lst zs)) (upd H2 p (.lst zs)) := fun x o h => by
    by_cases hx : x = p
    · rw [hx, upd_same] at h ⊢; exact h
    · rw [upd_ne hx] at h ⊢; exact a1.gh x o h
  have ggf : upd G1 p (.lst zs) f0 = none := by rw [upd_ne nfp]; exact g1f
  have hzs2 : DpAll K (upd G1 p (.lst zs)) zs ((rows ws).map encP) := ex_dpa (Evl.Ex.new hg1p) hzs
  have hgp : upd G1 p (.lst zs) p = some (.lst zs) := upd_same
  generalize upd G1 p (.lst zs) = G at eHG eG ggf hzs2 hgp
  have hzl2 : zs.length = ws.length := by have := dpa_len hzs; rw [List.length_map, rows_len] at this; exact this
  have hpl : ∀ k : Nat, k < ws.length → ((k : Nat) : Int) ∈ (rows ws).map (·.2) := fun k hk => by
    refine List.mem_map.mpr ⟨row ws k, ?_, rfl⟩
    exact (List.mergeSort_perm _ _).mem_iff.mpr (List.mem_map.mpr ⟨k, List.mem_range.mpr hk, rfl⟩)
  refine ⟨p, rfl, ⟨zs, SqL.of upd_same⟩, ?_⟩
  refine for_it walk_list (fun i σ' H' => ∃ pv hv nv tv seats tk done, σ' = [some (.ref a), some (.ref f0), none, hv, pv, nv, tv] ∧ Ex G H' ∧ H' f0 = some (.lst (fnd ws seats done)) ∧
      (∀ n : Int, V.int n ∈ fnd ws seats done ↔ n ∈ tk) ∧ tk.length = i ∧ (∀ k, k ∈ ((rows ws).take i).map (·.2) ↔ k ∈ done) ∧ seats.length = ws.length ∧ seatRun ws ((rows ws).drop i) seats tk = seatsOf ws)
    ⟨none, none, none, none, List.replicate ws.length 0, [], [], rfl, eG, by rw [upd_ne nfp]; exact hf2, fun n => by rw [fnd_nil]; simp, rfl, fun k => by simp, by simp, rfl⟩
    (fun i σ' H' hi ⟨_, _, _, _, _, _, _, _, eG', _⟩ => ex_l eG' (SqL.of hgp)) ?_ ?_
  · rintro i x σ' H' H'' hi ⟨pv, hv, nv, tv, seats, tk, done, rfl, eG', hs', hmem, hkl, hdn, hsl, hrun⟩ ⟨rfl, hx'⟩
    have hir : i < (rows ws).length := by rw [rows_len]; omega
    obtain ⟨d, hd1, hd2⟩ := dpa_get hzs2 hx'
    have hd0 : ((rows ws).map encP)[i]? = some (encP (rows ws)[i]) := by rw [List.getElem?_map, List.getElem?_eq_getElem hir]; rfl
    rw [hd0] at hd1
    obtain rfl := Option.some.inj hd1
    obtain ⟨k, hk, ek⟩ := rows_place (List.getElem_mem hir)
    have hdrop : (rows ws).drop i = (rows ws)[i] :: (rows ws).drop (i + 1) := List.drop_eq_getElem_cons hir
    have htake : (rows ws).take (i + 1) = (rows ws).take i ++ [(rows ws)[i]] := (List.take_append_getElem hir).symm
    rw [hdrop, ek] at hrun
    rw [ek] at hd2 htake
    refine gpair (ex_dp eG' _ _ hd2) ?_
    have hw' : Wns K H'' a ws := hw.keep (eHG.trans eG')
    refine ⟨_, rfl, _, rfl, wix0 hw' hk ?_⟩
    have hseat : seatRun ws (row ws k :: (rows ws).drop (i + 1)) seats tk = if climb tk (row ws k).1 (ws.getD k (0, 0)).1 > (row ws k).1 then none else seatRun ws ((rows ws).drop (i + 1)) (seats.set k (climb tk (row ws k).1 (ws.getD k (0, 0)).1)) (climb tk (row ws k).1 (ws.getD k (0, 0)).1 :: tk) := rfl
    rw [hso, hseat] at hrun
    have hc : ¬ climb tk (row ws k).1 (ws.getD k (0, 0)).1 > (row ws k).1 := fun z => by rw [if_pos z] at hrun; cases hrun
    rw [if_neg hc] at hrun
    have hst := steps_climb (k := ws.length) (show tk.length < ws.length by omega) (show climb tk (row ws k).1 (ws.getD k (0, 0)).1 ≤ (row ws k).1 by omega)
    rw [← hst] at hrun
    generalize (row ws k).1 = high at *
    generalize (ws.getD k (0, 0)).1 = n0 at *
    obtain ⟨xs2, hx2, hx2l⟩ := hw'.len
    refine ⟨_, rfl, a, xs2, rfl, .inl hx2, _, rfl, by omega, by omega, ?_⟩
    rw [Int.toNat_natCast, hx2l]
    refine for_it walk_range (fun j σ' H' => ∃ tv, σ' = [some (.ref a), some (.ref f0), none, some (.int high), some (.int (k : Nat)), some (.int (stepn tk j n0)), tv] ∧ H'' = H')
      ⟨tv, rfl, rfl⟩ (fun _ _ _ _ _ => trivial) ?_ ?_
    · rintro j v σ' H5 H6 hj ⟨tv, rfl, rfl⟩ ⟨rfl, rfl⟩
      refine ⟨_, rfl, _, rfl, f0, _, rfl, .inl (SqL.of hs'), rfl, fnd_flat _ _ _, _, rfl, ?_⟩
      have ein : (if false = true then !inV (.int (stepn tk j n0)) (fnd ws seats done) else inV (.int (stepn tk j n0)) (fnd ws seats done)) = decide (stepn tk j n0 ∈ tk) := by
        rw [if_neg Bool.false_ne_true, inV_fnd (fnd_two _ _ _)]
        exact decide_eq_decide.mpr (hmem _)
      have estep : stepn tk (j + 1) n0 = if stepn tk j n0 ∈ tk then stepn tk j n0 + 1 else stepn tk j n0 := rfl
      refine ite2 (fun h1 => ?_) (fun h1 => ?_)
      · have h1 := of_decide_eq_true (ein.symm.trans h1)
        rw [if_pos h1] at estep
        exact ⟨_, rfl, _, 1, rfl, rfl, ⟨_, by rw [estep]; rfl, rfl⟩⟩
      · have h1 : ¬ stepn tk j n0 ∈ tk := fun z => h1 (ein.trans (decide_eq_true z))
        rw [if_neg h1] at estep
        exact ⟨_, by rw [estep]; rfl, rfl⟩
    · rintro σ' H5 ⟨tv, rfl, rfl⟩
      refine ⟨_, rfl, _, rfl, _, rfl, f0, _, (k : Nat), k, rfl, rfl, hs', ?_, ?_⟩
      · unfold ixN
        have : (fnd ws seats done).length = ws.length := by simp [fnd]
        rw [if_pos (by omega), if_pos (by rw [this]; omega), Int.toNat_natCast]
      · rw [fnd_set (by omega)]
        generalize stepn tk ws.length n0 = n at hrun
        have hlen : (fnd ws seats done).length = ws.length := by simp [fnd]
        refine ⟨_, _, _, _, seats.set k n, n :: tk, ((k : Nat) : Int) :: done, rfl, fun x o h => ?_, upd_same, fun m => ?_, by rw [List.length_cons, hkl], fun j => ?_, by rw [List.length_set]; exact hsl, by rw [hso]; exact hrun⟩
        · rw [upd_ne (fun z => by rw [z, ggf] at h; cases h)]
          exact eG' x o h
        · have hkd : ((k : Nat) : Int) ∉ done := fun z => by
            have nd : (((rows ws).take (i + 1)).map (·.2)).Nodup := (places_nd ws).sublist ((List.take_sublist _ _).map _)
            rw [htake, List.map_append, List.nodup_append] at nd
            exact nd.2.2 _ ((hdn _).mpr z) (k : Int) (by simp [row]) rfl
          rw [← fnd_set (by omega), fnd_mem hk hkd, List.mem_cons, hmem m]
        · rw [htake, List.map_append, List.mem_append, hdn j, List.mem_cons]
          have : j ∈ [row ws k].map (·.2) ↔ j = (k : Int) := by simp [row]
          rw [this]
          exact or_comm
  · rintro σ' H' ⟨pv, hv, nv, tv, seats, tk, done, rfl, eG', hs', hmem, hkl, hdn, hsl, hrun⟩
    rw [hzl2, List.drop_eq_nil_of_le (by rw [rows_len]; exact Nat.le_refl _), hso] at hrun
    have hfin : seats = final := Option.some.inj hrun
    subst hfin
    have e : fnd ws seats done = seats.map V.int := fnd_all hsl fun k hk => (hdn _).mp (by rw [hzl2, List.take_of_length_le (by rw [rows_len]; exact Nat.le_refl _)]; exact hpl k hk)
    rw [e] at hs'
    exact ⟨_, rfl, q f0 H' hf0 (eHG.trans eG') hs'⟩
end
end K44
/-! the sweep over plain lists -/
namespace M44
open PySem
abbrev Tr := Int × Int × Int
def leT (p q : Tr) : Bool := decide (p.1 < q.1 ∨ (p.1 = q.1 ∧ (p.2.1 < q.2.1 ∨ (p.2.1 = q.2.1 ∧ p.2.2 ≤ q.2.2))))
def trip (ws : List Wn) (i : Nat) : Tr := ((ws.getD i (0, 0)).1, (ws.getD i (0, 0)).2, (i : Int))
def lefts (ws : List Wn) : List Tr := ((List.range ws.length).map (trip ws)).mergeSort leT
def pull1 (n : Int) : List Tr × List (Int × Int) → List Tr × List (Int × Int)
  | (t :: l, r) => if t.1 ≤ n then (l, r ++ [(t.2.1, t.2.2)]) else (t :: l, r)
  | ([], r) => ([], r)
def pull (n : Int) : Nat → List Tr × List (Int × Int) → List Tr × List (Int × Int)
  | 0, s => s
  | k + 1, s => pull1 n (pull n k s)
def jump (l : List Tr) (r : List (Int × Int)) (n : Int) : Int := match r, l with
  | [], t :: _ => t.1
  | _, _ => n
def sweep (m : Nat) : Nat → List Tr → List (Int × Int) → Int → List (Option Int) → Option (List (Option Int))
  | 0, _, _, _, f => some f
  | t + 1, l, r, n, f => match (pull (jump l r n) m (l, r)).2.mergeSort leP with
    | [] => some f
    | h :: rest => if h.1 < jump l r n then none else sweep m t (pull (jump l r n) m (l, r)).1 rest (jump l r n + 1) (f.set h.2.toNat (some (jump l r n)))
def sweepOf (ws : List Wn) : Option (List (Option Int)) := sweep ws.length (2 * ws.length + 1) (lefts ws) [] 0 (List.replicate ws.length none)
abbrev encR (p : Tr) : PyData := .tuple [.int p.1, .int p.2.1, .int p.2.2]
theorem le_dataT : (PySem.W.dataLe false encR) = leT := by
  funext p q
  show (!PySem.W.dataLt (.tuple [.int q.1, .int q.2.1, .int q.2.2]) (.tuple [.int p.1, .int p.2.1, .int p.2.2])) = _
  have e : PySem.W.dataLt (.tuple [.int q.1, .int q.2.1, .int q.2.2]) (.tuple [.int p.1, .int p.2.1, .int p.2.2]) = decide (q.1 < p.1 ∨ (q.1 = p.1 ∧ (q.2.1 < p.2.1 ∨ (q.2.1 = p.2.1 ∧ q.2.2 < p.2.2)))) := by
    rw [PySem.W.dataLt_tuple, PySem.W.dataLt_cons (by simp [PySem.W.alike]), PySem.W.dataLt_cons (by simp [PySem.W.alike]), PySem.W.dataLt_cons (by simp [PySem.W.alike]), PySem.W.dataLt_int, PySem.W.dataLt_int, PySem.W.dataLt_int]
    have e0 : PyProof.Rows.lexLt PyProof.Rows.itemOrd (PySem.W.keyToksAll []) (PySem.W.keyToksAll []) = false := PyProof.Rows.lex_irrefl _
    rw [e0]
    simp only [PyData.eqv, beq_iff_eq]
    by_cases h1 : q.1 = p.1 <;> by_cases h2 : q.2.1 = p.2.1 <;> by_cases h3 : q.2.2 = p.2.2 <;> simp [h1, h2, h3]
  rw [e]
  unfold leT
  rw [Bool.eq_iff_iff, Bool.not_eq_true', decide_eq_false_iff_not, decide_eq_true_iff]
  omega
end M44
namespace K44
open PySem PySem.Spec PyProof.Rows L2 Hx Hd M44
open Evl (pss_cut tCut ex_l ex_t)
def optV : Option Int → V
  | none => .non
  | some n => .int n
/-- the sweep's lists -/
structure SwI (K : PySem.W.Frag) (Gb H : Hp) (f0 l0 r0 : Addr) (f : List (Option Int)) (l : List Tr) (r : List (Int × Int)) : Prop where
  ex : ∃ G lv rv, Ex Gb G ∧ Ex G H ∧ G f0 = none ∧ G l0 = none ∧ G r0 = none ∧ f0 ≠ l0 ∧ f0 ≠ r0 ∧ l0 ≠ r0 ∧ H f0 = some (.lst (f.map optV)) ∧ H l0 = some (.lst lv) ∧ H r0 = some (.lst rv) ∧ DpAll K G lv (l.map Hx.encT) ∧ DpAll K G rv (r.map encP)
theorem SwI.base {K : PySem.W.Frag} {Gb H : Hp} {f0 l0 r0 : Addr} {f : List (Option Int)} {l : List Tr} {r : List (Int × Int)} (s : SwI K Gb H f0 l0 r0 f l r) : Ex Gb H := by
  obtain ⟨G, lv, rv, e1, e2, _⟩ := s.ex
  exact e1.trans e2
theorem gtrip {K : PySem.W.Frag} {H : Hp} {x : V} {p : Tr} {i j k : Nat} {σ : L2.St} {Q : L2.St → Hp → Prop} (h : Dp K H x (Hx.encT p)) (q : Q (((σ.set i (some (.int p.1))).set j (some (.int p.2.1))).set k (some (.int p.2.2))) H) : gTup K 3 (gCons (gName i) (gCons (gName j) (gCons (gName k) gNil))) x σ H Q := by
  obtain ⟨r, ys, rfl, ht, hy⟩ := dp_tup h
  cases hy with
  | cons y1 hy => cases hy with
    | cons y2 hy => cases hy with
      | cons y3 hy =>
        cases hy; cases y1; cases y2; cases y3
        exact ⟨r, _, rfl, ht, rfl, _, _, rfl, _, _, rfl, _, _, rfl, rfl, q⟩
theorem dp_trip0 {K : PySem.W.Frag} {H : Hp} {x : V} {p : Tr} (h : Dp K H x (Hx.encT p)) {Q : VK} (q : Q (.int p.1) H) : rIxT K x (.int 0) H Q := by
  obtain ⟨r, ys, rfl, ht, hy⟩ := dp_tup h
  cases hy with
  | cons y1 hy =>
    cases y1
    exact ⟨r, _, 0, _, rfl, rfl, ht, at_of (j := 0) rfl rfl, q⟩
theorem trip_ref {K : PySem.W.Frag} {H : Hp} {x : V} {p : Tr} (h : Dp K H x (Hx.encT p)) : ∃ r, x = .ref r ∧ SqT K H r [.int p.1, .int p.2.1, .int p.2.2] := by
  obtain ⟨r, ys, rfl, ht, hy⟩ := dp_tup h
  cases hy with
  | cons y1 hy => cases hy with
    | cons y2 hy => cases hy with
      | cons y3 hy =>
        cases hy; cases y1; cases y2; cases y3
        exact ⟨r, rfl, ht⟩
theorem ex_mut {G H : Hp} {p : Addr} {o : HO} (e : Ex G H) (g : G p = none) : Ex G (upd H p o) := fun x u h => by
  rw [upd_ne (fun z => by rw [z, g] at h; cases h)]; exact e x u h
section
variable {P : Program} {w : World} {K : PySem.W.Frag} {mg : Str → Option Value} {base : Heap}
def spSwept (K : PySem.W.Frag) : Sp := fun vs H Q _ => ∃ a ws, vs = [.ref a] ∧ Wns K H a ws ∧ ws.length ≤ 100000 ∧ (sweepOf ws = none → ∀ H2, Ex H H2 → Q .non H2) ∧ (∀ f, sweepOf ws = some f → ∀ p H2, H p = none → Ex H H2 → H2 p = some (.lst (f.map optV)) → Q (.ref p) H2)
abbrev N_law_swept : List Str := ["windows", "found", "one", "left", "at", "ready", "number", "turn", "more", "low", "high"]
theorem sc_law_swept : FnScope N_law_swept ["windows"] (defScope (top 41)) := ⟨rfl, rfl, rfl, by decide +kernel, rfl, by decide +kernel, by decide +kernel⟩
theorem ok_swept (T : Txt K mg) : Cal P w K mg base CX0 1 "_law_swept" ["windows"] (spSwept K) := by
  refine mkCal T.g__law_swept T.d__law_swept sc_law_swept (fun _ _ _ _ _ _ us hl => match us, hl with | [_], _ => rfl) (fun vs H Q E h => ?_) fun cdv A outer s H vs Q E hr h => ?_
  · obtain ⟨x, d, rfl, _⟩ := h; rfl
  obtain ⟨a, ws, rfl, hw, hn, q1, q2⟩ := h
  refine ⟨_, (pss_cons (ps_setLc (i := 1) (own := [("one", 2)]) (g := gName 2) rfl sc_law_swept.nd rfl rfl (sw_true rfl rfl rfl (by decide +kernel)) (piL (K := K) (pv 0)) (blkOk_by (N := N_law_swept) (sc := defScope (top 41)) (by decide +kernel)) (fun _ _ _ _ _ => (pg_name (i := 2) sc_law_swept.nd rfl (Or.inl rfl))) (fun _ _ _ _ _ => pts_nil) (fun _ _ _ _ _ => pe_non))
      (pss_cons (ps_set (i := 3) sc_law_swept.nd rfl (Or.inl rfl) (pe_callB (sortT (K := K) hr.units) (by rfl) T.n_sorted (by decide +kernel) (pa_cons (pe_lc (own := [("at", 4)]) (g := gName 4) rfl sc_law_swept.nd (pi_range1 (by rfl) T.n_range (pa_cons (pe_callB (lenL (K := K)) (by rfl) T.n_len PySem.boot_len (pa_cons (pv 0) pa_nil)) pa_nil)) (blkOk_by (N := N_law_swept) (sc := defScope (top 41)) (by decide +kernel)) (fun _ _ _ _ _ => (pg_name (i := 4) sc_law_swept.nd rfl (Or.inl rfl))) (fun _ _ _ _ _ => pts_nil) (fun _ _ _ _ _ => (pe_tup (pa_cons (pe_ix (ixT (K := K)) (pe_ix (ixL (K := K)) (pv 0) (pv 4) (fun _ _ => rfl)) pe_int (fun _ _ => rfl)) (pa_cons (pe_ix (ixT (K := K)) (pe_ix (ixL (K := K)) (pv 0) (pv 4) (fun _ _ => rfl)) pe_int (fun _ _ => rfl)) (pa_cons (pv 4) pa_nil)))))) pa_nil)))
      (pss_cons (ps_set (i := 5) sc_law_swept.nd rfl (Or.inl rfl) (pe_lst pa_nil))
      (pss_cons (ps_set (i := 6) sc_law_swept.nd rfl (Or.inl rfl) pe_int)
      (pss_cons (ps_for PassesOwn.never rfl (pi_range1 (by rfl) T.n_range (pa_cons (pe_op op_add (pe_op op_mul pe_int (pe_callB (lenL (K := K)) (by rfl) T.n_len PySem.boot_len (pa_cons (pv 0) pa_nil))) pe_int) pa_nil)) (pg_name (i := 7) sc_law_swept.nd rfl (Or.inl rfl)) (pss_cut (ps_if (PW.pt (pw_and (pt_cmpR op_eq (pe_callB (lenL (K := K)) (by rfl) T.n_len PySem.boot_len (pa_cons (pv 5) pa_nil)) pe_int (nomark _)) (pw_and1 (pt_cmpR op_gt (pe_callB (lenL (K := K)) (by rfl) T.n_len PySem.boot_len (pa_cons (pv 3) pa_nil)) pe_int (nomark _))))) (pss_one (ps_set (i := 6) sc_law_swept.nd rfl (Or.inl rfl) (pe_ix (ixT (K := K)) (pe_ix (ixL (K := K)) (pv 3) pe_int (fun _ _ => rfl)) pe_int (fun _ _ => rfl)))) pss_nil)
      (pss_cons (ps_for PassesOwn.never rfl (pi_range1 (by rfl) T.n_range (pa_cons (pe_callB (lenL (K := K)) (by rfl) T.n_len PySem.boot_len (pa_cons (pv 0) pa_nil)) pa_nil)) (pg_name (i := 8) sc_law_swept.nd rfl (Or.inl rfl)) (pss_one (ps_if (PW.pt (pw_and (pt_cmpR op_gt (pe_callB (lenL (K := K)) (by rfl) T.n_len PySem.boot_len (pa_cons (pv 3) pa_nil)) pe_int (nomark _)) (pw_and1 (pt_cmpR op_le (pe_ix (ixT (K := K)) (pe_ix (ixL (K := K)) (pv 3) pe_int (fun _ _ => rfl)) pe_int (fun _ _ => rfl)) (pv 6) (nomark _))))) (pss_cons (ps_asg (pe_bm PySem.F.plainAttrs_list PySem.F.slot_list_pop PySem.F.type_list_pop mt_popAt (pv 3) (pa_cons pe_int pa_nil)) (pgTup (K := K) rfl (pgs_cons (pg_name (i := 9) sc_law_swept.nd rfl (Or.inl rfl)) (pgs_cons (pg_name (i := 10) sc_law_swept.nd rfl (Or.inl rfl)) (pgs_cons (pg_name (i := 4) sc_law_swept.nd rfl (Or.inl rfl)) pgs_nil)))))
      (pss_one (ps_expr (pe_bm PySem.F.plainAttrs_list PySem.F.slot_list_append PySem.F.type_list_append mt_append (pv 5) (pa_cons (pe_tup (pa_cons (pv 10) (pa_cons (pv 4) pa_nil))) pa_nil))))) pss_nil)))
      (pss_cons (ps_if (pt_cmpR op_eq (pe_callB (lenL (K := K)) (by rfl) T.n_len PySem.boot_len (pa_cons (pv 5) pa_nil)) pe_int (nomark _)) (pss_one ps_break) pss_nil)
      (pss_cons (ps_set (i := 5) sc_law_swept.nd rfl (Or.inl rfl) (pe_callB (sortP (K := K) hr.units) (by rfl) T.n_sorted (by decide +kernel) (pa_cons (pv 5) pa_nil)))
      (pss_cons (ps_asg (pe_bm PySem.F.plainAttrs_list PySem.F.slot_list_pop PySem.F.type_list_pop mt_popAt (pv 5) (pa_cons pe_int pa_nil)) (pgTup (K := K) rfl (pgs_cons (pg_name (i := 10) sc_law_swept.nd rfl (Or.inl rfl)) (pgs_cons (pg_name (i := 4) sc_law_swept.nd rfl (Or.inl rfl)) pgs_nil))))
      (pss_cons (ps_if (pt_cmpR op_lt (pv 10) (pv 6) (nomark _)) (pss_one (ps_ret pe_non)) pss_nil)
      (pss_cons (ps_asg (pv 6) (pg_sub (pv 1) (pv 4) set_list))
      (pss_one (ps_set (i := 6) sc_law_swept.nd rfl (Or.inl rfl) (pe_op op_add (pv 6) pe_int)))))))))))
      (pss_one (ps_ret (pv 1)))))))), ?_⟩
  have hz : ∀ m : Nat, m ≤ 200000 → m < sizeLine := fun m h => Nat.lt_of_le_of_lt h (by decide)
  obtain ⟨xs, hx, hxl⟩ := hw.len
  refine ⟨_, rfl, a, rfl, ⟨xs, hx⟩, fun f0 hf0 => ?_⟩
  refine lcW (M := NoM) walk_list (Evl.Ex.refl H) (fun H' e => ex_l e hx) (by omega) (fun i y _ => y = .non) (fun _ _ _ _ _ h => h) (fun _ => true) (fun i => [some (.ref a), none, some (xs.getD i .non), none, none, none, none, none, none, none, none])
    (fun i y G' H' H'' hi a' yy Q q => turn_name (σ0 := [some (.ref a), none, none, none, none, none, none, none, none, none, none]) (j := 2) a' yy (by rw [List.getD_eq_getElem?_getD]; simp [hi]) q) (fun _ _ => rfl) (fun i G' H' hi a' Q q => yes_t a'.gh q) (fun i G' H' hi _ a' Q q => q _ _ _ (Stp.refl a'.gh) rfl) (fun _ _ h => h) hf0 (fun fs G0 H0 a0 g0 hF0 hsel0 => ?_)
  have efs : fs = (List.replicate ws.length (none : Option Int)).map optV := by
    rw [sel_flat1 hsel0, hxl]
    apply List.ext_getElem
    · simp
    · intro i h1 h2; simp [optV]
  subst efs
  have e0 := a0.gg.trans a0.gh
  refine ⟨_, rfl, a, xs, rfl, .inl (ex_l e0 hx), _, rfl, by omega, by omega, fun D hD => ?_⟩
  rw [Int.toNat_natCast, hxl]
  refine lcW (M := NoM) walk_range a0.gh (fun _ _ => trivial) (by omega) (fun i y G => Dp K G y (Hx.encT (trip ws i))) dp_mono (fun _ => true) (fun i => [some (.ref a), some (.ref f0), none, none, some (.int (i : Nat)), none, none, none, none, none, none])
    (fun i y G' H' H'' hi a' yy Q q => turn_range0 (σ0 := [some (.ref a), some (.ref f0), none, none, none, none, none, none, none, none, none]) (j := 4) a' yy q) (fun _ _ => rfl) (fun i G' H' hi a' Q q => yes_t a'.gh q) (fun i G' H' hi _ a' Q q => ?_) (fun _ _ h => h) hD (fun ys G1 H2 a1 gD hD2 hsel => ?_)
  · have hw' := hw.keep (a0.gg.trans (a'.gg.trans a'.gh))
    refine ⟨_, rfl, _, rfl, wix0 hw' hi ⟨_, rfl, _, rfl, wix1 hw' hi ⟨_, rfl, Nat.le_of_lt (hz 3 (by omega)), fun p hp => ?_⟩⟩⟩
    exact q _ _ _ (Stp.new a'.gh hp) (.tup (SqT.of upd_same) (.cons (.int _) (.cons (.int _) (.cons (.int _) .nil))))
  have hsel' := sel_dpa1 (enc := fun i => Hx.encT (trip ws i)) hsel
  have ew : (List.range ws.length).map (fun i => Hx.encT (trip ws i)) = ((List.range ws.length).map (trip ws)).map Hx.encT := by rw [List.map_map]; rfl
  rw [ew] at hsel'
  have hf2 : H2 f0 = _ := a1.hh f0 _ (fun h => h) hF0
  have g1f : G1 f0 = none := a1.fr f0 (some_ne hF0) g0
  refine ⟨D, ys, (List.range ws.length).map (trip ws), G1, rfl, SqL.of hD2, a1.gh, hsel', fun zs l0 hl0 hzl hzs => ?_⟩
  have elt : (PySem.W.dataLe false Hx.encT) = leT := le_dataT
  rw [elt] at hzs
  have hzs : DpAll K G1 zs ((lefts ws).map Hx.encT) := hzs
  have nfl : f0 ≠ l0 := ne_of_none hf2 hl0
  refine ⟨Nat.zero_le _, fun r0 hr0 => ?_⟩
  have nlr : l0 ≠ r0 := ne_of_none upd_same hr0
  have hr2 : H2 r0 = none := by rw [upd_ne (Ne.symm nlr)] at hr0; exact hr0
  have nfr : f0 ≠ r0 := ne_of_none hf2 hr2
  have g1l : G1 l0 = none := Evl.fresh_back a1.gh hl0
  have g1r : G1 r0 = none := Evl.fresh_back a1.gh hr2
  have s0 : SwI K H (upd (upd H2 l0 (.lst zs)) r0 (.lst [])) f0 l0 r0 (List.replicate ws.length none) (lefts ws) [] :=
    ⟨G1, zs, [], a0.gg.trans a1.gg, ex_mut (ex_mut a1.gh g1l) g1r, g1f, g1l, g1r, nfl, nfr, nlr, by rw [upd_ne nfr, upd_ne nfl]; exact hf2, by rw [upd_ne nlr]; exact upd_same, upd_same, hzs, .nil⟩
  generalize upd (upd H2 l0 (.lst zs)) r0 (.lst []) = H3 at s0 ⊢
  have hll : (lefts ws).length = ws.length := by unfold lefts; rw [List.length_mergeSort]; simp
  have hlm : ∀ t ∈ lefts ws, ∃ k : Nat, k < ws.length ∧ t = trip ws k := fun t ht => by
    obtain ⟨i, hi, rfl⟩ := List.mem_map.mp ((List.mergeSort_perm _ _).mem_iff.mp ht)
    exact ⟨i, List.mem_range.mp hi, rfl⟩
  refine ⟨_, rfl, a, xs, rfl, .inl (ex_l s0.base hx), 2, _, rfl, rfl, .inl (by decide), _, 1, rfl, rfl, _, rfl, ?_, ?_, ?_⟩
  · omega
  · omega
  have eT : (2 * (xs.length : Int) + 1).toNat = 2 * ws.length + 1 := by omega
  rw [eT]
  refine for_it walk_range (fun i σ' H' => ∃ av tv mv lv hv f l r n r0, σ' = [some (.ref a), some (.ref f0), none, some (.ref l0), av, some (.ref r0), some (.int n), tv, mv, lv, hv] ∧ SwI K H H' f0 l0 r0 f l r ∧
      sweep ws.length (2 * ws.length + 1 - i) l r n f = sweepOf ws ∧ f.length = ws.length ∧ (∀ t ∈ l, ∃ k : Nat, k < ws.length ∧ t = trip ws k) ∧ (∀ q ∈ r, ∃ k : Nat, k < ws.length ∧ q.2 = k) ∧ l.length + r.length ≤ ws.length)
    ⟨none, none, none, none, none, _, _, _, 0, r0, rfl, s0, rfl, by simp, hlm, fun _ h => (nomatch h), by rw [hll]; exact Nat.le_refl _⟩ (fun _ _ _ _ _ => trivial) ?_ ?_
  · rintro i x σ' H' H'' hi ⟨av, tv, mv, lv, hv, f, l, r, n, r0, rfl, s1, hsw, hfl, hl, hrr, hlr⟩ ⟨rfl, rfl⟩
    refine ⟨fun σ' H' => σ' = [some (.ref a), some (.ref f0), none, some (.ref l0), av, some (.ref r0), some (.int (jump l r n)), some (.int (0 + (i : Int))), mv, lv, hv] ∧ H'' = H', ?_, ?_⟩
    · obtain ⟨G, la, ra, e1, e2, gf, gl, gr, n1, n2, n3, hF, hL, hR, dl, dr⟩ := s1.ex
      have hla := dpa_len dl
      have hra := dpa_len dr
      rw [List.length_map] at hla hra
      refine ⟨_, rfl, r0, ra, rfl, .inl (SqL.of hR), rfl, _, rfl, ?_⟩
      rw [dec_int]
      refine ite2 (fun h1 => ?_) (fun h1 => ⟨?_, rfl⟩)
      · have hr0 : r = [] := List.eq_nil_of_length_eq_zero (by rw [beq_iff_eq] at h1; omega)
        subst hr0
        refine ⟨_, rfl, l0, la, rfl, .inl (SqL.of hL), _, 0, rfl, rfl, _, rfl, ?_⟩
        refine ite2 (fun h2 => ?_) (fun h2 => ⟨?_, rfl⟩)
        · have h2 := of_decide_eq_true h2
          cases l with
          | nil => rw [List.length_nil] at hla; omega
          | cons t l =>
            cases dl with
            | cons d1 d2 =>
              exact ⟨_, rfl, l0, _, 0, _, rfl, rfl, SqL.of hL, at_of (j := 0) rfl rfl, dp_trip0 (ex_dp e2 _ _ d1) ⟨rfl, rfl⟩⟩
        · have hl0 : l = [] := List.eq_nil_of_length_eq_zero (by have : ¬ (0 : Int) < (la.length : Int) := fun z => h2 (decide_eq_true z)
                                                                 omega)
          subst hl0
          rfl
      · have hr0 : r ≠ [] := fun z => h1 (by rw [z] at hra; rw [beq_iff_eq, hra]; rfl)
        cases r with
        | nil => exact absurd rfl hr0
        | cons _ _ => rfl
    rintro σ' H' ⟨rfl, rfl⟩
    have hsub : 2 * ws.length + 1 - i = (2 * ws.length + 1 - (i + 1)) + 1 := by omega
    rw [hsub] at hsw
    generalize 2 * ws.length + 1 - (i + 1) = T' at hsw ⊢
    have hsw : (match (pull (jump l r n) ws.length (l, r)).2.mergeSort leP with | [] => some f | h :: rest => if h.1 < jump l r n then none else sweep ws.length T' (pull (jump l r n) ws.length (l, r)).1 rest (jump l r n + 1) (f.set h.2.toNat (some (jump l r n)))) = sweepOf ws := hsw
    generalize jump l r n = n' at hsw ⊢
    have ebH := s1.base
    refine ⟨_, rfl, a, xs, rfl, .inl (ex_l ebH hx), _, rfl, by omega, by omega, ?_⟩
    rw [Int.toNat_natCast, hxl]
    refine for_it walk_range (fun j σ' H' => ∃ av mv lv hv l2 r2, σ' = [some (.ref a), some (.ref f0), none, some (.ref l0), av, some (.ref r0), some (.int n'), some (.int (0 + (i : Int))), mv, lv, hv] ∧ SwI K H H' f0 l0 r0 f l2 r2 ∧
        pull n' j (l, r) = (l2, r2) ∧ (∀ t ∈ l2, ∃ k : Nat, k < ws.length ∧ t = trip ws k) ∧ (∀ q ∈ r2, ∃ k : Nat, k < ws.length ∧ q.2 = k) ∧ l2.length + r2.length ≤ ws.length)
      ⟨av, mv, lv, hv, l, r, rfl, s1, rfl, hl, hrr, hlr⟩ (fun _ _ _ _ _ => trivial) ?_ ?_
    · rintro j x σ' H5 H6 hj ⟨av, mv, lv, hv, l2, r2, rfl, s2, hp, hl2, hr2, hlr2⟩ ⟨rfl, rfl⟩
      have hp1 : pull n' (j + 1) (l, r) = pull1 n' (l2, r2) := by show pull1 n' (pull n' j (l, r)) = _; rw [hp]
      obtain ⟨G, la, ra, e1, e2, gf, gl, gr, n1, n2, n3, hF, hL, hR, dl, dr⟩ := s2.ex
      have hla := dpa_len dl
      have hra := dpa_len dr
      rw [List.length_map] at hla hra
      refine ⟨_, rfl, l0, la, rfl, .inl (SqL.of hL), _, 0, rfl, rfl, _, rfl, ?_⟩
      refine ite2 (fun h2 => ?_) (fun h2 => ?_)
      · have h2 := of_decide_eq_true h2
        cases l2 with
        | nil => rw [List.length_nil] at hla; omega
        | cons t l2 =>
          cases dl with
          | cons d1 d2 =>
            rename_i x1 la1 _
            obtain ⟨rt, er, ht⟩ := trip_ref (ex_dp e2 _ _ d1)
            subst er
            refine ⟨_, rfl, l0, _, 0, _, rfl, rfl, SqL.of hL, at_of (j := 0) rfl rfl, rt, _, 0, _, rfl, rfl, ht, rfl, _, rfl, _, n', rfl, rfl, _, rfl, ?_⟩
            refine ite2 (fun h3 => ?_) (fun h3 => ?_)
            · have h3 := of_decide_eq_true h3
              refine ⟨_, rfl, .inl ⟨rfl, _, SqL.of hL⟩, l0, _, 0, 0, (.ref rt), rfl, rfl, hL, by decide, by decide, (ixN_seq (by unfold ixN; rw [if_pos (Int.le_refl _), if_pos (by rw [List.length_cons]; omega)]; rfl)).1, by simp, ?_⟩
              have eL : Ex G (upd H6 l0 (.lst ((V.ref rt :: la1).eraseIdx 0))) := ex_mut e2 gl
              refine gtrip (ex_dp eL _ _ d1) ?_
              have hR2 : upd H6 l0 (.lst ((V.ref rt :: la1).eraseIdx 0)) r0 = some (.lst ra) := by rw [upd_ne (Ne.symm n3)]; exact hR
              refine ⟨_, rfl, .inl ⟨rfl, _, SqL.of hR2⟩, _, rfl, _, rfl, Nat.le_of_lt (hz 2 (by omega)), fun t2 ht2 => ?_⟩
              have nt : ∀ {q : Addr} {o : HO}, upd H6 l0 (.lst ((V.ref rt :: la1).eraseIdx 0)) q = some o → q ≠ t2 := fun h => ne_of_none h ht2
              have gt : G t2 = none := Evl.fresh_back eL ht2
              have ntr : r0 ≠ t2 := nt hR2
              have ntl : l0 ≠ t2 := nt upd_same
              have ntf : f0 ≠ t2 := nt (show upd H6 l0 (.lst ((V.ref rt :: la1).eraseIdx 0)) f0 = some _ by rw [upd_ne n1]; exact hF)
              refine ⟨r0, ra, _, rfl, rfl, by rw [upd_ne ntr]; exact hR2, hz _ (by omega), ?_⟩
              have hpl : pull1 n' (t :: l2, r2) = (l2, r2 ++ [(t.2.1, t.2.2)]) := by show (if t.1 ≤ n' then _ else _) = _; rw [if_pos h3]
              obtain ⟨k, hk, ek⟩ := hl2 t (.head _)
              refine ⟨_, _, _, _, l2, r2 ++ [(t.2.1, t.2.2)], rfl, ⟨upd G t2 (.tup [.int t.2.1, .int t.2.2]), la1, ra ++ [.ref t2], e1.trans (Evl.Ex.new gt), ?_, ?_, ?_, ?_, n1, n2, n3, ?_, ?_, upd_same, ex_dpa (Evl.Ex.new gt) d2, ?_⟩, by rw [hp1, hpl], fun u hu => hl2 u (.tail _ hu), fun q hq => ?_, ?_⟩
              · refine ex_mut (fun b o hb => ?_) (by rw [upd_ne ntr]; exact gr)
                by_cases hb2 : b = t2
                · rw [hb2, upd_same] at hb ⊢; exact hb
                · rw [upd_ne hb2] at hb ⊢; exact eL b o hb
              · rw [upd_ne ntf]; exact gf
              · rw [upd_ne ntl]; exact gl
              · rw [upd_ne ntr]; exact gr
              · rw [upd_ne n2, upd_ne ntf, upd_ne n1]; exact hF
              · rw [upd_ne n3, upd_ne ntl, upd_same]; rfl
              · rw [List.map_append]
                exact dpa_app (ex_dpa (Evl.Ex.new gt) dr) (.cons (dp_pair (x := t.2.1) (y := t.2.2) upd_same) .nil)
              · rcases List.mem_append.mp hq with hq | hq
                · exact hr2 q hq
                · obtain rfl := List.mem_singleton.mp hq
                  exact ⟨k, hk, by rw [ek]; rfl⟩
              · rw [List.length_append, List.length_singleton]
                rw [List.length_cons] at hlr2; omega
            · have h3 : ¬ t.1 ≤ n' := fun z => h3 (decide_eq_true z)
              have hpl : pull1 n' (t :: l2, r2) = (t :: l2, r2) := by show (if t.1 ≤ n' then _ else _) = _; rw [if_neg h3]
              exact ⟨_, _, _, _, t :: l2, r2, rfl, s2, by rw [hp1, hpl], hl2, hr2, hlr2⟩
      · have hl0 : l2 = [] := List.eq_nil_of_length_eq_zero (by have : ¬ (0 : Int) < (la.length : Int) := fun z => h2 (decide_eq_true z)
                                                                omega)
        subst hl0
        exact ⟨_, _, _, _, [], r2, rfl, s2, by rw [hp1]; rfl, hl2, hr2, hlr2⟩
    · rintro σ' H5 ⟨av, mv, lv, hv, l2, r2, rfl, s2, hp, hl2, hr2, hlr2⟩
      rw [hp] at hsw
      obtain ⟨G, la, ra, e1, e2, gf, gl, gr, n1, n2, n3, hF, hL, hR, dl, dr⟩ := s2.ex
      have hla := dpa_len dl
      have hra := dpa_len dr
      rw [List.length_map] at hla hra
      refine ⟨_, rfl, r0, ra, rfl, .inl (SqL.of hR), rfl, _, rfl, ?_⟩
      rw [dec_int]
      refine ite2 (fun h1 => ?_) (fun h1 => ?_)
      · have hr0 : r2 = [] := List.eq_nil_of_length_eq_zero (by rw [beq_iff_eq] at h1; omega)
        subst hr0
        have hsw : some f = sweepOf ws := by simpa using hsw
        exact ⟨_, rfl, q2 f hsw.symm f0 H5 hf0 (e1.trans e2) hF⟩
      · refine ⟨_, rfl, r0, ra, r2, G, rfl, SqL.of hR, e2, dr, fun zs p hp0 hzl hzs => ?_⟩
        rw [le_dataLe] at hzs
        have hperm := List.mergeSort_perm r2 leP
        have hlen : (r2.mergeSort leP).length = r2.length := List.length_mergeSort _
        generalize r2.mergeSort leP = rs at hsw hzs hperm hlen
        cases rs with
        | nil =>
          exfalso
          apply h1
          rw [List.length_nil] at hlen
          rw [beq_iff_eq, hra, ← hlen]; rfl
        | cons hd rest =>
          have hsw : (if hd.1 < n' then none else sweep ws.length T' l2 rest (n' + 1) (f.set hd.2.toNat (some n'))) = sweepOf ws := hsw
          obtain ⟨k, hk, ek⟩ := hr2 hd (hperm.mem_iff.mp (.head _))
          cases hzs with
          | cons d1 d2 =>
            rename_i z1 zs1
            have gp : G p = none := Evl.fresh_back e2 hp0
            have nfp : f0 ≠ p := ne_of_none hF hp0
            have nlp : l0 ≠ p := ne_of_none hL hp0
            have e3 : Ex G (upd H5 p (.lst (z1 :: zs1))) := ex_mut e2 gp
            have hP : upd H5 p (.lst (z1 :: zs1)) p = some (.lst (z1 :: zs1)) := upd_same
            refine ⟨_, rfl, .inl ⟨rfl, _, SqL.of hP⟩, p, _, 0, 0, z1, rfl, rfl, hP, by decide, by decide, (ixN_seq (by unfold ixN; rw [if_pos (Int.le_refl _), if_pos (by rw [List.length_cons]; omega)]; rfl)).1, by simp, ?_⟩
            have e4 : Ex G (upd (upd H5 p (.lst (z1 :: zs1))) p (.lst ((z1 :: zs1).eraseIdx 0))) := ex_mut e3 gp
            have hF4 : upd (upd H5 p (.lst (z1 :: zs1))) p (.lst ((z1 :: zs1).eraseIdx 0)) f0 = some (.lst (f.map optV)) := by rw [upd_ne nfp, upd_ne nfp]; exact hF
            have hL4 : upd (upd H5 p (.lst (z1 :: zs1))) p (.lst ((z1 :: zs1).eraseIdx 0)) l0 = some (.lst la) := by rw [upd_ne nlp, upd_ne nlp]; exact hL
            have hP4 : upd (upd H5 p (.lst (z1 :: zs1))) p (.lst ((z1 :: zs1).eraseIdx 0)) p = some (.lst zs1) := by rw [upd_same]; rfl
            generalize upd (upd H5 p (.lst (z1 :: zs1))) p (.lst ((z1 :: zs1).eraseIdx 0)) = H7 at e4 hF4 hL4 hP4 ⊢
            refine gpair (ex_dp e4 _ _ d1) ?_
            refine ⟨_, rfl, _, rfl, _, n', rfl, rfl, _, rfl, ?_⟩
            refine ite2 (fun h5 => ?_) (fun h5 => ?_)
            · rw [if_pos (of_decide_eq_true h5)] at hsw
              exact q1 hsw.symm _ (e1.trans e4)
            · rw [if_neg fun z => h5 (decide_eq_true z)] at hsw
              have eset : (f.map optV).set k (.int n') = (f.set k (some n')).map optV := by rw [List.map_set]; rfl
              refine ⟨_, rfl, _, rfl, _, rfl, f0, _, hd.2, k, rfl, rfl, hF4, ?_, ?_⟩
              · rw [ek]; unfold ixN
                rw [if_pos (by omega), if_pos (by rw [List.length_map]; omega), Int.toNat_natCast]
              rw [eset]
              have ekn : hd.2.toNat = k := by rw [ek, Int.toNat_natCast]
              rw [ekn] at hsw
              refine ⟨_, rfl, n', 1, rfl, rfl, _, _, _, _, _, f.set k (some n'), l2, rest, n' + 1, p, rfl, ⟨G, la, zs1, e1, ex_mut e4 gf, gf, gl, gp, n1, nfp, nlp, upd_same, by rw [upd_ne (Ne.symm n1)]; exact hL4, by rw [upd_ne (Ne.symm nfp)]; exact hP4, dl, d2⟩, hsw, by rw [List.length_set]; exact hfl, hl2, fun q hq => hr2 q (hperm.mem_iff.mp (.tail _ hq)), ?_⟩
              rw [List.length_cons] at hlen; omega
  · rintro σ' H' ⟨av, tv, mv, lv, hv, f, l, r, n, r0, rfl, s1, hsw, _⟩
    rw [Nat.sub_self] at hsw
    obtain ⟨G, lv, rv, e1, e2, _, _, _, _, _, _, hf, _⟩ := s1.ex
    exact ⟨_, rfl, q2 f hsw.symm f0 H' hf0 (e1.trans e2) hf⟩
end
end K44
namespace K44
open PySem PySem.Spec PyProof.Rows L2 Hx Hd M44
open Evl (pss_cut tCut ex_l ex_t)
/-- all tuples stand still -/
def Tk (H H' : Hp) : Prop := ∀ a xs, H a = some (.tup xs) → H' a = some (.tup xs)
theorem Tk.refl (H : Hp) : Tk H H := fun _ _ h => h
theorem Tk.trans {H H1 H2 : Hp} (a : Tk H H1) (b : Tk H1 H2) : Tk H H2 := fun x xs h => b x xs (a x xs h)
theorem Tk.kp {s : Addr} {H H' : Hp} {ys : List V} (k : Kp s H H') (h : H s = some (.lst ys)) : Tk H H' := fun x xs hx => k x _ (fun z => by rw [z, h] at hx; cases hx) hx
theorem Tk.mut {H H' : Hp} {p : Addr} {ys : List V} {o : HO} (k : Tk H H') (h : H' p = some (.lst ys)) : Tk H (upd H' p o) := fun x xs hx => by
  have := k x xs hx
  rw [upd_ne (fun z => by rw [z, h] at this; cases this)]; exact this
theorem Tk.new {H H' : Hp} {p : Addr} {o : HO} (k : Tk H H') (h : H' p = none) : Tk H (upd H' p o) := fun x xs hx => by
  have := k x xs hx
  rw [upd_ne (ne_of_none this h)]; exact this
theorem Strm.lst {H : Hp} {s L : Addr} (h : Strm H s L) : ∃ ys, H s = some (.lst ys) := by
  obtain ⟨ns, c, k, h, _⟩ := h.ex
  exact ⟨_, h⟩
/-- fresh pairs -/
abbrev Tp (H : Hp) (v : V) (w : Wn) : Prop := ∃ r, v = .ref r ∧ H r = some (.tup [.int w.1, .int w.2])
theorem tp_mono {H H' : Hp} (k : Tk H H') {v : V} {w : Wn} (h : Tp H v w) : Tp H' v w := by
  obtain ⟨r, rfl, h⟩ := h
  exact ⟨r, rfl, k _ _ h⟩
theorem tp_dpa {K : PySem.W.Frag} {H : Hp} : ∀ {fv : List V} {ws : List Wn}, Paired (Tp H) fv ws → DpAll K H fv (ws.map encP)
  | _, _, .nil => .nil
  | _, _, .cons ⟨_, e, h⟩ t => by
    subst e
    exact .cons (dp_pair h) (tp_dpa t)
theorem paired_getD {α β : Type} {F : α → β → Prop} : ∀ {as : List α} {bs : List β}, Paired F as bs → ∀ (i : Nat), i < bs.length → ∀ (d : β), ∃ a, as[i]? = some a ∧ F a (bs.getD i d)
  | _, _, .nil, i, h, _ => (nomatch h)
  | a :: as, b :: bs, .cons r t, i, h, d => by
    cases i with
    | zero => exact ⟨a, rfl, r⟩
    | succ i =>
      obtain ⟨x, hx, f⟩ := paired_getD t i (by rw [List.length_cons] at h; omega) d
      exact ⟨x, hx, f⟩
theorem paired_set {α β : Type} {F : α → β → Prop} : ∀ {as : List α} {bs : List β}, Paired F as bs → ∀ (i : Nat) {a : α} {b : β}, F a b → Paired F (as.set i a) (bs.set i b)
  | _, _, .nil, i, _, _, _ => .nil
  | _ :: _, _ :: _, .cons r t, 0, _, _, h => .cons h t
  | _ :: _, _ :: _, .cons r t, i + 1, _, _, h => .cons r (paired_set t i h)
/-- windows beside one another -/
def Near (ws : List Wn) : Prop := ∃ b : Int, ∀ w ∈ ws, b ≤ w.1 ∧ w.1 ≤ b + 150 ∧ b ≤ w.2 ∧ w.2 ≤ b + 150
section
variable {P : Program} {w : World} {K : PySem.W.Frag} {mg : Str → Option Value} {base : Heap}
def spSome (K : PySem.W.Frag) : Sp := fun vs H Q _ => ∃ (s L : Addr) (m z : Nat) (wide : Int), vs = [.ref s, .int (m : Int), .int (z : Int), .int wide] ∧ Strm H s L ∧ m ≤ 120 ∧ z ≤ 126 ∧ 1 ≤ wide ∧ wide ≤ 9 ∧
  ∀ p ys ws H2, H p = none → Kp s H H2 → Strm H2 s L → H2 p = some (.lst ys) → DpAll K H2 ys (ws.map encP) → ws.length = m → Near ws → Q (.ref p) H2
abbrev N_law_some_windows : List Str := ["stream", "many", "size", "wide", "base", "hidden", "at", "found", "turn", "low", "high", "kind", "other"]
theorem sc_law_some_windows : FnScope N_law_some_windows ["stream", "many", "size", "wide"] (defScope (top 40)) := ⟨rfl, rfl, rfl, by decide +kernel, rfl, by decide +kernel, by decide +kernel⟩
theorem ok_some (T : Txt K mg) (C__law_next : Cal P w K mg base CX0 1 "_law_next" ["stream", "many"] spNext) (C__law_pick : Cal P w K mg base CX0 2 "_law_pick" ["stream", "rows"] (spPick K))
    (C__law_shuffled : Cal P w K mg base CX0 2 "_law_shuffled" ["stream", "rows"] (spShuf K)) : Cal P w K mg base CX0 3 "_law_some_windows" ["stream", "many", "size", "wide"] (spSome K) := by
  refine mkCal T.g__law_some_windows T.d__law_some_windows sc_law_some_windows (fun _ _ _ _ _ _ us hl => match us, hl with | [_, _, _, _], _ => rfl) (fun vs H Q E h => ?_) fun cdv A outer s0 H vs Q E hr h => ?_
  · obtain ⟨x, _, _, _, d, rfl, _⟩ := h; rfl
  obtain ⟨s, L, m, z, wide, rfl, st, hm, hz, w1, w2, q⟩ := h
  refine ⟨_, (pss_cons (ps_set (i := 4) sc_law_some_windows.nd rfl (Or.inr rfl) (pe_cal (E := E0) C__law_pick (hr.mono (by decide)) pass0 (pa_cons (pv 0) (pa_cons (pe_tup (pa_cons pe_int (pa_cons pe_int (pa_cons (pe_un un_neg pe_int) (pa_cons pe_int (pa_cons (pe_un un_neg (pe_op op_pow pe_int pe_int)) pa_nil)))))) pa_nil))))
      (pss_cons (ps_set (i := 5) sc_law_some_windows.nd rfl (Or.inl rfl) (pe_cal (E := E0) C__law_shuffled (hr.mono (by decide)) pass0 (pa_cons (pv 0) (pa_cons (pe_lc (own := [("at", 6)]) (g := gName 6) rfl sc_law_some_windows.nd (pi_range1 (by rfl) T.n_range (pa_cons (pe_callB (call_max2 rfl) (by rfl) T.n_max (by decide +kernel) (pa_cons (pv 2) (pa_cons (pv 1) pa_nil))) pa_nil)) (blkOk_by (N := N_law_some_windows) (sc := defScope (top 40)) (by decide +kernel)) (fun _ _ _ _ _ => (pg_name (i := 6) sc_law_some_windows.nd rfl (Or.inl rfl))) (fun _ _ _ _ _ => pts_nil) (fun _ _ _ _ _ => (pe_op op_add (pv 4) (pv 6)))) pa_nil))))
      (pss_cons (ps_set (i := 7) sc_law_some_windows.nd rfl (Or.inl rfl) (pe_lst pa_nil))
      (pss_cons (ps_for PassesOwn.never rfl (pi_range1 (by rfl) T.n_range (pa_cons (pv 1) pa_nil)) (pg_name (i := 8) sc_law_some_windows.nd rfl (Or.inl rfl)) (pss_cons (ps_set (i := 9) sc_law_some_windows.nd rfl (Or.inl rfl) (pe_op op_sub (pe_ix (ixL (K := K)) (pv 5) (pv 8) (fun _ _ => rfl)) (pe_cal (E := E0) C__law_next (hr.mono (by decide)) pass0 (pa_cons (pv 0) (pa_cons (pv 3) pa_nil)))))
      (pss_cons (ps_set (i := 10) sc_law_some_windows.nd rfl (Or.inl rfl) (pe_op op_add (pe_ix (ixL (K := K)) (pv 5) (pv 8) (fun _ _ => rfl)) (pe_cal (E := E0) C__law_next (hr.mono (by decide)) pass0 (pa_cons (pv 0) (pa_cons (pv 3) pa_nil)))))
      (pss_cut (ps_if (pt_cmpR op_eq (pe_cal (E := E0) C__law_next (hr.mono (by decide)) pass0 (pa_cons (pv 0) (pa_cons pe_int pa_nil))) pe_int (nomark _)) (pss_one (ps_par (i := 9) (j := 10) (by rfl) sc_law_some_windows.nd rfl rfl (by decide) rfl rfl (pa_cons (pv 10) (pa_cons (pv 9) pa_nil)) (by rfl))) pss_nil)
      (pss_one (ps_expr (pe_bm PySem.F.plainAttrs_list PySem.F.slot_list_append PySem.F.type_list_append mt_append (pv 7) (pa_cons (pe_tup (pa_cons (pv 9) (pa_cons (pv 10) pa_nil))) pa_nil))))))))
      (pss_cons (ps_set (i := 11) sc_law_some_windows.nd rfl (Or.inl rfl) (pe_cal (E := E0) C__law_next (hr.mono (by decide)) pass0 (pa_cons (pv 0) (pa_cons pe_int pa_nil))))
      (pss_cons (ps_for PassesOwn.never rfl (pi_range1 (by rfl) T.n_range (pa_cons (pe_callB (call_min2 rfl) (by rfl) T.n_min (by decide +kernel) (pa_cons (pv 1) (pa_cons (pe_ix (ixT (K := K)) (pe_tup (pa_cons pe_int (pa_cons pe_int (pa_cons pe_int (pa_cons pe_int pa_nil))))) (pe_op op_mod (pe_callTy call_int1 (by rfl) T.n_int (by decide +kernel) (pa_cons (pv 11) pa_nil)) pe_int) (fun _ _ => rfl)) pa_nil))) pa_nil)) (pg_name (i := 8) sc_law_some_windows.nd rfl (Or.inl rfl)) (pss_cons (ps_set (i := 6) sc_law_some_windows.nd rfl (Or.inl rfl) (pe_cal (E := E0) C__law_next (hr.mono (by decide)) pass0 (pa_cons (pv 0) (pa_cons (pv 1) pa_nil))))
      (pss_cons (ps_set (i := 12) sc_law_some_windows.nd rfl (Or.inl rfl) (pe_ix (ixL (K := K)) (pv 7) (pe_cal (E := E0) C__law_next (hr.mono (by decide)) pass0 (pa_cons (pv 0) (pa_cons (pv 1) pa_nil))) (fun _ _ => rfl)))
      (pss_one (ps_asg (pe_ifExp (pt_cmpR op_eq (pe_cal (E := E0) C__law_next (hr.mono (by decide)) pass0 (pa_cons (pv 0) (pa_cons pe_int pa_nil))) pe_int (nomark _)) (pe_tup (pa_cons (pe_callB (call_max2 rfl) (by rfl) T.n_max (by decide +kernel) (pa_cons (pe_ix (ixT (K := K)) (pe_ix (ixL (K := K)) (pv 7) (pv 6) (fun _ _ => rfl)) pe_int (fun _ _ => rfl)) (pa_cons (pe_ix (ixT (K := K)) (pv 12) pe_int (fun _ _ => rfl)) pa_nil))) (pa_cons (pe_callB (call_min2 rfl) (by rfl) T.n_min (by decide +kernel) (pa_cons (pe_ix (ixT (K := K)) (pe_ix (ixL (K := K)) (pv 7) (pv 6) (fun _ _ => rfl)) pe_int (fun _ _ => rfl)) (pa_cons (pe_ix (ixT (K := K)) (pv 12) pe_int (fun _ _ => rfl)) pa_nil))) pa_nil))) (pv 12)) (pg_sub (pv 7) (pv 6) set_list))))))
      (pss_one (ps_ret (pv 7))))))))), ?_⟩
  have sz : ∀ m : Nat, m ≤ 200000 → m < sizeLine := fun m h => Nat.lt_of_le_of_lt h (by decide)
  refine ⟨_, rfl, 5, rfl, 10, 30, rfl, rfl, ⟨by decide, by decide, by decide⟩, _, rfl, Nat.le_of_lt (sz 5 (by omega)), fun r hr0 => ?_⟩
  generalize (10 : Int) ^ (30 : Int).toNat = big at hr0 ⊢
  have nsr : r ≠ s := fun z => by obtain ⟨o, ho⟩ := st.there; rw [z, ho] at hr0; cases hr0
  refine ⟨s, L, r, _, rfl, st.keep (Evl.Ex.new hr0),   .inr (SqT.of upd_same), nsr, (show 1 ≤ 5 by decide), (show 5 < 1073741824 by decide), fun i x H1 hx kp1 st1 => ?_⟩
  obtain ⟨bs, rfl⟩ : ∃ bs : Int, x = .int bs := by
    have hx := List.mem_of_getElem? hx
    simp only [List.mem_cons, List.not_mem_nil, or_false] at hx
    rcases hx with rfl | rfl | rfl | rfl | rfl <;> exact ⟨_, rfl⟩
  have kp1 : Kp s H H1 := (Kp.new hr0).trans kp1
  clear hx
  refine ⟨_, rfl, _, rfl, _, rfl, z, m, rfl, _, rfl, ?_⟩
  generalize hmx : (if (m : Int) > (z : Int) then (m : Int) else (z : Int)) = mx
  have mx0 : 0 ≤ mx ∧ mx ≤ 126 ∧ (m : Int) ≤ mx := by split at hmx <;> omega
  refine ⟨by omega, by omega, fun D hD => ?_⟩
  refine lcW (M := NoM) walk_range (Evl.Ex.refl H1) (fun _ _ => trivial) (by omega) (fun i y _ => y = .int (bs + (i : Int))) (fun _ _ _ _ _ h => h) (fun _ => true) (fun i => [some (.ref s), some (.int m), some (.int z), some (.int wide), some (.int bs), none, some (.int (i : Nat)), none, none, none, none, none, none])
    (fun i y G' H' H'' hi a' yy Q q => turn_range0 (σ0 := [some (.ref s), some (.int m), some (.int z), some (.int wide), some (.int bs), none, none, none, none, none, none, none, none]) (j := 6) a' yy q) (fun _ _ => rfl) (fun i G' H' hi a' Q q => yes_t a'.gh q) (fun i G' H' hi _ a' Q q => ⟨_, rfl, _, rfl, bs, _, rfl, rfl, q _ _ _ (Stp.refl a'.gh) rfl⟩) (fun _ _ h => h) hD (fun ys G2 H2 a2 gD hD2 hsel => ?_)
  have eys := sel_flat1 hsel
  have e12 := a2.gg.trans a2.gh
  have kp2 : Kp s H H2 := kp1.trans fun a o _ h => e12 a o h
  have st2 := st1.keep e12
  have nDs : D ≠ s := fun z => by obtain ⟨o, ho⟩ := st1.there; rw [z, ho] at hD; cases hD
  refine ⟨s, L, D, ys, rfl, st2, SqL.of hD2, nDs, by rw [eys]; simp; omega, fun h0 hs H3 hh0 kp3 st3 hh3 hperm => ?_⟩
  have hel : ∀ y ∈ hs, ∃ v : Int, y = .int v ∧ bs ≤ v ∧ v ≤ bs + 126 := fun y hy => by
    have := hperm.mem_iff.mp hy
    rw [eys] at this
    obtain ⟨i, hi, rfl⟩ := List.mem_map.mp this
    have := List.mem_range.mp hi
    exact ⟨_, rfl, by omega, by omega⟩
  have hsl : (m : Int) ≤ hs.length := by rw [hperm.length_eq, eys]; simp; omega
  have kp3 := kp2.trans kp3
  clear hperm eys hsel kp1 kp2 hD2
  refine ⟨Nat.zero_le _, fun f0 hf0 => ?_⟩
  have nfh : h0 ≠ f0 := ne_of_none hh3 hf0
  have nfs : s ≠ f0 := ne_of_none st3.there.choose_spec hf0
  have nhs : h0 ≠ s := fun z => by
    obtain ⟨o, ho⟩ := st2.there
    rw [z, ho] at hh0; cases hh0
  have hf0' : H f0 = none := (kp3.none st3.there hf0)
  have kp4 : Kp s H (upd H3 f0 (.lst [])) := kp3.mut hf0'
  have st4 : Strm (upd H3 f0 (.lst [])) s L := st3.keep (Evl.Ex.new hf0)
  have hh4 : upd H3 f0 (.lst []) h0 = some (.lst hs) := by rw [upd_ne nfh]; exact hh3
  have hf4 : upd H3 f0 (.lst []) f0 = some (.lst []) := upd_same
  generalize upd H3 f0 (.lst []) = H4 at kp4 st4 hh4 hf4 ⊢
  have OK : ∀ (ws : List Wn) (w : Wn), (∀ v ∈ ws, bs - 10 ≤ v.1 ∧ v.1 ≤ bs + 140 ∧ bs - 10 ≤ v.2 ∧ v.2 ≤ bs + 140) → (bs - 10 ≤ w.1 ∧ w.1 ≤ bs + 140 ∧ bs - 10 ≤ w.2 ∧ w.2 ≤ bs + 140) → ∀ v ∈ ws ++ [w], bs - 10 ≤ v.1 ∧ v.1 ≤ bs + 140 ∧ bs - 10 ≤ v.2 ∧ v.2 ≤ bs + 140 := fun ws w h1 h2 v hv => by
    rcases List.mem_append.mp hv with hv | hv
    · exact h1 v hv
    · rw [List.mem_singleton.mp hv]; exact h2
  refine ⟨_, rfl, (m : Int), rfl, by omega, by omega, ?_⟩
  rw [Int.toNat_natCast]
  refine for_it walk_range (fun i σ' H' => ∃ tv lv hv fv ws, σ' = [some (.ref s), some (.int m), some (.int z), some (.int wide), some (.int bs), some (.ref h0), none, some (.ref f0), tv, lv, hv, none, none] ∧ Kp s H H' ∧ Strm H' s L ∧ H' h0 = some (.lst hs) ∧ H' f0 = some (.lst fv) ∧ Paired (Tp H') fv ws ∧ ws.length = i ∧
      ∀ v ∈ ws, bs - 10 ≤ v.1 ∧ v.1 ≤ bs + 140 ∧ bs - 10 ≤ v.2 ∧ v.2 ≤ bs + 140)
    ⟨none, none, none, [], [], rfl, kp4, st4, hh4, hf4, .nil, rfl, fun _ h => (nomatch h)⟩ (fun _ _ _ _ _ => trivial) ?_ ?_
  · rintro i x σ' H' H5 hi ⟨tv, lv, hv, fv, ws, rfl, kp, st5, hh, hf, pr, hwl, hb⟩ ⟨rfl, rfl⟩
    show gName 8 (V.int (0 + (i : Int))) _ _ _
    rw [Int.zero_add]
    have hix : i < hs.length := by omega
    have hget : hs[i]? = some hs[i] := List.getElem?_eq_getElem hix
    obtain ⟨hv0, ehv, hv1, hv2⟩ := hel _ (List.getElem_mem hix)
    rw [ehv] at hget
    refine ⟨_, rfl, _, rfl, h0, hs, _, _, rfl, rfl, SqL.of hh, at_nat hget, _, rfl, _, rfl, s, L, wide, rfl, st5, by omega, by omega, fun d1 H6 d10 d11 kp6 st6 => ?_⟩
    have hh6 := kp6 _ _ nhs hh
    refine ⟨hv0, d1, rfl, rfl, _, rfl, _, rfl, h0, hs, _, _, rfl, rfl, SqL.of hh6, at_nat hget, _, rfl, _, rfl, s, L, wide, rfl, st6, by omega, by omega, fun d2 H7 d20 d21 kp7 st7 => ?_⟩
    refine ⟨hv0, d2, rfl, rfl, ?_⟩
    refine ⟨fun σ' H' => ∃ a b : Int, σ' = [some (.ref s), some (.int m), some (.int z), some (.int wide), some (.int bs), some (.ref h0), none, some (.ref f0), some (.int (i : Nat)), some (.int a), some (.int b), none, none] ∧ Kp s H7 H' ∧ Strm H' s L ∧ (bs - 10 ≤ a ∧ a ≤ bs + 140 ∧ bs - 10 ≤ b ∧ b ≤ bs + 140), ?_, ?_⟩
    · refine ⟨_, rfl, s, L, 24, rfl, st7, by decide, by decide, fun d3 H8 d30 d31 kp8 st8 => ?_⟩
      refine ⟨rfl, _, rfl, ?_⟩
      refine ite2 (fun _ => ⟨_, rfl, _, rfl, _, _, rfl, ⟨_, _, rfl, kp8, st8, by omega⟩⟩) (fun _ => ⟨_, _, rfl, kp8, st8, by omega⟩)
    rintro σ' H8 ⟨a, b, rfl, kp8, st8, hab⟩
    have k58 := (kp6.trans kp7).trans kp8
    have hf8 := k58 _ _ (Ne.symm nfs) hf
    have hh8 := k58 _ _ nhs hh
    obtain ⟨ys5, hs5⟩ := st5.lst
    refine ⟨_, rfl, .inl ⟨rfl, _, SqL.of hf8⟩, _, rfl, _, rfl, Nat.le_of_lt (sz 2 (by omega)), fun t ht => ?_⟩
    have nft : f0 ≠ t := ne_of_none hf8 ht
    have nht : h0 ≠ t := ne_of_none hh8 ht
    have hf9 : upd H8 t (.tup [.int a, .int b]) f0 = some (.lst fv) := by rw [upd_ne nft]; exact hf8
    have tk : Tk H5 (upd (upd H8 t (.tup [.int a, .int b])) f0 (.lst (fv ++ [.ref t]))) := ((Tk.kp k58 hs5).new ht).mut hf9
    have hfl : fv.length < sizeLine := sz _ (by rw [pr.length]; omega)
    have ht0 : H t = none := (kp.trans k58).none st8.there ht
    refine ⟨f0, fv, _, rfl, rfl, hf9, hfl, ⟨_, _, _, fv ++ [.ref t], ws ++ [(a, b)], rfl, ((kp.trans k58).mut ht0).mut hf0', ?_, ?_, upd_same, ?_, by simp [hwl], OK ws (a, b) hb hab⟩⟩
    · exact (st8.mut st ht0).mut st hf0'
    · rw [upd_ne nfh, upd_ne nht]; exact hh8
    · exact paired_app (Paired.mapP pr fun v w h => tp_mono tk h) (.cons ⟨t, rfl, by rw [upd_ne (Ne.symm nft)]; exact upd_same⟩ .nil)
  rintro σ' H5 ⟨tv, lv, hv, fv, ws, rfl, kp, st5, hh, hf, pr, hwl, hb⟩
  refine ⟨_, rfl, s, L, 4, rfl, st5, by decide, by decide, fun kd H6 k0 k1 kp6 st6 => ?_⟩
  have hf6 := kp6 _ _ (Ne.symm nfs) hf
  obtain ⟨ys5, hs5⟩ := st5.lst
  have pr6 : Paired (Tp H6) fv ws := Paired.mapP pr fun v w h => tp_mono (Tk.kp kp6 hs5) h
  have kq := kp.trans kp6
  clear pr hf kp kp6 hs5
  refine ⟨_, rfl, Nat.le_of_lt (sz 4 (by omega)), fun t ht => ?_⟩
  have nft : f0 ≠ t := ne_of_none hf6 ht
  have ht0 : H t = none := kq.none st6.there ht
  obtain ⟨tm, htm, htm0, htm3⟩ : ∃ tm : Int, atI [V.int 0, V.int 0, V.int 1, V.int 3] (kd % 4) = some (.int tm) ∧ 0 ≤ tm ∧ tm ≤ 3 := by
    have h4 : kd % 4 = kd := Int.emod_eq_of_lt k0 k1
    rw [h4]
    obtain ⟨n, rfl⟩ : ∃ n : Nat, kd = (n : Int) := ⟨kd.toNat, by omega⟩
    rcases n with _ | _ | _ | _ | n
    · exact ⟨0, rfl, by decide, by decide⟩
    · exact ⟨0, rfl, by decide, by decide⟩
    · exact ⟨1, rfl, by decide, by decide⟩
    · exact ⟨3, rfl, by decide, by decide⟩
    · omega
  refine ⟨_, rfl, .inl ⟨_, rfl, _, 4, rfl, rfl, (show (0 : Int) < 4 by decide), t, _, _, _, rfl, rfl, SqT.of upd_same, htm, (m : Int), tm, rfl, _, rfl, ?_⟩⟩
  generalize hmn : (if tm < (m : Int) then tm else (m : Int)) = mn
  have mn0 : 0 ≤ mn ∧ mn ≤ 3 ∧ mn ≤ (m : Int) := by split at hmn <;> omega
  refine ⟨by omega, by omega, ?_⟩
  have kp7 : Kp s H (upd H6 t (.tup [.int 0, .int 0, .int 1, .int 3])) := kq.mut ht0
  have st7 : Strm (upd H6 t (.tup [.int 0, .int 0, .int 1, .int 3])) s L := st6.keep (Evl.Ex.new ht)
  have hf7 : upd H6 t (.tup [.int 0, .int 0, .int 1, .int 3]) f0 = some (.lst fv) := by rw [upd_ne nft]; exact hf6
  have pr7 : Paired (Tp (upd H6 t (.tup [.int 0, .int 0, .int 1, .int 3]))) fv ws := Paired.mapP pr6 fun v w h => tp_mono ((Tk.refl H6).new ht) h
  generalize upd H6 t (.tup [.int 0, .int 0, .int 1, .int 3]) = H7 at kp7 st7 hf7 pr7 ⊢
  refine for_it walk_range (fun i σ' H' => ∃ av tv ov fv ws, σ' = [some (.ref s), some (.int m), some (.int z), some (.int wide), some (.int bs), some (.ref h0), av, some (.ref f0), tv, lv, hv, some (.int kd), ov] ∧ Kp s H H' ∧ Strm H' s L ∧ H' f0 = some (.lst fv) ∧ Paired (Tp H') fv ws ∧ ws.length = m ∧
      ∀ v ∈ ws, bs - 10 ≤ v.1 ∧ v.1 ≤ bs + 140 ∧ bs - 10 ≤ v.2 ∧ v.2 ≤ bs + 140)
    ⟨none, tv, none, fv, ws, rfl, kp7, st7, hf7, pr7, hwl, hb⟩ (fun _ _ _ _ _ => trivial) ?_ ?_
  · clear kp7 st7 hf7 pr7 hwl hb hf6 pr6 hh
    rintro i x σ' H' H8 hi ⟨av, tv, ov, fv, ws, rfl, kp, st8, hf, pr, hwl, hb⟩ ⟨rfl, rfl⟩
    have m1 : 1 ≤ (m : Int) := by omega
    refine ⟨_, rfl, _, rfl, s, L, (m : Int), rfl, st8, m1, by omega, fun k1 H9 k10 k11 kp9 st9 => ?_⟩
    refine ⟨_, rfl, _, rfl, _, rfl, s, L, (m : Int), rfl, st9, m1, by omega, fun k2 H10 k20 k21 kp10 st10 => ?_⟩
    have k810 := kp9.trans kp10
    have hf10 := k810 _ _ (Ne.symm nfs) hf
    obtain ⟨ys8, hs8⟩ := st8.lst
    have pr10 : Paired (Tp H10) fv ws := Paired.mapP pr fun v w h => tp_mono (Tk.kp k810 hs8) h
    obtain ⟨i1, rfl⟩ : ∃ n : Nat, k1 = (n : Int) := ⟨k1.toNat, by omega⟩
    obtain ⟨i2, rfl⟩ : ∃ n : Nat, k2 = (n : Int) := ⟨k2.toNat, by omega⟩
    obtain ⟨o2, e2, r2, rfl, hr2⟩ := paired_getD pr10 i2 (by omega) (0, 0)
    refine ⟨f0, fv, _, _, rfl, rfl, SqL.of hf10, at_nat e2, ?_⟩
    refine ⟨_, rfl, s, L, 2, rfl, st10, by decide, by decide, fun d3 H11 d30 d31 kp11 st11 => ?_⟩
    have hf11 := kp11 _ _ (Ne.symm nfs) hf10
    obtain ⟨ys10, hs10⟩ := st10.lst
    have tk11 := Tk.kp kp11 hs10
    have pr11 : Paired (Tp H11) fv ws := Paired.mapP pr10 fun v w h => tp_mono tk11 h
    have hr2' := tk11 _ _ hr2
    obtain ⟨o1, e1, r1, rfl, hr1⟩ := paired_getD pr11 i1 (by omega) (0, 0)
    have fvl : fv.length = m := by rw [pr11.length]; exact hwl
    have hw1 : ws.getD i1 (0, 0) ∈ ws := by rw [List.getD_eq_getElem?_getD, List.getElem?_eq_getElem (by omega)]; exact List.getElem_mem _
    have hw2 : ws.getD i2 (0, 0) ∈ ws := by rw [List.getD_eq_getElem?_getD, List.getElem?_eq_getElem (by omega)]; exact List.getElem_mem _
    have hb1 := hb _ hw1
    have hb2 := hb _ hw2
    have kp11' := (kp.trans k810).trans kp11
    have setOK : ∀ u : Wn, (bs - 10 ≤ u.1 ∧ u.1 ≤ bs + 140 ∧ bs - 10 ≤ u.2 ∧ u.2 ≤ bs + 140) → ∀ v ∈ ws.set i1 u, bs - 10 ≤ v.1 ∧ v.1 ≤ bs + 140 ∧ bs - 10 ≤ v.2 ∧ v.2 ≤ bs + 140 := fun u hu v hv => by
      rcases List.mem_or_eq_of_mem_set hv with hv | rfl
      · exact hb v hv
      · exact hu
    have hix : ixN fv.length ((i1 : Nat) : Int) = some i1 := by
      unfold ixN
      rw [if_pos (by omega), if_pos (by omega), Int.toNat_natCast]
    refine ⟨rfl, _, rfl, ?_⟩
    refine ite2 (fun _ => ?_) (fun _ => ?_)
    · refine ⟨_, rfl, _, rfl, f0, fv, _, _, rfl, rfl, SqL.of hf11, at_nat e1, r1, _, 0, _, rfl, rfl, SqT.of hr1, rfl, _, rfl, r2, _, 0, _, rfl, rfl, SqT.of hr2', rfl, _, _, rfl, ?_⟩
      refine ⟨_, rfl, _, rfl, f0, fv, _, _, rfl, rfl, SqL.of hf11, at_nat e1, r1, _, 1, _, rfl, rfl, SqT.of hr1, rfl, _, rfl, r2, _, 1, _, rfl, rfl, SqT.of hr2', rfl, _, _, rfl, ?_⟩
      generalize hA : (if (ws.getD i2 (0, 0)).1 > (ws.getD i1 (0, 0)).1 then (ws.getD i2 (0, 0)).1 else (ws.getD i1 (0, 0)).1) = A
      generalize hB : (if (ws.getD i2 (0, 0)).2 < (ws.getD i1 (0, 0)).2 then (ws.getD i2 (0, 0)).2 else (ws.getD i1 (0, 0)).2) = B
      have hA1 : bs - 10 ≤ A ∧ A ≤ bs + 140 := by split at hA <;> omega
      have hB1 : bs - 10 ≤ B ∧ B ≤ bs + 140 := by split at hB <;> omega
      refine ⟨Nat.le_of_lt (sz 2 (by omega)), fun t2 ht2 => ?_⟩
      have nft2 : f0 ≠ t2 := ne_of_none hf11 ht2
      have ht20 : H t2 = none := kp11'.none st11.there ht2
      have hf12 : upd H11 t2 (.tup [.int A, .int B]) f0 = some (.lst fv) := by rw [upd_ne nft2]; exact hf11
      refine ⟨_, rfl, _, rfl, f0, fv, _, i1, rfl, rfl, hf12, hix, ⟨_, _, _, fv.set i1 (.ref t2), ws.set i1 (A, B), rfl, (kp11'.mut ht20).mut hf0', (st11.mut st ht20).mut st hf0', upd_same, ?_, by rw [List.length_set]; exact hwl, setOK (A, B) ⟨hA1.1, hA1.2, hB1.1, hB1.2⟩⟩⟩
      refine paired_set (Paired.mapP pr11 fun v w h => tp_mono (((Tk.refl H11).new ht2).mut hf12) h) i1 ⟨t2, rfl, ?_⟩
      rw [upd_ne (Ne.symm nft2)]; exact upd_same
    · refine ⟨_, rfl, _, rfl, _, rfl, f0, fv, _, i1, rfl, rfl, hf11, hix, ⟨_, _, _, fv.set i1 (.ref r2), ws.set i1 (ws.getD i2 (0, 0)), rfl, kp11'.mut hf0', st11.mut st hf0', upd_same, ?_, by rw [List.length_set]; exact hwl, setOK _ hb2⟩⟩
      have tkf := (Tk.refl H11).mut (o := .lst (fv.set i1 (.ref r2))) hf11
      exact paired_set (Paired.mapP pr11 fun v w h => tp_mono tkf h) i1 ⟨r2, rfl, tkf _ _ hr2'⟩
  · rintro σ' H8 ⟨av, tv, ov, fv, ws, rfl, kp, st8, hf, pr, hwl, hb⟩
    exact ⟨_, rfl, q f0 fv ws H8 hf0' kp st8 hf (tp_dpa pr) hwl ⟨bs - 10, fun v hv => by have := hb v hv; omega⟩⟩
end
end K44
namespace K44
open PySem PySem.Spec PyProof.Rows L2 Hx Hd M44
open Evl (pss_cut tCut ex_l ex_t)
/-! no value twice -/
theorem dups_take (l : List Int) : ∀ n, n ≤ l.length → (l.take n).eraseDups.length ≤ n ∧ ((l.take n).eraseDups.length = n ↔ ∀ i (h : i < l.length), i < n → l[i] ∉ l.take i)
  | 0, _ => by simp
  | n + 1, h => by
    obtain ⟨a, b⟩ := dups_take l n (by omega)
    have hn : n < l.length := by omega
    have e : l.take (n + 1) = l.take n ++ [l[n]] := (List.take_append_getElem hn).symm
    rw [e, List.eraseDups_append, List.length_append]
    by_cases hm : l[n] ∈ l.take n
    · have e1 : List.removeAll [l[n]] (l.take n) = [] := by
        unfold List.removeAll
        rw [List.filter_cons, if_neg (by simpa [List.elem_iff] using hm)]
        rfl
      rw [e1]
      refine ⟨by simp; omega, ⟨fun z => by simp at z; omega, fun z => absurd hm (z n hn (by omega))⟩⟩
    · have e1 : List.removeAll [l[n]] (l.take n) = [l[n]] := by
        unfold List.removeAll
        rw [List.filter_cons, if_pos (by simpa [List.elem_iff] using hm)]
        rfl
      have e2 : ([l[n]] : List Int).eraseDups.length = 1 := rfl
      rw [e1, e2]
      refine ⟨by omega, ⟨fun z i hi hin => ?_, fun z => ?_⟩⟩
      · by_cases ei : i = n
        · subst ei; exact hm
        · exact b.mp (by omega) i hi (by omega)
      · rw [b.mpr fun i hi hin => z i hi (by omega)]
theorem dups_any (ds : List PyData) : decide ((ds.map toI).eraseDups.length = ds.length) = !(List.range ds.length).any fun i => decide (toI (ds.getD i .none) ∈ (ds.map toI).take i) := by
  have hl : (ds.map toI).length = ds.length := List.length_map ..
  obtain ⟨_, b⟩ := dups_take (ds.map toI) ds.length (by rw [hl]; exact Nat.le_refl _)
  rw [List.take_of_length_le (by rw [hl]; exact Nat.le_refl _)] at b
  have hg : ∀ i (h : i < ds.length), (ds.map toI)[i]'(by rw [hl]; exact h) = toI (ds.getD i .none) := fun i h => by
    rw [List.getElem_map, List.getD_eq_getElem?_getD, List.getElem?_eq_getElem h]; rfl
  rw [Bool.eq_iff_iff, decide_eq_true_iff, b, Bool.not_eq_true', Bool.eq_false_iff, Ne, List.any_eq_true]
  constructor
  · rintro h ⟨i, hi, e⟩
    have hi := List.mem_range.mp hi
    exact h i (by rw [hl]; exact hi) hi (by rw [hg i hi]; exact of_decide_eq_true e)
  · intro h i hi hi2 hm
    exact h ⟨i, List.mem_range.mpr hi2, decide_eq_true (by rw [← hg i hi2]; exact hm)⟩
theorem any_not {α : Type} {l : List α} {f : α → Bool} : (!l.any f) = l.all fun x => !f x := by
  rw [List.not_any_eq_all_not]
theorem filt_pos {n : Nat} {f : Nat → Bool} : decide ((0 : Int) < (((List.range n).filter f).length : Int)) = (List.range n).any f := by
  rw [Bool.eq_iff_iff, decide_eq_true_iff, List.any_eq_true]
  constructor
  · intro h
    have : (List.range n).filter f ≠ [] := fun e => by rw [e] at h; simp at h
    obtain ⟨x, hx⟩ := List.exists_mem_of_ne_nil _ this
    obtain ⟨h1, h2⟩ := List.mem_filter.mp hx
    exact ⟨x, h1, h2⟩
  · rintro ⟨x, h1, h2⟩
    have := List.length_pos_of_mem (List.mem_filter.mpr ⟨h1, h2⟩)
    omega
theorem filt_zero {n : Nat} {f : Nat → Bool} : ((((List.range n).filter f).length : Int) == 0) = !(List.range n).any f := by
  rw [← filt_pos, Bool.eq_iff_iff, beq_iff_eq, Bool.not_eq_true', decide_eq_false_iff_not]
  omega
theorem any_at {α : Type} (l : List α) (d : α) (p : α → Bool) : ((List.range l.length).any fun i => p (l.getD i d)) = l.any p := by
  have e : (List.range l.length).map (fun i => l.getD i d) = l := by
    apply List.ext_getElem
    · simp
    · intro i h1 h2
      simp [List.getD_eq_getElem?_getD, h2]
  have z : l.any p = ((List.range l.length).map fun i => l.getD i d).any p := by rw [e]
  rw [z, List.any_map]
  rfl
/-- a comprehension whose length is asked for -/
theorem lcT {K : PySem.W.Frag} {H : Hp} {σ : L2.St} {g : TG} {tt : TT} {te : TE} {vs : List Nat} {J : It} {n : Nat} {Wg : Hp → Prop} {Y : Nat → Hp → V → Hp → Prop} (W : Walk J n Wg Y) (hWg : ∀ H', Ex H H' → Wg H') (hn : n ≤ 1000000) (f : Nat → Bool) (σt : Nat → L2.St)
    (hg : ∀ i x G' H' H'', i < n → Stp NoM H H G' H' → Y i H' x H'' → ∀ Q : L2.St → Hp → Prop, (∀ G2 H2, Stp NoM G' H' G2 H2 → Q (σt i) H2) → g x (wipe σ vs) H'' Q) (hw : ∀ i, i < n → wipe (σt i) vs = wipe σ vs)
    (ht : ∀ i H', i < n → Ex H H' → ∀ Q : Bool → Hp → Prop, (∀ H2, Ex H' H2 → Q (f i) H2) → tt (σt i) H' Q)
    (he : ∀ i H', i < n → ∀ Q : VK, (∀ v, Q v H') → te (σt i) H' Q) {D : Addr} (hD : H D = none) {Qd : Hp → Prop}
    (hd : ∀ H' ys, Ex H H' → SqL K H' D ys → ys.length = ((List.range n).filter f).length → Qd H') :
    ∃ W : Nat → Nat → Hp → Prop, (∃ m, W 0 m (upd H D (.lst []))) ∧ ∀ i m H, W i m H →
      (J.stop i H ∧ Qd H) ∨ (J.go i H ∧ ∃ Nx : Hp → Prop, (∀ H', Nx H' → ∃ m', m' < m ∧ W (i + 1) m' H') ∧ ∀ x H', J.yld i H x H' → g x (wipe σ vs) H' fun σ2 H2 => wipe σ2 vs = wipe σ vs ∧ tt σ2 H2 fun b H3 =>
        if b = true then te σ2 H3 fun y H4 => ∃ acc, H4 D = some (.lst acc) ∧ acc.length < sizeLine ∧ Nx (upd H4 D (.lst (acc ++ [y]))) else Nx H3) := by
  refine lcW (M := NoM) W (Evl.Ex.refl H) hWg hn (fun _ _ _ => True) (fun _ _ _ _ _ h => h) f σt hg hw (fun i G' H' hi a' Q q => ht i H' hi (a'.gg.trans a'.gh) Q fun H2 e => q G' H2 (Stp.of a'.gh e))
    (fun i G' H' hi _ a' Q q => he i H' hi Q fun v => q v G' H' (Stp.refl a'.gh) trivial) (fun _ _ h => h) hD (fun ys G' H' a' gD hl' hsel => ?_)
  exact hd H' ys (a'.gg.trans a'.gh) (SqL.of hl') hsel.length.symm
theorem cut_take {xs : List V} {i : Nat} (h : i ≤ xs.length) : cutV xs none (some (i : Int)) = xs.take i := by
  unfold cutV
  have e1 : HT.sIx xs.length 0 none = 0 := rfl
  have e2 : HT.sIx xs.length xs.length (some (i : Int)) = i := by
    rw [HT.sIx_nat]
    omega
  rw [e1, e2]
  simp
theorem flat_ints (l : List Int) : (l.map V.int).all flatV = true := by
  rw [List.all_eq_true]
  intro x hx
  obtain ⟨n, _, rfl⟩ := List.mem_map.mp hx
  rfl
theorem inV_ints {n : Int} {l : List Int} : inV (.int n) (l.map V.int) = decide (n ∈ l) := by
  rw [inV_fnd fun x hx => by obtain ⟨m, _, rfl⟩ := List.mem_map.mp hx; exact .inr ⟨m, rfl⟩]
  refine decide_eq_decide.mpr ⟨fun h => ?_, fun h => List.mem_map.mpr ⟨n, h, rfl⟩⟩
  obtain ⟨m, hm, e⟩ := List.mem_map.mp h
  have := V.int.inj e
  rw [← this]; exact hm
section
variable {P : Program} {w : World} {K : PySem.W.Frag} {mg : Str → Option Value} {base : Heap}
def spRight (K : PySem.W.Frag) : Sp := fun vs H Q _ => ∃ a x ws d, vs = [.ref a, x] ∧ Wns K H a ws ∧ ws.length ≤ 4000 ∧ Dp K H x d ∧ Small d ∧ ∀ H2, Ex H H2 → Q (.bl (isSeated ws d)) H2
abbrev N_law_right : List Str := ["windows", "value", "one", "told", "at", "word", "low", "high", "places"]
theorem sc_law_right : FnScope N_law_right ["windows", "value"] (defScope (top 46)) := ⟨rfl, rfl, rfl, by decide +kernel, rfl, by decide +kernel, by decide +kernel⟩
theorem ok_right (T : Txt K mg) (C__law_number : Cal P w K mg base CX0 1 "_law_number" ["value", "low", "high"] (spLNum K)) (C__law_is_word : Cal P w K mg base CX0 1 "_law_is_word" ["value", "word"] (spWord K))
    (C__law_is_row : Cal P w K mg base CX0 1 "_law_is_row" ["value", "kind", "many"] (spRow K)) (C__law_count : Cal P w K mg base CX0 1 "_law_count" ["low", "high"] spCnt) : Cal P w K mg base CX0 2 "_law_right" ["windows", "value"] (spRight K) := by
  refine mkCal T.g__law_right T.d__law_right sc_law_right (fun _ _ _ _ _ _ us hl => match us, hl with | [_, _], _ => rfl) (fun vs H Q E h => ?_) fun cdv A outer s0 H vs Q E hr h => ?_
  · obtain ⟨_, x, _, d, rfl, _⟩ := h; rfl
  obtain ⟨a, x, ws, d, rfl, hw, hn, hd, hsm, q⟩ := h
  refine ⟨_, (pss_cut (ps_if (PW.pt (pw_and (pt_val (pe_cal (E := E0) C__law_is_row (hr.mono (by decide)) pass0 (pa_cons (pv 1) (pa_cons pe_str (pa_cons pe_int pa_nil))))) (pw_and1 (pt_val (pe_cal (E := E0) C__law_is_word (hr.mono (by decide)) pass0 (pa_cons (pe_ix (ixT (K := K)) (pv 1) pe_int (fun _ _ => rfl)) (pa_cons pe_str pa_nil))))))) (pss_cut (ps_if (PW.pt (pw_or (pt_not (pt_val (pe_cal (E := E0) C__law_is_row (hr.mono (by decide)) pass0 (pa_cons (pe_ix (ixT (K := K)) (pv 1) pe_int (fun _ _ => rfl)) (pa_cons pe_str (pa_cons (pe_callB (lenL (K := K)) (by rfl) T.n_len PySem.boot_len (pa_cons (pv 0) pa_nil)) pa_nil)))))) (pw_or1 (pt_cmpR op_gt (pe_callB (lenL (K := K)) (by rfl) T.n_len PySem.boot_len (pa_cons (pe_lc (own := [("one", 2)]) (g := gName 2) rfl sc_law_right.nd (piL (K := K) (pe_ix (ixT (K := K)) (pv 1) pe_int (fun _ _ => rfl))) (blkOk_by (N := N_law_right) (sc := defScope (top 46)) (by decide +kernel)) (fun _ _ _ _ _ => (pg_name (i := 2) sc_law_right.nd rfl (Or.inl rfl))) (fun _ _ _ _ _ => pts_one (pt_not (pt_val (pe_cal (E := E0) C__law_number (hr.mono (by decide)) pass0 (pa_cons (pv 2) (pa_cons (pv 2) (pa_cons (pv 2) pa_nil))))))) (fun _ _ _ _ _ => pe_int)) pa_nil)) pe_int (nomark _))))) (pss_one (ps_ret pe_bl)) pss_nil)
      (pss_cons (ps_set (i := 3) sc_law_right.nd rfl (Or.inr rfl) (pe_ix (ixT (K := K)) (pv 1) pe_int (fun _ _ => rfl)))
      (pss_cons (ps_if (pt_cmpR op_gt (pe_callB (lenL (K := K)) (by rfl) T.n_len PySem.boot_len (pa_cons (pe_lc (own := [("at", 4)]) (g := gName 4) rfl sc_law_right.nd (pi_range1 (by rfl) T.n_range (pa_cons (pe_callB (lenL (K := K)) (by rfl) T.n_len PySem.boot_len (pa_cons (pv 3) pa_nil)) pa_nil)) (blkOk_by (N := N_law_right) (sc := defScope (top 46)) (by decide +kernel)) (fun _ _ _ _ _ => (pg_name (i := 4) sc_law_right.nd rfl (Or.inl rfl))) (fun _ _ _ _ _ => pts_one (pt_cmpR (inL (K := K)) (pe_ix (ixL (K := K)) (pv 3) (pv 4) (fun _ _ => rfl)) (pe_slice (slL (K := K)) (pv 3) po_none (po_some (pv 4))) (by rfl))) (fun _ _ _ _ _ => (pv 4))) pa_nil)) pe_int (nomark _)) (pss_one (ps_ret pe_bl)) pss_nil)
      (pss_one (ps_ret (pe_cmpR op_eq (pe_callB (lenL (K := K)) (by rfl) T.n_len PySem.boot_len (pa_cons (pe_lc (own := [("at", 4)]) (g := gName 4) rfl sc_law_right.nd (pi_range1 (by rfl) T.n_range (pa_cons (pe_callB (lenL (K := K)) (by rfl) T.n_len PySem.boot_len (pa_cons (pv 3) pa_nil)) pa_nil)) (blkOk_by (N := N_law_right) (sc := defScope (top 46)) (by decide +kernel)) (fun _ _ _ _ _ => (pg_name (i := 4) sc_law_right.nd rfl (Or.inl rfl))) (fun _ _ _ _ _ => pts_one (PW.pt (pw_or (pt_cmpR op_lt (pe_ix (ixL (K := K)) (pv 3) (pv 4) (fun _ _ => rfl)) (pe_ix (ixT (K := K)) (pe_ix (ixL (K := K)) (pv 0) (pv 4) (fun _ _ => rfl)) pe_int (fun _ _ => rfl)) (nomark _)) (pw_or1 (pt_cmpR op_gt (pe_ix (ixL (K := K)) (pv 3) (pv 4) (fun _ _ => rfl)) (pe_ix (ixT (K := K)) (pe_ix (ixL (K := K)) (pv 0) (pv 4) (fun _ _ => rfl)) pe_int (fun _ _ => rfl)) (nomark _)))))) (fun _ _ _ _ _ => (pv 4))) pa_nil)) pe_int (nomark _))))))) pss_nil)
      (pss_cut (ps_if (PW.pt (pw_or (pt_not (pt_val (pe_cal (E := E0) C__law_is_row (hr.mono (by decide)) pass0 (pa_cons (pv 1) (pa_cons pe_str (pa_cons pe_int pa_nil)))))) (pw_or (pt_not (pt_val (pe_cal (E := E0) C__law_is_word (hr.mono (by decide)) pass0 (pa_cons (pe_ix (ixT (K := K)) (pv 1) pe_int (fun _ _ => rfl)) (pa_cons pe_str pa_nil))))) (pw_or1 (pt_not (pt_val (pe_callB (isiR (K := K)) (by rfl) T.n_isinstance (by decide +kernel) (pa_cons (pe_ix (ixT (K := K)) (pv 1) pe_int (fun _ _ => rfl)) (pa_cons (pe_bltn (v := .ty "list") rfl T.n_list (by decide +kernel) rfl) pa_nil))))))))) (pss_one (ps_ret pe_bl)) pss_nil)
      (pss_cons (ps_asg (pv 1) (pgTup (K := K) rfl (pgs_cons (pg_name (i := 5) sc_law_right.nd rfl (Or.inl rfl)) (pgs_cons (pg_name (i := 6) sc_law_right.nd rfl (Or.inr rfl)) (pgs_cons (pg_name (i := 7) sc_law_right.nd rfl (Or.inr rfl)) (pgs_cons (pg_name (i := 8) sc_law_right.nd rfl (Or.inr rfl)) pgs_nil))))))
      (pss_cut (ps_if (PW.pt (pw_or (pt_not (pt_val (pe_cal (E := E0) C__law_number (hr.mono (by decide)) pass0 (pa_cons (pv 6) (pa_cons (pv 6) (pa_cons (pv 6) pa_nil)))))) (pw_or1 (pt_not (pt_val (pe_cal (E := E0) C__law_number (hr.mono (by decide)) pass0 (pa_cons (pv 7) (pa_cons (pv 7) (pa_cons (pv 7) pa_nil))))))))) (pss_one (ps_ret pe_bl)) pss_nil)
      (pss_cons (ps_if (pt_cmpR op_gt (pe_callB (lenL (K := K)) (by rfl) T.n_len PySem.boot_len (pa_cons (pe_lc (own := [("one", 2)]) (g := gName 2) rfl sc_law_right.nd (piL (K := K) (pv 8)) (blkOk_by (N := N_law_right) (sc := defScope (top 46)) (by decide +kernel)) (fun _ _ _ _ _ => (pg_name (i := 2) sc_law_right.nd rfl (Or.inl rfl))) (fun _ _ _ _ _ => pts_one (pt_not (pt_val (pe_cal (E := E0) C__law_number (hr.mono (by decide)) pass0 (pa_cons (pv 2) (pa_cons pe_int (pa_cons (pe_op op_sub (pe_callB (lenL (K := K)) (by rfl) T.n_len PySem.boot_len (pa_cons (pv 0) pa_nil)) pe_int) pa_nil))))))) (fun _ _ _ _ _ => pe_int)) pa_nil)) pe_int (nomark _)) (pss_one (ps_ret pe_bl)) pss_nil)
      (pss_cons (ps_if (pt_cmpR op_gt (pe_callB (lenL (K := K)) (by rfl) T.n_len PySem.boot_len (pa_cons (pe_lc (own := [("at", 4)]) (g := gName 4) rfl sc_law_right.nd (pi_range1 (by rfl) T.n_range (pa_cons (pe_op op_sub (pe_callB (lenL (K := K)) (by rfl) T.n_len PySem.boot_len (pa_cons (pv 8) pa_nil)) pe_int) pa_nil)) (blkOk_by (N := N_law_right) (sc := defScope (top 46)) (by decide +kernel)) (fun _ _ _ _ _ => (pg_name (i := 4) sc_law_right.nd rfl (Or.inl rfl))) (fun _ _ _ _ _ => pts_one (pt_cmpR op_ge (pe_ix (ixL (K := K)) (pv 8) (pv 4) (fun _ _ => rfl)) (pe_ix (ixL (K := K)) (pv 8) (pe_op op_add (pv 4) pe_int) (fun _ _ => rfl)) (nomark _))) (fun _ _ _ _ _ => (pv 4))) pa_nil)) pe_int (nomark _)) (pss_one (ps_ret pe_bl)) pss_nil)
      (pss_cons (ps_if (pt_cmpR op_gt (pe_callB (lenL (K := K)) (by rfl) T.n_len PySem.boot_len (pa_cons (pe_lc (own := [("one", 2)]) (g := gName 2) rfl sc_law_right.nd (piL (K := K) (pv 8)) (blkOk_by (N := N_law_right) (sc := defScope (top 46)) (by decide +kernel)) (fun _ _ _ _ _ => (pg_name (i := 2) sc_law_right.nd rfl (Or.inl rfl))) (fun _ _ _ _ _ => pts_one (PW.pt (pw_or (pt_cmpR op_lt (pe_ix (ixT (K := K)) (pe_ix (ixL (K := K)) (pv 0) (pv 2) (fun _ _ => rfl)) pe_int (fun _ _ => rfl)) (pv 6) (nomark _)) (pw_or1 (pt_cmpR op_gt (pe_ix (ixT (K := K)) (pe_ix (ixL (K := K)) (pv 0) (pv 2) (fun _ _ => rfl)) pe_int (fun _ _ => rfl)) (pv 7) (nomark _)))))) (fun _ _ _ _ _ => pe_int)) pa_nil)) pe_int (nomark _)) (pss_one (ps_ret pe_bl)) pss_nil)
      (pss_one (ps_ret (pe_cmpR op_gt (pe_callB (lenL (K := K)) (by rfl) T.n_len PySem.boot_len (pa_cons (pv 8) pa_nil)) (pe_cal (E := E0) C__law_count (hr.mono (by decide)) pass0 (pa_cons (pv 6) (pa_cons (pv 7) pa_nil))) (nomark _))))))))))), ?_⟩
  obtain ⟨xs, hx, hxl⟩ := hw.len
  refine ⟨fun σ' H' => σ' = [some (.ref a), some x, none, none, none, none, none, none, none] ∧ Ex H H' ∧ (∀ z x1, d = .tuple [.str z, x1] → isSeated ws d = false), ?_, ?_⟩
  · refine ⟨_, rfl, x, _, 2, d, rfl, hd, .inl ⟨rfl, _, rfl, ?_⟩⟩
    cases h2 : isTupN 2 d with
    | false => exact ⟨rfl, Evl.Ex.refl H, fun z x1 e => by rw [e] at h2; simp [isTupN] at h2⟩
    | true =>
      obtain ⟨d0, d1, rfl⟩ : ∃ d0 d1, d = .tuple [d0, d1] := by
        unfold isTupN at h2
        split at h2
        · rename_i ds
          have h2 := of_decide_eq_true h2
          match ds, (show ds.length = 2 by omega) with
          | [d0, d1], _ => exact ⟨d0, d1, rfl⟩
        · cases h2
      obtain ⟨b, ys, rfl, hs, ha⟩ := dp_tup hd
      cases ha with
      | cons g0 ha => cases ha with
        | cons g1 ha =>
          cases ha
          refine ⟨_, rfl, b, _, 0, _, rfl, rfl, hs, rfl, _, _, d0, rfl, g0, _, rfl, ?_⟩
          cases h3 : isWord "seats" d0 with
          | false =>
            refine ⟨rfl, Evl.Ex.refl H, fun z x1 e => ?_⟩
            have e' : d0 = .str z ∧ d1 = x1 := by simpa using e
            rw [e'.1] at h3 ⊢
            have h3 : decide (z = Str.ofString "seats") = false := h3
            show (decide (z = Str.ofString "seats") && areSeats ws d1) = false
            rw [h3]; rfl
          | true =>
            have eq0 : isSeated ws (.tuple [d0, d1]) = areSeats ws d1 := by
              cases d0 with
              | str z =>
                have h3 : decide (z = Str.ofString "seats") = true := h3
                show (decide (z = Str.ofString "seats") && areSeats ws d1) = _
                rw [h3]; rfl
              | _ => cases h3
            rw [eq0] at q
            refine ⟨fun σ' H' => ∃ ds, d1 = .list ds ∧ σ' = [some (.ref a), some (.ref b), none, none, none, none, none, none, none] ∧ Ex H H' ∧ ds.length = ws.length ∧ ds.all isNum = true, ?_, ?_⟩
            · refine ⟨_, rfl, b, _, 1, _, rfl, rfl, hs, rfl, _, rfl, a, xs, rfl, .inl hx, _, _, _, d1, rfl, g1, .inr ⟨rfl, _, rfl, ?_⟩⟩
              rw [hxl]
              cases h4 : isLstN (ws.length : Int) d1 with
              | false =>
                have e : areSeats ws d1 = false := by
                  cases d1 with
                  | list ds =>
                    have h4 : decide ((ds.length : Int) = (ws.length : Int)) = false := h4
                    have h4 : ¬ ds.length = ws.length := fun z => by rw [z] at h4; simp at h4
                    show (decide (ds.length = ws.length) && _) = false
                    rw [decide_eq_false h4]; rfl
                  | _ => rfl
                rw [e] at q
                exact q H (Evl.Ex.refl H)
              | true =>
                obtain ⟨ds, rfl, hlen⟩ : ∃ ds, d1 = .list ds ∧ ds.length = ws.length := by
                  cases d1 with
                  | list ds => exact ⟨ds, rfl, by have := of_decide_eq_true (show decide ((ds.length : Int) = (ws.length : Int)) = true from h4); omega⟩
                  | _ => cases h4
                obtain ⟨c, zs, rfl, hs1, ha1⟩ := dp_list g1
                have hzl := dpa_len ha1
                refine ⟨_, rfl, b, _, 1, _, rfl, rfl, hs, rfl, c, rfl, ⟨zs, hs1⟩, fun D hD => ?_⟩
                refine lcT (K := K) walk_list (fun H' e => ex_l e hs1) (by omega) (fun i => !isNum (ds.getD i .none)) (fun i => [some (.ref a), some (.ref b), some (zs.getD i .non), none, none, none, none, none, none])
                  (fun i y G' H' H'' hi a' yy Q q => turn_name (σ0 := [some (.ref a), some (.ref b), none, none, none, none, none, none, none]) (j := 2) a' yy (by rw [List.getD_eq_getElem?_getD]; simp [hi]) q) (fun _ _ => rfl) (fun i H' hi e Q q => ?_) (fun i H' hi Q q => q _) hD (fun H' ys e hl' hlen' => ?_)
                · obtain ⟨d2, e2, g2⟩ := dpa_get ha1 (i := i) (v := zs.getD i .non) (by rw [List.getD_eq_getElem?_getD]; simp [hi])
                  rw [getD_of e2] at q
                  refine ⟨_, rfl, _, rfl, _, rfl, _, _, _, d2, rfl, ex_dp e _ _ g2, fun hf => ⟨_, rfl, ?_⟩, fun j ej => ?_⟩
                  · have := q H' (Evl.Ex.refl _)
                    rw [hf] at this; exact this
                  · subst ej
                    have hv : zs.getD i .non = .int j := by
                      generalize zs.getD i .non = u at g2
                      cases g2; rfl
                    refine ⟨j, j, hv, hv, _, rfl, ?_⟩
                    have := q H' (Evl.Ex.refl _)
                    rw [decide_eq_true (Int.le_refl j)]
                    exact this
                · refine ⟨D, ys, rfl, .inl hl', _, 0, rfl, rfl, _, rfl, ?_⟩
                  rw [hlen', filt_pos, hzl]
                  have ea : ((List.range ds.length).any fun i => !isNum (ds.getD i .none)) = !ds.all isNum := by
                    rw [any_at ds .none fun p => !isNum p, List.not_all_eq_any_not]
                  rw [ea]
                  cases h5 : ds.all isNum with
                  | false =>
                    have e5 : areSeats ws (.list ds) = false := by
                      show (decide (ds.length = ws.length) && (ds.all isNum && _)) = false
                      rw [h5, Bool.false_and, Bool.and_false]
                    rw [e5] at q; exact q H' e
                  | true => exact ⟨ds, rfl, rfl, e, hlen, h5⟩
            · rintro σ' H1 ⟨ds, rfl, rfl, e1, hlen, hnum⟩
              obtain ⟨c, zs, rfl, hs1, ha1⟩ := dp_list g1
              have hzl := dpa_len ha1
              obtain rfl := num_ds ha1 hnum
              have eA : areSeats ws (.list ds) = (decide (ds.length = ws.length) && (ds.all isNum && ((List.range ws.length).all (fun i => decide ((ws.getD i (0, 0)).1 ≤ toI (ds.getD i .none) ∧ toI (ds.getD i .none) ≤ (ws.getD i (0, 0)).2)) && decide ((ds.map toI).eraseDups.length = ds.length)))) := rfl
              rw [eA, decide_eq_true hlen, hnum, dups_any] at q
              have hs1' := ex_l e1 hs1
              have hml : ((ds.map toI).map V.int).length = ds.length := by simp
              refine ⟨_, rfl, b, _, 1, _, rfl, rfl, ex_t e1 hs, rfl, ?_⟩
              refine ⟨_, rfl, c, _, rfl, .inl hs1', _, rfl, by omega, by omega, fun D hD => ?_⟩
              rw [Int.toNat_natCast, hml]
              refine lcT (K := K) walk_range (fun H' e => trivial) (by omega) (fun i => decide (toI (ds.getD i .none) ∈ (ds.map toI).take i)) (fun i => [some (.ref a), some (.ref b), none, some (.ref c), some (.int (i : Nat)), none, none, none, none])
                (fun i y G' H' H'' hi a' yy Q q => turn_range0 (σ0 := [some (.ref a), some (.ref b), none, some (.ref c), none, none, none, none, none]) (j := 4) a' yy q) (fun _ _ => rfl) (fun i H' hi e Q q => ?_) (fun i H' hi Q q => ⟨_, rfl, q _⟩) hD (fun H' ys e hl' hlen' => ?_)
              · have hsH := ex_l e hs1'
                refine ⟨_, rfl, _, rfl, c, _, _, _, rfl, rfl, hsH, at_nat (getD_int hi), _, rfl, _, rfl, (i : Int), rfl, c, _, rfl, hsH, fun p hp => ?_⟩
                refine ⟨p, _, rfl, .inl (SqL.of upd_same), rfl, ?_, _, rfl, ?_⟩
                · rw [cut_take (by rw [hml]; omega), ← List.map_take]
                  exact flat_ints _
                · rw [cut_take (by rw [hml]; omega), ← List.map_take]
                  have e0 : (if false = true then !inV (.int (toI (ds.getD i .none))) (((ds.map toI).take i).map V.int) else inV (.int (toI (ds.getD i .none))) (((ds.map toI).take i).map V.int)) = decide (toI (ds.getD i .none) ∈ (ds.map toI).take i) := by
                    rw [if_neg Bool.false_ne_true, inV_ints]
                  rw [e0]
                  exact q _ (Evl.Ex.new hp)
              · refine ⟨D, ys, rfl, .inl hl', _, 0, rfl, rfl, _, rfl, ?_⟩
                rw [hlen', filt_pos]
                cases h5 : (List.range ds.length).any fun i => decide (toI (ds.getD i .none) ∈ (ds.map toI).take i) with
                | true =>
                  rw [h5, Bool.not_true, Bool.and_false, Bool.and_false, Bool.and_false] at q
                  exact q H' (e1.trans e)
                | false =>
                  rw [h5] at q
                  have e2 := e1.trans e
                  have hs2 := ex_l e2 hs1
                  refine ⟨_, rfl, c, _, rfl, .inl hs2, _, rfl, by omega, by omega, fun D2 hD2 => ?_⟩
                  rw [Int.toNat_natCast, hml]
                  refine lcT (K := K) walk_range (fun H' e => trivial) (by omega) (fun i => decide (toI (ds.getD i .none) < (ws.getD i (0, 0)).1) || decide ((ws.getD i (0, 0)).2 < toI (ds.getD i .none))) (fun i => [some (.ref a), some (.ref b), none, some (.ref c), some (.int (i : Nat)), none, none, none, none])
                    (fun i y G' H' H'' hi a' yy Q q => turn_range0 (σ0 := [some (.ref a), some (.ref b), none, some (.ref c), none, none, none, none, none]) (j := 4) a' yy q) (fun _ _ => rfl) (fun i H3 hi e Q q => ?_) (fun i H' hi Q q => ⟨_, rfl, q _⟩) hD2 (fun H3 ys3 e3 hl3 hlen3 => ?_)
                  · have hs3 := ex_l (e2.trans e) hs1
                    have hw3 := hw.keep (e2.trans e)
                    have hi' : i < ws.length := by omega
                    refine ⟨_, rfl, _, rfl, c, _, _, _, rfl, rfl, hs3, at_nat (getD_int hi), _, rfl, _, rfl, wix0 hw3 hi' ⟨_, _, rfl, rfl, _, rfl, ?_⟩⟩
                    have q := q H3 (Evl.Ex.refl _)
                    refine ite2 (fun h1 => ?_) (fun h1 => ?_)
                    · have h1 := of_decide_eq_true h1
                      rw [decide_eq_true h1] at q
                      exact q
                    · have h1 : ¬ toI (ds.getD i .none) < (ws.getD i (0, 0)).1 := fun z => h1 (decide_eq_true z)
                      rw [decide_eq_false h1, Bool.false_or] at q
                      refine ⟨_, rfl, _, rfl, c, _, _, _, rfl, rfl, hs3, at_nat (getD_int hi), _, rfl, _, rfl, wix1 hw3 hi' ⟨_, _, rfl, rfl, _, rfl, ?_⟩⟩
                      exact q
                  · refine ⟨D2, ys3, rfl, .inl hl3, rfl, ?_⟩
                    rw [dec_int, hlen3, filt_zero]
                    have q := q H3 (e2.trans e3)
                    have ee : (!(List.range ds.length).any fun i => decide (toI (ds.getD i .none) < (ws.getD i (0, 0)).1) || decide ((ws.getD i (0, 0)).2 < toI (ds.getD i .none))) = (List.range ws.length).all (fun i => decide ((ws.getD i (0, 0)).1 ≤ toI (ds.getD i .none) ∧ toI (ds.getD i .none) ≤ (ws.getD i (0, 0)).2)) := by
                      rw [hlen, List.not_any_eq_all_not]
                      congr 1
                      funext i
                      rw [Bool.eq_iff_iff, Bool.not_eq_true', Bool.or_eq_false_iff, decide_eq_false_iff_not, decide_eq_false_iff_not, decide_eq_true_iff]
                      omega
                    rw [ee]
                    simpa using q
  rintro σ' H1 ⟨rfl, e1, hno⟩
  have hd1 := ex_dp e1 _ _ hd
  refine ⟨fun σ' H' => ∃ dl dh ds, d = .tuple [.str (Str.ofString "crowd"), dl, dh, .list ds] ∧ σ' = [some (.ref a), some x, none, none, none, none, none, none, none] ∧ H1 = H', ?_, ?_⟩
  · refine ⟨_, rfl, x, _, 4, d, rfl, hd1, .inl ⟨rfl, _, rfl, ?_⟩⟩
    cases h2 : isTupN 4 d with
    | false =>
      have e : isSeated ws d = false := by
        cases d with
        | tuple ds =>
          rcases ds with _ | ⟨d0, _ | ⟨d1, _ | ⟨d2, _ | ⟨d3, _ | ⟨d4, ds⟩⟩⟩⟩⟩
          · rfl
          · cases d0 <;> rfl
          · cases d0 with
            | str z => exact hno z d1 rfl
            | _ => rfl
          · cases d0 <;> rfl
          · exfalso; revert h2; simp [isTupN]
          · cases d0 <;> rfl
        | _ => rfl
      rw [e] at q; exact q H1 e1
    | true =>
      obtain ⟨d0, d1, d2, d3, rfl⟩ : ∃ d0 d1 d2 d3, d = .tuple [d0, d1, d2, d3] := by
        unfold isTupN at h2
        split at h2
        · rename_i ds
          have h2 := of_decide_eq_true h2
          match ds, (show ds.length = 4 by omega) with
          | [d0, d1, d2, d3], _ => exact ⟨d0, d1, d2, d3, rfl⟩
        · cases h2
      obtain ⟨b, ys, rfl, hs, ha⟩ := dp_tup hd1
      cases ha with
      | cons g0 ha => cases ha with
        | cons g1 ha => cases ha with
          | cons g2 ha => cases ha with
            | cons g3 ha =>
              cases ha
              refine ⟨_, rfl, b, _, 0, _, rfl, rfl, hs, rfl, _, _, d0, rfl, g0, _, rfl, ?_⟩
              cases h3 : isWord "crowd" d0 with
              | false =>
                have e : isSeated ws (.tuple [d0, d1, d2, d3]) = false := by
                  cases d0 with
                  | str z =>
                    have h3 : decide (z = Str.ofString "crowd") = false := h3
                    show (decide (z = Str.ofString "crowd") && isCrowd ws d1 d2 d3) = false
                    rw [h3]; rfl
                  | _ => rfl
                rw [e] at q; exact q H1 e1
              | true =>
                obtain rfl : d0 = .str (Str.ofString "crowd") := by
                  cases d0 with
                  | str z =>
                    have h3 : decide (z = Str.ofString "crowd") = true := h3
                    rw [of_decide_eq_true h3]
                  | _ => cases h3
                refine ⟨_, rfl, b, _, 3, _, rfl, rfl, hs, rfl, _, _, _, _, _, rfl, .ty "list", ty_dp g3, kit_ty (kit_list d3), _, rfl, ?_⟩
                cases h4 : isT "list" d3 with
                | false =>
                  have e : isSeated ws (.tuple [.str (Str.ofString "crowd"), d1, d2, d3]) = false := by
                    have e1 : isSeated ws (.tuple [.str (Str.ofString "crowd"), d1, d2, d3]) = (decide (Str.ofString "crowd" = PySem.Str.ofString "crowd") && isCrowd ws d1 d2 d3) := rfl
                    rw [e1]
                    have e2 : isCrowd ws d1 d2 d3 = false := by
                      unfold isCrowd
                      cases d3 <;> first | (exfalso; revert h4; simp [isT]; done) | simp
                    rw [e2, Bool.and_false]
                  rw [e] at q; exact q H1 e1
                | true =>
                  obtain ⟨ds, rfl⟩ := isT_list h4
                  exact ⟨d1, d2, ds, rfl, rfl, rfl⟩
  rintro σ' H' ⟨dl, dh, ds, rfl, rfl, rfl⟩
  have eq0 : isSeated ws (.tuple [.str (Str.ofString "crowd"), dl, dh, .list ds]) = isCrowd ws dl dh (.list ds) := by
    have e1 : isSeated ws (.tuple [.str (Str.ofString "crowd"), dl, dh, .list ds]) = (decide (Str.ofString "crowd" = PySem.Str.ofString "crowd") && isCrowd ws dl dh (.list ds)) := rfl
    rw [e1, decide_eq_true rfl, Bool.true_and]
  rw [eq0] at q
  have hz : ds.length ≤ 100000 := hsm _ rfl ds (by simp)
  obtain ⟨b, ys, rfl, hs, ha⟩ := dp_tup hd1
  cases ha with
  | cons g0 ha => cases ha with
    | cons g1 ha => cases ha with
      | cons g2 ha => cases ha with
        | cons g3 ha =>
          cases ha
          cases g0
          rename_i v1 v2 v3
          refine ⟨_, rfl, b, _, rfl, hs, rfl, _, _, rfl, _, _, rfl, _, _, rfl, _, _, rfl, rfl, ?_⟩
          obtain ⟨c, zs, rfl, hs1, ha1⟩ := dp_list g3
          have hzl := dpa_len ha1
          refine ⟨fun σ' H' => ∃ l h, dl = .int l ∧ dh = .int h ∧ σ' = [some (.ref a), some (.ref b), none, none, none, some (.str (Str.ofString "crowd")), some (.int l), some (.int h), some (.ref c)] ∧ H1 = H', ?_, ?_⟩
          · refine ⟨_, rfl, _, rfl, _, rfl, _, _, _, dl, rfl, g1, fun hf => ⟨_, rfl, ?_⟩, fun l el => ?_⟩
            · have e : isCrowd ws dl dh (.list ds) = false := by unfold isCrowd; rw [hf]; rfl
              rw [e] at q; exact q H1 e1
            · subst el
              cases g1
              refine ⟨l, l, rfl, rfl, _, rfl, ?_⟩
              rw [decide_eq_true (Int.le_refl l)]
              refine ⟨_, rfl, _, rfl, _, rfl, _, _, _, dh, rfl, g2, fun hf => ⟨_, rfl, ?_⟩, fun h eh => ?_⟩
              · have e : isCrowd ws (.int l) dh (.list ds) = false := by unfold isCrowd; rw [hf, Bool.false_and, Bool.and_false]
                rw [e] at q; exact q H1 e1
              · subst eh
                cases g2
                refine ⟨h, h, rfl, rfl, _, rfl, ?_⟩
                rw [decide_eq_true (Int.le_refl h)]
                exact ⟨l, h, rfl, rfl, rfl, rfl⟩
          rintro σ' H' ⟨l, h, rfl, rfl, rfl, rfl⟩
          have eA : isCrowd ws (.int l) (.int h) (.list ds) = ((ds.all fun p => isNum p && decide (0 ≤ toI p ∧ toI p < (ws.length : Int))) && (((List.range (ds.length - 1)).all fun i => decide (toI (ds.getD i .none) < toI (ds.getD (i + 1) .none))) &&
            ((ds.all fun p => decide (l ≤ (ws.getD (toI p).toNat (0, 0)).1 ∧ (ws.getD (toI p).toNat (0, 0)).2 ≤ h)) && decide ((ds.length : Int) > cnt l h)))) := rfl
          rw [eA] at q
          -- numbers within
          refine ⟨_, rfl, c, rfl, ⟨zs, hs1⟩, fun D hD => ?_⟩
          refine lcT (K := K) walk_list (fun H' e => ex_l e hs1) (by omega) (fun i => !(isNum (ds.getD i .none) && decide (0 ≤ toI (ds.getD i .none) ∧ toI (ds.getD i .none) < (ws.length : Int)))) (fun i => [some (.ref a), some (.ref b), some (zs.getD i .non), none, none, some (.str (Str.ofString "crowd")), some (.int l), some (.int h), some (.ref c)])
            (fun i y G' H' H'' hi a' yy Q q => turn_name (σ0 := [some (.ref a), some (.ref b), none, none, none, some (.str (Str.ofString "crowd")), some (.int l), some (.int h), some (.ref c)]) (j := 2) a' yy (by rw [List.getD_eq_getElem?_getD]; simp [hi]) q) (fun _ _ => rfl) (fun i H' hi e Q q => ?_) (fun i H' hi Q q => q _) hD (fun H2 ys e2 hl2 hlen2 => ?_)
          · obtain ⟨d2, f2, g4⟩ := dpa_get ha1 (i := i) (v := zs.getD i .non) (by rw [List.getD_eq_getElem?_getD]; simp [hi])
            rw [getD_of f2] at q
            have q := q H' (Evl.Ex.refl _)
            refine ⟨_, rfl, _, rfl, a, xs, rfl, .inl (ex_l (e1.trans e) hx), _, 1, rfl, rfl, _, _, _, d2, rfl, ex_dp e _ _ g4, fun hf => ⟨_, rfl, ?_⟩, fun j ej => ?_⟩
            · rw [hf] at q; exact q
            · subst ej
              refine ⟨0, _, rfl, rfl, _, rfl, ?_⟩
              have ee : (decide ((0 : Int) ≤ j) && decide (j ≤ (xs.length : Int) - 1)) = (isNum (.int j) && decide (0 ≤ toI (.int j) ∧ toI (.int j) < (ws.length : Int))) := by
                show _ = (true && decide (0 ≤ j ∧ j < (ws.length : Int)))
                rw [Bool.true_and, Bool.eq_iff_iff, Bool.and_eq_true, decide_eq_true_iff, decide_eq_true_iff, decide_eq_true_iff]
                omega
              rw [ee]; exact q
          refine ⟨D, ys, rfl, .inl hl2, _, 0, rfl, rfl, _, rfl, ?_⟩
          rw [hlen2, filt_pos, hzl]
          have ea : ((List.range ds.length).any fun i => !(isNum (ds.getD i .none) && decide (0 ≤ toI (ds.getD i .none) ∧ toI (ds.getD i .none) < (ws.length : Int)))) = !(ds.all fun p => isNum p && decide (0 ≤ toI p ∧ toI p < (ws.length : Int))) := by
            rw [any_at ds .none fun p => !(isNum p && decide (0 ≤ toI p ∧ toI p < (ws.length : Int))), List.not_all_eq_any_not]
          rw [ea]
          cases hin : ds.all fun p => isNum p && decide (0 ≤ toI p ∧ toI p < (ws.length : Int)) with
          | false => rw [hin] at q; exact q H2 (e1.trans e2)
          | true =>
            rw [hin] at q
            have hnum : ds.all isNum = true := by
              rw [List.all_eq_true] at hin ⊢
              intro d hd
              have := hin d hd
              rw [Bool.and_eq_true] at this
              exact this.1
            have hrg : ∀ i, i < ds.length → 0 ≤ toI (ds.getD i .none) ∧ toI (ds.getD i .none) < (ws.length : Int) := by
              intro i hi
              rw [List.all_eq_true] at hin
              have := hin (ds.getD i .none) (by rw [List.getD_eq_getElem?_getD, List.getElem?_eq_getElem hi]; exact List.getElem_mem hi)
              rw [Bool.and_eq_true] at this
              exact of_decide_eq_true this.2
            obtain rfl := num_ds ha1 hnum
            have hml : ((ds.map toI).map V.int).length = ds.length := by simp
            have hs2 := ex_l e2 hs1
            -- upwards
            refine ⟨_, rfl, c, _, rfl, .inl hs2, _, 1, rfl, rfl, _, rfl, by rw [hml]; omega, by rw [hml]; omega, fun D2 hD2 => ?_⟩
            have en : ((((ds.map toI).map V.int).length : Int) - 1).toNat = ds.length - 1 := by rw [hml]; omega
            rw [en]
            refine lcT (K := K) walk_range (fun H' e => trivial) (by omega) (fun i => decide (toI (ds.getD (i + 1) .none) ≤ toI (ds.getD i .none))) (fun i => [some (.ref a), some (.ref b), none, none, some (.int (i : Nat)), some (.str (Str.ofString "crowd")), some (.int l), some (.int h), some (.ref c)])
              (fun i y G' H' H'' hi a' yy Q q => turn_range0 (σ0 := [some (.ref a), some (.ref b), none, none, none, some (.str (Str.ofString "crowd")), some (.int l), some (.int h), some (.ref c)]) (j := 4) a' yy q) (fun _ _ => rfl) (fun i H' hi e Q q => ?_) (fun i H' hi Q q => ⟨_, rfl, q _⟩) hD2 (fun H3 ys3 e3 hl3 hlen3 => ?_)
            · have hsH := ex_l (e2.trans e) hs1
              exact ⟨_, rfl, _, rfl, c, _, _, _, rfl, rfl, hsH, at_nat (getD_int (by omega)), _, rfl, _, rfl, (i : Int), 1, rfl, rfl, c, _, _, _, rfl, rfl, hsH, at_of (j := i + 1) (by omega) (getD_int (by omega)), _, _, rfl, rfl, _, rfl, q H' (Evl.Ex.refl _)⟩
            refine ⟨D2, ys3, rfl, .inl hl3, _, 0, rfl, rfl, _, rfl, ?_⟩
            rw [hlen3, filt_pos]
            have eb : ((List.range (ds.length - 1)).any fun i => decide (toI (ds.getD (i + 1) .none) ≤ toI (ds.getD i .none))) = !((List.range (ds.length - 1)).all fun i => decide (toI (ds.getD i .none) < toI (ds.getD (i + 1) .none))) := by
              rw [List.not_all_eq_any_not]
              congr 1
              funext i
              rw [Bool.eq_iff_iff, Bool.not_eq_true', decide_eq_true_iff, decide_eq_false_iff_not]
              omega
            rw [eb]
            cases hasc : (List.range (ds.length - 1)).all fun i => decide (toI (ds.getD i .none) < toI (ds.getD (i + 1) .none)) with
            | false => rw [hasc] at q; exact q H3 ((e1.trans e2).trans e3)
            | true =>
              rw [hasc] at q
              have e23 := e2.trans e3
              have hs3 := ex_l e23 hs1
              refine ⟨_, rfl, c, rfl, ⟨_, hs3⟩, fun D3 hD3 => ?_⟩
              refine lcT (K := K) walk_list (fun H' e => ex_l e hs3) (by omega) (fun i => decide ((ws.getD (toI (ds.getD i .none)).toNat (0, 0)).1 < l) || decide (h < (ws.getD (toI (ds.getD i .none)).toNat (0, 0)).2)) (fun i => [some (.ref a), some (.ref b), some (.int (toI (ds.getD i .none))), none, none, some (.str (Str.ofString "crowd")), some (.int l), some (.int h), some (.ref c)])
                (fun i y G' H' H'' hi a' yy Q q => turn_name (σ0 := [some (.ref a), some (.ref b), none, none, none, some (.str (Str.ofString "crowd")), some (.int l), some (.int h), some (.ref c)]) (j := 2) a' yy (getD_int (by omega)) q) (fun _ _ => rfl) (fun i H' hi e Q q => ?_) (fun i H' hi Q q => q _) hD3 (fun H4 ys4 e4 hl4 hlen4 => ?_)
              · obtain ⟨r0, r1⟩ := hrg i (by omega)
                have hw' := hw.keep (e1.trans (e23.trans e))
                have q := q H' (Evl.Ex.refl _)
                generalize toI (ds.getD i .none) = j at q r0 r1 ⊢
                obtain ⟨k, rfl⟩ : ∃ k : Nat, j = (k : Int) := ⟨j.toNat, by omega⟩
                rw [Int.toNat_natCast] at q
                refine ⟨_, rfl, _, rfl, wix0 hw' (by omega) ⟨_, rfl, _, _, rfl, rfl, _, rfl, ?_⟩⟩
                refine ite2 (fun h1 => ?_) (fun h1 => ?_)
                · have h1 := of_decide_eq_true h1
                  rw [decide_eq_true h1] at q
                  exact q
                · have h1 : ¬ (ws.getD k (0, 0)).1 < l := fun z => h1 (decide_eq_true z)
                  rw [decide_eq_false h1, Bool.false_or] at q
                  exact ⟨_, rfl, _, rfl, wix1 hw' (by omega) ⟨_, rfl, _, _, rfl, rfl, _, rfl, q⟩⟩
              refine ⟨D3, ys4, rfl, .inl hl4, _, 0, rfl, rfl, _, rfl, ?_⟩
              rw [hlen4, filt_pos, hml]
              have ec : ((List.range ds.length).any fun i => decide ((ws.getD (toI (ds.getD i .none)).toNat (0, 0)).1 < l) || decide (h < (ws.getD (toI (ds.getD i .none)).toNat (0, 0)).2)) = !(ds.all fun p => decide (l ≤ (ws.getD (toI p).toNat (0, 0)).1 ∧ (ws.getD (toI p).toNat (0, 0)).2 ≤ h)) := by
                rw [any_at ds .none fun p => decide ((ws.getD (toI p).toNat (0, 0)).1 < l) || decide (h < (ws.getD (toI p).toNat (0, 0)).2), List.not_all_eq_any_not]
                congr 1
                funext p
                rw [Bool.eq_iff_iff, Bool.or_eq_true, decide_eq_true_iff, decide_eq_true_iff, Bool.not_eq_true', decide_eq_false_iff_not]
                omega
              rw [ec]
              have e14 := (e1.trans e23).trans e4
              cases hins : ds.all fun p => decide (l ≤ (ws.getD (toI p).toNat (0, 0)).1 ∧ (ws.getD (toI p).toNat (0, 0)).2 ≤ h) with
              | false => rw [hins] at q; exact q H4 e14
              | true =>
                rw [hins] at q
                refine ⟨_, rfl, c, _, rfl, .inl (ex_l (e23.trans e4) hs1), _, rfl, _, rfl, l, h, rfl, _, _, rfl, rfl, ?_⟩
                rw [hml]
                exact q H4 e14
end
end K44
namespace K44
open PySem PySem.Spec PyProof.Rows L2 Hx Hd M44
open Evl (pss_cut tCut ex_l ex_t)
/-! rows of data that grow beside a stream -/
theorem exB {G H : Hp} {p : Addr} {o : HO} (e : Ex G H) : Ex (upd G p o) (upd H p o) := fun x u h => by
  by_cases hx : x = p
  · rw [hx, upd_same] at h ⊢; exact h
  · rw [upd_ne hx] at h ⊢; exact e x u h
/-- what stands still (G), beside the stream -/
structure Nr (H0 G H : Hp) (s L : Addr) : Prop where
  e : Ex G H
  gs : G s = none
  kp : Kp s H0 H
  st : Strm H s L
  st0 : Strm H0 s L
theorem Nr.start {H : Hp} {s L : Addr} (h : Strm H s L) : Nr H (fun a => if a = s then none else H a) H s L :=
  ⟨fun a o q => by
    by_cases e : a = s
    · simp [e] at q
    · simpa [e] using q, by simp, Kp.refl s H, h, h⟩
theorem Nr.sub {H0 G H : Hp} {s L : Addr} (n : Nr H0 G H s L) {p : Addr} (h : H p = none) : p ≠ s ∧ G p = none ∧ H0 p = none := by
  obtain ⟨o, ho⟩ := n.st.there
  exact ⟨(fun z => by rw [z, ho] at h; cases h), Evl.fresh_back n.e h, n.kp.none n.st.there h⟩
/-- a new object that stands still -/
theorem Nr.imm {H0 G H : Hp} {s L : Addr} (n : Nr H0 G H s L) {p : Addr} {o : HO} (h : H p = none) : Nr H0 (upd G p o) (upd H p o) s L ∧ Ex G (upd G p o) := by
  obtain ⟨h1, h2, h3⟩ := n.sub h
  exact ⟨⟨exB n.e, by rw [upd_ne (Ne.symm h1)]; exact n.gs, n.kp.mut h3, n.st.keep (Evl.Ex.new h), n.st0⟩, Evl.Ex.new h2⟩
/-- a new object -/
theorem Nr.tmp {H0 G H : Hp} {s L : Addr} (n : Nr H0 G H s L) {p : Addr} {o : HO} (h : H p = none) : Nr H0 G (upd H p o) s L := by
  obtain ⟨h1, h2, h3⟩ := n.sub h
  exact ⟨n.e.trans (Evl.Ex.new h), n.gs, n.kp.mut h3, n.st.keep (Evl.Ex.new h), n.st0⟩
/-- one that is new since the start changes -/
theorem Nr.mut {H0 G H : Hp} {s L : Addr} (n : Nr H0 G H s L) {p : Addr} {o : HO} (h : H0 p = none) (g : G p = none) : Nr H0 G (upd H p o) s L :=
  ⟨fun x u q => by rw [upd_ne (fun z => by rw [z, g] at q; cases q)]; exact n.e x u q, n.gs, n.kp.mut h, n.st.mut n.st0 h, n.st0⟩
theorem Nr.fix {H0 G H : Hp} {s L : Addr} (n : Nr H0 G H s L) {p : Addr} {o : HO} (h : H p = some o) (hs : p ≠ s) (g : G p = none) : Nr H0 (upd G p o) H s L ∧ Ex G (upd G p o) :=
  ⟨⟨fun x u q => by
    by_cases hx : x = p
    · rw [hx, upd_same] at q; rw [hx, ← q]; exact h
    · rw [upd_ne hx] at q; exact n.e x u q, by rw [upd_ne (Ne.symm hs)]; exact n.gs, n.kp, n.st, n.st0⟩, Evl.Ex.new g⟩
theorem Nr.next {H0 G H H2 : Hp} {s L : Addr} (n : Nr H0 G H s L) (k : Kp s H H2) (st : Strm H2 s L) : Nr H0 G H2 s L :=
  ⟨fun x u q => k x u (fun z => by rw [z, n.gs] at q; cases q) (n.e x u q), n.gs, n.kp.trans k, st, n.st0⟩
theorem Nr.stp {H0 G H G' H' : Hp} {s L : Addr} (n : Nr H0 G H s L) (a : Stp NoM G H G' H') : Nr H0 G' H' s L := by
  obtain ⟨o, ho⟩ := n.st.there
  exact ⟨a.gh, a.fr s (some_ne ho) n.gs, n.kp.trans fun x u _ h => a.ex x u h, n.st.keep a.ex, n.st0⟩
/-- flat rows -/
def dv : V → PyData
  | .non => .none
  | .bl b => .bool b
  | .int i => .int i
  | .str z => .str z
  | _ => .none
theorem dv_dp {K : PySem.W.Frag} {G : Hp} : ∀ {xs : List V}, xs.all flatV = true → DpAll K G xs (xs.map dv)
  | [], _ => .nil
  | x :: xs, h => by
    rw [List.all_cons, Bool.and_eq_true] at h
    refine .cons ?_ (dv_dp h.2)
    cases x <;> first | exact .non | exact .bl _ | exact .int _ | exact .str _ | (exfalso; have := h.1; cases this)
def FlV (G : Hp) (v : V) : Prop := ∃ p xs, v = .ref p ∧ (G p = some (.lst xs) ∨ G p = some (.tup xs)) ∧ xs.all flatV = true ∧ xs.length ≤ 10000
theorem FlV.mono {G G' : Hp} {v : V} (h : FlV G v) (e : Ex G G') : FlV G' v := by
  obtain ⟨p, xs, rfl, h, f⟩ := h
  exact ⟨p, xs, rfl, h.imp (e _ _) (e _ _), f⟩
/-- data that is not too deep -/
def Okd (d : PyData) : Prop := Small d ∧ Fit 2 d
def OkV (K : PySem.W.Frag) (G : Hp) (v : V) : Prop := ∃ d, Dp K G v d ∧ Okd d
theorem OkV.mono {K : PySem.W.Frag} {G G' : Hp} {v : V} (h : OkV K G v) (e : Ex G G') : OkV K G' v := by
  obtain ⟨d, h1, h2⟩ := h
  exact ⟨d, ex_dp e _ _ h1, h2⟩
theorem fit_dv (x : V) : Fit 0 (dv x) := fun ds => by cases x <;> exact ⟨fun h => (nomatch h), fun h => (nomatch h)⟩
/-- flat data: an atom, or a row of atoms -/
def Flt (d : PyData) : Prop := Fit 0 d ∨ ∃ xs : List V, (d = .list (xs.map dv) ∨ d = .tuple (xs.map dv)) ∧ xs.length ≤ 10000
theorem flv_dp {K : PySem.W.Frag} {G : Hp} {v : V} (h : FlV G v) : ∃ d, Dp K G v d ∧ Flt d := by
  obtain ⟨p, xs, rfl, h | h, f, l⟩ := h
  · exact ⟨_, .lst (SqL.of h) (dv_dp f), .inr ⟨xs, .inl rfl, l⟩⟩
  · exact ⟨_, .tup (SqT.of h) (dv_dp f), .inr ⟨xs, .inr rfl, l⟩⟩
theorem fit_up : ∀ {n : Nat} {d : PyData}, Fit n d → Fit (n + 1) d
  | 0, d, h => fun ds e => by
    rcases e with e | e
    · exact absurd e (h ds).1
    · exact absurd e (h ds).2
  | n + 1, d, h => fun ds e => ⟨(h ds e).1, fun x hx => fit_up ((h ds e).2 x hx)⟩
theorem flt_fit {d : PyData} (h : Flt d) : Fit 1 d := by
  rcases h with h | ⟨xs, h, l⟩
  · exact fit_up h
  · intro ds e
    have : ds = xs.map dv := by
      rcases h with h | h <;> rcases e with e | e <;> (rw [h] at e; first | (cases e; rfl) | cases e)
    subst this
    refine ⟨by rw [List.length_map]; omega, fun y hy => ?_⟩
    obtain ⟨x, _, rfl⟩ := List.mem_map.mp hy
    exact fit_dv x
/-- a row of flat things -/
theorem okd_row {d : PyData} {ds : List PyData} (h : d = .tuple ds ∨ d = .list ds) (hl : ds.length ≤ 100000) (hf : ∀ x ∈ ds, Flt x) : Okd d := by
  refine ⟨fun es e fs hfs => ?_, fun es e => ?_⟩
  · have : es = ds := by
      rcases h with h | h <;> (rw [h] at e; first | (cases e; rfl) | cases e)
    subst this
    rcases hf _ hfs with h | ⟨xs, h | h, l⟩
    · exact absurd rfl (h fs).1
    · cases h; rw [List.length_map]; omega
    · cases h
  · have : es = ds := by
      rcases h with h | h <;> rcases e with e | e <;> (rw [h] at e; first | (cases e; rfl) | cases e)
    subst this
    exact ⟨hl, fun x hx => flt_fit (hf x hx)⟩
theorem okd_flt {d : PyData} (h : Flt d) : Okd d := by
  rcases h with h | ⟨xs, h, l⟩
  · exact ⟨fun ds e => absurd e (h ds).2, fit_up (fit_up h)⟩
  · refine okd_row (ds := xs.map dv) (h.symm.imp id id) (by rw [List.length_map]; omega) fun x hx => ?_
    obtain ⟨y, _, rfl⟩ := List.mem_map.mp hx
    exact .inl (fit_dv y)
theorem flat_cut {xs : List V} {lo hi : Option Int} (h : xs.all flatV = true) : (cutV xs lo hi).all flatV = true := by
  rw [List.all_eq_true] at h ⊢
  intro x hx
  exact h x (List.drop_subset _ _ (List.take_subset _ _ hx))
theorem flatInts (l : List Int) : (l.map V.int).all flatV = true := by
  rw [List.all_eq_true]
  intro x hx
  obtain ⟨n, _, rfl⟩ := List.mem_map.mp hx
  rfl
section
variable {P : Program} {w : World} {K : PySem.W.Frag} {mg : Str → Option Value} {base : Heap}
/-- the rows that come back -/
def NearQ (K : PySem.W.Frag) (H : Hp) (s L : Addr) (Q : VK) : Prop := ∀ p vs G2 H2, H p = none → Nr H G2 H2 s L → G2 p = none → H2 p = some (.lst vs) → vs.length ≤ 1000 → (∀ v ∈ vs, OkV K G2 v) → Q (.ref p) H2
def spNearS (K : PySem.W.Frag) : Sp := fun vs H Q _ => ∃ (s L r : Addr) (ns : List Int), vs = [.ref s, .ref r] ∧ Strm H s L ∧ r ≠ s ∧ H r = some (.lst (ns.map V.int)) ∧ ns.length ≤ 4000 ∧ NearQ K H s L Q
abbrev N_law_near_seats : List Str := ["stream", "seats", "found", "at", "other", "swapped", "change", "one"]
theorem sc_law_near_seats : FnScope N_law_near_seats ["stream", "seats"] (defScope (top 47)) := ⟨rfl, rfl, rfl, by decide +kernel, rfl, by decide +kernel, by decide +kernel⟩
theorem ok_nears (T : Txt K mg) (C__law_next : Cal P w K mg base CX0 1 "_law_next" ["stream", "many"] spNext) : Cal P w K mg base CX0 2 "_law_near_seats" ["stream", "seats"] (spNearS K) := by
  refine mkCal T.g__law_near_seats T.d__law_near_seats sc_law_near_seats (fun _ _ _ _ _ _ us hl => match us, hl with | [_, _], _ => rfl) (fun vs H Q E h => ?_) fun cdv A outer s0 H vs Q E hr h => ?_
  · obtain ⟨x, _, _, d, rfl, _⟩ := h; rfl
  obtain ⟨s, L, r, ns, rfl, st, hrs, hr0, hn, q⟩ := h
  refine ⟨_, (pss_cons (ps_set (i := 2) sc_law_near_seats.nd rfl (Or.inl rfl) (pe_lst (pa_cons (pe_callTy (listOf (K := K)) (by rfl) T.n_list (by decide +kernel) (pa_cons (pv 1) pa_nil)) (pa_cons (pe_callTy (tupOf (K := K)) (by rfl) T.n_tuple (by decide +kernel) (pa_cons (pv 1) pa_nil)) (pa_cons (pe_op op_cat (pv 1) (pe_lst (pa_cons pe_int pa_nil))) (pa_cons (pe_slice (slL (K := K)) (pv 1) (po_some pe_int) po_none) (pa_cons (pe_revL (pv 1)) pa_nil)))))))
      (pss_cut (ps_if (pt_cmpR op_gt (pe_callB (lenL (K := K)) (by rfl) T.n_len PySem.boot_len (pa_cons (pv 1) pa_nil)) pe_int (nomark _)) (pss_cons (ps_set (i := 3) sc_law_near_seats.nd rfl (Or.inl rfl) (pe_cal (E := E0) C__law_next (hr.mono (by decide)) pass0 (pa_cons (pv 0) (pa_cons (pe_callB (lenL (K := K)) (by rfl) T.n_len PySem.boot_len (pa_cons (pv 1) pa_nil)) pa_nil))))
      (pss_cons (ps_set (i := 4) sc_law_near_seats.nd rfl (Or.inl rfl) (pe_cal (E := E0) C__law_next (hr.mono (by decide)) pass0 (pa_cons (pv 0) (pa_cons (pe_callB (lenL (K := K)) (by rfl) T.n_len PySem.boot_len (pa_cons (pv 1) pa_nil)) pa_nil))))
      (pss_cons (ps_set (i := 5) sc_law_near_seats.nd rfl (Or.inl rfl) (pe_callTy (listOf (K := K)) (by rfl) T.n_list (by decide +kernel) (pa_cons (pv 1) pa_nil)))
      (pss_cons (ps_asg (pe_ix (ixL (K := K)) (pv 1) (pv 4) (fun _ _ => rfl)) (pg_sub (pv 5) (pv 3) set_list))
      (pss_cons (ps_expr (pe_bm PySem.F.plainAttrs_list PySem.F.slot_list_append PySem.F.type_list_append mt_append (pv 2) (pa_cons (pe_callTy (listOf (K := K)) (by rfl) T.n_list (by decide +kernel) (pa_cons (pv 5) pa_nil)) pa_nil)))
      (pss_cons (ps_asg (pe_ix (ixL (K := K)) (pv 1) (pv 3) (fun _ _ => rfl)) (pg_sub (pv 5) (pv 4) set_list))
      (pss_cons (ps_expr (pe_bm PySem.F.plainAttrs_list PySem.F.slot_list_append PySem.F.type_list_append mt_append (pv 2) (pa_cons (pv 5) pa_nil)))
      (pss_cons (ps_for PassesOwn.never rfl (piT (K := K) (pe_tup (pa_cons (pe_un un_neg pe_int) (pa_cons pe_int pa_nil)))) (pg_name (i := 6) sc_law_near_seats.nd rfl (Or.inl rfl)) (pss_one (ps_expr (pe_bm PySem.F.plainAttrs_list PySem.F.slot_list_append PySem.F.type_list_append mt_append (pv 2) (pa_cons (pe_op op_cat (pe_op op_cat (pe_slice (slL (K := K)) (pv 1) po_none (po_some (pv 3))) (pe_lst (pa_cons (pe_op op_add (pe_ix (ixL (K := K)) (pv 1) (pv 3) (fun _ _ => rfl)) (pv 6)) pa_nil))) (pe_slice (slL (K := K)) (pv 1) (po_some (pe_op op_add (pv 3) pe_int)) po_none)) pa_nil)))))
      (pss_cons (ps_expr (pe_bm PySem.F.plainAttrs_list PySem.F.slot_list_append PySem.F.type_list_append mt_append (pv 2) (pa_cons (pe_op op_cat (pe_op op_cat (pe_slice (slL (K := K)) (pv 1) po_none (po_some (pv 3))) (pe_lst (pa_cons (pe_cmpR op_gt (pe_ix (ixL (K := K)) (pv 1) (pv 3) (fun _ _ => rfl)) pe_int (nomark _)) pa_nil))) (pe_slice (slL (K := K)) (pv 1) (po_some (pe_op op_add (pv 3) pe_int)) po_none)) pa_nil)))
      (pss_one (ps_expr (pe_bm PySem.F.plainAttrs_list PySem.F.slot_list_append PySem.F.type_list_append mt_append (pv 2) (pa_cons (pe_op op_cat (pe_op op_cat (pe_slice (slL (K := K)) (pv 1) po_none (po_some (pv 3))) (pe_lst (pa_cons pe_non pa_nil))) (pe_slice (slL (K := K)) (pv 1) (po_some (pe_op op_add (pv 3) pe_int)) po_none)) pa_nil))))))))))))) pss_nil)
      (pss_one (ps_ret (pe_op op_cat (pe_lc (own := [("one", 7)]) (g := gName 7) rfl sc_law_near_seats.nd (piL (K := K) (pv 2)) (blkOk_by (N := N_law_near_seats) (sc := defScope (top 47)) (by decide +kernel)) (fun _ _ _ _ _ => (pg_name (i := 7) sc_law_near_seats.nd rfl (Or.inl rfl))) (fun _ _ _ _ _ => pts_nil) (fun _ _ _ _ _ => (pe_tup (pa_cons pe_str (pa_cons (pv 7) pa_nil))))) (pe_lst (pa_cons (pe_tup (pa_cons pe_str (pa_cons (pe_callTy (listOf (K := K)) (by rfl) T.n_list (by decide +kernel) (pa_cons (pv 1) pa_nil)) pa_nil))) (pa_cons (pe_lst (pa_cons pe_str (pa_cons (pe_callTy (listOf (K := K)) (by rfl) T.n_list (by decide +kernel) (pa_cons (pv 1) pa_nil)) pa_nil))) (pa_cons (pe_callTy (listOf (K := K)) (by rfl) T.n_list (by decide +kernel) (pa_cons (pv 1) pa_nil)) pa_nil))))))))), ?_⟩
  have sz : ∀ m : Nat, m ≤ 200000 → m < sizeLine := fun m h => Nat.lt_of_le_of_lt h (by decide)
  have szl : ∀ m : Nat, m ≤ 200000 → m ≤ sizeLine := fun m h => Nat.le_of_lt (sz m h)
  have n0 := Nr.start st
  have g0 : (fun a => if a = s then none else H a) r = some (.lst (ns.map V.int)) := by simp [hrs, hr0]
  generalize (fun a => if a = s then none else H a) = G0 at n0 g0
  generalize hns : ns.map V.int = xs at *
  have hfl : xs.all flatV = true := by rw [← hns]; exact flatInts ns
  have hxl : xs.length = ns.length := by rw [← hns, List.length_map]
  -- list(seats)
  refine ⟨_, rfl, r, xs, rfl, .inl (SqL.of hr0), fun p1 hp1 => ?_⟩
  obtain ⟨n1, x1⟩ := n0.imm (o := .lst xs) hp1
  have f1 : FlV (upd G0 p1 (.lst xs)) (.ref p1) := ⟨p1, xs, rfl, .inl upd_same, hfl, by omega⟩
  have g1 := x1 _ _ g0
  generalize upd G0 p1 (.lst xs) = G1 at n1 x1 f1 g1
  generalize upd H p1 (.lst xs) = H1 at n1 ⊢
  -- tuple(seats)
  refine ⟨_, rfl, r, xs, rfl, .inl ⟨SqL.of (n1.e _ _ g1), fun p2 hp2 => ?_⟩⟩
  obtain ⟨n2, x2⟩ := n1.imm (o := .tup xs) hp2
  have f2 : FlV (upd G1 p2 (.tup xs)) (.ref p2) := ⟨p2, xs, rfl, .inr upd_same, hfl, by omega⟩
  have g2 := x2 _ _ g1
  replace f1 := f1.mono x2
  generalize upd G1 p2 (.tup xs) = G2 at n2 x2 f1 f2 g2
  generalize upd H1 p2 (.tup xs) = H2 at n2 ⊢
  -- seats + [77]
  refine ⟨_, rfl, szl 1 (by omega), fun p3 hp3 => ?_⟩
  have n3 := n2.tmp (o := .lst [.int 77]) hp3
  have h3 : upd H2 p3 (.lst [.int 77]) p3 = some (.lst [.int 77]) := upd_same
  generalize upd H2 p3 (.lst [.int 77]) = H3 at n3 h3 ⊢
  refine ⟨r, p3, xs, _, rfl, rfl, n3.e _ _ g2, h3, szl _ (by rw [hxl]; simp; omega), fun p4 hp4 => ?_⟩
  obtain ⟨n4, x4⟩ := n3.imm (o := .lst (xs ++ [.int 77])) hp4
  have f4 : FlV (upd G2 p4 (.lst (xs ++ [.int 77]))) (.ref p4) := ⟨p4, _, rfl, .inl upd_same, by rw [List.all_append, hfl]; rfl, by simp; omega⟩
  have g4 := x4 _ _ g2
  replace f1 := f1.mono x4
  replace f2 := f2.mono x4
  generalize upd G2 p4 (.lst (xs ++ [.int 77])) = G4 at n4 x4 f1 f2 f4 g4
  generalize upd H3 p4 (.lst (xs ++ [.int 77])) = H4 at n4 ⊢
  -- seats[1:]
  refine ⟨_, rfl, 1, rfl, r, xs, rfl, SqL.of (n4.e _ _ g4), fun p5 hp5 => ?_⟩
  obtain ⟨n5, x5⟩ := n4.imm (o := .lst (cutV xs (some 1) none)) hp5
  have f5 : FlV (upd G4 p5 (.lst (cutV xs (some 1) none))) (.ref p5) := ⟨p5, _, rfl, .inl upd_same, flat_cut hfl, by have := cutV_length xs (some 1) none; omega⟩
  have g5 := x5 _ _ g4
  replace f1 := f1.mono x5
  replace f2 := f2.mono x5
  replace f4 := f4.mono x5
  generalize upd G4 p5 (.lst (cutV xs (some 1) none)) = G5 at n5 x5 f1 f2 f4 f5 g5
  generalize upd H4 p5 (.lst (cutV xs (some 1) none)) = H5 at n5 ⊢
  -- seats[::-1]
  refine ⟨_, rfl, r, xs, rfl, SqL.of (n5.e _ _ g5), fun p6 hp6 => ?_⟩
  obtain ⟨n6, x6⟩ := n5.imm (o := .lst xs.reverse) hp6
  have f6 : FlV (upd G5 p6 (.lst xs.reverse)) (.ref p6) := ⟨p6, _, rfl, .inl upd_same, by rw [List.all_reverse]; exact hfl, by rw [List.length_reverse]; omega⟩
  have g6 := x6 _ _ g5
  replace f1 := f1.mono x6
  replace f2 := f2.mono x6
  replace f4 := f4.mono x6
  replace f5 := f5.mono x6
  generalize upd G5 p6 (.lst xs.reverse) = G6 at n6 x6 f1 f2 f4 f5 f6 g6
  generalize upd H5 p6 (.lst xs.reverse) = H6 at n6 ⊢
  refine ⟨szl 5 (by omega), fun f hf => ?_⟩
  obtain ⟨hfs, gf, hf0⟩ := n6.sub hf
  have n7 := n6.tmp (o := .lst [.ref p1, .ref p2, .ref p4, .ref p5, .ref p6]) hf
  have h7 : upd H6 f (.lst [.ref p1, .ref p2, .ref p4, .ref p5, .ref p6]) f = some (.lst [.ref p1, .ref p2, .ref p4, .ref p5, .ref p6]) := upd_same
  have F7 : ∀ v ∈ [V.ref p1, .ref p2, .ref p4, .ref p5, .ref p6], FlV G6 v := by
    intro v hv
    simp only [List.mem_cons, List.not_mem_nil, or_false] at hv
    rcases hv with rfl | rfl | rfl | rfl | rfl <;> assumption
  have l7 : [V.ref p1, .ref p2, .ref p4, .ref p5, .ref p6].length ≤ 5 := Nat.le_refl _
  generalize [V.ref p1, .ref p2, .ref p4, .ref p5, .ref p6] = fv at n7 h7 F7 l7 ⊢
  generalize upd H6 f (.lst fv) = H7 at n7 h7 ⊢
  clear n0 n1 n2 n3 n4 n5 n6 x1 x2 x4 x5 x6 f1 f2 f4 f5 f6 h3 g0 g1 g2 g4 g5
  refine ⟨fun σ' H' => ∃ av ov wv cv fv G, σ' = [some (.ref s), some (.ref r), some (.ref f), av, ov, wv, cv, none] ∧ Nr H G H' s L ∧ G r = some (.lst xs) ∧ G f = none ∧ H' f = some (.lst fv) ∧ (∀ v ∈ fv, FlV G v) ∧ fv.length ≤ 20, ?_, ?_⟩
  · refine ⟨_, rfl, r, xs, rfl, .inl (SqL.of (n7.e _ _ g6)), _, 0, rfl, rfl, _, rfl, ?_⟩
    refine ite2 (fun hlen => ?_) (fun _ => ⟨none, none, none, none, fv, G6, rfl, n7, g6, gf, h7, F7, by omega⟩)
    have hlen := of_decide_eq_true hlen
    refine ⟨_, rfl, _, rfl, r, xs, rfl, .inl (SqL.of (n7.e _ _ g6)), s, L, _, rfl, n7.st, by omega, by omega, fun k1 H8 k10 k11 kp8 st8 => ?_⟩
    have n8 := n7.next kp8 st8
    refine ⟨_, rfl, _, rfl, r, xs, rfl, .inl (SqL.of (n8.e _ _ g6)), s, L, _, rfl, n8.st, by omega, by omega, fun k2 H9 k20 k21 kp9 st9 => ?_⟩
    have n9 := n8.next kp9 st9
    have h9 := kp9 _ _ hfs (kp8 _ _ hfs h7)
    obtain ⟨i1, rfl⟩ : ∃ n : Nat, k1 = (n : Int) := ⟨k1.toNat, by omega⟩
    obtain ⟨i2, rfl⟩ : ∃ n : Nat, k2 = (n : Int) := ⟨k2.toNat, by omega⟩
    have hi1 : i1 < xs.length := by omega
    have hi2 : i2 < xs.length := by omega
    obtain ⟨a1, e1⟩ : ∃ a : Int, xs[i1]? = some (.int a) := by
      rw [← hns, List.getElem?_map, List.getElem?_eq_getElem (by omega)]; exact ⟨_, rfl⟩
    obtain ⟨a2, e2⟩ : ∃ a : Int, xs[i2]? = some (.int a) := by
      rw [← hns, List.getElem?_map, List.getElem?_eq_getElem (by omega)]; exact ⟨_, rfl⟩
    have ixOk : ∀ (ys : List V) (i : Nat), i < ys.length → ixN ys.length ((i : Nat) : Int) = some i := fun ys i h => by
      unfold ixN
      rw [if_pos (by omega), if_pos (by omega), Int.toNat_natCast]
    refine ⟨_, rfl, r, xs, rfl, .inl (SqL.of (n9.e _ _ g6)), fun w hw => ?_⟩
    obtain ⟨hws, gw, hw0⟩ := n9.sub hw
    have nfw : f ≠ w := ne_of_none h9 hw
    have n10 := n9.tmp (o := .lst xs) hw
    have hw10 : upd H9 w (.lst xs) w = some (.lst xs) := upd_same
    have h10 : upd H9 w (.lst xs) f = some (.lst fv) := by rw [upd_ne nfw]; exact h9
    generalize upd H9 w (.lst xs) = H10 at n10 hw10 h10 ⊢
    refine ⟨_, rfl, _, rfl, r, xs, _, _, rfl, rfl, SqL.of (n10.e _ _ g6), at_nat e2, ?_⟩
    refine ⟨_, rfl, _, rfl, w, xs, _, i1, rfl, rfl, hw10, ixOk xs i1 hi1, ?_⟩
    have n11 := n10.mut (p := w) (o := .lst (xs.set i1 (.int a2))) hw0 gw
    have hw11 : upd H10 w (.lst (xs.set i1 (.int a2))) w = some (.lst (xs.set i1 (.int a2))) := upd_same
    have h11 : upd H10 w (.lst (xs.set i1 (.int a2))) f = some (.lst fv) := by rw [upd_ne nfw]; exact h10
    have flSet : ∀ (ys : List V) (i : Nat) (a : Int), ys.all flatV = true → (ys.set i (.int a)).all flatV = true := fun ys i a h => by
      rw [List.all_eq_true] at h ⊢
      intro x hx
      rcases List.mem_or_eq_of_mem_set hx with hx | rfl
      · exact h x hx
      · rfl
    have fl11 := flSet xs i1 a2 hfl
    have l11 : (xs.set i1 (.int a2)).length = xs.length := List.length_set
    generalize xs.set i1 (.int a2) = ys at n11 hw11 h11 fl11 l11 ⊢
    generalize upd H10 w (.lst ys) = H11 at n11 hw11 h11 ⊢
    -- found.append(list(swapped))
    refine ⟨_, rfl, .inl ⟨rfl, _, SqL.of h11⟩, _, rfl, w, ys, rfl, .inl (SqL.of hw11), fun p8 hp8 => ?_⟩
    have nfp : f ≠ p8 := ne_of_none h11 hp8
    have nwp : w ≠ p8 := ne_of_none hw11 hp8
    obtain ⟨n12, x12⟩ := n11.imm (o := .lst ys) hp8
    have f12 : FlV (upd G6 p8 (.lst ys)) (.ref p8) := ⟨p8, _, rfl, .inl upd_same, fl11, by omega⟩
    have g12 := x12 _ _ g6
    have gf12 : upd G6 p8 (.lst ys) f = none := by rw [upd_ne nfp]; exact gf
    have gw12 : upd G6 p8 (.lst ys) w = none := by rw [upd_ne nwp]; exact gw
    have h12 : upd H11 p8 (.lst ys) f = some (.lst fv) := by rw [upd_ne nfp]; exact h11
    have hw12 : upd H11 p8 (.lst ys) w = some (.lst ys) := by rw [upd_ne nwp]; exact hw11
    have F12 : ∀ v ∈ fv ++ [V.ref p8], FlV (upd G6 p8 (.lst ys)) v := fun v hv => by
      rcases List.mem_append.mp hv with hv | hv
      · exact (F7 v hv).mono x12
      · rw [List.mem_singleton.mp hv]; exact f12
    generalize upd G6 p8 (.lst ys) = G12 at n12 g12 gf12 gw12 F12
    generalize upd H11 p8 (.lst ys) = H12 at n12 h12 hw12 ⊢
    refine ⟨f, fv, _, rfl, rfl, h12, sz _ (by omega), ?_⟩
    have n13 := n12.mut (p := f) (o := .lst (fv ++ [.ref p8])) hf0 gf12
    have h13 : upd H12 f (.lst (fv ++ [.ref p8])) f = some (.lst (fv ++ [.ref p8])) := upd_same
    have hw13 : upd H12 f (.lst (fv ++ [.ref p8])) w = some (.lst ys) := by rw [upd_ne (Ne.symm nfw)]; exact hw12
    have l13 : (fv ++ [V.ref p8]).length ≤ 6 := by simp; omega
    generalize fv ++ [V.ref p8] = fv2 at n13 h13 hw13 F12 l13 ⊢
    generalize upd H12 f (.lst fv2) = H13 at n13 h13 hw13 ⊢
    refine ⟨_, rfl, _, rfl, r, xs, _, _, rfl, rfl, SqL.of (n13.e _ _ g12), at_nat e1, ?_⟩
    refine ⟨_, rfl, _, rfl, w, ys, _, i2, rfl, rfl, hw13, ixOk ys i2 (by omega), ?_⟩
    have n14 := n13.mut (p := w) (o := .lst (ys.set i2 (.int a1))) hw0 gw12
    have hw14 : upd H13 w (.lst (ys.set i2 (.int a1))) w = some (.lst (ys.set i2 (.int a1))) := upd_same
    have h14 : upd H13 w (.lst (ys.set i2 (.int a1))) f = some (.lst fv2) := by rw [upd_ne nfw]; exact h13
    have fl14 := flSet ys i2 a1 fl11
    have l14 : (ys.set i2 (.int a1)).length = ys.length := List.length_set
    generalize ys.set i2 (.int a1) = zs at n14 hw14 h14 fl14 l14 ⊢
    generalize upd H13 w (.lst zs) = H14 at n14 hw14 h14 ⊢
    obtain ⟨n15, x15⟩ := n14.fix hw14 hws gw12
    have f15 : FlV (upd G12 w (.lst zs)) (.ref w) := ⟨w, _, rfl, .inl upd_same, fl14, by omega⟩
    have g15 := x15 _ _ g12
    have gf15 : upd G12 w (.lst zs) f = none := by rw [upd_ne nfw]; exact gf12
    have F15 : ∀ v ∈ fv2 ++ [V.ref w], FlV (upd G12 w (.lst zs)) v := fun v hv => by
      rcases List.mem_append.mp hv with hv | hv
      · exact (F12 v hv).mono x15
      · rw [List.mem_singleton.mp hv]; exact f15
    generalize upd G12 w (.lst zs) = G15 at n15 g15 gf15 F15
    refine ⟨_, rfl, .inl ⟨rfl, _, SqL.of h14⟩, _, rfl, f, fv2, _, rfl, rfl, h14, sz _ (by omega), ?_⟩
    have n16 := n15.mut (p := f) (o := .lst (fv2 ++ [.ref w])) hf0 gf15
    have h16 : upd H14 f (.lst (fv2 ++ [.ref w])) f = some (.lst (fv2 ++ [.ref w])) := upd_same
    have l16 : (fv2 ++ [V.ref w]).length ≤ 7 := by simp; omega
    generalize fv2 ++ [V.ref w] = fv3 at n16 h16 F15 l16 ⊢
    generalize upd H14 f (.lst fv3) = H16 at n16 h16 ⊢
    clear n7 n8 n9 n10 n11 n12 n13 n14 n15 h7 h9 h10 h11 h12 h13 h14 hw10 hw11 hw12 hw13 hw14 F7 F12 kp8 kp9 x12 x15 f12 f15
    refine ⟨1, rfl, szl 2 (by omega), fun tt htt => ?_⟩
    have nft := ne_of_none h16 htt
    obtain ⟨n17, x17⟩ := n16.imm (o := .tup [(fun i : Int => V.int (-i)) 1, V.int 1]) htt
    have t17 : upd G15 tt (.tup [(fun i : Int => V.int (-i)) 1, V.int 1]) tt = some (.tup [(fun i : Int => V.int (-i)) 1, V.int 1]) := upd_same
    have g17 := x17 _ _ g15
    have gf17 : upd G15 tt (.tup [(fun i : Int => V.int (-i)) 1, V.int 1]) f = none := by rw [upd_ne nft]; exact gf15
    have h17 : upd H16 tt (.tup [(fun i : Int => V.int (-i)) 1, V.int 1]) f = some (.lst fv3) := by rw [upd_ne nft]; exact h16
    have F17 : ∀ v ∈ fv3, FlV (upd G15 tt (.tup [(fun i : Int => V.int (-i)) 1, V.int 1])) v := fun v hv => (F15 v hv).mono x17
    have hT : upd H16 tt (.tup [(fun i : Int => V.int (-i)) 1, V.int 1]) tt = some (.tup [(fun i : Int => V.int (-i)) 1, V.int 1]) := upd_same
    generalize upd G15 tt (.tup [(fun i : Int => V.int (-i)) 1, V.int 1]) = G17 at n17 t17 g17 gf17 F17
    refine ⟨tt, rfl, ⟨_, SqT.of hT⟩, ?_⟩
    clear hT
    generalize upd H16 tt (.tup [(fun i : Int => V.int (-i)) 1, V.int 1]) = H17 at n17 h17 ⊢
    refine for_it walk_tup (fun i σ' H' => ∃ cv fv G, σ' = [some (.ref s), some (.ref r), some (.ref f), some (.int (i1 : Nat)), some (.int (i2 : Nat)), some (.ref w), cv, none] ∧ Nr H G H' s L ∧ G tt = some (.tup [(fun i : Int => V.int (-i)) 1, V.int 1]) ∧ G r = some (.lst xs) ∧ G f = none ∧ H' f = some (.lst fv) ∧ (∀ v ∈ fv, FlV G v) ∧ fv.length ≤ 7 + i)
      ⟨none, fv3, G17, rfl, n17, t17, g17, gf17, h17, F17, by omega⟩ (fun i σ' H' hi ⟨_, _, _, _, n, t, _⟩ => SqT.of (n.e _ _ t)) ?_ ?_
    · clear n16 n17 t17 g17 gf17 h17 F17 h16 F15 g15 gf15
      rintro i x σ' H' H20 hi ⟨cv, fq, G20, rfl, n20, t20, g20, gf20, h20, F20, l20⟩ ⟨rfl, hx⟩
      have hi2' : i < 2 := hi
      obtain ⟨cn, rfl⟩ : ∃ cn : Int, x = .int cn := by
        rcases i with _ | _ | i
        · exact ⟨-1, (Option.some.inj hx).symm⟩
        · exact ⟨1, (Option.some.inj hx).symm⟩
        · omega
      refine ⟨_, rfl, .inl ⟨rfl, _, SqL.of h20⟩, _, rfl, _, rfl, _, rfl, r, xs, rfl, SqL.of (n20.e _ _ g20), fun pa hpa => ?_⟩
      have na := n20.tmp (o := .lst (cutV xs none (some (i1 : Int)))) hpa
      have nfa := ne_of_none h20 hpa
      have ha := (upd_same : upd H20 pa (.lst (cutV xs none (some (i1 : Int)))) pa = _)
      have hfa : upd H20 pa (.lst (cutV xs none (some (i1 : Int)))) f = some (.lst fq) := by rw [upd_ne nfa]; exact h20
      generalize upd H20 pa (.lst (cutV xs none (some (i1 : Int)))) = Ha at na ha hfa ⊢
      refine ⟨_, rfl, _, rfl, r, xs, _, _, rfl, rfl, SqL.of (na.e _ _ g20), at_nat e1, _, rfl, a1, cn, rfl, rfl, szl 1 (by omega), fun pb hpb => ?_⟩
      have nb := na.tmp (o := .lst [V.int (a1 + cn)]) hpb
      have nab := ne_of_none ha hpb
      have nfb := ne_of_none hfa hpb
      have hb : upd Ha pb (.lst [V.int (a1 + cn)]) pb = some (.lst [V.int (a1 + cn)]) := upd_same
      have hab : upd Ha pb (.lst [V.int (a1 + cn)]) pa = some (.lst (cutV xs none (some (i1 : Int)))) := by rw [upd_ne nab]; exact ha
      have hfb : upd Ha pb (.lst [V.int (a1 + cn)]) f = some (.lst fq) := by rw [upd_ne nfb]; exact hfa
      have flb : ([V.int (a1 + cn)] : List V).all flatV = true := rfl
      have lb : ([V.int (a1 + cn)] : List V).length ≤ 1 := Nat.le_refl _
      generalize [V.int (a1 + cn)] = mid at nb hb hab hfb flb lb ⊢
      generalize upd Ha pb (.lst mid) = Hb at nb hb hab hfb ⊢
      have lc1 := cutV_length xs none (some (i1 : Int))
      refine ⟨pa, pb, _, _, rfl, rfl, hab, hb, szl _ (by omega), fun pc hpc => ?_⟩
      have nc := nb.tmp (o := .lst (cutV xs none (some (i1 : Int)) ++ mid)) hpc
      have nfc := ne_of_none hfb hpc
      have hc : upd Hb pc (.lst (cutV xs none (some (i1 : Int)) ++ mid)) pc = some (.lst (cutV xs none (some (i1 : Int)) ++ mid)) := upd_same
      have hfc : upd Hb pc (.lst (cutV xs none (some (i1 : Int)) ++ mid)) f = some (.lst fq) := by rw [upd_ne nfc]; exact hfb
      have flc : (cutV xs none (some (i1 : Int)) ++ mid).all flatV = true := by rw [List.all_append, flat_cut hfl, flb]; rfl
      have lc : (cutV xs none (some (i1 : Int)) ++ mid).length ≤ xs.length + 1 := by rw [List.length_append]; omega
      generalize cutV xs none (some (i1 : Int)) ++ mid = front at nc hc hfc flc lc ⊢
      generalize upd Hb pc (.lst front) = Hc at nc hc hfc ⊢
      refine ⟨_, rfl, _, rfl, (i1 : Int), 1, rfl, rfl, _, rfl, r, xs, rfl, SqL.of (nc.e _ _ g20), fun pd hpd => ?_⟩
      have lc2 := cutV_length xs (some ((i1 : Int) + 1)) none
      have fld := flat_cut (lo := some ((i1 : Int) + 1)) (hi := none) hfl
      generalize cutV xs (some ((i1 : Int) + 1)) none = back at lc2 fld ⊢
      have nd := nc.tmp (o := .lst back) hpd
      have ncd := ne_of_none hc hpd
      have nfd := ne_of_none hfc hpd
      have hd : upd Hc pd (.lst back) pd = some (.lst back) := upd_same
      have hcd : upd Hc pd (.lst back) pc = some (.lst front) := by rw [upd_ne ncd]; exact hc
      have hfd : upd Hc pd (.lst back) f = some (.lst fq) := by rw [upd_ne nfd]; exact hfc
      generalize upd Hc pd (.lst back) = Hd at nd hd hcd hfd ⊢
      refine ⟨pc, pd, _, _, rfl, rfl, hcd, hd, szl _ (by omega), fun pe hpe => ?_⟩
      obtain ⟨ne, xe⟩ := nd.imm (o := .lst (front ++ back)) hpe
      have nfe := ne_of_none hfd hpe
      have fe : FlV (upd G20 pe (.lst (front ++ back))) (.ref pe) := ⟨pe, _, rfl, .inl upd_same, by rw [List.all_append, flc, fld]; rfl, by rw [List.length_append]; omega⟩
      have ge := xe _ _ g20
      have te := xe _ _ t20
      have gfe : upd G20 pe (.lst (front ++ back)) f = none := by rw [upd_ne nfe]; exact gf20
      have hfe : upd Hd pe (.lst (front ++ back)) f = some (.lst fq) := by rw [upd_ne nfe]; exact hfd
      have Fe : ∀ v ∈ fq ++ [V.ref pe], FlV (upd G20 pe (.lst (front ++ back))) v := fun v hv => by
        rcases List.mem_append.mp hv with hv | hv
        · exact (F20 v hv).mono xe
        · rw [List.mem_singleton.mp hv]; exact fe
      generalize upd G20 pe (.lst (front ++ back)) = Ge at ne ge gfe Fe te
      generalize upd Hd pe (.lst (front ++ back)) = He at ne hfe ⊢
      refine ⟨f, fq, _, rfl, rfl, hfe, sz _ (by omega), ?_⟩
      have nz := ne.mut (p := f) (o := .lst (fq ++ [.ref pe])) hf0 gfe
      have hz : upd He f (.lst (fq ++ [.ref pe])) f = some (.lst (fq ++ [.ref pe])) := upd_same
      have lz : (fq ++ [V.ref pe]).length ≤ 7 + (i + 1) := by simp; omega
      exact ⟨_, _, Ge, rfl, nz, te, ge, gfe, hz, Fe, lz⟩
    · rintro σ' H20 ⟨cv, fq, G20, rfl, n20, t20, g20, gf20, h20, F20, l20⟩
      have l20 : fq.length ≤ 9 := l20
      clear n16 n17 t17 g17 gf17 h17 F17 h16 F15 g15 gf15
      refine ⟨_, rfl, .inl ⟨rfl, _, SqL.of h20⟩, _, rfl, _, rfl, _, rfl, r, xs, rfl, SqL.of (n20.e _ _ g20), fun pa hpa => ?_⟩
      have na := n20.tmp (o := .lst (cutV xs none (some (i1 : Int)))) hpa
      have nfa := ne_of_none h20 hpa
      have ha := (upd_same : upd H20 pa (.lst (cutV xs none (some (i1 : Int)))) pa = _)
      have hfa : upd H20 pa (.lst (cutV xs none (some (i1 : Int)))) f = some (.lst fq) := by rw [upd_ne nfa]; exact h20
      generalize upd H20 pa (.lst (cutV xs none (some (i1 : Int)))) = Ha at na ha hfa ⊢
      refine ⟨_, rfl, _, rfl, r, xs, _, _, rfl, rfl, SqL.of (na.e _ _ g20), at_nat e1, a1, 0, rfl, rfl, szl 1 (by omega), fun pb hpb => ?_⟩
      have nb := na.tmp (o := .lst [V.bl (decide (0 < a1))]) hpb
      have nab := ne_of_none ha hpb
      have nfb := ne_of_none hfa hpb
      have hb : upd Ha pb (.lst [V.bl (decide (0 < a1))]) pb = some (.lst [V.bl (decide (0 < a1))]) := upd_same
      have hab : upd Ha pb (.lst [V.bl (decide (0 < a1))]) pa = some (.lst (cutV xs none (some (i1 : Int)))) := by rw [upd_ne nab]; exact ha
      have hfb : upd Ha pb (.lst [V.bl (decide (0 < a1))]) f = some (.lst fq) := by rw [upd_ne nfb]; exact hfa
      have flb : ([V.bl (decide (0 < a1))] : List V).all flatV = true := rfl
      have lb : ([V.bl (decide (0 < a1))] : List V).length ≤ 1 := Nat.le_refl _
      generalize [V.bl (decide (0 < a1))] = mid at nb hb hab hfb flb lb ⊢
      generalize upd Ha pb (.lst mid) = Hb at nb hb hab hfb ⊢
      have lc1 := cutV_length xs none (some (i1 : Int))
      refine ⟨pa, pb, _, _, rfl, rfl, hab, hb, szl _ (by omega), fun pc hpc => ?_⟩
      have nc := nb.tmp (o := .lst (cutV xs none (some (i1 : Int)) ++ mid)) hpc
      have nfc := ne_of_none hfb hpc
      have hc : upd Hb pc (.lst (cutV xs none (some (i1 : Int)) ++ mid)) pc = some (.lst (cutV xs none (some (i1 : Int)) ++ mid)) := upd_same
      have hfc : upd Hb pc (.lst (cutV xs none (some (i1 : Int)) ++ mid)) f = some (.lst fq) := by rw [upd_ne nfc]; exact hfb
      have flc : (cutV xs none (some (i1 : Int)) ++ mid).all flatV = true := by rw [List.all_append, flat_cut hfl, flb]; rfl
      have lc : (cutV xs none (some (i1 : Int)) ++ mid).length ≤ xs.length + 1 := by rw [List.length_append]; omega
      generalize cutV xs none (some (i1 : Int)) ++ mid = front at nc hc hfc flc lc ⊢
      generalize upd Hb pc (.lst front) = Hc at nc hc hfc ⊢
      refine ⟨_, rfl, _, rfl, (i1 : Int), 1, rfl, rfl, _, rfl, r, xs, rfl, SqL.of (nc.e _ _ g20), fun pd hpd => ?_⟩
      have lc2 := cutV_length xs (some ((i1 : Int) + 1)) none
      have fld := flat_cut (lo := some ((i1 : Int) + 1)) (hi := none) hfl
      generalize cutV xs (some ((i1 : Int) + 1)) none = back at lc2 fld ⊢
      have nd := nc.tmp (o := .lst back) hpd
      have ncd := ne_of_none hc hpd
      have nfd := ne_of_none hfc hpd
      have hd : upd Hc pd (.lst back) pd = some (.lst back) := upd_same
      have hcd : upd Hc pd (.lst back) pc = some (.lst front) := by rw [upd_ne ncd]; exact hc
      have hfd : upd Hc pd (.lst back) f = some (.lst fq) := by rw [upd_ne nfd]; exact hfc
      generalize upd Hc pd (.lst back) = Hd at nd hd hcd hfd ⊢
      refine ⟨pc, pd, _, _, rfl, rfl, hcd, hd, szl _ (by omega), fun pe hpe => ?_⟩
      obtain ⟨ne, xe⟩ := nd.imm (o := .lst (front ++ back)) hpe
      have nfe := ne_of_none hfd hpe
      have fe : FlV (upd G20 pe (.lst (front ++ back))) (.ref pe) := ⟨pe, _, rfl, .inl upd_same, by rw [List.all_append, flc, fld]; rfl, by rw [List.length_append]; omega⟩
      have ge := xe _ _ g20
      have gfe : upd G20 pe (.lst (front ++ back)) f = none := by rw [upd_ne nfe]; exact gf20
      have hfe : upd Hd pe (.lst (front ++ back)) f = some (.lst fq) := by rw [upd_ne nfe]; exact hfd
      have Fe : ∀ v ∈ fq ++ [V.ref pe], FlV (upd G20 pe (.lst (front ++ back))) v := fun v hv => by
        rcases List.mem_append.mp hv with hv | hv
        · exact (F20 v hv).mono xe
        · rw [List.mem_singleton.mp hv]; exact fe
      generalize upd G20 pe (.lst (front ++ back)) = Ge at ne ge gfe Fe
      generalize upd Hd pe (.lst (front ++ back)) = He at ne hfe ⊢
      refine ⟨f, fq, _, rfl, rfl, hfe, sz _ (by omega), ?_⟩
      have nz := ne.mut (p := f) (o := .lst (fq ++ [.ref pe])) hf0 gfe
      have hz : upd He f (.lst (fq ++ [.ref pe])) f = some (.lst (fq ++ [.ref pe])) := upd_same
      have lz : (fq ++ [V.ref pe]).length ≤ 10 := by simp; omega
      generalize fq ++ [V.ref pe] = fr at nz hz Fe lz ⊢
      generalize upd He f (.lst fr) = H21 at nz hz ⊢
      clear na nb nc nd ne nfa nfb nfc nfd nfe ha hb hc hd hab hcd hfa hfb hfc hfd hfe flb lb flc lc fld lc1 lc2 xe fe n20 t20 g20 gf20 h20 F20 hpa hpb hpc hpd hpe
      refine ⟨_, rfl, .inl ⟨rfl, _, SqL.of hz⟩, _, rfl, _, rfl, _, rfl, r, xs, rfl, SqL.of (nz.e _ _ ge), fun pa hpa => ?_⟩
      have na := nz.tmp (o := .lst (cutV xs none (some (i1 : Int)))) hpa
      have nfa := ne_of_none hz hpa
      have ha := (upd_same : upd H21 pa (.lst (cutV xs none (some (i1 : Int)))) pa = _)
      have hfa : upd H21 pa (.lst (cutV xs none (some (i1 : Int)))) f = some (.lst fr) := by rw [upd_ne nfa]; exact hz
      generalize upd H21 pa (.lst (cutV xs none (some (i1 : Int)))) = Ha at na ha hfa ⊢
      refine ⟨szl 1 (by omega), fun pb hpb => ?_⟩
      have nb := na.tmp (o := .lst [V.non]) hpb
      have nab := ne_of_none ha hpb
      have nfb := ne_of_none hfa hpb
      have hb : upd Ha pb (.lst [V.non]) pb = some (.lst [V.non]) := upd_same
      have hab : upd Ha pb (.lst [V.non]) pa = some (.lst (cutV xs none (some (i1 : Int)))) := by rw [upd_ne nab]; exact ha
      have hfb : upd Ha pb (.lst [V.non]) f = some (.lst fr) := by rw [upd_ne nfb]; exact hfa
      have flb : ([V.non] : List V).all flatV = true := rfl
      have lb : ([V.non] : List V).length ≤ 1 := Nat.le_refl _
      generalize [V.non] = mid at nb hb hab hfb flb lb ⊢
      generalize upd Ha pb (.lst mid) = Hb at nb hb hab hfb ⊢
      have lc1 := cutV_length xs none (some (i1 : Int))
      refine ⟨pa, pb, _, _, rfl, rfl, hab, hb, szl _ (by omega), fun pc hpc => ?_⟩
      have nc := nb.tmp (o := .lst (cutV xs none (some (i1 : Int)) ++ mid)) hpc
      have nfc := ne_of_none hfb hpc
      have hc : upd Hb pc (.lst (cutV xs none (some (i1 : Int)) ++ mid)) pc = some (.lst (cutV xs none (some (i1 : Int)) ++ mid)) := upd_same
      have hfc : upd Hb pc (.lst (cutV xs none (some (i1 : Int)) ++ mid)) f = some (.lst fr) := by rw [upd_ne nfc]; exact hfb
      have flc : (cutV xs none (some (i1 : Int)) ++ mid).all flatV = true := by rw [List.all_append, flat_cut hfl, flb]; rfl
      have lc : (cutV xs none (some (i1 : Int)) ++ mid).length ≤ xs.length + 1 := by rw [List.length_append]; omega
      generalize cutV xs none (some (i1 : Int)) ++ mid = front at nc hc hfc flc lc ⊢
      generalize upd Hb pc (.lst front) = Hc at nc hc hfc ⊢
      refine ⟨_, rfl, _, rfl, (i1 : Int), 1, rfl, rfl, _, rfl, r, xs, rfl, SqL.of (nc.e _ _ ge), fun pd hpd => ?_⟩
      have lc2 := cutV_length xs (some ((i1 : Int) + 1)) none
      have fld := flat_cut (lo := some ((i1 : Int) + 1)) (hi := none) hfl
      generalize cutV xs (some ((i1 : Int) + 1)) none = back at lc2 fld ⊢
      have nd := nc.tmp (o := .lst back) hpd
      have ncd := ne_of_none hc hpd
      have nfd := ne_of_none hfc hpd
      have hd : upd Hc pd (.lst back) pd = some (.lst back) := upd_same
      have hcd : upd Hc pd (.lst back) pc = some (.lst front) := by rw [upd_ne ncd]; exact hc
      have hfd : upd Hc pd (.lst back) f = some (.lst fr) := by rw [upd_ne nfd]; exact hfc
      generalize upd Hc pd (.lst back) = Hd at nd hd hcd hfd ⊢
      refine ⟨pc, pd, _, _, rfl, rfl, hcd, hd, szl _ (by omega), fun pe hpe => ?_⟩
      obtain ⟨ne, xe⟩ := nd.imm (o := .lst (front ++ back)) hpe
      have nfe := ne_of_none hfd hpe
      have fe : FlV (upd Ge pe (.lst (front ++ back))) (.ref pe) := ⟨pe, _, rfl, .inl upd_same, by rw [List.all_append, flc, fld]; rfl, by rw [List.length_append]; omega⟩
      have gy := xe _ _ ge
      have gfy : upd Ge pe (.lst (front ++ back)) f = none := by rw [upd_ne nfe]; exact gfe
      have hfe : upd Hd pe (.lst (front ++ back)) f = some (.lst fr) := by rw [upd_ne nfe]; exact hfd
      have Fy : ∀ v ∈ fr ++ [V.ref pe], FlV (upd Ge pe (.lst (front ++ back))) v := fun v hv => by
        rcases List.mem_append.mp hv with hv | hv
        · exact (Fe v hv).mono xe
        · rw [List.mem_singleton.mp hv]; exact fe
      generalize upd Ge pe (.lst (front ++ back)) = Gy at ne gy gfy Fy
      generalize upd Hd pe (.lst (front ++ back)) = He at ne hfe ⊢
      refine ⟨f, fr, _, rfl, rfl, hfe, sz _ (by omega), ?_⟩
      have ny := ne.mut (p := f) (o := .lst (fr ++ [.ref pe])) hf0 gfy
      have hy : upd He f (.lst (fr ++ [.ref pe])) f = some (.lst (fr ++ [.ref pe])) := upd_same
      have ly : (fr ++ [V.ref pe]).length ≤ 11 := by simp; omega
      exact ⟨_, _, _, _, _, Gy, rfl, ny, gy, gfy, hy, Fy, by omega⟩
  rintro σ' H8 ⟨av, ov, wv, cv, fq, G8, rfl, n8, g8, gf8, h8, F8, l8⟩
  clear n7 h7 F7 l7 g6 gf
  obtain ⟨n9, x9⟩ := n8.fix h8 hfs gf8
  have g9 := x9 _ _ g8
  have F9 : ∀ v ∈ fq, FlV (upd G8 f (.lst fq)) v := fun v hv => (F8 v hv).mono x9
  have f9 : upd G8 f (.lst fq) f = some (.lst fq) := upd_same
  generalize upd G8 f (.lst fq) = G9 at n9 g9 F9 f9
  refine ⟨_, rfl, f, rfl, ⟨fq, SqL.of h8⟩, fun D hD => ?_⟩
  refine lcW (M := NoM) walk_list n9.e (fun H' e => SqL.of (e _ _ f9)) (by omega) (fun i y G => OkV K G y) (fun _ _ _ _ e h => h.mono e) (fun _ => true) (fun i => [some (.ref s), some (.ref r), some (.ref f), av, ov, wv, cv, some (fq.getD i .non)])
    (fun i y G' H' H'' hi a' yy Q q => turn_name (σ0 := [some (.ref s), some (.ref r), some (.ref f), av, ov, wv, cv, none]) (j := 7) a' yy (by rw [List.getD_eq_getElem?_getD]; simp [hi]) q) (fun _ _ => rfl) (fun i G' H' hi a' Q q => yes_t a'.gh q) (fun i G' H' hi _ a' Q q => ?_) (fun _ _ h => h) hD (fun zs G10 H10 a10 gD10 hl10 hsel => ?_)
  · have hm : fq.getD i .non ∈ fq := by rw [List.getD_eq_getElem?_getD, List.getElem?_eq_getElem hi]; exact List.getElem_mem hi
    obtain ⟨d, hd, hfd⟩ := flv_dp (K := K) ((F9 _ hm).mono a'.gg)
    refine ⟨_, rfl, szl 2 (by omega), fun p hp => ?_⟩
    have gp := Evl.fresh_back a'.gh hp
    refine q _ _ _ (Stp.new a'.gh hp) ⟨.tuple [.str "seats", d], .tup (SqT.of upd_same) (.cons (.str _) (.cons (ex_dp (Evl.Ex.new gp) _ _ hd) .nil)), okd_row (.inl rfl) (by simp) fun x hx => ?_⟩
    rcases List.mem_cons.mp hx with rfl | hx
    · exact .inl fun ds => ⟨fun h => (nomatch h), fun h => (nomatch h)⟩
    · rw [List.mem_singleton.mp hx]; exact hfd
  have n10 := n9.stp a10
  have g10 := a10.gg _ _ g9
  obtain ⟨hzl, hzg⟩ := sel_all hsel
  have Z10 : ∀ v ∈ zs, OkV K G10 v := fun v hv => by
    obtain ⟨i, hi, e⟩ := List.getElem_of_mem hv
    obtain ⟨y, hy, ok⟩ := hzg i (by omega)
    rw [List.getElem?_eq_getElem hi, e] at hy
    obtain rfl := Option.some.inj hy
    exact ok
  clear hsel hzg
  obtain ⟨hDs, _, hD0⟩ := n9.sub hD
  have okS : ∀ z : Str, Flt (.str z) := fun z => .inl fun ds => ⟨fun h => (nomatch h), fun h => (nomatch h)⟩
  refine ⟨_, rfl, r, xs, rfl, .inl (SqL.of (n10.e _ _ g10)), fun pa hpa => ?_⟩
  obtain ⟨n11, x11⟩ := n10.imm (o := .lst xs) hpa
  have hpa' : upd G10 pa (.lst xs) pa = some (.lst xs) := upd_same
  have nDpa := ne_of_none hl10 hpa
  have hl11 : upd H10 pa (.lst xs) D = some (.lst zs) := by rw [upd_ne nDpa]; exact hl10
  have gD11 : upd G10 pa (.lst xs) D = none := by rw [upd_ne nDpa]; exact gD10
  have g11 := x11 _ _ g10
  have Z11 : ∀ v ∈ zs, OkV K (upd G10 pa (.lst xs)) v := fun v hv => (Z10 v hv).mono x11
  generalize upd G10 pa (.lst xs) = G11 at n11 x11 hpa' gD11 g11 Z11
  generalize upd H10 pa (.lst xs) = H11 at n11 hl11 ⊢
  refine ⟨szl 2 (by omega), fun pb hpb => ?_⟩
  obtain ⟨n12, x12⟩ := n11.imm (o := .tup [.str "seat", .ref pa]) hpb
  have hpb' : upd G11 pb (.tup [.str "seat", .ref pa]) pb = some (.tup [.str "seat", .ref pa]) := upd_same
  have nDpb := ne_of_none hl11 hpb
  have hl12 : upd H11 pb (.tup [.str "seat", .ref pa]) D = some (.lst zs) := by rw [upd_ne nDpb]; exact hl11
  have gD12 : upd G11 pb (.tup [.str "seat", .ref pa]) D = none := by rw [upd_ne nDpb]; exact gD11
  have g12 := x12 _ _ g11
  have Z12 : ∀ v ∈ zs, OkV K (upd G11 pb (.tup [.str "seat", .ref pa])) v := fun v hv => (Z11 v hv).mono x12
  replace hpa' := x12 _ _ hpa'
  generalize upd G11 pb (.tup [.str "seat", .ref pa]) = G12 at n12 x12 hpb' gD12 g12 Z12 hpa'
  generalize upd H11 pb (.tup [.str "seat", .ref pa]) = H12 at n12 hl12 ⊢
  have okb : OkV K G12 (.ref pb) := ⟨.tuple [.str "seat", .list (xs.map dv)], .tup (SqT.of hpb') (.cons (.str _) (.cons (.lst (SqL.of hpa') (dv_dp hfl)) .nil)), okd_row (.inl rfl) (by simp) fun x hx => by
    rcases List.mem_cons.mp hx with rfl | hx
    · exact okS _
    · rw [List.mem_singleton.mp hx]; exact .inr ⟨xs, .inl rfl, by omega⟩⟩
  refine ⟨_, rfl, r, xs, rfl, .inl (SqL.of (n12.e _ _ g12)), fun pc hpc => ?_⟩
  obtain ⟨n13, x13⟩ := n12.imm (o := .lst xs) hpc
  have hpc' : upd G12 pc (.lst xs) pc = some (.lst xs) := upd_same
  have nDpc := ne_of_none hl12 hpc
  have hl13 : upd H12 pc (.lst xs) D = some (.lst zs) := by rw [upd_ne nDpc]; exact hl12
  have gD13 : upd G12 pc (.lst xs) D = none := by rw [upd_ne nDpc]; exact gD12
  have g13 := x13 _ _ g12
  have Z13 : ∀ v ∈ zs, OkV K (upd G12 pc (.lst xs)) v := fun v hv => (Z12 v hv).mono x13
  replace okb := okb.mono x13
  generalize upd G12 pc (.lst xs) = G13 at n13 x13 hpc' gD13 g13 Z13 okb
  generalize upd H12 pc (.lst xs) = H13 at n13 hl13 ⊢
  refine ⟨szl 2 (by omega), fun pd hpd => ?_⟩
  obtain ⟨n14, x14⟩ := n13.imm (o := .lst [.str "seats", .ref pc]) hpd
  have hpd' : upd G13 pd (.lst [.str "seats", .ref pc]) pd = some (.lst [.str "seats", .ref pc]) := upd_same
  have nDpd := ne_of_none hl13 hpd
  have hl14 : upd H13 pd (.lst [.str "seats", .ref pc]) D = some (.lst zs) := by rw [upd_ne nDpd]; exact hl13
  have gD14 : upd G13 pd (.lst [.str "seats", .ref pc]) D = none := by rw [upd_ne nDpd]; exact gD13
  have g14 := x14 _ _ g13
  have Z14 : ∀ v ∈ zs, OkV K (upd G13 pd (.lst [.str "seats", .ref pc])) v := fun v hv => (Z13 v hv).mono x14
  replace hpc' := x14 _ _ hpc'
  replace okb := okb.mono x14
  generalize upd G13 pd (.lst [.str "seats", .ref pc]) = G14 at n14 x14 hpd' gD14 g14 Z14 hpc' okb
  generalize upd H13 pd (.lst [.str "seats", .ref pc]) = H14 at n14 hl14 ⊢
  have okd : OkV K G14 (.ref pd) := ⟨.list [.str "seats", .list (xs.map dv)], .lst (SqL.of hpd') (.cons (.str _) (.cons (.lst (SqL.of hpc') (dv_dp hfl)) .nil)), okd_row (.inr rfl) (by simp) fun x hx => by
    rcases List.mem_cons.mp hx with rfl | hx
    · exact okS _
    · rw [List.mem_singleton.mp hx]; exact .inr ⟨xs, .inl rfl, by omega⟩⟩
  refine ⟨_, rfl, r, xs, rfl, .inl (SqL.of (n14.e _ _ g14)), fun pe hpe => ?_⟩
  obtain ⟨n15, x15⟩ := n14.imm (o := .lst xs) hpe
  have hpe' : upd G14 pe (.lst xs) pe = some (.lst xs) := upd_same
  have nDpe := ne_of_none hl14 hpe
  have hl15 : upd H14 pe (.lst xs) D = some (.lst zs) := by rw [upd_ne nDpe]; exact hl14
  have gD15 : upd G14 pe (.lst xs) D = none := by rw [upd_ne nDpe]; exact gD14
  have g15 := x15 _ _ g14
  have Z15 : ∀ v ∈ zs, OkV K (upd G14 pe (.lst xs)) v := fun v hv => (Z14 v hv).mono x15
  replace okb := okb.mono x15
  replace okd := okd.mono x15
  generalize upd G14 pe (.lst xs) = G15 at n15 x15 hpe' gD15 g15 Z15 okb okd
  generalize upd H14 pe (.lst xs) = H15 at n15 hl15 ⊢
  have oke : OkV K G15 (.ref pe) := ⟨.list (xs.map dv), .lst (SqL.of hpe') (dv_dp hfl), okd_flt (.inr ⟨xs, .inl rfl, by omega⟩)⟩
  refine ⟨szl 3 (by omega), fun pf hpf => ?_⟩
  have n16 := n15.tmp (o := .lst [.ref pb, .ref pd, .ref pe]) hpf
  have nDf := ne_of_none hl15 hpf
  have hf16 : upd H15 pf (.lst [.ref pb, .ref pd, .ref pe]) pf = some (.lst [.ref pb, .ref pd, .ref pe]) := upd_same
  have hl16 : upd H15 pf (.lst [.ref pb, .ref pd, .ref pe]) D = some (.lst zs) := by rw [upd_ne nDf]; exact hl15
  have V16 : ∀ v ∈ zs ++ [V.ref pb, .ref pd, .ref pe], OkV K G15 v := fun v hv => by
    rcases List.mem_append.mp hv with hv | hv
    · exact Z15 v hv
    · simp only [List.mem_cons, List.not_mem_nil, or_false] at hv
      rcases hv with rfl | rfl | rfl <;> assumption
  have l16 : (zs ++ [V.ref pb, .ref pd, .ref pe]).length ≤ 30 := by simp; omega
  generalize upd H15 pf (.lst [.ref pb, .ref pd, .ref pe]) = H16 at n16 hf16 hl16 ⊢
  refine ⟨D, pf, zs, _, rfl, rfl, hl16, hf16, szl _ (by simp; omega), fun p hp => ?_⟩
  obtain ⟨hps, gp, hp0⟩ := n16.sub hp
  exact q p _ G15 _ hp0 (n16.tmp hp) gp upd_same (by omega) V16
end
end K44
namespace K44
open PySem PySem.Spec PyProof.Rows L2 Hx Hd M44
open Evl (pss_cut tCut ex_l ex_t)
theorem Nr.ex {H0 G H H2 : Hp} {s L : Addr} (n : Nr H0 G H s L) (e : Ex H H2) : Nr H0 G H2 s L := ⟨n.e.trans e, n.gs, n.kp.trans fun a o _ h => e a o h, n.st.keep e, n.st0⟩
def Tr3 (G : Hp) (v : V) : Prop := ∃ p x y z, v = .ref p ∧ G p = some (.tup [x, y, z]) ∧ flatV x = true ∧ flatV y = true ∧ FlV G z
theorem Tr3.mono {G G' : Hp} {v : V} (h : Tr3 G v) (e : Ex G G') : Tr3 G' v := by
  obtain ⟨p, x, y, z, rfl, h, fx, fy, fz⟩ := h
  exact ⟨p, x, y, z, rfl, e _ _ h, fx, fy, fz.mono e⟩
theorem dv_one {K : PySem.W.Frag} {G : Hp} {x : V} (h : flatV x = true) : Dp K G x (dv x) := by
  have := dv_dp (K := K) (G := G) (xs := [x]) (by rw [List.all_cons, h]; rfl)
  cases this with
  | cons a _ => exact a
theorem flat_rg (a b : Int) : (rgV a b).all flatV = true := by
  rw [List.all_eq_true]
  intro x hx
  obtain ⟨n, _, rfl⟩ := List.mem_map.mp hx
  rfl
theorem insLen (ws : List Wn) (a b : Int) : (inside ws a b).length ≤ ws.length := by
  unfold inside
  rw [List.length_map]
  have := List.length_filter_le (fun i => decide (a ≤ (ws.getD i (0, 0)).1 ∧ (ws.getD i (0, 0)).2 ≤ b)) (List.range ws.length)
  rwa [List.length_range] at this
section
variable {P : Program} {w : World} {K : PySem.W.Frag} {mg : Str → Option Value} {base : Heap}
def spNearC (K : PySem.W.Frag) : Sp := fun vs H Q _ => ∃ (s L a c pl : Addr) (ws : List Wn) (lo hi : Int) (ns : List Int) (G0 : Hp), vs = [.ref s, .ref a, .ref c] ∧ Nr H G0 H s L ∧ Wns K G0 a ws ∧ ws.length ≤ 4000 ∧ G0 c = some (.tup [.str "crowd", .int lo, .int hi, .ref pl]) ∧ G0 pl = some (.lst (ns.map V.int)) ∧
  1 ≤ ns.length ∧ ns.length ≤ 4000 ∧ NearQ K H s L Q
abbrev N_law_near_crowds : List Str := ["stream", "windows", "crowd", "word", "low", "high", "places", "at", "rest", "found", "one"]
theorem sc_law_near_crowds : FnScope N_law_near_crowds ["stream", "windows", "crowd"] (defScope (top 48)) := ⟨rfl, rfl, rfl, by decide +kernel, rfl, by decide +kernel, by decide +kernel⟩
theorem ok_nearc (T : Txt K mg) (C__law_next : Cal P w K mg base CX0 1 "_law_next" ["stream", "many"] spNext) (C__law_inside_places : Cal P w K mg base CX0 1 "_law_inside_places" ["windows", "low", "high"] (spInside K)) :
    Cal P w K mg base CX0 2 "_law_near_crowds" ["stream", "windows", "crowd"] (spNearC K) := by
  refine mkCal T.g__law_near_crowds T.d__law_near_crowds sc_law_near_crowds (fun _ _ _ _ _ _ us hl => match us, hl with | [_, _, _], _ => rfl) (fun vs H Q E h => ?_) fun cdv A outer s0 H vs Q E hr h => ?_
  · obtain ⟨x, _, _, _, _, _, _, _, _, _, rfl, _⟩ := h; rfl
  obtain ⟨s, L, a, c, pl, ws, lo, hi, ns, G0, rfl, n0, gw, hwn, gc, gpl, hn1, hn, q⟩ := h
  refine ⟨_, (pss_cons (ps_asg (pv 2) (pgTup (K := K) rfl (pgs_cons (pg_name (i := 3) sc_law_near_crowds.nd rfl (Or.inl rfl)) (pgs_cons (pg_name (i := 4) sc_law_near_crowds.nd rfl (Or.inl rfl)) (pgs_cons (pg_name (i := 5) sc_law_near_crowds.nd rfl (Or.inl rfl)) (pgs_cons (pg_name (i := 6) sc_law_near_crowds.nd rfl (Or.inl rfl)) pgs_nil))))))
      (pss_cons (ps_set (i := 7) sc_law_near_crowds.nd rfl (Or.inl rfl) (pe_cal (E := E0) C__law_next (hr.mono (by decide)) pass0 (pa_cons (pv 0) (pa_cons (pe_callB (lenL (K := K)) (by rfl) T.n_len PySem.boot_len (pa_cons (pv 6) pa_nil)) pa_nil))))
      (pss_cons (ps_set (i := 8) sc_law_near_crowds.nd rfl (Or.inl rfl) (pe_op op_cat (pe_slice (slL (K := K)) (pv 6) po_none (po_some (pv 7))) (pe_slice (slL (K := K)) (pv 6) (po_some (pe_op op_add (pv 7) pe_int)) po_none)))
      (pss_cons (ps_set (i := 9) sc_law_near_crowds.nd rfl (Or.inl rfl) (pe_lst (pa_cons (pe_tup (pa_cons (pv 4) (pa_cons (pv 5) (pa_cons (pv 6) pa_nil)))) (pa_cons (pe_tup (pa_cons (pv 4) (pa_cons (pv 5) (pa_cons (pv 8) pa_nil)))) (pa_cons (pe_tup (pa_cons (pe_op op_sub (pv 4) pe_int) (pa_cons (pv 5) (pa_cons (pv 6) pa_nil)))) (pa_cons (pe_tup (pa_cons (pv 4) (pa_cons (pe_op op_add (pv 5) pe_int) (pa_cons (pv 6) pa_nil)))) (pa_cons (pe_tup (pa_cons (pe_op op_add (pv 4) pe_int) (pa_cons (pv 5) (pa_cons (pv 6) pa_nil)))) pa_nil)))))))
      (pss_cons (ps_set (i := 9) sc_law_near_crowds.nd rfl (Or.inl rfl) (pe_op op_cat (pv 9) (pe_lst (pa_cons (pe_tup (pa_cons (pv 4) (pa_cons (pe_op op_sub (pv 5) pe_int) (pa_cons (pv 6) pa_nil)))) (pa_cons (pe_tup (pa_cons (pv 4) (pa_cons (pv 5) (pa_cons (pe_revL (pv 6)) pa_nil)))) (pa_cons (pe_tup (pa_cons (pv 4) (pa_cons (pv 5) (pa_cons (pe_op op_cat (pv 6) (pe_lst (pa_cons (pe_ix (ixL (K := K)) (pv 6) pe_int (fun _ _ => rfl)) pa_nil))) pa_nil)))) (pa_cons (pe_tup (pa_cons (pv 4) (pa_cons (pv 5) (pa_cons (pe_callTy (tupOf (K := K)) (by rfl) T.n_tuple (by decide +kernel) (pa_cons (pv 6) pa_nil)) pa_nil)))) pa_nil)))))))
      (pss_cons (ps_set (i := 9) sc_law_near_crowds.nd rfl (Or.inl rfl) (pe_op op_cat (pv 9) (pe_lst (pa_cons (pe_tup (pa_cons (pv 4) (pa_cons (pv 5) (pa_cons (pe_lc (own := [("one", 10)]) (g := gName 10) rfl sc_law_near_crowds.nd (piL (K := K) (pv 6)) (blkOk_by (N := N_law_near_crowds) (sc := defScope (top 48)) (by decide +kernel)) (fun _ _ _ _ _ => (pg_name (i := 10) sc_law_near_crowds.nd rfl (Or.inl rfl))) (fun _ _ _ _ _ => pts_nil) (fun _ _ _ _ _ => (pe_op op_add (pv 10) pe_int))) pa_nil)))) (pa_cons (pe_tup (pa_cons (pv 4) (pa_cons (pv 5) (pa_cons (pe_lc (own := [("one", 10)]) (g := gName 10) rfl sc_law_near_crowds.nd (piL (K := K) (pv 6)) (blkOk_by (N := N_law_near_crowds) (sc := defScope (top 48)) (by decide +kernel)) (fun _ _ _ _ _ => (pg_name (i := 10) sc_law_near_crowds.nd rfl (Or.inl rfl))) (fun _ _ _ _ _ => pts_nil) (fun _ _ _ _ _ => (pe_op op_sub (pv 10) pe_int))) pa_nil)))) (pa_cons (pe_tup (pa_cons (pv 4) (pa_cons (pv 5) (pa_cons (pe_listRg rfl (by rfl) T.n_list (prg_1 (by rfl) T.n_range (pe_callB (lenL (K := K)) (by rfl) T.n_len PySem.boot_len (pa_cons (pv 1) pa_nil)))) pa_nil)))) pa_nil))))))
      (pss_cons (ps_set (i := 9) sc_law_near_crowds.nd rfl (Or.inl rfl) (pe_op op_cat (pv 9) (pe_lst (pa_cons (pe_tup (pa_cons (pe_op op_sub (pv 4) pe_int) (pa_cons (pe_op op_add (pv 5) pe_int) (pa_cons (pe_cal (E := E0) C__law_inside_places (hr.mono (by decide)) pass0 (pa_cons (pv 1) (pa_cons (pe_op op_sub (pv 4) pe_int) (pa_cons (pe_op op_add (pv 5) pe_int) pa_nil)))) pa_nil)))) (pa_cons (pe_tup (pa_cons (pv 4) (pa_cons (pv 5) (pa_cons (pe_lst pa_nil) pa_nil)))) (pa_cons (pe_tup (pa_cons (pv 4) (pa_cons (pv 5) (pa_cons (pe_lc (own := [("one", 10)]) (g := gName 10) rfl sc_law_near_crowds.nd (piL (K := K) (pv 6)) (blkOk_by (N := N_law_near_crowds) (sc := defScope (top 48)) (by decide +kernel)) (fun _ _ _ _ _ => (pg_name (i := 10) sc_law_near_crowds.nd rfl (Or.inl rfl))) (fun _ _ _ _ _ => pts_nil) (fun _ _ _ _ _ => (pe_cmpR op_gt (pv 10) pe_int (nomark _)))) pa_nil)))) pa_nil))))))
      (pss_cons (ps_set (i := 9) sc_law_near_crowds.nd rfl (Or.inl rfl) (pe_op op_cat (pv 9) (pe_lst (pa_cons (pe_tup (pa_cons (pv 4) (pa_cons pe_non (pa_cons (pv 6) pa_nil)))) (pa_cons (pe_tup (pa_cons (pv 4) (pa_cons (pv 5) (pa_cons (pe_op op_cat (pe_lst (pa_cons (pe_callB (lenL (K := K)) (by rfl) T.n_len PySem.boot_len (pa_cons (pv 1) pa_nil)) pa_nil)) (pv 6)) pa_nil)))) (pa_cons (pe_tup (pa_cons (pe_op op_add (pv 4) pe_int) (pa_cons (pe_op op_add (pv 4) pe_int) (pa_cons (pe_lst pa_nil) pa_nil)))) pa_nil))))))
      (pss_one (ps_ret (pe_op op_cat (pe_lc (own := [("one", 10)]) (g := gName 10) rfl sc_law_near_crowds.nd (piL (K := K) (pv 9)) (blkOk_by (N := N_law_near_crowds) (sc := defScope (top 48)) (by decide +kernel)) (fun _ _ _ _ _ => (pg_name (i := 10) sc_law_near_crowds.nd rfl (Or.inl rfl))) (fun _ _ _ _ _ => pts_nil) (fun _ _ _ _ _ => (pe_tup (pa_cons pe_str (pa_cons (pe_ix (ixT (K := K)) (pv 10) pe_int (fun _ _ => rfl)) (pa_cons (pe_ix (ixT (K := K)) (pv 10) pe_int (fun _ _ => rfl)) (pa_cons (pe_ix (ixT (K := K)) (pv 10) pe_int (fun _ _ => rfl)) pa_nil))))))) (pe_lst (pa_cons (pe_tup (pa_cons pe_str (pa_cons (pv 4) (pa_cons (pv 5) pa_nil)))) (pa_cons (pe_callTy (listOf (K := K)) (by rfl) T.n_list (by decide +kernel) (pa_cons (pv 2) pa_nil)) (pa_cons pe_non pa_nil))))))))))))))), ?_⟩
  have sz : ∀ m : Nat, m ≤ 200000 → m < sizeLine := fun m h => Nat.lt_of_le_of_lt h (by decide)
  have szl : ∀ m : Nat, m ≤ 200000 → m ≤ sizeLine := fun m h => Nat.le_of_lt (sz m h)
  have okS : ∀ z : Str, Flt (.str z) := fun z => .inl fun ds => ⟨fun h => (nomatch h), fun h => (nomatch h)⟩
  refine ⟨_, rfl, c, _, rfl, SqT.of (n0.e _ _ gc), rfl, _, _, rfl, _, _, rfl, _, _, rfl, _, _, rfl, rfl, ?_⟩
  obtain ⟨a0, ea0⟩ : ∃ a0 : Int, (ns.map V.int)[0]? = some (.int a0) := by
    rw [List.getElem?_map, List.getElem?_eq_getElem (by omega)]; exact ⟨_, rfl⟩
  generalize hns : ns.map V.int = xs at *
  have hfl : xs.all flatV = true := by rw [← hns]; exact flatInts ns
  have hxl : xs.length = ns.length := by rw [← hns, List.length_map]
  have at0 : atI xs 0 = some (.int a0) := at_of (j := 0) rfl ea0
  have hint : ∀ i, i < xs.length → ∃ b : Int, xs.getD i .non = .int b := fun i hi => by
    rw [← hns, List.getD_eq_getElem?_getD, List.getElem?_map, List.getElem?_eq_getElem (by omega)]; exact ⟨_, rfl⟩
  refine ⟨_, rfl, _, rfl, pl, xs, rfl, .inl (SqL.of (n0.e _ _ gpl)), s, L, _, rfl, n0.st, by omega, by omega, fun k1 H1 k10 k11 kp1 st1 => ?_⟩
  have n1 := n0.next kp1 st1
  obtain ⟨i1, rfl⟩ : ∃ n : Nat, k1 = (n : Int) := ⟨k1.toNat, by omega⟩
  have lc1 := cutV_length xs none (some (i1 : Int))
  have lc2 := cutV_length xs (some ((i1 : Int) + 1)) none
  refine ⟨_, rfl, _, rfl, (i1 : Int), rfl, pl, xs, rfl, SqL.of (n1.e _ _ gpl), fun p1 hp1 => ?_⟩
  obtain ⟨n2, x2⟩ := n1.imm (o := .lst (cutV xs none (some (i1 : Int)))) hp1
  have ep1 : upd G0 p1 (.lst (cutV xs none (some (i1 : Int)))) p1 = some (.lst (cutV xs none (some (i1 : Int)))) := upd_same
  replace gc := x2 _ _ gc
  replace gpl := x2 _ _ gpl
  replace gw := gw.keep x2
  generalize upd G0 p1 (.lst (cutV xs none (some (i1 : Int)))) = G2 at n2 x2 ep1 gc gpl gw
  generalize upd H1 p1 (.lst (cutV xs none (some (i1 : Int)))) = H2 at n2 ⊢
  clear x2
  refine ⟨_, rfl, _, rfl, (i1 : Int), 1, rfl, rfl, _, rfl, pl, xs, rfl, SqL.of (n2.e _ _ gpl), fun p2 hp2 => ?_⟩
  obtain ⟨n3, x3⟩ := n2.imm (o := .lst (cutV xs (some ((i1 : Int) + 1)) none)) hp2
  have ep2 : upd G2 p2 (.lst (cutV xs (some ((i1 : Int) + 1)) none)) p2 = some (.lst (cutV xs (some ((i1 : Int) + 1)) none)) := upd_same
  replace gc := x3 _ _ gc
  replace gpl := x3 _ _ gpl
  replace gw := gw.keep x3
  replace ep1 := x3 _ _ ep1
  generalize upd G2 p2 (.lst (cutV xs (some ((i1 : Int) + 1)) none)) = G3 at n3 x3 ep2 gc gpl gw ep1
  generalize upd H2 p2 (.lst (cutV xs (some ((i1 : Int) + 1)) none)) = H3 at n3 ⊢
  clear n2 x3
  refine ⟨p1, p2, _, _, rfl, rfl, n3.e _ _ ep1, n3.e _ _ ep2, szl _ (by omega), fun p3 hp3 => ?_⟩
  obtain ⟨n4, x4⟩ := n3.imm (o := .lst (cutV xs none (some (i1 : Int)) ++ cutV xs (some ((i1 : Int) + 1)) none)) hp3
  have ep3 : upd G3 p3 (.lst (cutV xs none (some (i1 : Int)) ++ cutV xs (some ((i1 : Int) + 1)) none)) p3 = some (.lst (cutV xs none (some (i1 : Int)) ++ cutV xs (some ((i1 : Int) + 1)) none)) := upd_same
  replace gc := x4 _ _ gc
  replace gpl := x4 _ _ gpl
  replace gw := gw.keep x4
  replace ep1 := x4 _ _ ep1
  replace ep2 := x4 _ _ ep2
  generalize upd G3 p3 (.lst (cutV xs none (some (i1 : Int)) ++ cutV xs (some ((i1 : Int) + 1)) none)) = G4 at n4 x4 ep3 gc gpl gw ep1 ep2
  generalize upd H3 p3 (.lst (cutV xs none (some (i1 : Int)) ++ cutV xs (some ((i1 : Int) + 1)) none)) = H4 at n4 ⊢
  clear n3 x4
  have Frest : FlV G4 (.ref p3) := ⟨p3, _, rfl, .inl ep3, by rw [List.all_append, flat_cut hfl, flat_cut hfl]; rfl, by rw [List.length_append]; omega⟩
  have Fpl : FlV G4 (.ref pl) := ⟨pl, xs, rfl, .inl gpl, hfl, by omega⟩
  refine ⟨_, rfl, _, rfl, _, rfl, szl 3 (by omega), fun t1 ht1 => ?_⟩
  obtain ⟨n5, x5⟩ := n4.imm (o := .tup [.int lo, .int hi, .ref pl]) ht1
  have et1 : upd G4 t1 (.tup [.int lo, .int hi, .ref pl]) t1 = some (.tup [.int lo, .int hi, .ref pl]) := upd_same
  replace gc := x5 _ _ gc
  replace gpl := x5 _ _ gpl
  replace gw := gw.keep x5
  replace Frest := Frest.mono x5
  replace Fpl := Fpl.mono x5
  generalize upd G4 t1 (.tup [.int lo, .int hi, .ref pl]) = G5 at n5 x5 et1 gc gpl gw Frest Fpl
  generalize upd H4 t1 (.tup [.int lo, .int hi, .ref pl]) = H5 at n5 ⊢
  clear n4 x5
  have Tt1 : Tr3 G5 (.ref t1) := ⟨t1, _, _, _, rfl, et1, rfl, rfl, Fpl⟩
  refine ⟨_, rfl, _, rfl, _, rfl, szl 3 (by omega), fun t2 ht2 => ?_⟩
  obtain ⟨n6, x6⟩ := n5.imm (o := .tup [.int lo, .int hi, .ref p3]) ht2
  have et2 : upd G5 t2 (.tup [.int lo, .int hi, .ref p3]) t2 = some (.tup [.int lo, .int hi, .ref p3]) := upd_same
  replace gc := x6 _ _ gc
  replace gpl := x6 _ _ gpl
  replace gw := gw.keep x6
  replace Frest := Frest.mono x6
  replace Fpl := Fpl.mono x6
  replace Tt1 := Tt1.mono x6
  generalize upd G5 t2 (.tup [.int lo, .int hi, .ref p3]) = G6 at n6 x6 et2 gc gpl gw Frest Fpl Tt1
  generalize upd H5 t2 (.tup [.int lo, .int hi, .ref p3]) = H6 at n6 ⊢
  clear n5 x6
  have Tt2 : Tr3 G6 (.ref t2) := ⟨t2, _, _, _, rfl, et2, rfl, rfl, Frest⟩
  refine ⟨_, rfl, lo, 1, rfl, rfl, _, rfl, _, rfl, szl 3 (by omega), fun t3 ht3 => ?_⟩
  obtain ⟨n7, x7⟩ := n6.imm (o := .tup [.int (lo - 1), .int hi, .ref pl]) ht3
  have et3 : upd G6 t3 (.tup [.int (lo - 1), .int hi, .ref pl]) t3 = some (.tup [.int (lo - 1), .int hi, .ref pl]) := upd_same
  replace gc := x7 _ _ gc
  replace gpl := x7 _ _ gpl
  replace gw := gw.keep x7
  replace Fpl := Fpl.mono x7
  replace Tt1 := Tt1.mono x7
  replace Tt2 := Tt2.mono x7
  generalize upd G6 t3 (.tup [.int (lo - 1), .int hi, .ref pl]) = G7 at n7 x7 et3 gc gpl gw Fpl Tt1 Tt2
  generalize upd H6 t3 (.tup [.int (lo - 1), .int hi, .ref pl]) = H7 at n7 ⊢
  clear n6 x7
  have Tt3 : Tr3 G7 (.ref t3) := ⟨t3, _, _, _, rfl, et3, rfl, rfl, Fpl⟩
  refine ⟨_, rfl, _, rfl, hi, 1, rfl, rfl, _, rfl, szl 3 (by omega), fun t4 ht4 => ?_⟩
  obtain ⟨n8, x8⟩ := n7.imm (o := .tup [.int lo, .int (hi + 1), .ref pl]) ht4
  have et4 : upd G7 t4 (.tup [.int lo, .int (hi + 1), .ref pl]) t4 = some (.tup [.int lo, .int (hi + 1), .ref pl]) := upd_same
  replace gc := x8 _ _ gc
  replace gpl := x8 _ _ gpl
  replace gw := gw.keep x8
  replace Fpl := Fpl.mono x8
  replace Tt1 := Tt1.mono x8
  replace Tt2 := Tt2.mono x8
  replace Tt3 := Tt3.mono x8
  generalize upd G7 t4 (.tup [.int lo, .int (hi + 1), .ref pl]) = G8 at n8 x8 et4 gc gpl gw Fpl Tt1 Tt2 Tt3
  generalize upd H7 t4 (.tup [.int lo, .int (hi + 1), .ref pl]) = H8 at n8 ⊢
  clear n7 x8
  have Tt4 : Tr3 G8 (.ref t4) := ⟨t4, _, _, _, rfl, et4, rfl, rfl, Fpl⟩
  refine ⟨_, rfl, lo, 1, rfl, rfl, _, rfl, _, rfl, szl 3 (by omega), fun t5 ht5 => ?_⟩
  obtain ⟨n9, x9⟩ := n8.imm (o := .tup [.int (lo + 1), .int hi, .ref pl]) ht5
  have et5 : upd G8 t5 (.tup [.int (lo + 1), .int hi, .ref pl]) t5 = some (.tup [.int (lo + 1), .int hi, .ref pl]) := upd_same
  replace gc := x9 _ _ gc
  replace gpl := x9 _ _ gpl
  replace gw := gw.keep x9
  replace Fpl := Fpl.mono x9
  replace Tt1 := Tt1.mono x9
  replace Tt2 := Tt2.mono x9
  replace Tt3 := Tt3.mono x9
  replace Tt4 := Tt4.mono x9
  generalize upd G8 t5 (.tup [.int (lo + 1), .int hi, .ref pl]) = G9 at n9 x9 et5 gc gpl gw Fpl Tt1 Tt2 Tt3 Tt4
  generalize upd H8 t5 (.tup [.int (lo + 1), .int hi, .ref pl]) = H9 at n9 ⊢
  clear n8 x9
  have Tt5 : Tr3 G9 (.ref t5) := ⟨t5, _, _, _, rfl, et5, rfl, rfl, Fpl⟩
  refine ⟨szl 5 (by omega), fun f1 hf1 => ?_⟩
  obtain ⟨n10, x10⟩ := n9.imm (o := .lst [.ref t1, .ref t2, .ref t3, .ref t4, .ref t5]) hf1
  have ef1 : upd G9 f1 (.lst [.ref t1, .ref t2, .ref t3, .ref t4, .ref t5]) f1 = some (.lst [.ref t1, .ref t2, .ref t3, .ref t4, .ref t5]) := upd_same
  replace gc := x10 _ _ gc
  replace gpl := x10 _ _ gpl
  replace gw := gw.keep x10
  replace Fpl := Fpl.mono x10
  replace Tt1 := Tt1.mono x10
  replace Tt2 := Tt2.mono x10
  replace Tt3 := Tt3.mono x10
  replace Tt4 := Tt4.mono x10
  replace Tt5 := Tt5.mono x10
  generalize upd G9 f1 (.lst [.ref t1, .ref t2, .ref t3, .ref t4, .ref t5]) = G10 at n10 x10 ef1 gc gpl gw Fpl Tt1 Tt2 Tt3 Tt4 Tt5
  generalize upd H9 f1 (.lst [.ref t1, .ref t2, .ref t3, .ref t4, .ref t5]) = H10 at n10 ⊢
  clear n9 x10
  have Af1 : ∀ v ∈ [V.ref t1, V.ref t2, V.ref t3, V.ref t4, V.ref t5], Tr3 G10 v := by
    intro v hv
    simp only [List.mem_cons, List.not_mem_nil, or_false] at hv
    rcases hv with rfl | rfl | rfl | rfl | rfl <;> assumption
  have lf1 : [V.ref t1, V.ref t2, V.ref t3, V.ref t4, V.ref t5].length = 5 := rfl
  refine ⟨_, rfl, _, rfl, _, rfl, hi, 1, rfl, rfl, _, rfl, szl 3 (by omega), fun t6 ht6 => ?_⟩
  obtain ⟨n11, x11⟩ := n10.imm (o := .tup [.int lo, .int (hi - 1), .ref pl]) ht6
  have et6 : upd G10 t6 (.tup [.int lo, .int (hi - 1), .ref pl]) t6 = some (.tup [.int lo, .int (hi - 1), .ref pl]) := upd_same
  replace gc := x11 _ _ gc
  replace gpl := x11 _ _ gpl
  replace gw := gw.keep x11
  replace Fpl := Fpl.mono x11
  replace ef1 := x11 _ _ ef1
  replace Af1 := fun v hv => (Af1 v hv).mono x11
  generalize upd G10 t6 (.tup [.int lo, .int (hi - 1), .ref pl]) = G11 at n11 x11 et6 gc gpl gw Fpl ef1 Af1
  generalize upd H10 t6 (.tup [.int lo, .int (hi - 1), .ref pl]) = H11 at n11 ⊢
  clear n10 x11
  have Tt6 : Tr3 G11 (.ref t6) := ⟨t6, _, _, _, rfl, et6, rfl, rfl, Fpl⟩
  refine ⟨_, rfl, _, rfl, _, rfl, pl, xs, rfl, SqL.of (n11.e _ _ gpl), fun p4 hp4 => ?_⟩
  obtain ⟨n12, x12⟩ := n11.imm (o := .lst xs.reverse) hp4
  have ep4 : upd G11 p4 (.lst xs.reverse) p4 = some (.lst xs.reverse) := upd_same
  replace gc := x12 _ _ gc
  replace gpl := x12 _ _ gpl
  replace gw := gw.keep x12
  replace Fpl := Fpl.mono x12
  replace ef1 := x12 _ _ ef1
  replace Af1 := fun v hv => (Af1 v hv).mono x12
  replace Tt6 := Tt6.mono x12
  generalize upd G11 p4 (.lst xs.reverse) = G12 at n12 x12 ep4 gc gpl gw Fpl ef1 Af1 Tt6
  generalize upd H11 p4 (.lst xs.reverse) = H12 at n12 ⊢
  clear n11 x12
  have F4 : FlV G12 (.ref p4) := ⟨p4, _, rfl, .inl ep4, by rw [List.all_reverse]; exact hfl, by rw [List.length_reverse]; omega⟩
  refine ⟨szl 3 (by omega), fun t7 ht7 => ?_⟩
  obtain ⟨n13, x13⟩ := n12.imm (o := .tup [.int lo, .int hi, .ref p4]) ht7
  have et7 : upd G12 t7 (.tup [.int lo, .int hi, .ref p4]) t7 = some (.tup [.int lo, .int hi, .ref p4]) := upd_same
  replace gc := x13 _ _ gc
  replace gpl := x13 _ _ gpl
  replace gw := gw.keep x13
  replace Fpl := Fpl.mono x13
  replace ef1 := x13 _ _ ef1
  replace Af1 := fun v hv => (Af1 v hv).mono x13
  replace Tt6 := Tt6.mono x13
  replace F4 := F4.mono x13
  generalize upd G12 t7 (.tup [.int lo, .int hi, .ref p4]) = G13 at n13 x13 et7 gc gpl gw Fpl ef1 Af1 Tt6 F4
  generalize upd H12 t7 (.tup [.int lo, .int hi, .ref p4]) = H13 at n13 ⊢
  clear n12 x13
  have Tt7 : Tr3 G13 (.ref t7) := ⟨t7, _, _, _, rfl, et7, rfl, rfl, F4⟩
  refine ⟨_, rfl, _, rfl, _, rfl, _, rfl, pl, xs, 0, _, rfl, rfl, SqL.of (n13.e _ _ gpl), at0, szl 1 (by omega), fun p5 hp5 => ?_⟩
  obtain ⟨n14, x14⟩ := n13.imm (o := .lst [.int a0]) hp5
  have ep5 : upd G13 p5 (.lst [.int a0]) p5 = some (.lst [.int a0]) := upd_same
  replace gc := x14 _ _ gc
  replace gpl := x14 _ _ gpl
  replace gw := gw.keep x14
  replace Fpl := Fpl.mono x14
  replace ef1 := x14 _ _ ef1
  replace Af1 := fun v hv => (Af1 v hv).mono x14
  replace Tt6 := Tt6.mono x14
  replace Tt7 := Tt7.mono x14
  generalize upd G13 p5 (.lst [.int a0]) = G14 at n14 x14 ep5 gc gpl gw Fpl ef1 Af1 Tt6 Tt7
  generalize upd H13 p5 (.lst [.int a0]) = H14 at n14 ⊢
  clear n13 x14
  refine ⟨pl, p5, xs, _, rfl, rfl, n14.e _ _ gpl, n14.e _ _ ep5, szl _ (by simp; omega), fun p6 hp6 => ?_⟩
  obtain ⟨n15, x15⟩ := n14.imm (o := .lst (xs ++ [.int a0])) hp6
  have ep6 : upd G14 p6 (.lst (xs ++ [.int a0])) p6 = some (.lst (xs ++ [.int a0])) := upd_same
  replace gc := x15 _ _ gc
  replace gpl := x15 _ _ gpl
  replace gw := gw.keep x15
  replace Fpl := Fpl.mono x15
  replace ef1 := x15 _ _ ef1
  replace Af1 := fun v hv => (Af1 v hv).mono x15
  replace Tt6 := Tt6.mono x15
  replace Tt7 := Tt7.mono x15
  replace ep5 := x15 _ _ ep5
  generalize upd G14 p6 (.lst (xs ++ [.int a0])) = G15 at n15 x15 ep6 gc gpl gw Fpl ef1 Af1 Tt6 Tt7 ep5
  generalize upd H14 p6 (.lst (xs ++ [.int a0])) = H15 at n15 ⊢
  clear n14 x15
  have F6 : FlV G15 (.ref p6) := ⟨p6, _, rfl, .inl ep6, by rw [List.all_append, hfl]; rfl, by simp; omega⟩
  refine ⟨szl 3 (by omega), fun t8 ht8 => ?_⟩
  obtain ⟨n16, x16⟩ := n15.imm (o := .tup [.int lo, .int hi, .ref p6]) ht8
  have et8 : upd G15 t8 (.tup [.int lo, .int hi, .ref p6]) t8 = some (.tup [.int lo, .int hi, .ref p6]) := upd_same
  replace gc := x16 _ _ gc
  replace gpl := x16 _ _ gpl
  replace gw := gw.keep x16
  replace Fpl := Fpl.mono x16
  replace ef1 := x16 _ _ ef1
  replace Af1 := fun v hv => (Af1 v hv).mono x16
  replace Tt6 := Tt6.mono x16
  replace Tt7 := Tt7.mono x16
  replace F6 := F6.mono x16
  generalize upd G15 t8 (.tup [.int lo, .int hi, .ref p6]) = G16 at n16 x16 et8 gc gpl gw Fpl ef1 Af1 Tt6 Tt7 F6
  generalize upd H15 t8 (.tup [.int lo, .int hi, .ref p6]) = H16 at n16 ⊢
  clear n15 x16
  have Tt8 : Tr3 G16 (.ref t8) := ⟨t8, _, _, _, rfl, et8, rfl, rfl, F6⟩
  refine ⟨_, rfl, _, rfl, _, rfl, pl, xs, rfl, .inl ⟨SqL.of (n16.e _ _ gpl), fun p7 hp7 => ?_⟩⟩
  obtain ⟨n17, x17⟩ := n16.imm (o := .tup xs) hp7
  have ep7 : upd G16 p7 (.tup xs) p7 = some (.tup xs) := upd_same
  replace gc := x17 _ _ gc
  replace gpl := x17 _ _ gpl
  replace gw := gw.keep x17
  replace Fpl := Fpl.mono x17
  replace ef1 := x17 _ _ ef1
  replace Af1 := fun v hv => (Af1 v hv).mono x17
  replace Tt6 := Tt6.mono x17
  replace Tt7 := Tt7.mono x17
  replace Tt8 := Tt8.mono x17
  generalize upd G16 p7 (.tup xs) = G17 at n17 x17 ep7 gc gpl gw Fpl ef1 Af1 Tt6 Tt7 Tt8
  generalize upd H16 p7 (.tup xs) = H17 at n17 ⊢
  clear n16 x17
  have F7 : FlV G17 (.ref p7) := ⟨p7, xs, rfl, .inr ep7, hfl, by omega⟩
  refine ⟨szl 3 (by omega), fun t9 ht9 => ?_⟩
  obtain ⟨n18, x18⟩ := n17.imm (o := .tup [.int lo, .int hi, .ref p7]) ht9
  have et9 : upd G17 t9 (.tup [.int lo, .int hi, .ref p7]) t9 = some (.tup [.int lo, .int hi, .ref p7]) := upd_same
  replace gc := x18 _ _ gc
  replace gpl := x18 _ _ gpl
  replace gw := gw.keep x18
  replace Fpl := Fpl.mono x18
  replace ef1 := x18 _ _ ef1
  replace Af1 := fun v hv => (Af1 v hv).mono x18
  replace Tt6 := Tt6.mono x18
  replace Tt7 := Tt7.mono x18
  replace Tt8 := Tt8.mono x18
  replace F7 := F7.mono x18
  generalize upd G17 t9 (.tup [.int lo, .int hi, .ref p7]) = G18 at n18 x18 et9 gc gpl gw Fpl ef1 Af1 Tt6 Tt7 Tt8 F7
  generalize upd H17 t9 (.tup [.int lo, .int hi, .ref p7]) = H18 at n18 ⊢
  clear n17 x18
  have Tt9 : Tr3 G18 (.ref t9) := ⟨t9, _, _, _, rfl, et9, rfl, rfl, F7⟩
  refine ⟨szl 4 (by omega), fun f2 hf2 => ?_⟩
  obtain ⟨n19, x19⟩ := n18.imm (o := .lst [.ref t6, .ref t7, .ref t8, .ref t9]) hf2
  have ef2 : upd G18 f2 (.lst [.ref t6, .ref t7, .ref t8, .ref t9]) f2 = some (.lst [.ref t6, .ref t7, .ref t8, .ref t9]) := upd_same
  replace gc := x19 _ _ gc
  replace gpl := x19 _ _ gpl
  replace gw := gw.keep x19
  replace Fpl := Fpl.mono x19
  replace ef1 := x19 _ _ ef1
  replace Af1 := fun v hv => (Af1 v hv).mono x19
  replace Tt6 := Tt6.mono x19
  replace Tt7 := Tt7.mono x19
  replace Tt8 := Tt8.mono x19
  replace Tt9 := Tt9.mono x19
  generalize upd G18 f2 (.lst [.ref t6, .ref t7, .ref t8, .ref t9]) = G19 at n19 x19 ef2 gc gpl gw Fpl ef1 Af1 Tt6 Tt7 Tt8 Tt9
  generalize upd H18 f2 (.lst [.ref t6, .ref t7, .ref t8, .ref t9]) = H19 at n19 ⊢
  clear n18 x19
  have Af2 : ∀ v ∈ [V.ref t6, V.ref t7, V.ref t8, V.ref t9], Tr3 G19 v := by
    intro v hv
    simp only [List.mem_cons, List.not_mem_nil, or_false] at hv
    rcases hv with rfl | rfl | rfl | rfl <;> assumption
  have lf2 : [V.ref t6, V.ref t7, V.ref t8, V.ref t9].length = 4 := rfl
  refine ⟨f1, f2, _, _, rfl, rfl, n19.e _ _ ef1, n19.e _ _ ef2, szl _ (by rw [lf1, lf2]; omega), fun f3 hf3 => ?_⟩
  obtain ⟨n20, x20⟩ := n19.imm (o := .lst ([V.ref t1, V.ref t2, V.ref t3, V.ref t4, V.ref t5] ++ [V.ref t6, V.ref t7, V.ref t8, V.ref t9])) hf3
  have ef3 : upd G19 f3 (.lst ([V.ref t1, V.ref t2, V.ref t3, V.ref t4, V.ref t5] ++ [V.ref t6, V.ref t7, V.ref t8, V.ref t9])) f3 = some (.lst ([V.ref t1, V.ref t2, V.ref t3, V.ref t4, V.ref t5] ++ [V.ref t6, V.ref t7, V.ref t8, V.ref t9])) := upd_same
  replace gc := x20 _ _ gc
  replace gpl := x20 _ _ gpl
  replace gw := gw.keep x20
  replace Fpl := Fpl.mono x20
  replace ef1 := x20 _ _ ef1
  replace Af1 := fun v hv => (Af1 v hv).mono x20
  replace ef2 := x20 _ _ ef2
  replace Af2 := fun v hv => (Af2 v hv).mono x20
  generalize upd G19 f3 (.lst ([V.ref t1, V.ref t2, V.ref t3, V.ref t4, V.ref t5] ++ [V.ref t6, V.ref t7, V.ref t8, V.ref t9])) = G20 at n20 x20 ef3 gc gpl gw Fpl ef1 Af1 ef2 Af2
  generalize upd H19 f3 (.lst ([V.ref t1, V.ref t2, V.ref t3, V.ref t4, V.ref t5] ++ [V.ref t6, V.ref t7, V.ref t8, V.ref t9])) = H20 at n20 ⊢
  clear n19 x20
  have Af3 : ∀ v ∈ [V.ref t1, V.ref t2, V.ref t3, V.ref t4, V.ref t5] ++ [V.ref t6, V.ref t7, V.ref t8, V.ref t9], Tr3 G20 v := fun v hv => (List.mem_append.mp hv).elim (Af1 v) (Af2 v)
  have lf3 : ([V.ref t1, V.ref t2, V.ref t3, V.ref t4, V.ref t5] ++ [V.ref t6, V.ref t7, V.ref t8, V.ref t9]).length = 9 := by rw [List.length_append, lf1, lf2]
  generalize [V.ref t1, V.ref t2, V.ref t3, V.ref t4, V.ref t5] ++ [V.ref t6, V.ref t7, V.ref t8, V.ref t9] = rf3 at ef3 Af3 lf3 ⊢
  refine ⟨_, rfl, _, rfl, _, rfl, _, rfl, pl, rfl, ⟨xs, SqL.of (n20.e _ _ gpl)⟩, fun d1 hd1 => ?_⟩
  refine lcW (M := NoM) walk_list n20.e (fun H' e => SqL.of (e _ _ gpl)) (by omega) (fun i y _ => flatV y = true) (fun _ _ _ _ _ h => h) (fun _ => true) (fun i => [some (.ref s), some (.ref a), some (.ref c), some (.str "crowd"), some (.int lo), some (.int hi), some (.ref pl), some (.int (i1 : Nat)), some (.ref p3), some (.ref f3), some (xs.getD i .non)])
    (fun i y G' H' H'' hj a' yy Q q => turn_name (σ0 := [some (.ref s), some (.ref a), some (.ref c), some (.str "crowd"), some (.int lo), some (.int hi), some (.ref pl), some (.int (i1 : Nat)), some (.ref p3), some (.ref f3), none]) (j := 10) a' yy (by rw [List.getD_eq_getElem?_getD]; simp [hj]) q) (fun _ _ => rfl) (fun i G' H' hj a' Q q => yes_t a'.gh q) (fun i G' H' hj _ a' Q q => ?_) (fun _ _ h => h) hd1 (fun ys21 G' H' a' gD hl' hsel => ?_)
  · obtain ⟨b, eb⟩ := hint i hj
    refine ⟨_, rfl, ?_⟩
    rw [eb]
    exact ⟨b, 1, rfl, rfl, q _ _ _ (Stp.refl a'.gh) rfl⟩
  obtain ⟨hld1, hgd1⟩ := sel_all hsel
  have hfd1 : ys21.all flatV = true := by
    rw [List.all_eq_true]
    intro v hv
    obtain ⟨i, hj, e⟩ := List.getElem_of_mem hv
    obtain ⟨y, hy, ok⟩ := hgd1 i (by omega)
    rw [List.getElem?_eq_getElem hj, e] at hy
    obtain rfl := Option.some.inj hy
    exact ok
  have n21 := n20.stp (a'.fix hd1 hl')
  have x21 := (a'.fix hd1 hl').gg
  have ed1 : upd G' d1 (.lst ys21) d1 = some (.lst ys21) := upd_same
  replace gc := x21 _ _ gc
  replace gpl := x21 _ _ gpl
  replace gw := gw.keep x21
  replace Fpl := Fpl.mono x21
  replace ef3 := x21 _ _ ef3
  replace Af3 := fun v hv => (Af3 v hv).mono x21
  generalize upd G' d1 (.lst ys21) = G21 at n21 x21 ed1 gc gpl gw Fpl ef3 Af3
  clear hl' hsel gD a' hgd1 n20 x21
  generalize H' = H21 at n21 ⊢
  have Fd1 : FlV G21 (.ref d1) := ⟨d1, _, rfl, .inl ed1, hfd1, by omega⟩
  refine ⟨szl 3 (by omega), fun t10 ht10 => ?_⟩
  obtain ⟨n22, x22⟩ := n21.imm (o := .tup [.int lo, .int hi, .ref d1]) ht10
  have et10 : upd G21 t10 (.tup [.int lo, .int hi, .ref d1]) t10 = some (.tup [.int lo, .int hi, .ref d1]) := upd_same
  replace gc := x22 _ _ gc
  replace gpl := x22 _ _ gpl
  replace gw := gw.keep x22
  replace Fpl := Fpl.mono x22
  replace ef3 := x22 _ _ ef3
  replace Af3 := fun v hv => (Af3 v hv).mono x22
  replace Fd1 := Fd1.mono x22
  generalize upd G21 t10 (.tup [.int lo, .int hi, .ref d1]) = G22 at n22 x22 et10 gc gpl gw Fpl ef3 Af3 Fd1
  generalize upd H21 t10 (.tup [.int lo, .int hi, .ref d1]) = H22 at n22 ⊢
  clear n21 x22
  have Tt10 : Tr3 G22 (.ref t10) := ⟨t10, _, _, _, rfl, et10, rfl, rfl, Fd1⟩
  refine ⟨_, rfl, _, rfl, _, rfl, pl, rfl, ⟨xs, SqL.of (n22.e _ _ gpl)⟩, fun d2 hd2 => ?_⟩
  refine lcW (M := NoM) walk_list n22.e (fun H' e => SqL.of (e _ _ gpl)) (by omega) (fun i y _ => flatV y = true) (fun _ _ _ _ _ h => h) (fun _ => true) (fun i => [some (.ref s), some (.ref a), some (.ref c), some (.str "crowd"), some (.int lo), some (.int hi), some (.ref pl), some (.int (i1 : Nat)), some (.ref p3), some (.ref f3), some (xs.getD i .non)])
    (fun i y G' H' H'' hj a' yy Q q => turn_name (σ0 := [some (.ref s), some (.ref a), some (.ref c), some (.str "crowd"), some (.int lo), some (.int hi), some (.ref pl), some (.int (i1 : Nat)), some (.ref p3), some (.ref f3), none]) (j := 10) a' yy (by rw [List.getD_eq_getElem?_getD]; simp [hj]) q) (fun _ _ => rfl) (fun i G' H' hj a' Q q => yes_t a'.gh q) (fun i G' H' hj _ a' Q q => ?_) (fun _ _ h => h) hd2 (fun ys23 G' H' a' gD hl' hsel => ?_)
  · obtain ⟨b, eb⟩ := hint i hj
    refine ⟨_, rfl, ?_⟩
    rw [eb]
    exact ⟨b, 1, rfl, rfl, q _ _ _ (Stp.refl a'.gh) rfl⟩
  obtain ⟨hld2, hgd2⟩ := sel_all hsel
  have hfd2 : ys23.all flatV = true := by
    rw [List.all_eq_true]
    intro v hv
    obtain ⟨i, hj, e⟩ := List.getElem_of_mem hv
    obtain ⟨y, hy, ok⟩ := hgd2 i (by omega)
    rw [List.getElem?_eq_getElem hj, e] at hy
    obtain rfl := Option.some.inj hy
    exact ok
  have n23 := n22.stp (a'.fix hd2 hl')
  have x23 := (a'.fix hd2 hl').gg
  have ed2 : upd G' d2 (.lst ys23) d2 = some (.lst ys23) := upd_same
  replace gc := x23 _ _ gc
  replace gpl := x23 _ _ gpl
  replace gw := gw.keep x23
  replace Fpl := Fpl.mono x23
  replace ef3 := x23 _ _ ef3
  replace Af3 := fun v hv => (Af3 v hv).mono x23
  replace Tt10 := Tt10.mono x23
  generalize upd G' d2 (.lst ys23) = G23 at n23 x23 ed2 gc gpl gw Fpl ef3 Af3 Tt10
  clear hl' hsel gD a' hgd2 n22 x23
  generalize H' = H23 at n23 ⊢
  have Fd2 : FlV G23 (.ref d2) := ⟨d2, _, rfl, .inl ed2, hfd2, by omega⟩
  refine ⟨szl 3 (by omega), fun t11 ht11 => ?_⟩
  obtain ⟨n24, x24⟩ := n23.imm (o := .tup [.int lo, .int hi, .ref d2]) ht11
  have et11 : upd G23 t11 (.tup [.int lo, .int hi, .ref d2]) t11 = some (.tup [.int lo, .int hi, .ref d2]) := upd_same
  replace gc := x24 _ _ gc
  replace gpl := x24 _ _ gpl
  replace gw := gw.keep x24
  replace Fpl := Fpl.mono x24
  replace ef3 := x24 _ _ ef3
  replace Af3 := fun v hv => (Af3 v hv).mono x24
  replace Tt10 := Tt10.mono x24
  replace Fd2 := Fd2.mono x24
  generalize upd G23 t11 (.tup [.int lo, .int hi, .ref d2]) = G24 at n24 x24 et11 gc gpl gw Fpl ef3 Af3 Tt10 Fd2
  generalize upd H23 t11 (.tup [.int lo, .int hi, .ref d2]) = H24 at n24 ⊢
  clear n23 x24
  have Tt11 : Tr3 G24 (.ref t11) := ⟨t11, _, _, _, rfl, et11, rfl, rfl, Fd2⟩
  obtain ⟨wx24, hwx24, hwl24⟩ := gw.len
  refine ⟨_, rfl, _, rfl, _, rfl, a, wx24, rfl, .inl (ex_l n24.e hwx24), _, rfl, RgOk.of_le (by omega) (by omega) (by omega) (by omega), fun p8 hp8 => ?_⟩
  obtain ⟨n25, x25⟩ := n24.imm (o := .lst (rgV 0 (wx24.length : Int))) hp8
  have ep8 : upd G24 p8 (.lst (rgV 0 (wx24.length : Int))) p8 = some (.lst (rgV 0 (wx24.length : Int))) := upd_same
  replace gc := x25 _ _ gc
  replace gpl := x25 _ _ gpl
  replace gw := gw.keep x25
  replace Fpl := Fpl.mono x25
  replace ef3 := x25 _ _ ef3
  replace Af3 := fun v hv => (Af3 v hv).mono x25
  replace Tt10 := Tt10.mono x25
  replace Tt11 := Tt11.mono x25
  generalize upd G24 p8 (.lst (rgV 0 (wx24.length : Int))) = G25 at n25 x25 ep8 gc gpl gw Fpl ef3 Af3 Tt10 Tt11
  generalize upd H24 p8 (.lst (rgV 0 (wx24.length : Int))) = H25 at n25 ⊢
  clear n24 x25
  have F8 : FlV G25 (.ref p8) := ⟨p8, _, rfl, .inl ep8, flat_rg _ _, by rw [rgV_length]; omega⟩
  refine ⟨szl 3 (by omega), fun t12 ht12 => ?_⟩
  obtain ⟨n26, x26⟩ := n25.imm (o := .tup [.int lo, .int hi, .ref p8]) ht12
  have et12 : upd G25 t12 (.tup [.int lo, .int hi, .ref p8]) t12 = some (.tup [.int lo, .int hi, .ref p8]) := upd_same
  replace gc := x26 _ _ gc
  replace gpl := x26 _ _ gpl
  replace gw := gw.keep x26
  replace Fpl := Fpl.mono x26
  replace ef3 := x26 _ _ ef3
  replace Af3 := fun v hv => (Af3 v hv).mono x26
  replace Tt10 := Tt10.mono x26
  replace Tt11 := Tt11.mono x26
  replace F8 := F8.mono x26
  generalize upd G25 t12 (.tup [.int lo, .int hi, .ref p8]) = G26 at n26 x26 et12 gc gpl gw Fpl ef3 Af3 Tt10 Tt11 F8
  generalize upd H25 t12 (.tup [.int lo, .int hi, .ref p8]) = H26 at n26 ⊢
  clear n25 x26
  have Tt12 : Tr3 G26 (.ref t12) := ⟨t12, _, _, _, rfl, et12, rfl, rfl, F8⟩
  refine ⟨szl 3 (by omega), fun f4 hf4 => ?_⟩
  obtain ⟨n27, x27⟩ := n26.imm (o := .lst [.ref t10, .ref t11, .ref t12]) hf4
  have ef4 : upd G26 f4 (.lst [.ref t10, .ref t11, .ref t12]) f4 = some (.lst [.ref t10, .ref t11, .ref t12]) := upd_same
  replace gc := x27 _ _ gc
  replace gpl := x27 _ _ gpl
  replace gw := gw.keep x27
  replace Fpl := Fpl.mono x27
  replace ef3 := x27 _ _ ef3
  replace Af3 := fun v hv => (Af3 v hv).mono x27
  replace Tt10 := Tt10.mono x27
  replace Tt11 := Tt11.mono x27
  replace Tt12 := Tt12.mono x27
  generalize upd G26 f4 (.lst [.ref t10, .ref t11, .ref t12]) = G27 at n27 x27 ef4 gc gpl gw Fpl ef3 Af3 Tt10 Tt11 Tt12
  generalize upd H26 f4 (.lst [.ref t10, .ref t11, .ref t12]) = H27 at n27 ⊢
  clear n26 x27
  have Af4 : ∀ v ∈ [V.ref t10, V.ref t11, V.ref t12], Tr3 G27 v := by
    intro v hv
    simp only [List.mem_cons, List.not_mem_nil, or_false] at hv
    rcases hv with rfl | rfl | rfl <;> assumption
  have lf4 : [V.ref t10, V.ref t11, V.ref t12].length = 3 := rfl
  refine ⟨f3, f4, _, _, rfl, rfl, n27.e _ _ ef3, n27.e _ _ ef4, szl _ (by rw [lf3, lf4]; omega), fun f5 hf5 => ?_⟩
  obtain ⟨n28, x28⟩ := n27.imm (o := .lst (rf3 ++ [V.ref t10, V.ref t11, V.ref t12])) hf5
  have ef5 : upd G27 f5 (.lst (rf3 ++ [V.ref t10, V.ref t11, V.ref t12])) f5 = some (.lst (rf3 ++ [V.ref t10, V.ref t11, V.ref t12])) := upd_same
  replace gc := x28 _ _ gc
  replace gpl := x28 _ _ gpl
  replace gw := gw.keep x28
  replace Fpl := Fpl.mono x28
  replace ef3 := x28 _ _ ef3
  replace Af3 := fun v hv => (Af3 v hv).mono x28
  replace ef4 := x28 _ _ ef4
  replace Af4 := fun v hv => (Af4 v hv).mono x28
  generalize upd G27 f5 (.lst (rf3 ++ [V.ref t10, V.ref t11, V.ref t12])) = G28 at n28 x28 ef5 gc gpl gw Fpl ef3 Af3 ef4 Af4
  generalize upd H27 f5 (.lst (rf3 ++ [V.ref t10, V.ref t11, V.ref t12])) = H28 at n28 ⊢
  clear n27 x28
  have Af5 : ∀ v ∈ rf3 ++ [V.ref t10, V.ref t11, V.ref t12], Tr3 G28 v := fun v hv => (List.mem_append.mp hv).elim (Af3 v) (Af4 v)
  have lf5 : (rf3 ++ [V.ref t10, V.ref t11, V.ref t12]).length = 12 := by rw [List.length_append, lf3, lf4]
  generalize rf3 ++ [V.ref t10, V.ref t11, V.ref t12] = rf5 at ef5 Af5 lf5 ⊢
  refine ⟨_, rfl, _, rfl, lo, 9, rfl, rfl, _, rfl, hi, 9, rfl, rfl, _, rfl, _, rfl, lo, 9, rfl, rfl, _, rfl, hi, 9, rfl, rfl, a, ws, _, _, rfl, gw.keep n28.e, by omega, fun p9 H29 hp9 e29 hl9 => ?_⟩
  obtain ⟨hs9, hg9, _⟩ := n28.sub hp9
  obtain ⟨n29, x29⟩ := (n28.ex e29).fix hl9 hs9 hg9
  have ep9 : upd G28 p9 (.lst ((inside ws (lo - 9) (hi + 9)).map V.int)) p9 = some (.lst ((inside ws (lo - 9) (hi + 9)).map V.int)) := upd_same
  replace gc := x29 _ _ gc
  replace gpl := x29 _ _ gpl
  replace gw := gw.keep x29
  replace Fpl := Fpl.mono x29
  replace ef5 := x29 _ _ ef5
  replace Af5 := fun v hv => (Af5 v hv).mono x29
  generalize upd G28 p9 (.lst ((inside ws (lo - 9) (hi + 9)).map V.int)) = G29 at n29 x29 ep9 gc gpl gw Fpl ef5 Af5
  clear n28 x29 e29 hl9
  have F9 : FlV G29 (.ref p9) := ⟨p9, _, rfl, .inl ep9, flatInts _, by rw [List.length_map]; have := insLen ws (lo - 9) (hi + 9); omega⟩
  refine ⟨szl 3 (by omega), fun t13 ht13 => ?_⟩
  obtain ⟨n30, x30⟩ := n29.imm (o := .tup [.int (lo - 9), .int (hi + 9), .ref p9]) ht13
  have et13 : upd G29 t13 (.tup [.int (lo - 9), .int (hi + 9), .ref p9]) t13 = some (.tup [.int (lo - 9), .int (hi + 9), .ref p9]) := upd_same
  replace gc := x30 _ _ gc
  replace gpl := x30 _ _ gpl
  replace gw := gw.keep x30
  replace Fpl := Fpl.mono x30
  replace ef5 := x30 _ _ ef5
  replace Af5 := fun v hv => (Af5 v hv).mono x30
  replace F9 := F9.mono x30
  generalize upd G29 t13 (.tup [.int (lo - 9), .int (hi + 9), .ref p9]) = G30 at n30 x30 et13 gc gpl gw Fpl ef5 Af5 F9
  generalize upd H29 t13 (.tup [.int (lo - 9), .int (hi + 9), .ref p9]) = H30 at n30 ⊢
  clear n29 x30
  have Tt13 : Tr3 G30 (.ref t13) := ⟨t13, _, _, _, rfl, et13, rfl, rfl, F9⟩
  refine ⟨_, rfl, _, rfl, Nat.zero_le _, fun p10 hp10 => ?_⟩
  obtain ⟨n31, x31⟩ := n30.imm (o := .lst []) hp10
  have ep10 : upd G30 p10 (.lst []) p10 = some (.lst []) := upd_same
  replace gc := x31 _ _ gc
  replace gpl := x31 _ _ gpl
  replace gw := gw.keep x31
  replace Fpl := Fpl.mono x31
  replace ef5 := x31 _ _ ef5
  replace Af5 := fun v hv => (Af5 v hv).mono x31
  replace Tt13 := Tt13.mono x31
  generalize upd G30 p10 (.lst []) = G31 at n31 x31 ep10 gc gpl gw Fpl ef5 Af5 Tt13
  generalize upd H30 p10 (.lst []) = H31 at n31 ⊢
  clear n30 x31
  have F10 : FlV G31 (.ref p10) := ⟨p10, _, rfl, .inl ep10, rfl, Nat.zero_le _⟩
  refine ⟨szl 3 (by omega), fun t14 ht14 => ?_⟩
  obtain ⟨n32, x32⟩ := n31.imm (o := .tup [.int lo, .int hi, .ref p10]) ht14
  have et14 : upd G31 t14 (.tup [.int lo, .int hi, .ref p10]) t14 = some (.tup [.int lo, .int hi, .ref p10]) := upd_same
  replace gc := x32 _ _ gc
  replace gpl := x32 _ _ gpl
  replace gw := gw.keep x32
  replace Fpl := Fpl.mono x32
  replace ef5 := x32 _ _ ef5
  replace Af5 := fun v hv => (Af5 v hv).mono x32
  replace Tt13 := Tt13.mono x32
  replace F10 := F10.mono x32
  generalize upd G31 t14 (.tup [.int lo, .int hi, .ref p10]) = G32 at n32 x32 et14 gc gpl gw Fpl ef5 Af5 Tt13 F10
  generalize upd H31 t14 (.tup [.int lo, .int hi, .ref p10]) = H32 at n32 ⊢
  clear n31 x32
  have Tt14 : Tr3 G32 (.ref t14) := ⟨t14, _, _, _, rfl, et14, rfl, rfl, F10⟩
  refine ⟨_, rfl, _, rfl, _, rfl, pl, rfl, ⟨xs, SqL.of (n32.e _ _ gpl)⟩, fun d3 hd3 => ?_⟩
  refine lcW (M := NoM) walk_list n32.e (fun H' e => SqL.of (e _ _ gpl)) (by omega) (fun i y _ => flatV y = true) (fun _ _ _ _ _ h => h) (fun _ => true) (fun i => [some (.ref s), some (.ref a), some (.ref c), some (.str "crowd"), some (.int lo), some (.int hi), some (.ref pl), some (.int (i1 : Nat)), some (.ref p3), some (.ref f5), some (xs.getD i .non)])
    (fun i y G' H' H'' hj a' yy Q q => turn_name (σ0 := [some (.ref s), some (.ref a), some (.ref c), some (.str "crowd"), some (.int lo), some (.int hi), some (.ref pl), some (.int (i1 : Nat)), some (.ref p3), some (.ref f5), none]) (j := 10) a' yy (by rw [List.getD_eq_getElem?_getD]; simp [hj]) q) (fun _ _ => rfl) (fun i G' H' hj a' Q q => yes_t a'.gh q) (fun i G' H' hj _ a' Q q => ?_) (fun _ _ h => h) hd3 (fun ys33 G' H' a' gD hl' hsel => ?_)
  · obtain ⟨b, eb⟩ := hint i hj
    refine ⟨_, rfl, ?_⟩
    rw [eb]
    exact ⟨b, 0, rfl, rfl, q _ _ _ (Stp.refl a'.gh) rfl⟩
  obtain ⟨hld3, hgd3⟩ := sel_all hsel
  have hfd3 : ys33.all flatV = true := by
    rw [List.all_eq_true]
    intro v hv
    obtain ⟨i, hj, e⟩ := List.getElem_of_mem hv
    obtain ⟨y, hy, ok⟩ := hgd3 i (by omega)
    rw [List.getElem?_eq_getElem hj, e] at hy
    obtain rfl := Option.some.inj hy
    exact ok
  have n33 := n32.stp (a'.fix hd3 hl')
  have x33 := (a'.fix hd3 hl').gg
  have ed3 : upd G' d3 (.lst ys33) d3 = some (.lst ys33) := upd_same
  replace gc := x33 _ _ gc
  replace gpl := x33 _ _ gpl
  replace gw := gw.keep x33
  replace Fpl := Fpl.mono x33
  replace ef5 := x33 _ _ ef5
  replace Af5 := fun v hv => (Af5 v hv).mono x33
  replace Tt13 := Tt13.mono x33
  replace Tt14 := Tt14.mono x33
  generalize upd G' d3 (.lst ys33) = G33 at n33 x33 ed3 gc gpl gw Fpl ef5 Af5 Tt13 Tt14
  clear hl' hsel gD a' hgd3 n32 x33
  generalize H' = H33 at n33 ⊢
  have Fd3 : FlV G33 (.ref d3) := ⟨d3, _, rfl, .inl ed3, hfd3, by omega⟩
  refine ⟨szl 3 (by omega), fun t15 ht15 => ?_⟩
  obtain ⟨n34, x34⟩ := n33.imm (o := .tup [.int lo, .int hi, .ref d3]) ht15
  have et15 : upd G33 t15 (.tup [.int lo, .int hi, .ref d3]) t15 = some (.tup [.int lo, .int hi, .ref d3]) := upd_same
  replace gc := x34 _ _ gc
  replace gpl := x34 _ _ gpl
  replace gw := gw.keep x34
  replace Fpl := Fpl.mono x34
  replace ef5 := x34 _ _ ef5
  replace Af5 := fun v hv => (Af5 v hv).mono x34
  replace Tt13 := Tt13.mono x34
  replace Tt14 := Tt14.mono x34
  replace Fd3 := Fd3.mono x34
  generalize upd G33 t15 (.tup [.int lo, .int hi, .ref d3]) = G34 at n34 x34 et15 gc gpl gw Fpl ef5 Af5 Tt13 Tt14 Fd3
  generalize upd H33 t15 (.tup [.int lo, .int hi, .ref d3]) = H34 at n34 ⊢
  clear n33 x34
  have Tt15 : Tr3 G34 (.ref t15) := ⟨t15, _, _, _, rfl, et15, rfl, rfl, Fd3⟩
  refine ⟨szl 3 (by omega), fun f6 hf6 => ?_⟩
  obtain ⟨n35, x35⟩ := n34.imm (o := .lst [.ref t13, .ref t14, .ref t15]) hf6
  have ef6 : upd G34 f6 (.lst [.ref t13, .ref t14, .ref t15]) f6 = some (.lst [.ref t13, .ref t14, .ref t15]) := upd_same
  replace gc := x35 _ _ gc
  replace gpl := x35 _ _ gpl
  replace gw := gw.keep x35
  replace Fpl := Fpl.mono x35
  replace ef5 := x35 _ _ ef5
  replace Af5 := fun v hv => (Af5 v hv).mono x35
  replace Tt13 := Tt13.mono x35
  replace Tt14 := Tt14.mono x35
  replace Tt15 := Tt15.mono x35
  generalize upd G34 f6 (.lst [.ref t13, .ref t14, .ref t15]) = G35 at n35 x35 ef6 gc gpl gw Fpl ef5 Af5 Tt13 Tt14 Tt15
  generalize upd H34 f6 (.lst [.ref t13, .ref t14, .ref t15]) = H35 at n35 ⊢
  clear n34 x35
  have Af6 : ∀ v ∈ [V.ref t13, V.ref t14, V.ref t15], Tr3 G35 v := by
    intro v hv
    simp only [List.mem_cons, List.not_mem_nil, or_false] at hv
    rcases hv with rfl | rfl | rfl <;> assumption
  have lf6 : [V.ref t13, V.ref t14, V.ref t15].length = 3 := rfl
  refine ⟨f5, f6, _, _, rfl, rfl, n35.e _ _ ef5, n35.e _ _ ef6, szl _ (by rw [lf5, lf6]; omega), fun f7 hf7 => ?_⟩
  obtain ⟨n36, x36⟩ := n35.imm (o := .lst (rf5 ++ [V.ref t13, V.ref t14, V.ref t15])) hf7
  have ef7 : upd G35 f7 (.lst (rf5 ++ [V.ref t13, V.ref t14, V.ref t15])) f7 = some (.lst (rf5 ++ [V.ref t13, V.ref t14, V.ref t15])) := upd_same
  replace gc := x36 _ _ gc
  replace gpl := x36 _ _ gpl
  replace gw := gw.keep x36
  replace Fpl := Fpl.mono x36
  replace ef5 := x36 _ _ ef5
  replace Af5 := fun v hv => (Af5 v hv).mono x36
  replace ef6 := x36 _ _ ef6
  replace Af6 := fun v hv => (Af6 v hv).mono x36
  generalize upd G35 f7 (.lst (rf5 ++ [V.ref t13, V.ref t14, V.ref t15])) = G36 at n36 x36 ef7 gc gpl gw Fpl ef5 Af5 ef6 Af6
  generalize upd H35 f7 (.lst (rf5 ++ [V.ref t13, V.ref t14, V.ref t15])) = H36 at n36 ⊢
  clear n35 x36
  have Af7 : ∀ v ∈ rf5 ++ [V.ref t13, V.ref t14, V.ref t15], Tr3 G36 v := fun v hv => (List.mem_append.mp hv).elim (Af5 v) (Af6 v)
  have lf7 : (rf5 ++ [V.ref t13, V.ref t14, V.ref t15]).length = 15 := by rw [List.length_append, lf5, lf6]
  generalize rf5 ++ [V.ref t13, V.ref t14, V.ref t15] = rf7 at ef7 Af7 lf7 ⊢
  refine ⟨_, rfl, _, rfl, _, rfl, szl 3 (by omega), fun t16 ht16 => ?_⟩
  obtain ⟨n37, x37⟩ := n36.imm (o := .tup [.int lo, .non, .ref pl]) ht16
  have et16 : upd G36 t16 (.tup [.int lo, .non, .ref pl]) t16 = some (.tup [.int lo, .non, .ref pl]) := upd_same
  replace gc := x37 _ _ gc
  replace gpl := x37 _ _ gpl
  replace gw := gw.keep x37
  replace Fpl := Fpl.mono x37
  replace ef7 := x37 _ _ ef7
  replace Af7 := fun v hv => (Af7 v hv).mono x37
  generalize upd G36 t16 (.tup [.int lo, .non, .ref pl]) = G37 at n37 x37 et16 gc gpl gw Fpl ef7 Af7
  generalize upd H36 t16 (.tup [.int lo, .non, .ref pl]) = H37 at n37 ⊢
  clear n36 x37
  have Tt16 : Tr3 G37 (.ref t16) := ⟨t16, _, _, _, rfl, et16, rfl, rfl, Fpl⟩
  obtain ⟨wx137, hwx137, hwl137⟩ := gw.len
  refine ⟨_, rfl, _, rfl, _, rfl, a, wx137, rfl, .inl (ex_l n37.e hwx137), szl 1 (by omega), fun p11 hp11 => ?_⟩
  obtain ⟨n38, x38⟩ := n37.imm (o := .lst [.int (wx137.length : Nat)]) hp11
  have ep11 : upd G37 p11 (.lst [.int (wx137.length : Nat)]) p11 = some (.lst [.int (wx137.length : Nat)]) := upd_same
  replace gc := x38 _ _ gc
  replace gpl := x38 _ _ gpl
  replace gw := gw.keep x38
  replace Fpl := Fpl.mono x38
  replace ef7 := x38 _ _ ef7
  replace Af7 := fun v hv => (Af7 v hv).mono x38
  replace Tt16 := Tt16.mono x38
  generalize upd G37 p11 (.lst [.int (wx137.length : Nat)]) = G38 at n38 x38 ep11 gc gpl gw Fpl ef7 Af7 Tt16
  generalize upd H37 p11 (.lst [.int (wx137.length : Nat)]) = H38 at n38 ⊢
  clear n37 x38
  refine ⟨_, rfl, p11, pl, _, xs, rfl, rfl, n38.e _ _ ep11, n38.e _ _ gpl, szl _ (by simp; omega), fun p12 hp12 => ?_⟩
  obtain ⟨n39, x39⟩ := n38.imm (o := .lst ([.int (wx137.length : Nat)] ++ xs)) hp12
  have ep12 : upd G38 p12 (.lst ([.int (wx137.length : Nat)] ++ xs)) p12 = some (.lst ([.int (wx137.length : Nat)] ++ xs)) := upd_same
  replace gc := x39 _ _ gc
  replace gpl := x39 _ _ gpl
  replace gw := gw.keep x39
  replace Fpl := Fpl.mono x39
  replace ef7 := x39 _ _ ef7
  replace Af7 := fun v hv => (Af7 v hv).mono x39
  replace Tt16 := Tt16.mono x39
  replace ep11 := x39 _ _ ep11
  generalize upd G38 p12 (.lst ([.int (wx137.length : Nat)] ++ xs)) = G39 at n39 x39 ep12 gc gpl gw Fpl ef7 Af7 Tt16 ep11
  generalize upd H38 p12 (.lst ([.int (wx137.length : Nat)] ++ xs)) = H39 at n39 ⊢
  clear n38 x39
  have F12 : FlV G39 (.ref p12) := ⟨p12, _, rfl, .inl ep12, by rw [List.all_append, hfl]; rfl, by simp; omega⟩
  refine ⟨szl 3 (by omega), fun t17 ht17 => ?_⟩
  obtain ⟨n40, x40⟩ := n39.imm (o := .tup [.int lo, .int hi, .ref p12]) ht17
  have et17 : upd G39 t17 (.tup [.int lo, .int hi, .ref p12]) t17 = some (.tup [.int lo, .int hi, .ref p12]) := upd_same
  replace gc := x40 _ _ gc
  replace gpl := x40 _ _ gpl
  replace gw := gw.keep x40
  replace Fpl := Fpl.mono x40
  replace ef7 := x40 _ _ ef7
  replace Af7 := fun v hv => (Af7 v hv).mono x40
  replace Tt16 := Tt16.mono x40
  replace F12 := F12.mono x40
  generalize upd G39 t17 (.tup [.int lo, .int hi, .ref p12]) = G40 at n40 x40 et17 gc gpl gw Fpl ef7 Af7 Tt16 F12
  generalize upd H39 t17 (.tup [.int lo, .int hi, .ref p12]) = H40 at n40 ⊢
  clear n39 x40
  have Tt17 : Tr3 G40 (.ref t17) := ⟨t17, _, _, _, rfl, et17, rfl, rfl, F12⟩
  refine ⟨_, rfl, lo, 3, rfl, rfl, _, rfl, lo, 1, rfl, rfl, Nat.zero_le _, fun p13 hp13 => ?_⟩
  obtain ⟨n41, x41⟩ := n40.imm (o := .lst []) hp13
  have ep13 : upd G40 p13 (.lst []) p13 = some (.lst []) := upd_same
  replace gc := x41 _ _ gc
  replace gpl := x41 _ _ gpl
  replace gw := gw.keep x41
  replace Fpl := Fpl.mono x41
  replace ef7 := x41 _ _ ef7
  replace Af7 := fun v hv => (Af7 v hv).mono x41
  replace Tt16 := Tt16.mono x41
  replace Tt17 := Tt17.mono x41
  generalize upd G40 p13 (.lst []) = G41 at n41 x41 ep13 gc gpl gw Fpl ef7 Af7 Tt16 Tt17
  generalize upd H40 p13 (.lst []) = H41 at n41 ⊢
  clear n40 x41
  have F13 : FlV G41 (.ref p13) := ⟨p13, _, rfl, .inl ep13, rfl, Nat.zero_le _⟩
  refine ⟨szl 3 (by omega), fun t18 ht18 => ?_⟩
  obtain ⟨n42, x42⟩ := n41.imm (o := .tup [.int (lo + 3), .int (lo + 1), .ref p13]) ht18
  have et18 : upd G41 t18 (.tup [.int (lo + 3), .int (lo + 1), .ref p13]) t18 = some (.tup [.int (lo + 3), .int (lo + 1), .ref p13]) := upd_same
  replace gc := x42 _ _ gc
  replace gpl := x42 _ _ gpl
  replace gw := gw.keep x42
  replace Fpl := Fpl.mono x42
  replace ef7 := x42 _ _ ef7
  replace Af7 := fun v hv => (Af7 v hv).mono x42
  replace Tt16 := Tt16.mono x42
  replace Tt17 := Tt17.mono x42
  replace F13 := F13.mono x42
  generalize upd G41 t18 (.tup [.int (lo + 3), .int (lo + 1), .ref p13]) = G42 at n42 x42 et18 gc gpl gw Fpl ef7 Af7 Tt16 Tt17 F13
  generalize upd H41 t18 (.tup [.int (lo + 3), .int (lo + 1), .ref p13]) = H42 at n42 ⊢
  clear n41 x42
  have Tt18 : Tr3 G42 (.ref t18) := ⟨t18, _, _, _, rfl, et18, rfl, rfl, F13⟩
  refine ⟨szl 3 (by omega), fun f8 hf8 => ?_⟩
  obtain ⟨n43, x43⟩ := n42.imm (o := .lst [.ref t16, .ref t17, .ref t18]) hf8
  have ef8 : upd G42 f8 (.lst [.ref t16, .ref t17, .ref t18]) f8 = some (.lst [.ref t16, .ref t17, .ref t18]) := upd_same
  replace gc := x43 _ _ gc
  replace gpl := x43 _ _ gpl
  replace gw := gw.keep x43
  replace Fpl := Fpl.mono x43
  replace ef7 := x43 _ _ ef7
  replace Af7 := fun v hv => (Af7 v hv).mono x43
  replace Tt16 := Tt16.mono x43
  replace Tt17 := Tt17.mono x43
  replace Tt18 := Tt18.mono x43
  generalize upd G42 f8 (.lst [.ref t16, .ref t17, .ref t18]) = G43 at n43 x43 ef8 gc gpl gw Fpl ef7 Af7 Tt16 Tt17 Tt18
  generalize upd H42 f8 (.lst [.ref t16, .ref t17, .ref t18]) = H43 at n43 ⊢
  clear n42 x43
  have Af8 : ∀ v ∈ [V.ref t16, V.ref t17, V.ref t18], Tr3 G43 v := by
    intro v hv
    simp only [List.mem_cons, List.not_mem_nil, or_false] at hv
    rcases hv with rfl | rfl | rfl <;> assumption
  have lf8 : [V.ref t16, V.ref t17, V.ref t18].length = 3 := rfl
  refine ⟨f7, f8, _, _, rfl, rfl, n43.e _ _ ef7, n43.e _ _ ef8, szl _ (by rw [lf7, lf8]; omega), fun f9 hf9 => ?_⟩
  obtain ⟨n44, x44⟩ := n43.imm (o := .lst (rf7 ++ [V.ref t16, V.ref t17, V.ref t18])) hf9
  have ef9 : upd G43 f9 (.lst (rf7 ++ [V.ref t16, V.ref t17, V.ref t18])) f9 = some (.lst (rf7 ++ [V.ref t16, V.ref t17, V.ref t18])) := upd_same
  replace gc := x44 _ _ gc
  replace gpl := x44 _ _ gpl
  replace gw := gw.keep x44
  replace Fpl := Fpl.mono x44
  replace ef7 := x44 _ _ ef7
  replace Af7 := fun v hv => (Af7 v hv).mono x44
  replace ef8 := x44 _ _ ef8
  replace Af8 := fun v hv => (Af8 v hv).mono x44
  generalize upd G43 f9 (.lst (rf7 ++ [V.ref t16, V.ref t17, V.ref t18])) = G44 at n44 x44 ef9 gc gpl gw Fpl ef7 Af7 ef8 Af8
  generalize upd H43 f9 (.lst (rf7 ++ [V.ref t16, V.ref t17, V.ref t18])) = H44 at n44 ⊢
  clear n43 x44
  have Af9 : ∀ v ∈ rf7 ++ [V.ref t16, V.ref t17, V.ref t18], Tr3 G44 v := fun v hv => (List.mem_append.mp hv).elim (Af7 v) (Af8 v)
  have lf9 : (rf7 ++ [V.ref t16, V.ref t17, V.ref t18]).length = 18 := by rw [List.length_append, lf7, lf8]
  generalize rf7 ++ [V.ref t16, V.ref t17, V.ref t18] = rf9 at ef9 Af9 lf9 ⊢
  refine ⟨_, rfl, f9, rfl, ⟨rf9, SqL.of (n44.e _ _ ef9)⟩, fun D hD => ?_⟩
  refine lcW (M := NoM) walk_list n44.e (fun H' e => SqL.of (e _ _ ef9)) (by omega) (fun i y G => OkV K G y) (fun _ _ _ _ e h => h.mono e) (fun _ => true) (fun i => [some (.ref s), some (.ref a), some (.ref c), some (.str "crowd"), some (.int lo), some (.int hi), some (.ref pl), some (.int (i1 : Nat)), some (.ref p3), some (.ref f9), some (rf9.getD i .non)])
    (fun i y G' H' H'' hj a' yy Q q => turn_name (σ0 := [some (.ref s), some (.ref a), some (.ref c), some (.str "crowd"), some (.int lo), some (.int hi), some (.ref pl), some (.int (i1 : Nat)), some (.ref p3), some (.ref f9), none]) (j := 10) a' yy (by rw [List.getD_eq_getElem?_getD]; simp [hj]) q) (fun _ _ => rfl) (fun i G' H' hj a' Q q => yes_t a'.gh q) (fun i G' H' hj _ a' Q q => ?_) (fun _ _ h => h) hD (fun zs G' H' a' gD hl' hsel => ?_)
  · have hm : rf9.getD i .non ∈ rf9 := by rw [List.getD_eq_getElem?_getD, List.getElem?_eq_getElem hj]; exact List.getElem_mem hj
    obtain ⟨t, x, y, z, et, gt, fx, fy, fz⟩ := (Af9 _ hm).mono a'.gg
    have ht := SqT.of (K := K) (a'.gh _ _ gt)
    refine ⟨_, rfl, ?_⟩
    rw [et]
    refine ⟨t, _, 0, _, rfl, rfl, ht, rfl, _, rfl, t, _, 1, _, rfl, rfl, ht, rfl, _, rfl, t, _, 2, _, rfl, rfl, ht, rfl, szl 4 (by omega), fun p hp => ?_⟩
    have gp := Evl.fresh_back a'.gh hp
    obtain ⟨dz, hdz, hfz⟩ := flv_dp (K := K) (fz.mono (Evl.Ex.new gp))
    refine q _ _ _ (Stp.new a'.gh hp) ⟨.tuple [.str "crowd", dv x, dv y, dz], .tup (SqT.of upd_same) (.cons (.str _) (.cons (dv_one fx) (.cons (dv_one fy) (.cons hdz .nil)))), okd_row (.inl rfl) (by simp) fun u hu => ?_⟩
    simp only [List.mem_cons, List.not_mem_nil, or_false] at hu
    rcases hu with rfl | rfl | rfl | rfl
    · exact okS _
    · exact .inl (fit_dv x)
    · exact .inl (fit_dv y)
    · exact hfz
  have n45 := n44.stp a'
  obtain ⟨hzl, hzg⟩ := sel_all hsel
  have Z0 : ∀ v ∈ zs, OkV K G' v := fun v hv => by
    obtain ⟨i, hj, e⟩ := List.getElem_of_mem hv
    obtain ⟨y, hy, ok⟩ := hzg i (by omega)
    rw [List.getElem?_eq_getElem hj, e] at hy
    obtain rfl := Option.some.inj hy
    exact ok
  replace gc := a'.gg _ _ gc
  replace Fpl := Fpl.mono a'.gg
  clear hsel hzg
  obtain ⟨hDs, _, hD0⟩ := n44.sub hD
  refine ⟨_, rfl, _, rfl, szl 3 (by omega), fun q1 hq1 => ?_⟩
  obtain ⟨m1, y1⟩ := n45.imm (o := .tup [.str "crowd", .int lo, .int hi]) hq1
  have eq1 : upd G' q1 (.tup [.str "crowd", .int lo, .int hi]) q1 = some (.tup [.str "crowd", .int lo, .int hi]) := upd_same
  have nD1 := ne_of_none hl' hq1
  have hl1 : upd H' q1 (.tup [.str "crowd", .int lo, .int hi]) D = some (.lst zs) := by rw [upd_ne nD1]; exact hl'
  have O1 : OkV K (upd G' q1 (.tup [.str "crowd", .int lo, .int hi])) (.ref q1) := ⟨.tuple [.str "crowd", .int lo, .int hi], .tup (SqT.of eq1) (.cons (.str _) (.cons (.int _) (.cons (.int _) .nil))), okd_row (.inl rfl) (by simp) fun u hu => by
    simp only [List.mem_cons, List.not_mem_nil, or_false] at hu
    rcases hu with rfl | rfl | rfl <;> exact .inl fun ds => ⟨fun h => (nomatch h), fun h => (nomatch h)⟩⟩
  replace gc := y1 _ _ gc
  replace Fpl := Fpl.mono y1
  replace Z0 := fun v hv => (Z0 v hv).mono y1
  generalize upd G' q1 (.tup [.str "crowd", .int lo, .int hi]) = Ga at m1 gc Fpl Z0 O1
  generalize upd H' q1 (.tup [.str "crowd", .int lo, .int hi]) = Ha at m1 hl1 ⊢
  refine ⟨_, rfl, c, _, rfl, .inr (SqT.of (m1.e _ _ gc)), fun q2 hq2 => ?_⟩
  obtain ⟨m2, y2⟩ := m1.imm (o := .lst [.str "crowd", .int lo, .int hi, .ref pl]) hq2
  have eq2 : upd Ga q2 (.lst [.str "crowd", .int lo, .int hi, .ref pl]) q2 = some (.lst [.str "crowd", .int lo, .int hi, .ref pl]) := upd_same
  have nD2 := ne_of_none hl1 hq2
  have hl2 : upd Ha q2 (.lst [.str "crowd", .int lo, .int hi, .ref pl]) D = some (.lst zs) := by rw [upd_ne nD2]; exact hl1
  obtain ⟨dz, hdz, hfz⟩ := flv_dp (K := K) (Fpl.mono y2)
  have O2 : OkV K (upd Ga q2 (.lst [.str "crowd", .int lo, .int hi, .ref pl])) (.ref q2) := ⟨.list [.str "crowd", .int lo, .int hi, dz], .lst (SqL.of eq2) (.cons (.str _) (.cons (.int _) (.cons (.int _) (.cons hdz .nil)))), okd_row (.inr rfl) (by simp) fun u hu => by
    simp only [List.mem_cons, List.not_mem_nil, or_false] at hu
    rcases hu with rfl | rfl | rfl | rfl
    · exact okS _
    · exact .inl fun ds => ⟨fun h => (nomatch h), fun h => (nomatch h)⟩
    · exact .inl fun ds => ⟨fun h => (nomatch h), fun h => (nomatch h)⟩
    · exact hfz⟩
  replace Z0 := fun v hv => (Z0 v hv).mono y2
  replace O1 := O1.mono y2
  generalize upd Ga q2 (.lst [.str "crowd", .int lo, .int hi, .ref pl]) = Gb at m2 Z0 O1 O2
  generalize upd Ha q2 (.lst [.str "crowd", .int lo, .int hi, .ref pl]) = Hb at m2 hl2 ⊢
  have O3 : OkV K Gb .non := ⟨.none, .non, okd_flt (.inl fun ds => ⟨fun h => (nomatch h), fun h => (nomatch h)⟩)⟩
  refine ⟨szl 3 (by omega), fun q3 hq3 => ?_⟩
  have m3 := m2.tmp (o := .lst [.ref q1, .ref q2, .non]) hq3
  have nD3 := ne_of_none hl2 hq3
  have hq3' : upd Hb q3 (.lst [.ref q1, .ref q2, .non]) q3 = some (.lst [.ref q1, .ref q2, .non]) := upd_same
  have hl3 : upd Hb q3 (.lst [.ref q1, .ref q2, .non]) D = some (.lst zs) := by rw [upd_ne nD3]; exact hl2
  have V3 : ∀ v ∈ zs ++ [V.ref q1, .ref q2, .non], OkV K Gb v := fun v hv => by
    rcases List.mem_append.mp hv with hv | hv
    · exact Z0 v hv
    · simp only [List.mem_cons, List.not_mem_nil, or_false] at hv
      rcases hv with rfl | rfl | rfl <;> assumption
  have l3 : (zs ++ [V.ref q1, .ref q2, .non]).length ≤ 30 := by simp; omega
  generalize upd Hb q3 (.lst [.ref q1, .ref q2, .non]) = Hc at m3 hq3' hl3 ⊢
  refine ⟨D, q3, zs, _, rfl, rfl, hl3, hq3', szl _ (by simp; omega), fun p hp => ?_⟩
  obtain ⟨hps, gp, hp0⟩ := m3.sub hp
  exact q p _ Gb _ hp0 (m3.tmp hp) gp upd_same (by omega) V3
end
end K44
namespace K44
open PySem PySem.Spec PyProof.Rows L2 Hx Hd M44
open Evl (pss_cut tCut ex_l ex_t)
open L2H
theorem ps_no {X : Cx} {st : Stmt} : PS X st (fun _ _ _ => False) := ⟨fun _ _ _ _ _ _ h => h.elim⟩
section
variable {P : Program} {w : World} {K : PySem.W.Frag} {mg : Str → Option Value} {base : Heap}
abbrev N_law_named : List Str := ["error", "names", "fits"]
theorem sc_law_named : FnScope N_law_named ["error"] (defScope (top 37)) := ⟨rfl, rfl, rfl, by decide +kernel, rfl, by decide +kernel, by decide +kernel⟩
abbrev N_law_attributes : List Str := ["e", "name"]
theorem sc_law_attributes : FnScope N_law_attributes ["e", "name"] (defScope (top 38)) := ⟨rfl, rfl, rfl, by decide +kernel, rfl, by decide +kernel, by decide +kernel⟩
abbrev N_law_error : List Str := ["error", "name"]
theorem sc_law_error : FnScope N_law_error ["error"] (defScope (top 39)) := ⟨rfl, rfl, rfl, by decide +kernel, rfl, by decide +kernel, by decide +kernel⟩
/-- such an error at hand: class C, one field f -/
def Hnd (d : Addr) (f : Str) (z : Str) (H : Hp) : Prop := H d = some (.xd [(f, .str z)])
def spNamed (a d : Addr) (f z nm : Str) : Sp := fun vs H Q _ => vs = [.ref a] ∧ Hnd d f z H ∧ ∀ H2, Ex H H2 → Q (.str nm) H2
def spAttr (a d : Addr) (f z nm : Str) : Sp := fun vs H Q _ => vs = [.ref a, .str nm] ∧ Hnd d f z H ∧ ∀ p H2, H p = none → Ex H H2 → H2 p = some (.tup [.str z]) → Q (.ref p) H2
def spErr (a d : Addr) (f z nm : Str) : Sp := fun vs H Q _ => vs = [.ref a] ∧ Hnd d f z H ∧ ∀ l p H2, H l = none → H p = none → Ex H H2 → H2 p = some (.tup [.str z]) → H2 l = some (.lst [.str "raised", .str nm, .ref p]) → Q (.ref l) H2

theorem ok_namedBadValue (T : Txt K mg) {a d : Addr} {oe : Obj} {z : Str} (hc : oe.cls = .ref (He.ga K "BadValue")) (hd : oe.dict = some d) (hf : ∃ vs, oe.data = .fields vs) :
    CalP P w K mg base 1 "_law_named" ["error"] (a, oe) (spNamed a d "name" z "BadValue") := by
  have hx := T.x_BadValue.excC
  refine mkCalP T.g__law_named T.d__law_named sc_law_named (fun _ _ _ _ _ _ us hl => match us, hl with | [_], _ => rfl) (fun vs H Q E h => ?_) fun cdv A outer s H vs Q hr h => ?_
  · obtain ⟨rfl, _⟩ := h; rfl
  obtain ⟨rfl, HH, q⟩ := h
  refine ⟨_, (pss_cons (ps_set (i := 1) sc_law_named.nd rfl (Or.inl rfl) pe_str)
    (pss_cons (ps_set (i := 2) sc_law_named.nd rfl (Or.inl rfl) (pe_lst (pa_cons (pe_callB (isiP (K := K) (fs := [("name", .str z)]) hx (.head _) hc hd hf) (by rfl) T.n_isinstance (by decide +kernel) (pa_cons (pv 0) (pa_cons (pe_glob (v := .ref (He.ga K "BadText")) rfl T.g_BadText rfl) pa_nil))) (pa_cons (pe_callB (isiP (K := K) (fs := [("name", .str z)]) hx (.head _) hc hd hf) (by rfl) T.n_isinstance (by decide +kernel) (pa_cons (pv 0) (pa_cons (pe_glob (v := .ref (He.ga K "BadSort")) rfl T.g_BadSort rfl) pa_nil))) (pa_cons (pe_callB (isiP (K := K) (fs := [("name", .str z)]) hx (.head _) hc hd hf) (by rfl) T.n_isinstance (by decide +kernel) (pa_cons (pv 0) (pa_cons (pe_glob (v := .ref (He.ga K "BadLine")) rfl T.g_BadLine rfl) pa_nil))) (pa_cons (pe_callB (isiP (K := K) (fs := [("name", .str z)]) hx (.head _) hc hd hf) (by rfl) T.n_isinstance (by decide +kernel) (pa_cons (pv 0) (pa_cons (pe_glob (v := .ref (He.ga K "BadModel")) rfl T.g_BadModel rfl) pa_nil))) pa_nil))))))
    (pss_cons (ps_set (i := 2) sc_law_named.nd rfl (Or.inl rfl) (pe_op op_cat (pv 2) (pe_lst (pa_cons (pe_callB (isiP (K := K) (fs := [("name", .str z)]) hx (.head _) hc hd hf) (by rfl) T.n_isinstance (by decide +kernel) (pa_cons (pv 0) (pa_cons (pe_glob (v := .ref (He.ga K "BadPlan")) rfl T.g_BadPlan rfl) pa_nil))) (pa_cons (pe_callB (isiP (K := K) (fs := [("name", .str z)]) hx (.head _) hc hd hf) (by rfl) T.n_isinstance (by decide +kernel) (pa_cons (pv 0) (pa_cons (pe_glob (v := .ref (He.ga K "BadValue")) rfl T.g_BadValue rfl) pa_nil))) (pa_cons (pe_callB (isiP (K := K) (fs := [("name", .str z)]) hx (.head _) hc hd hf) (by rfl) T.n_isinstance (by decide +kernel) (pa_cons (pv 0) (pa_cons (pe_glob (v := .ref (He.ga K "BadEdit")) rfl T.g_BadEdit rfl) pa_nil))) (pa_cons (pe_callB (isiP (K := K) (fs := [("name", .str z)]) hx (.head _) hc hd hf) (by rfl) T.n_isinstance (by decide +kernel) (pa_cons (pv 0) (pa_cons (pe_glob (v := .ref (He.ga K "TooMany")) rfl T.g_TooMany rfl) pa_nil))) pa_nil)))))))
    (pss_cons (ps_set (i := 2) sc_law_named.nd rfl (Or.inl rfl) (pe_op op_cat (pv 2) (pe_lst (pa_cons (pe_callB (isiP (K := K) (fs := [("name", .str z)]) hx (.head _) hc hd hf) (by rfl) T.n_isinstance (by decide +kernel) (pa_cons (pv 0) (pa_cons (pe_glob (v := .ref (He.ga K "TooLong")) rfl T.g_TooLong rfl) pa_nil))) (pa_cons (pe_callB (isiP (K := K) (fs := [("name", .str z)]) hx (.head _) hc hd hf) (by rfl) T.n_isinstance (by decide +kernel) (pa_cons (pv 0) (pa_cons (pe_glob (v := .ref (He.ga K "NothingToUndo")) rfl T.g_NothingToUndo rfl) pa_nil))) (pa_cons (pe_callB (isiP (K := K) (fs := [("name", .str z)]) hx (.head _) hc hd hf) (by rfl) T.n_isinstance (by decide +kernel) (pa_cons (pv 0) (pa_cons (pe_glob (v := .ref (He.ga K "NothingToRedo")) rfl T.g_NothingToRedo rfl) pa_nil))) pa_nil))))))
    (pss_cut (ps_if (PW.pt (pw_or (pt_cmpR op_ne (pe_bm PySem.F.plainAttrs_list PySem.F.slot_list_count PySem.F.type_list_count (cntF (K := K)) (pv 2) (pa_cons pe_bl pa_nil)) pe_int (nomark _)) (pw_or (pt_not (pt_val (pe_callB (isiP (K := K) (fs := [("name", .str z)]) hx (.head _) hc hd hf) (by rfl) T.n_isinstance (by decide +kernel) (pa_cons (pv 0) (pa_cons (pe_glob (v := .ref (He.ga K "HoldError")) rfl T.g_HoldError rfl) pa_nil))))) (pw_or1 (pt_not (pt_val (pe_callB (isiP (K := K) (fs := [("name", .str z)]) hx (.head _) hc hd hf) (by rfl) T.n_isinstance (by decide +kernel) (pa_cons (pv 0) (pa_cons (pe_bltn (v := .ty "ValueError") rfl T.n_ValueError (by decide +kernel) rfl) pa_nil))))))))) (pss_one (ps_ret pe_str)) pss_nil)
    (pss_one (ps_ret (pe_ix (ixL (K := K)) (pe_split (pv 1) pe_str) (pe_bm PySem.F.plainAttrs_list PySem.F.slot_list_index PySem.F.type_list_index (idxL (K := K)) (pv 2) (pa_cons pe_bl pa_nil)) (fun _ _ => rfl))))))))), ?_⟩
  have szl : ∀ m : Nat, m ≤ 200000 → m ≤ sizeLine := fun m h => Nat.le_trans h (by decide)
  refine ⟨_, rfl, .ref (He.ga K "BadText"), .ref (He.ga K "BadText"), false, d, rfl, rfl, HH, fun u h => h, T.q_BadValue (.ref (He.ga K "BadText"), false) (.tail _ (.head _)), _, rfl, .ref (He.ga K "BadSort"), .ref (He.ga K "BadSort"), false, d, rfl, rfl, HH, fun u h => h, T.q_BadValue (.ref (He.ga K "BadSort"), false) (.tail _ (.tail _ (.head _))), _, rfl, .ref (He.ga K "BadLine"), .ref (He.ga K "BadLine"), false, d, rfl, rfl, HH, fun u h => h, T.q_BadValue (.ref (He.ga K "BadLine"), false) (.tail _ (.tail _ (.tail _ (.head _)))), _, rfl, .ref (He.ga K "BadModel"), .ref (He.ga K "BadModel"), false, d, rfl, rfl, HH, fun u h => h, T.q_BadValue (.ref (He.ga K "BadModel"), false) (.tail _ (.tail _ (.tail _ (.tail _ (.head _))))), szl 4 (by omega), fun p1 hp1 => ?_⟩
  have H1 : upd H p1 (.lst [.bl false, .bl false, .bl false, .bl false]) p1 = some (.lst [.bl false, .bl false, .bl false, .bl false]) := upd_same
  have e1 : Ex H (upd H p1 (.lst [.bl false, .bl false, .bl false, .bl false])) := Evl.Ex.new hp1
  have K1 := HH
  replace HH : upd H p1 (.lst [.bl false, .bl false, .bl false, .bl false]) d = some (.xd [("name", .str z)]) := e1 _ _ HH
  generalize upd H p1 (.lst [.bl false, .bl false, .bl false, .bl false]) = Ha at H1 e1 HH ⊢
  refine ⟨_, rfl, _, rfl, .ref (He.ga K "BadPlan"), .ref (He.ga K "BadPlan"), false, d, rfl, rfl, HH, fun u h => h, T.q_BadValue (.ref (He.ga K "BadPlan"), false) (.tail _ (.tail _ (.tail _ (.tail _ (.tail _ (.head _)))))), _, rfl, .ref (He.ga K "BadValue"), .ref (He.ga K "BadValue"), true, d, rfl, rfl, HH, fun u h => h, T.q_BadValue (.ref (He.ga K "BadValue"), true) (.tail _ (.tail _ (.tail _ (.tail _ (.tail _ (.tail _ (.head _))))))), _, rfl, .ref (He.ga K "BadEdit"), .ref (He.ga K "BadEdit"), false, d, rfl, rfl, HH, fun u h => h, T.q_BadValue (.ref (He.ga K "BadEdit"), false) (.tail _ (.tail _ (.tail _ (.tail _ (.tail _ (.tail _ (.tail _ (.head _)))))))), _, rfl, .ref (He.ga K "TooMany"), .ref (He.ga K "TooMany"), false, d, rfl, rfl, HH, fun u h => h, T.q_BadValue (.ref (He.ga K "TooMany"), false) (.tail _ (.tail _ (.tail _ (.tail _ (.tail _ (.tail _ (.tail _ (.tail _ (.head _))))))))), szl 4 (by omega), fun p2 hp2 => ?_⟩
  have H2 : upd Ha p2 (.lst [.bl false, .bl true, .bl false, .bl false]) p2 = some (.lst [.bl false, .bl true, .bl false, .bl false]) := upd_same
  replace H1 : upd Ha p2 (.lst [.bl false, .bl true, .bl false, .bl false]) p1 = some (.lst [.bl false, .bl false, .bl false, .bl false]) := by rw [upd_ne (ne_of_none H1 hp2)]; exact H1
  have e2 : Ex H (upd Ha p2 (.lst [.bl false, .bl true, .bl false, .bl false])) := e1.trans (Evl.Ex.new hp2)
  generalize upd Ha p2 (.lst [.bl false, .bl true, .bl false, .bl false]) = Hb at H1 H2 e2 ⊢
  refine ⟨p1, p2, _, _, rfl, rfl, H1, H2, szl 8 (by omega), fun p3 hp3 => ?_⟩
  have H3 : upd Hb p3 (.lst ([.bl false, .bl false, .bl false, .bl false] ++ [.bl false, .bl true, .bl false, .bl false])) p3 = some (.lst ([.bl false, .bl false, .bl false, .bl false] ++ [.bl false, .bl true, .bl false, .bl false])) := upd_same
  have e3 : Ex H (upd Hb p3 (.lst ([.bl false, .bl false, .bl false, .bl false] ++ [.bl false, .bl true, .bl false, .bl false]))) := e2.trans (Evl.Ex.new hp3)
  generalize upd Hb p3 (.lst ([.bl false, .bl false, .bl false, .bl false] ++ [.bl false, .bl true, .bl false, .bl false])) = Hc at H3 e3 ⊢
  clear HH
  have HH := e3 _ _ K1
  refine ⟨_, rfl, _, rfl, .ref (He.ga K "TooLong"), .ref (He.ga K "TooLong"), false, d, rfl, rfl, HH, fun u h => h, T.q_BadValue (.ref (He.ga K "TooLong"), false) (.tail _ (.tail _ (.tail _ (.tail _ (.tail _ (.tail _ (.tail _ (.tail _ (.tail _ (.head _)))))))))), _, rfl, .ref (He.ga K "NothingToUndo"), .ref (He.ga K "NothingToUndo"), false, d, rfl, rfl, HH, fun u h => h, T.q_BadValue (.ref (He.ga K "NothingToUndo"), false) (.tail _ (.tail _ (.tail _ (.tail _ (.tail _ (.tail _ (.tail _ (.tail _ (.tail _ (.tail _ (.head _))))))))))), _, rfl, .ref (He.ga K "NothingToRedo"), .ref (He.ga K "NothingToRedo"), false, d, rfl, rfl, HH, fun u h => h, T.q_BadValue (.ref (He.ga K "NothingToRedo"), false) (.tail _ (.tail _ (.tail _ (.tail _ (.tail _ (.tail _ (.tail _ (.tail _ (.tail _ (.tail _ (.tail _ (.head _)))))))))))), szl 3 (by omega), fun p4 hp4 => ?_⟩
  have H4 : upd Hc p4 (.lst [.bl false, .bl false, .bl false]) p4 = some (.lst [.bl false, .bl false, .bl false]) := upd_same
  replace H3 : upd Hc p4 (.lst [.bl false, .bl false, .bl false]) p3 = some (.lst ([.bl false, .bl false, .bl false, .bl false] ++ [.bl false, .bl true, .bl false, .bl false])) := by rw [upd_ne (ne_of_none H3 hp4)]; exact H3
  have e4 : Ex H (upd Hc p4 (.lst [.bl false, .bl false, .bl false])) := e3.trans (Evl.Ex.new hp4)
  generalize upd Hc p4 (.lst [.bl false, .bl false, .bl false]) = Hd at H3 H4 e4 ⊢
  refine ⟨p3, p4, _, _, rfl, rfl, H3, H4, szl 11 (by omega), fun p5 hp5 => ?_⟩
  have H5 : upd Hd p5 (.lst (([.bl false, .bl false, .bl false, .bl false] ++ [.bl false, .bl true, .bl false, .bl false]) ++ [.bl false, .bl false, .bl false])) p5 = some (.lst [.bl false, .bl false, .bl false, .bl false, .bl false, .bl true, .bl false, .bl false, .bl false, .bl false, .bl false]) := upd_same
  have e5 : Ex H (upd Hd p5 (.lst (([.bl false, .bl false, .bl false, .bl false] ++ [.bl false, .bl true, .bl false, .bl false]) ++ [.bl false, .bl false, .bl false]))) := e4.trans (Evl.Ex.new hp5)
  generalize upd Hd p5 (.lst (([.bl false, .bl false, .bl false, .bl false] ++ [.bl false, .bl true, .bl false, .bl false]) ++ [.bl false, .bl false, .bl false])) = Hq at H5 e5 ⊢
  clear HH
  have HH := e5 _ _ K1
  refine ⟨fun σ' H' => σ' = [some (.ref a), some (.str "BadText BadSort BadLine BadModel BadPlan BadValue BadEdit TooMany TooLong NothingToUndo NothingToRedo"), some (.ref p5)] ∧ Hq = H', ?_, ?_⟩
  · refine ⟨_, rfl, .inl ⟨rfl, _, SqL.of H5⟩, p5, _, .bl true, rfl, rfl, SqL.of H5, rfl, rfl, rfl, false, rfl, ?_⟩
    exact ⟨_, rfl, .ref (He.ga K "HoldError"), .ref (He.ga K "HoldError"), true, d, rfl, rfl, HH, fun u h => h, T.q_BadValue (.ref (He.ga K "HoldError"), true) (.head _), _, rfl, _, rfl, .ty "ValueError", .type "ValueError", true, d, rfl, rfl, HH, fun u h => h, T.q_BadValue (.type "ValueError", true) (.tail _ (.tail _ (.tail _ (.tail _ (.tail _ (.tail _ (.tail _ (.tail _ (.tail _ (.tail _ (.tail _ (.tail _ (.head _))))))))))))), _, rfl, rfl, rfl⟩
  · rintro σ' H' ⟨rfl, rfl⟩
    have hsp : (Txt.split (Str.ofString "BadText BadSort BadLine BadModel BadPlan BadValue BadEdit TooMany TooLong NothingToUndo NothingToRedo") (Str.ofString " "))[5]? = some (Str.ofString "BadValue") := by decide +kernel
    refine ⟨_, rfl, ⟨_, rfl⟩, _, _, rfl, rfl, by decide +kernel, Nat.le_trans (show _ ≤ 1000 by decide +kernel) (szl 1000 (by omega)), fun p6 hp6 => ?_⟩
    have H6 : upd Hq p6 (.lst ((Txt.split (Str.ofString "BadText BadSort BadLine BadModel BadPlan BadValue BadEdit TooMany TooLong NothingToUndo NothingToRedo") (Str.ofString " ")).map V.str)) p6 = some (.lst ((Txt.split (Str.ofString "BadText BadSort BadLine BadModel BadPlan BadValue BadEdit TooMany TooLong NothingToUndo NothingToRedo") (Str.ofString " ")).map V.str)) := upd_same
    replace H5 : upd Hq p6 (.lst ((Txt.split (Str.ofString "BadText BadSort BadLine BadModel BadPlan BadValue BadEdit TooMany TooLong NothingToUndo NothingToRedo") (Str.ofString " ")).map V.str)) p5 = some (.lst [.bl false, .bl false, .bl false, .bl false, .bl false, .bl true, .bl false, .bl false, .bl false, .bl false, .bl false]) := by rw [upd_ne (ne_of_none H5 hp6)]; exact H5
    have e6 : Ex H (upd Hq p6 (.lst ((Txt.split (Str.ofString "BadText BadSort BadLine BadModel BadPlan BadValue BadEdit TooMany TooLong NothingToUndo NothingToRedo") (Str.ofString " ")).map V.str))) := e5.trans (Evl.Ex.new hp6)
    generalize upd Hq p6 (.lst ((Txt.split (Str.ofString "BadText BadSort BadLine BadModel BadPlan BadValue BadEdit TooMany TooLong NothingToUndo NothingToRedo") (Str.ofString " ")).map V.str)) = Hf at H5 H6 e6 ⊢
    have hget : ((Txt.split (Str.ofString "BadText BadSort BadLine BadModel BadPlan BadValue BadEdit TooMany TooLong NothingToUndo NothingToRedo") (Str.ofString " ")).map V.str)[5]? = some (.str "BadValue") := by rw [List.getElem?_map, hsp]; rfl
    refine ⟨_, rfl, .inl ⟨rfl, _, SqL.of H5⟩, p5, _, .bl true, 5, .bl true, rfl, rfl, SqL.of H5, rfl, rfl, rfl, rfl, fun m z' hm hz' => ?_, p6, _, _, _, rfl, rfl, SqL.of H6, at_nat hget, q Hf e6⟩
    rcases m with _ | _ | _ | _ | _ | m
    · cases hz'; rfl
    · cases hz'; rfl
    · cases hz'; rfl
    · cases hz'; rfl
    · cases hz'; rfl
    · exact absurd hm (by omega)

theorem ok_attrBadValue (T : Txt K mg) {a d : Addr} {oe : Obj} {z : Str} (hc : oe.cls = .ref (He.ga K "BadValue")) (hd : oe.dict = some d) (hf : ∃ vs, oe.data = .fields vs) :
    CalP P w K mg base 1 "_law_attributes" ["e", "name"] (a, oe) (spAttr a d "name" z "BadValue") := by
  have hx := T.x_BadValue.excC
  refine mkCalP T.g__law_attributes T.d__law_attributes sc_law_attributes (fun _ _ _ _ _ _ us hl => match us, hl with | [_, _], _ => rfl) (fun vs H Q E h => ?_) fun cdv A outer s H vs Q hr h => ?_
  · obtain ⟨rfl, _⟩ := h; rfl
  obtain ⟨rfl, HH, q⟩ := h
  have szl : ∀ m : Nat, m ≤ 200000 → m ≤ sizeLine := fun m h => Nat.le_trans h (by decide)
  refine ⟨_, (pss_cons (ps_if (pt_cmpR (inL (K := K)) (pv 1) (pe_tup (pa_cons pe_str (pa_cons pe_str pa_nil))) (by rfl)) pss_no pss_nil)
    (pss_cons (ps_if (pt_cmpR op_eq (pv 1) pe_str (nomark _)) pss_no pss_nil)
    (pss_cons (ps_if (pt_cmpR (inL (K := K)) (pv 1) (pe_tup (pa_cons pe_str (pa_cons pe_str pa_nil))) (by rfl)) (pss_one (ps_ret (pe_tup (pa_cons (pe_atP hx (.head _) hc hd hf T.x_BadValue.noF.1 (pv 0)) pa_nil)))) pss_nil)
    pss_no))), ?_⟩
  refine ⟨_, rfl, szl 2 (by omega), fun p1 hp1 => ⟨p1, _, rfl, .inr (SqT.of upd_same), rfl, rfl, false, congrArg V.bl (by decide +kernel), ?_⟩⟩
  have e1 := (Evl.Ex.refl H).trans (Evl.Ex.new hp1 (o := .tup [.str "BadText", .str "BadSort"]))
  generalize upd H p1 (.tup [.str "BadText", .str "BadSort"]) = H1 at e1 ⊢
  refine ⟨_, rfl, rfl, false, congrArg V.bl (by decide +kernel), ?_⟩
  refine ⟨_, rfl, szl 2 (by omega), fun p2 hp2 => ⟨p2, _, rfl, .inr (SqT.of upd_same), rfl, rfl, true, congrArg V.bl (by decide +kernel), ?_⟩⟩
  have e2 := e1.trans (Evl.Ex.new hp2 (o := .tup [.str "BadModel", .str "BadValue"]))
  generalize upd H1 p2 (.tup [.str "BadModel", .str "BadValue"]) = H2 at e2 ⊢
  exact ⟨_, rfl, rfl, d, _, _, rfl, e2 _ _ HH, rfl, szl 1 (by omega), fun p hp => q p _ (Evl.fresh_back e2 hp) (e2.trans (Evl.Ex.new hp)) upd_same⟩

theorem ok_errorBadValue (T : Txt K mg) {a d : Addr} {oe : Obj} {z : Str} (hc : oe.cls = .ref (He.ga K "BadValue")) (hd : oe.dict = some d) (hf : ∃ vs, oe.data = .fields vs) :
    CalP P w K mg base 2 "_law_error" ["error"] (a, oe) (spErr a d "name" z "BadValue") := by
  have C1 := ok_namedBadValue (P := P) (w := w) (base := base) (z := z) T (a := a) hc hd hf
  have C2 := ok_attrBadValue (P := P) (w := w) (base := base) (z := z) T (a := a) hc hd hf
  refine mkCalP T.g__law_error T.d__law_error sc_law_error (fun _ _ _ _ _ _ us hl => match us, hl with | [_], _ => rfl) (fun vs H Q E h => ?_) fun cdv A outer s H vs Q hr h => ?_
  · obtain ⟨rfl, _⟩ := h; rfl
  obtain ⟨rfl, HH, q⟩ := h
  refine ⟨_, (pss_cons (ps_set (i := 1) sc_law_error.nd rfl (Or.inl rfl) (pe_calP C1 (.head _) (hr.mono (by decide)) (pa_cons (pv 0) pa_nil)))
    (pss_one (ps_ret (pe_lst (pa_cons pe_str (pa_cons (pv 1) (pa_cons (pe_calP C2 (.head _) (hr.mono (by decide)) (pa_cons (pv 0) (pa_cons (pv 1) pa_nil))) pa_nil))))))), ?_⟩
  refine ⟨_, rfl, rfl, HH, fun H2 e2 => ?_⟩
  refine ⟨_, rfl, _, rfl, _, rfl, rfl, e2 _ _ HH, fun p H3 hp e3 hp3 => ⟨Nat.le_trans (show 3 ≤ 1000 by decide) (by decide), fun l hl => ?_⟩⟩
  have e23 := e2.trans e3
  refine q l p _ (Evl.fresh_back e23 hl) (Evl.fresh_back e2 hp) (e23.trans (Evl.Ex.new hl)) ?_ upd_same
  rw [upd_ne (ne_of_none hp3 hl)]; exact hp3

theorem ok_namedTooMany (T : Txt K mg) {a d : Addr} {oe : Obj} {z : Str} (hc : oe.cls = .ref (He.ga K "TooMany")) (hd : oe.dict = some d) (hf : ∃ vs, oe.data = .fields vs) :
    CalP P w K mg base 1 "_law_named" ["error"] (a, oe) (spNamed a d "word" z "TooMany") := by
  have hx := T.x_TooMany.excC
  refine mkCalP T.g__law_named T.d__law_named sc_law_named (fun _ _ _ _ _ _ us hl => match us, hl with | [_], _ => rfl) (fun vs H Q E h => ?_) fun cdv A outer s H vs Q hr h => ?_
  · obtain ⟨rfl, _⟩ := h; rfl
  obtain ⟨rfl, HH, q⟩ := h
  refine ⟨_, (pss_cons (ps_set (i := 1) sc_law_named.nd rfl (Or.inl rfl) pe_str)
    (pss_cons (ps_set (i := 2) sc_law_named.nd rfl (Or.inl rfl) (pe_lst (pa_cons (pe_callB (isiP (K := K) (fs := [("word", .str z)]) hx (.head _) hc hd hf) (by rfl) T.n_isinstance (by decide +kernel) (pa_cons (pv 0) (pa_cons (pe_glob (v := .ref (He.ga K "BadText")) rfl T.g_BadText rfl) pa_nil))) (pa_cons (pe_callB (isiP (K := K) (fs := [("word", .str z)]) hx (.head _) hc hd hf) (by rfl) T.n_isinstance (by decide +kernel) (pa_cons (pv 0) (pa_cons (pe_glob (v := .ref (He.ga K "BadSort")) rfl T.g_BadSort rfl) pa_nil))) (pa_cons (pe_callB (isiP (K := K) (fs := [("word", .str z)]) hx (.head _) hc hd hf) (by rfl) T.n_isinstance (by decide +kernel) (pa_cons (pv 0) (pa_cons (pe_glob (v := .ref (He.ga K "BadLine")) rfl T.g_BadLine rfl) pa_nil))) (pa_cons (pe_callB (isiP (K := K) (fs := [("word", .str z)]) hx (.head _) hc hd hf) (by rfl) T.n_isinstance (by decide +kernel) (pa_cons (pv 0) (pa_cons (pe_glob (v := .ref (He.ga K "BadModel")) rfl T.g_BadModel rfl) pa_nil))) pa_nil))))))
    (pss_cons (ps_set (i := 2) sc_law_named.nd rfl (Or.inl rfl) (pe_op op_cat (pv 2) (pe_lst (pa_cons (pe_callB (isiP (K := K) (fs := [("word", .str z)]) hx (.head _) hc hd hf) (by rfl) T.n_isinstance (by decide +kernel) (pa_cons (pv 0) (pa_cons (pe_glob (v := .ref (He.ga K "BadPlan")) rfl T.g_BadPlan rfl) pa_nil))) (pa_cons (pe_callB (isiP (K := K) (fs := [("word", .str z)]) hx (.head _) hc hd hf) (by rfl) T.n_isinstance (by decide +kernel) (pa_cons (pv 0) (pa_cons (pe_glob (v := .ref (He.ga K "BadValue")) rfl T.g_BadValue rfl) pa_nil))) (pa_cons (pe_callB (isiP (K := K) (fs := [("word", .str z)]) hx (.head _) hc hd hf) (by rfl) T.n_isinstance (by decide +kernel) (pa_cons (pv 0) (pa_cons (pe_glob (v := .ref (He.ga K "BadEdit")) rfl T.g_BadEdit rfl) pa_nil))) (pa_cons (pe_callB (isiP (K := K) (fs := [("word", .str z)]) hx (.head _) hc hd hf) (by rfl) T.n_isinstance (by decide +kernel) (pa_cons (pv 0) (pa_cons (pe_glob (v := .ref (He.ga K "TooMany")) rfl T.g_TooMany rfl) pa_nil))) pa_nil)))))))
    (pss_cons (ps_set (i := 2) sc_law_named.nd rfl (Or.inl rfl) (pe_op op_cat (pv 2) (pe_lst (pa_cons (pe_callB (isiP (K := K) (fs := [("word", .str z)]) hx (.head _) hc hd hf) (by rfl) T.n_isinstance (by decide +kernel) (pa_cons (pv 0) (pa_cons (pe_glob (v := .ref (He.ga K "TooLong")) rfl T.g_TooLong rfl) pa_nil))) (pa_cons (pe_callB (isiP (K := K) (fs := [("word", .str z)]) hx (.head _) hc hd hf) (by rfl) T.n_isinstance (by decide +kernel) (pa_cons (pv 0) (pa_cons (pe_glob (v := .ref (He.ga K "NothingToUndo")) rfl T.g_NothingToUndo rfl) pa_nil))) (pa_cons (pe_callB (isiP (K := K) (fs := [("word", .str z)]) hx (.head _) hc hd hf) (by rfl) T.n_isinstance (by decide +kernel) (pa_cons (pv 0) (pa_cons (pe_glob (v := .ref (He.ga K "NothingToRedo")) rfl T.g_NothingToRedo rfl) pa_nil))) pa_nil))))))
    (pss_cut (ps_if (PW.pt (pw_or (pt_cmpR op_ne (pe_bm PySem.F.plainAttrs_list PySem.F.slot_list_count PySem.F.type_list_count (cntF (K := K)) (pv 2) (pa_cons pe_bl pa_nil)) pe_int (nomark _)) (pw_or (pt_not (pt_val (pe_callB (isiP (K := K) (fs := [("word", .str z)]) hx (.head _) hc hd hf) (by rfl) T.n_isinstance (by decide +kernel) (pa_cons (pv 0) (pa_cons (pe_glob (v := .ref (He.ga K "HoldError")) rfl T.g_HoldError rfl) pa_nil))))) (pw_or1 (pt_not (pt_val (pe_callB (isiP (K := K) (fs := [("word", .str z)]) hx (.head _) hc hd hf) (by rfl) T.n_isinstance (by decide +kernel) (pa_cons (pv 0) (pa_cons (pe_bltn (v := .ty "ValueError") rfl T.n_ValueError (by decide +kernel) rfl) pa_nil))))))))) (pss_one (ps_ret pe_str)) pss_nil)
    (pss_one (ps_ret (pe_ix (ixL (K := K)) (pe_split (pv 1) pe_str) (pe_bm PySem.F.plainAttrs_list PySem.F.slot_list_index PySem.F.type_list_index (idxL (K := K)) (pv 2) (pa_cons pe_bl pa_nil)) (fun _ _ => rfl))))))))), ?_⟩
  have szl : ∀ m : Nat, m ≤ 200000 → m ≤ sizeLine := fun m h => Nat.le_trans h (by decide)
  refine ⟨_, rfl, .ref (He.ga K "BadText"), .ref (He.ga K "BadText"), false, d, rfl, rfl, HH, fun u h => h, T.q_TooMany (.ref (He.ga K "BadText"), false) (.tail _ (.head _)), _, rfl, .ref (He.ga K "BadSort"), .ref (He.ga K "BadSort"), false, d, rfl, rfl, HH, fun u h => h, T.q_TooMany (.ref (He.ga K "BadSort"), false) (.tail _ (.tail _ (.head _))), _, rfl, .ref (He.ga K "BadLine"), .ref (He.ga K "BadLine"), false, d, rfl, rfl, HH, fun u h => h, T.q_TooMany (.ref (He.ga K "BadLine"), false) (.tail _ (.tail _ (.tail _ (.head _)))), _, rfl, .ref (He.ga K "BadModel"), .ref (He.ga K "BadModel"), false, d, rfl, rfl, HH, fun u h => h, T.q_TooMany (.ref (He.ga K "BadModel"), false) (.tail _ (.tail _ (.tail _ (.tail _ (.head _))))), szl 4 (by omega), fun p1 hp1 => ?_⟩
  have H1 : upd H p1 (.lst [.bl false, .bl false, .bl false, .bl false]) p1 = some (.lst [.bl false, .bl false, .bl false, .bl false]) := upd_same
  have e1 : Ex H (upd H p1 (.lst [.bl false, .bl false, .bl false, .bl false])) := Evl.Ex.new hp1
  have K1 := HH
  replace HH : upd H p1 (.lst [.bl false, .bl false, .bl false, .bl false]) d = some (.xd [("word", .str z)]) := e1 _ _ HH
  generalize upd H p1 (.lst [.bl false, .bl false, .bl false, .bl false]) = Ha at H1 e1 HH ⊢
  refine ⟨_, rfl, _, rfl, .ref (He.ga K "BadPlan"), .ref (He.ga K "BadPlan"), false, d, rfl, rfl, HH, fun u h => h, T.q_TooMany (.ref (He.ga K "BadPlan"), false) (.tail _ (.tail _ (.tail _ (.tail _ (.tail _ (.head _)))))), _, rfl, .ref (He.ga K "BadValue"), .ref (He.ga K "BadValue"), false, d, rfl, rfl, HH, fun u h => h, T.q_TooMany (.ref (He.ga K "BadValue"), false) (.tail _ (.tail _ (.tail _ (.tail _ (.tail _ (.tail _ (.head _))))))), _, rfl, .ref (He.ga K "BadEdit"), .ref (He.ga K "BadEdit"), false, d, rfl, rfl, HH, fun u h => h, T.q_TooMany (.ref (He.ga K "BadEdit"), false) (.tail _ (.tail _ (.tail _ (.tail _ (.tail _ (.tail _ (.tail _ (.head _)))))))), _, rfl, .ref (He.ga K "TooMany"), .ref (He.ga K "TooMany"), true, d, rfl, rfl, HH, fun u h => h, T.q_TooMany (.ref (He.ga K "TooMany"), true) (.tail _ (.tail _ (.tail _ (.tail _ (.tail _ (.tail _ (.tail _ (.tail _ (.head _))))))))), szl 4 (by omega), fun p2 hp2 => ?_⟩
  have H2 : upd Ha p2 (.lst [.bl false, .bl false, .bl false, .bl true]) p2 = some (.lst [.bl false, .bl false, .bl false, .bl true]) := upd_same
  replace H1 : upd Ha p2 (.lst [.bl false, .bl false, .bl false, .bl true]) p1 = some (.lst [.bl false, .bl false, .bl false, .bl false]) := by rw [upd_ne (ne_of_none H1 hp2)]; exact H1
  have e2 : Ex H (upd Ha p2 (.lst [.bl false, .bl false, .bl false, .bl true])) := e1.trans (Evl.Ex.new hp2)
  generalize upd Ha p2 (.lst [.bl false, .bl false, .bl false, .bl true]) = Hb at H1 H2 e2 ⊢
  refine ⟨p1, p2, _, _, rfl, rfl, H1, H2, szl 8 (by omega), fun p3 hp3 => ?_⟩
  have H3 : upd Hb p3 (.lst ([.bl false, .bl false, .bl false, .bl false] ++ [.bl false, .bl false, .bl false, .bl true])) p3 = some (.lst ([.bl false, .bl false, .bl false, .bl false] ++ [.bl false, .bl false, .bl false, .bl true])) := upd_same
  have e3 : Ex H (upd Hb p3 (.lst ([.bl false, .bl false, .bl false, .bl false] ++ [.bl false, .bl false, .bl false, .bl true]))) := e2.trans (Evl.Ex.new hp3)
  generalize upd Hb p3 (.lst ([.bl false, .bl false, .bl false, .bl false] ++ [.bl false, .bl false, .bl false, .bl true])) = Hc at H3 e3 ⊢
  clear HH
  have HH := e3 _ _ K1
  refine ⟨_, rfl, _, rfl, .ref (He.ga K "TooLong"), .ref (He.ga K "TooLong"), false, d, rfl, rfl, HH, fun u h => h, T.q_TooMany (.ref (He.ga K "TooLong"), false) (.tail _ (.tail _ (.tail _ (.tail _ (.tail _ (.tail _ (.tail _ (.tail _ (.tail _ (.head _)))))))))), _, rfl, .ref (He.ga K "NothingToUndo"), .ref (He.ga K "NothingToUndo"), false, d, rfl, rfl, HH, fun u h => h, T.q_TooMany (.ref (He.ga K "NothingToUndo"), false) (.tail _ (.tail _ (.tail _ (.tail _ (.tail _ (.tail _ (.tail _ (.tail _ (.tail _ (.tail _ (.head _))))))))))), _, rfl, .ref (He.ga K "NothingToRedo"), .ref (He.ga K "NothingToRedo"), false, d, rfl, rfl, HH, fun u h => h, T.q_TooMany (.ref (He.ga K "NothingToRedo"), false) (.tail _ (.tail _ (.tail _ (.tail _ (.tail _ (.tail _ (.tail _ (.tail _ (.tail _ (.tail _ (.tail _ (.head _)))))))))))), szl 3 (by omega), fun p4 hp4 => ?_⟩
  have H4 : upd Hc p4 (.lst [.bl false, .bl false, .bl false]) p4 = some (.lst [.bl false, .bl false, .bl false]) := upd_same
  replace H3 : upd Hc p4 (.lst [.bl false, .bl false, .bl false]) p3 = some (.lst ([.bl false, .bl false, .bl false, .bl false] ++ [.bl false, .bl false, .bl false, .bl true])) := by rw [upd_ne (ne_of_none H3 hp4)]; exact H3
  have e4 : Ex H (upd Hc p4 (.lst [.bl false, .bl false, .bl false])) := e3.trans (Evl.Ex.new hp4)
  generalize upd Hc p4 (.lst [.bl false, .bl false, .bl false]) = Hd at H3 H4 e4 ⊢
  refine ⟨p3, p4, _, _, rfl, rfl, H3, H4, szl 11 (by omega), fun p5 hp5 => ?_⟩
  have H5 : upd Hd p5 (.lst (([.bl false, .bl false, .bl false, .bl false] ++ [.bl false, .bl false, .bl false, .bl true]) ++ [.bl false, .bl false, .bl false])) p5 = some (.lst [.bl false, .bl false, .bl false, .bl false, .bl false, .bl false, .bl false, .bl true, .bl false, .bl false, .bl false]) := upd_same
  have e5 : Ex H (upd Hd p5 (.lst (([.bl false, .bl false, .bl false, .bl false] ++ [.bl false, .bl false, .bl false, .bl true]) ++ [.bl false, .bl false, .bl false]))) := e4.trans (Evl.Ex.new hp5)
  generalize upd Hd p5 (.lst (([.bl false, .bl false, .bl false, .bl false] ++ [.bl false, .bl false, .bl false, .bl true]) ++ [.bl false, .bl false, .bl false])) = Hq at H5 e5 ⊢
  clear HH
  have HH := e5 _ _ K1
  refine ⟨fun σ' H' => σ' = [some (.ref a), some (.str "BadText BadSort BadLine BadModel BadPlan BadValue BadEdit TooMany TooLong NothingToUndo NothingToRedo"), some (.ref p5)] ∧ Hq = H', ?_, ?_⟩
  · refine ⟨_, rfl, .inl ⟨rfl, _, SqL.of H5⟩, p5, _, .bl true, rfl, rfl, SqL.of H5, rfl, rfl, rfl, false, rfl, ?_⟩
    exact ⟨_, rfl, .ref (He.ga K "HoldError"), .ref (He.ga K "HoldError"), true, d, rfl, rfl, HH, fun u h => h, T.q_TooMany (.ref (He.ga K "HoldError"), true) (.head _), _, rfl, _, rfl, .ty "ValueError", .type "ValueError", true, d, rfl, rfl, HH, fun u h => h, T.q_TooMany (.type "ValueError", true) (.tail _ (.tail _ (.tail _ (.tail _ (.tail _ (.tail _ (.tail _ (.tail _ (.tail _ (.tail _ (.tail _ (.tail _ (.head _))))))))))))), _, rfl, rfl, rfl⟩
  · rintro σ' H' ⟨rfl, rfl⟩
    have hsp : (Txt.split (Str.ofString "BadText BadSort BadLine BadModel BadPlan BadValue BadEdit TooMany TooLong NothingToUndo NothingToRedo") (Str.ofString " "))[7]? = some (Str.ofString "TooMany") := by decide +kernel
    refine ⟨_, rfl, ⟨_, rfl⟩, _, _, rfl, rfl, by decide +kernel, Nat.le_trans (show _ ≤ 1000 by decide +kernel) (szl 1000 (by omega)), fun p6 hp6 => ?_⟩
    have H6 : upd Hq p6 (.lst ((Txt.split (Str.ofString "BadText BadSort BadLine BadModel BadPlan BadValue BadEdit TooMany TooLong NothingToUndo NothingToRedo") (Str.ofString " ")).map V.str)) p6 = some (.lst ((Txt.split (Str.ofString "BadText BadSort BadLine BadModel BadPlan BadValue BadEdit TooMany TooLong NothingToUndo NothingToRedo") (Str.ofString " ")).map V.str)) := upd_same
    replace H5 : upd Hq p6 (.lst ((Txt.split (Str.ofString "BadText BadSort BadLine BadModel BadPlan BadValue BadEdit TooMany TooLong NothingToUndo NothingToRedo") (Str.ofString " ")).map V.str)) p5 = some (.lst [.bl false, .bl false, .bl false, .bl false, .bl false, .bl false, .bl false, .bl true, .bl false, .bl false, .bl false]) := by rw [upd_ne (ne_of_none H5 hp6)]; exact H5
    have e6 : Ex H (upd Hq p6 (.lst ((Txt.split (Str.ofString "BadText BadSort BadLine BadModel BadPlan BadValue BadEdit TooMany TooLong NothingToUndo NothingToRedo") (Str.ofString " ")).map V.str))) := e5.trans (Evl.Ex.new hp6)
    generalize upd Hq p6 (.lst ((Txt.split (Str.ofString "BadText BadSort BadLine BadModel BadPlan BadValue BadEdit TooMany TooLong NothingToUndo NothingToRedo") (Str.ofString " ")).map V.str)) = Hf at H5 H6 e6 ⊢
    have hget : ((Txt.split (Str.ofString "BadText BadSort BadLine BadModel BadPlan BadValue BadEdit TooMany TooLong NothingToUndo NothingToRedo") (Str.ofString " ")).map V.str)[7]? = some (.str "TooMany") := by rw [List.getElem?_map, hsp]; rfl
    refine ⟨_, rfl, .inl ⟨rfl, _, SqL.of H5⟩, p5, _, .bl true, 7, .bl true, rfl, rfl, SqL.of H5, rfl, rfl, rfl, rfl, fun m z' hm hz' => ?_, p6, _, _, _, rfl, rfl, SqL.of H6, at_nat hget, q Hf e6⟩
    rcases m with _ | _ | _ | _ | _ | _ | _ | m
    · cases hz'; rfl
    · cases hz'; rfl
    · cases hz'; rfl
    · cases hz'; rfl
    · cases hz'; rfl
    · cases hz'; rfl
    · cases hz'; rfl
    · exact absurd hm (by omega)

theorem ok_attrTooMany (T : Txt K mg) {a d : Addr} {oe : Obj} {z : Str} (hc : oe.cls = .ref (He.ga K "TooMany")) (hd : oe.dict = some d) (hf : ∃ vs, oe.data = .fields vs) :
    CalP P w K mg base 1 "_law_attributes" ["e", "name"] (a, oe) (spAttr a d "word" z "TooMany") := by
  have hx := T.x_TooMany.excC
  refine mkCalP T.g__law_attributes T.d__law_attributes sc_law_attributes (fun _ _ _ _ _ _ us hl => match us, hl with | [_, _], _ => rfl) (fun vs H Q E h => ?_) fun cdv A outer s H vs Q hr h => ?_
  · obtain ⟨rfl, _⟩ := h; rfl
  obtain ⟨rfl, HH, q⟩ := h
  have szl : ∀ m : Nat, m ≤ 200000 → m ≤ sizeLine := fun m h => Nat.le_trans h (by decide)
  refine ⟨_, (pss_cons (ps_if (pt_cmpR (inL (K := K)) (pv 1) (pe_tup (pa_cons pe_str (pa_cons pe_str pa_nil))) (by rfl)) pss_no pss_nil)
    (pss_cons (ps_if (pt_cmpR op_eq (pv 1) pe_str (nomark _)) pss_no pss_nil)
    (pss_cons (ps_if (pt_cmpR (inL (K := K)) (pv 1) (pe_tup (pa_cons pe_str (pa_cons pe_str pa_nil))) (by rfl)) pss_no pss_nil)
    (pss_cons (ps_if (pt_cmpR op_eq (pv 1) pe_str (nomark _)) pss_no pss_nil)
    (pss_cons (ps_if (pt_cmpR (inL (K := K)) (pv 1) (pe_tup (pa_cons pe_str (pa_cons pe_str pa_nil))) (by rfl)) (pss_one (ps_ret (pe_tup (pa_cons (pe_atP hx (.head _) hc hd hf T.x_TooMany.noF.2 (pv 0)) pa_nil)))) pss_nil)
    pss_no))))), ?_⟩
  refine ⟨_, rfl, szl 2 (by omega), fun p1 hp1 => ⟨p1, _, rfl, .inr (SqT.of upd_same), rfl, rfl, false, congrArg V.bl (by decide +kernel), ?_⟩⟩
  have e1 := (Evl.Ex.refl H).trans (Evl.Ex.new hp1 (o := .tup [.str "BadText", .str "BadSort"]))
  generalize upd H p1 (.tup [.str "BadText", .str "BadSort"]) = H1 at e1 ⊢
  refine ⟨_, rfl, rfl, false, congrArg V.bl (by decide +kernel), ?_⟩
  refine ⟨_, rfl, szl 2 (by omega), fun p2 hp2 => ⟨p2, _, rfl, .inr (SqT.of upd_same), rfl, rfl, false, congrArg V.bl (by decide +kernel), ?_⟩⟩
  have e2 := e1.trans (Evl.Ex.new hp2 (o := .tup [.str "BadModel", .str "BadValue"]))
  generalize upd H1 p2 (.tup [.str "BadModel", .str "BadValue"]) = H2 at e2 ⊢
  refine ⟨_, rfl, rfl, false, congrArg V.bl (by decide +kernel), ?_⟩
  refine ⟨_, rfl, szl 2 (by omega), fun p3 hp3 => ⟨p3, _, rfl, .inr (SqT.of upd_same), rfl, rfl, true, congrArg V.bl (by decide +kernel), ?_⟩⟩
  have e3 := e2.trans (Evl.Ex.new hp3 (o := .tup [.str "BadEdit", .str "TooMany"]))
  generalize upd H2 p3 (.tup [.str "BadEdit", .str "TooMany"]) = H3 at e3 ⊢
  exact ⟨_, rfl, rfl, d, _, _, rfl, e3 _ _ HH, rfl, szl 1 (by omega), fun p hp => q p _ (Evl.fresh_back e3 hp) (e3.trans (Evl.Ex.new hp)) upd_same⟩

theorem ok_errorTooMany (T : Txt K mg) {a d : Addr} {oe : Obj} {z : Str} (hc : oe.cls = .ref (He.ga K "TooMany")) (hd : oe.dict = some d) (hf : ∃ vs, oe.data = .fields vs) :
    CalP P w K mg base 2 "_law_error" ["error"] (a, oe) (spErr a d "word" z "TooMany") := by
  have C1 := ok_namedTooMany (P := P) (w := w) (base := base) (z := z) T (a := a) hc hd hf
  have C2 := ok_attrTooMany (P := P) (w := w) (base := base) (z := z) T (a := a) hc hd hf
  refine mkCalP T.g__law_error T.d__law_error sc_law_error (fun _ _ _ _ _ _ us hl => match us, hl with | [_], _ => rfl) (fun vs H Q E h => ?_) fun cdv A outer s H vs Q hr h => ?_
  · obtain ⟨rfl, _⟩ := h; rfl
  obtain ⟨rfl, HH, q⟩ := h
  refine ⟨_, (pss_cons (ps_set (i := 1) sc_law_error.nd rfl (Or.inl rfl) (pe_calP C1 (.head _) (hr.mono (by decide)) (pa_cons (pv 0) pa_nil)))
    (pss_one (ps_ret (pe_lst (pa_cons pe_str (pa_cons (pv 1) (pa_cons (pe_calP C2 (.head _) (hr.mono (by decide)) (pa_cons (pv 0) (pa_cons (pv 1) pa_nil))) pa_nil))))))), ?_⟩
  refine ⟨_, rfl, rfl, HH, fun H2 e2 => ?_⟩
  refine ⟨_, rfl, _, rfl, _, rfl, rfl, e2 _ _ HH, fun p H3 hp e3 hp3 => ⟨Nat.le_trans (show 3 ≤ 1000 by decide) (by decide), fun l hl => ?_⟩⟩
  have e23 := e2.trans e3
  refine q l p _ (Evl.fresh_back e23 hl) (Evl.fresh_back e2 hp) (e23.trans (Evl.Ex.new hl)) ?_ upd_same
  rw [upd_ne (ne_of_none hp3 hl)]; exact hp3

end
end K44
/-! seats or a crowd: the plain law -/
namespace M44
open PySem
abbrev lo (ws : List Wn) (k : Nat) : Int := (ws.getD k (0, 0)).1
abbrev hi (ws : List Wn) (k : Nat) : Int := (ws.getD k (0, 0)).2
def inN (ws : List Wn) (a h : Int) : List Nat := (List.range ws.length).filter fun i => decide (a ≤ lo ws i ∧ hi ws i ≤ h)
theorem inside_len (ws : List Wn) (a h : Int) : (inside ws a h).length = (inN ws a h).length := by unfold inside inN; rw [List.length_map]
theorem mem_inN {ws : List Wn} {a h : Int} {k : Nat} : k ∈ inN ws a h ↔ k < ws.length ∧ a ≤ lo ws k ∧ hi ws k ≤ h := by
  simp [inN]
def Crowd (ws : List Wn) (a h : Int) : Prop := ((inN ws a h).length : Int) > cnt a h
theorem cnt_le (a h : Int) : (((h - a + 1).toNat : Nat) : Int) = cnt a h := by
  unfold cnt
  split <;> omega
/-- the ints from a to h -/
def span (a h : Int) : List Int := (List.range (h - a + 1).toNat).map fun i : Nat => a + (i : Int)
theorem span_len (a h : Int) : (span a h).length = (h - a + 1).toNat := by simp [span]
theorem mem_span {a h x : Int} : x ∈ span a h ↔ a ≤ x ∧ x ≤ h := by
  unfold span
  rw [List.mem_map]
  constructor
  · rintro ⟨i, hi, rfl⟩
    have := List.mem_range.mp hi
    omega
  · intro h'
    exact ⟨(x - a).toNat, List.mem_range.mpr (by omega), by omega⟩
theorem span_nd (a h : Int) : (span a h).Nodup := by
  refine List.Pairwise.map _ (fun i j (hij : i ≠ j) => ?_) List.nodup_range
  intro e
  exact hij (by omega)
/-- a seat for every window, no two the same -/
structure Seats (ws : List Wn) (s : Nat → Int) : Prop where
  lo : ∀ k, k < ws.length → lo ws k ≤ s k
  hi : ∀ k, k < ws.length → s k ≤ hi ws k
  inj : ∀ j k, j < ws.length → k < ws.length → s j = s k → j = k
theorem nodup_map_on {α β : Type} {f : α → β} : ∀ {l : List α}, l.Nodup → (∀ x ∈ l, ∀ y ∈ l, f x = f y → x = y) → (l.map f).Nodup
  | [], _, _ => .nil
  | x :: l, n, h => by
    obtain ⟨n1, n2⟩ := List.nodup_cons.mp n
    refine List.nodup_cons.mpr ⟨fun m => ?_, nodup_map_on n2 fun a ha b hb => h a (.tail _ ha) b (.tail _ hb)⟩
    obtain ⟨y, hy, e⟩ := List.mem_map.mp m
    have := h y (.tail _ hy) x (.head _) e
    exact n1 (this ▸ hy)
theorem seats_no_crowd {ws : List Wn} {s : Nat → Int} (S : Seats ws s) (a h : Int) : ¬ Crowd ws a h := by
  intro c
  unfold Crowd at c
  rw [← cnt_le] at c
  have nd : (inN ws a h).Nodup := List.nodup_range.filter _
  have nm : ((inN ws a h).map s).Nodup := nodup_map_on nd fun x hx y hy e => S.inj x y (mem_inN.mp hx).1 (mem_inN.mp hy).1 e
  have := nm.length_le_of_subset (l₂ := span a h) fun x hx => by
    obtain ⟨k, hk, rfl⟩ := List.mem_map.mp hx
    obtain ⟨h1, h2, h3⟩ := mem_inN.mp hk
    have := S.lo k h1
    have := S.hi k h1
    exact mem_span.mpr ⟨by omega, by omega⟩
  rw [List.length_map, span_len] at this
  omega
theorem crowd_by_list {ws : List Wn} {a h : Int} {l : List Nat} (nd : l.Nodup) (hl : ∀ k ∈ l, k < ws.length ∧ a ≤ lo ws k ∧ hi ws k ≤ h) (hc : (l.length : Int) > cnt a h) : Crowd ws a h := by
  have := nd.length_le_of_subset (l₂ := inN ws a h) fun k hk => mem_inN.mpr (hl k hk)
  unfold Crowd
  omega
/-! climb -/
theorem climbStep {tk : List Int} {high n : Int} (h : n ≤ high ∧ n ∈ tk) : climb tk high n = climb tk high (n + 1) := by rw [climb, if_pos h]
theorem climbStop {tk : List Int} {high n : Int} (h : ¬ (n ≤ high ∧ n ∈ tk)) : climb tk high n = n := by rw [climb, if_neg h]
theorem climbSpec (tk : List Int) (high : Int) : ∀ n, n ≤ climb tk high n ∧ (∀ x, n ≤ x → x < climb tk high n → x ∈ tk ∧ x ≤ high) ∧ (climb tk high n ≤ high → climb tk high n ∉ tk) := by
  have key : ∀ (k : Nat) (n : Int), (high + 1 - n).toNat ≤ k → n ≤ climb tk high n ∧ (∀ x, n ≤ x → x < climb tk high n → x ∈ tk ∧ x ≤ high) ∧ (climb tk high n ≤ high → climb tk high n ∉ tk) := by
    intro k
    induction k with
    | zero =>
      intro n hk
      rw [climbStop (fun z => by omega)]
      exact ⟨Int.le_refl _, fun x h1 h2 => by omega, fun h => by omega⟩
    | succ k ih =>
      intro n hk
      by_cases h : n ≤ high ∧ n ∈ tk
      · rw [climbStep h]
        obtain ⟨a, b, c⟩ := ih (n + 1) (by omega)
        refine ⟨by omega, fun x h1 h2 => ?_, c⟩
        by_cases e : x = n
        · rw [e]; exact ⟨h.2, h.1⟩
        · exact b x (by omega) h2
      · rw [climbStop h]
        exact ⟨Int.le_refl _, fun x h1 h2 => by omega, fun h1 h2 => h ⟨h1, h2⟩⟩
  exact fun n => key _ n (Nat.le_refl _)
/-- the block of taken numbers that ends at h, downwards from b -/
theorem down {tk : List Int} {h : Int} : ∀ (fuel : Nat) (b : Int), b ≤ h → (∀ x, b ≤ x → x ≤ h → x ∈ tk) → tk.length < fuel + (h - b + 1).toNat → ∃ a, a ≤ b ∧ (∀ x, a ≤ x → x ≤ h → x ∈ tk) ∧ a - 1 ∉ tk
  | 0, b, hb, ha, hf => by
    exfalso
    have := (span_nd b h).length_le_of_subset (l₂ := tk) fun x hx => ha x (mem_span.mp hx).1 (mem_span.mp hx).2
    rw [span_len] at this
    omega
  | fuel + 1, b, hb, ha, hf => by
    by_cases hm : b - 1 ∈ tk
    · obtain ⟨a, h1, h2, h3⟩ := down (tk := tk) (h := h) fuel (b - 1) (by omega) (fun x h1 h2 => by
        by_cases e : x = b - 1
        · rw [e]; exact hm
        · exact ha x (by omega) h2) (by omega)
      exact ⟨a, by omega, h2, h3⟩
    · exact ⟨b, Int.le_refl _, ha, hm⟩
/-! seatRun -/
structure SeatSt (ws : List Wn) (seats : List Int) (tk : List Int) (done : List Nat) : Prop where
  len : seats.length = ws.length
  nd : done.Nodup
  lt : ∀ k ∈ done, k < ws.length
  lo : ∀ k ∈ done, lo ws k ≤ seats.getD k 0
  hi : ∀ k ∈ done, seats.getD k 0 ≤ hi ws k
  mem : ∀ x, x ∈ tk ↔ ∃ k ∈ done, seats.getD k 0 = x
  inj : ∀ j ∈ done, ∀ k ∈ done, seats.getD j 0 = seats.getD k 0 → j = k
  below : ∀ k ∈ done, ∀ x, M44.lo ws k ≤ x → x < seats.getD k 0 → x ∈ tk
theorem getD_set {α : Type} {l : List α} {i j : Nat} {x d : α} (hi : i < l.length) : (l.set i x).getD j d = if i = j then x else l.getD j d := by
  rw [List.getD_eq_getElem?_getD, List.getElem?_set]
  by_cases e : i = j
  · subst e; simp [hi]
  · simp [e]
theorem SeatSt.step {ws : List Wn} {seats tk : List Int} {done : List Nat} (S : SeatSt ws seats tk done) {k : Nat} (hk : k < ws.length) (hn : k ∉ done) {c : Int} (h1 : M44.lo ws k ≤ c) (h2 : c ≤ M44.hi ws k) (h3 : c ∉ tk) (h4 : ∀ x, M44.lo ws k ≤ x → x < c → x ∈ tk) :
    SeatSt ws (seats.set k c) (c :: tk) (k :: done) := by
  have hkl : k < seats.length := by rw [S.len]; exact hk
  have old : ∀ j ∈ done, (seats.set k c).getD j 0 = seats.getD j 0 := fun j hj => by
    rw [getD_set hkl, if_neg]; intro e; subst e; exact hn hj
  have own : (seats.set k c).getD k 0 = c := by rw [getD_set hkl, if_pos rfl]
  refine ⟨by rw [List.length_set]; exact S.len, List.nodup_cons.mpr ⟨hn, S.nd⟩, fun j hj => ?_, fun j hj => ?_, fun j hj => ?_, fun x => ?_, fun i hi j hj e => ?_, fun j hj x hx1 hx2 => ?_⟩
  · rcases List.mem_cons.mp hj with rfl | hj
    · exact hk
    · exact S.lt j hj
  · rcases List.mem_cons.mp hj with rfl | hj
    · rw [own]; exact h1
    · rw [old j hj]; exact S.lo j hj
  · rcases List.mem_cons.mp hj with rfl | hj
    · rw [own]; exact h2
    · rw [old j hj]; exact S.hi j hj
  · rw [List.mem_cons, S.mem x]
    constructor
    · rintro (rfl | ⟨j, hj, e⟩)
      · exact ⟨k, .head _, own⟩
      · exact ⟨j, .tail _ hj, by rw [old j hj]; exact e⟩
    · rintro ⟨j, hj, e⟩
      rcases List.mem_cons.mp hj with rfl | hj
      · rw [own] at e; exact .inl e.symm
      · rw [old j hj] at e; exact .inr ⟨j, hj, e⟩
  · rcases List.mem_cons.mp hi with ei | hi' <;> rcases List.mem_cons.mp hj with ej | hj'
    · rw [ei, ej]
    · rw [ei, own, old j hj'] at e
      exact absurd ((S.mem c).mpr ⟨j, hj', e.symm⟩) h3
    · rw [ej, own, old i hi'] at e
      exact absurd ((S.mem c).mpr ⟨i, hi', e⟩) h3
    · rw [old i hi', old j hj'] at e
      exact S.inj i hi' j hj' e
  · rcases List.mem_cons.mp hj with rfl | hj
    · rw [own] at hx2; exact .tail _ (h4 x hx1 hx2)
    · rw [old j hj] at hx2; exact .tail _ (S.below j hj x hx1 hx2)
theorem SeatSt.fail {ws : List Wn} {seats tk : List Int} {done : List Nat} (S : SeatSt ws seats tk done) {k : Nat} (hk : k < ws.length) (hn : k ∉ done) (hd : ∀ j ∈ done, M44.hi ws j ≤ M44.hi ws k) (hc : climb tk (M44.hi ws k) (M44.lo ws k) > M44.hi ws k) : ∃ a h, Crowd ws a h := by
  obtain ⟨c1, c2, _⟩ := climbSpec tk (M44.hi ws k) (M44.lo ws k)
  by_cases hlh : M44.lo ws k ≤ M44.hi ws k
  · obtain ⟨a, ha, hall, hna⟩ := down (tk := tk) (h := M44.hi ws k) (tk.length + 1) (M44.lo ws k) hlh (fun x h1 h2 => (c2 x h1 (by omega)).1) (by omega)
    refine ⟨a, M44.hi ws k, crowd_by_list (l := k :: done.filter fun j => decide (a ≤ seats.getD j 0 ∧ seats.getD j 0 ≤ M44.hi ws k)) ?_ ?_ ?_⟩
    · exact List.nodup_cons.mpr ⟨fun z => hn (List.mem_filter.mp z).1, S.nd.filter _⟩
    · intro j hj
      rcases List.mem_cons.mp hj with rfl | hj
      · exact ⟨hk, ha, Int.le_refl _⟩
      · obtain ⟨h1, h2⟩ := List.mem_filter.mp hj
        have h2 := of_decide_eq_true h2
        refine ⟨S.lt j h1, ?_, hd j h1⟩
        apply Int.not_lt.mp
        intro lt
        exact hna (S.below j h1 (a - 1) (by show M44.lo ws j ≤ a - 1; have : M44.lo ws j < a := lt; omega) (by omega))
    · have := (span_nd a (M44.hi ws k)).length_le_of_subset (l₂ := (done.filter fun j => decide (a ≤ seats.getD j 0 ∧ seats.getD j 0 ≤ M44.hi ws k)).map fun j => seats.getD j 0) fun x hx => by
        obtain ⟨x1, x2⟩ := mem_span.mp hx
        obtain ⟨j, hj, e⟩ := (S.mem x).mp (hall x x1 x2)
        exact List.mem_map.mpr ⟨j, List.mem_filter.mpr ⟨hj, decide_eq_true (by rw [e]; exact ⟨x1, x2⟩)⟩, e⟩
      rw [span_len, List.length_map] at this
      rw [← cnt_le, List.length_cons]
      omega
  · refine ⟨M44.lo ws k, M44.hi ws k, crowd_by_list (l := [k]) (by simp) (fun j hj => ?_) ?_⟩
    · obtain rfl := List.mem_singleton.mp hj
      exact ⟨hk, Int.le_refl _, Int.le_refl _⟩
    · unfold cnt
      rw [if_neg (by omega)]
      simp
theorem seatRun_spec (ws : List Wn) : ∀ (R : List (Int × Int)) (seats tk : List Int) (done : List Nat), SeatSt ws seats tk done → R.Pairwise (fun p q => p.1 ≤ q.1) → (R.map (·.2)).Nodup → (∀ q ∈ R, ∃ k : Nat, k < ws.length ∧ k ∉ done ∧ q = row ws k) → (∀ j ∈ done, ∀ q ∈ R, M44.hi ws j ≤ q.1) →
    (seatRun ws R seats tk = none → ∃ a h, Crowd ws a h) ∧ (∀ f, seatRun ws R seats tk = some f → ∃ tk' done', SeatSt ws f tk' done' ∧ (∀ j ∈ done, j ∈ done') ∧ ∀ k : Nat, (k : Int) ∈ R.map (·.2) → k ∈ done')
  | [], seats, tk, done, S, _, _, _, _ => ⟨fun h => (nomatch h), fun f h => ⟨tk, done, by cases h; exact S, fun _ h => h, fun k hk => (nomatch hk)⟩⟩
  | q :: R, seats, tk, done, S, hp, hnd, hR, hd => by
    obtain ⟨k, hk, hn, rfl⟩ := hR q (.head _)
    obtain ⟨p1, p2⟩ := List.pairwise_cons.mp hp
    obtain ⟨n1, n2⟩ := List.nodup_cons.mp (show ((row ws k).2 :: R.map (·.2)).Nodup from hnd)
    have er : seatRun ws (row ws k :: R) seats tk = if climb tk (M44.hi ws k) (M44.lo ws k) > M44.hi ws k then none else seatRun ws R (seats.set k (climb tk (M44.hi ws k) (M44.lo ws k))) (climb tk (M44.hi ws k) (M44.lo ws k) :: tk) := rfl
    rw [er]
    by_cases hc : climb tk (M44.hi ws k) (M44.lo ws k) > M44.hi ws k
    · rw [if_pos hc]
      exact ⟨fun _ => S.fail hk hn (fun j hj => hd j hj _ (.head _)) hc, fun f h => (nomatch h)⟩
    · rw [if_neg hc]
      obtain ⟨c1, c2, c3⟩ := climbSpec tk (M44.hi ws k) (M44.lo ws k)
      have S' := S.step hk hn c1 (by omega) (c3 (by omega)) fun x h1 h2 => (c2 x h1 h2).1
      obtain ⟨r1, r2⟩ := seatRun_spec ws R _ _ (k :: done) S' p2 n2 (fun q hq => by
        obtain ⟨j, hj, hjn, rfl⟩ := hR q (.tail _ hq)
        refine ⟨j, hj, fun z => ?_, rfl⟩
        rcases List.mem_cons.mp z with rfl | z
        · exact n1 (List.mem_map.mpr ⟨_, hq, rfl⟩)
        · exact hjn z) (fun j hj q hq => by
        rcases List.mem_cons.mp hj with rfl | hj
        · exact p1 q hq
        · exact hd j hj q (.tail _ hq))
      refine ⟨r1, fun f h => ?_⟩
      obtain ⟨tk', done', S2, s1, s2⟩ := r2 f h
      refine ⟨tk', done', S2, fun j hj => s1 j (.tail _ hj), fun j hj => ?_⟩
      rw [List.map_cons] at hj
      rcases List.mem_cons.mp hj with e | hj
      · have : j = k := by
          have : (j : Int) = (k : Int) := e
          omega
        rw [this]; exact s1 k (.head _)
      · exact s2 j hj
theorem rowsNd (ws : List Wn) : ((rows ws).map (·.2)).Nodup := by
  have p : ((rows ws).map (·.2)).Perm ((List.range ws.length).map fun i : Nat => (i : Int)) := by
    have z := (List.mergeSort_perm ((List.range ws.length).map (row ws)) leP).map (·.2)
    rw [List.map_map] at z
    exact z
  refine p.nodup_iff.mpr (List.Pairwise.map _ (fun a b (hab : a ≠ b) => ?_) List.nodup_range)
  intro e
  exact hab (by omega)
theorem leP_trans (a b c : Int × Int) : leP a b = true → leP b c = true → leP a c = true := by
  unfold leP
  simp only [decide_eq_true_iff]
  omega
theorem leP_total (a b : Int × Int) : (leP a b || leP b a) = true := by
  unfold leP
  simp only [Bool.or_eq_true, decide_eq_true_iff]
  omega
theorem rows_asc (ws : List Wn) : (rows ws).Pairwise fun p q => p.1 ≤ q.1 := by
  have := List.pairwise_mergeSort leP_trans leP_total ((List.range ws.length).map (row ws))
  refine this.imp fun {a b} h => ?_
  unfold leP at h
  have := of_decide_eq_true h
  omega
theorem seats_spec (ws : List Wn) : (seatsOf ws = none → ∃ a h, Crowd ws a h) ∧ (∀ f, seatsOf ws = some f → f.length = ws.length ∧ Seats ws fun k => f.getD k 0) := by
  have S0 : SeatSt ws (List.replicate ws.length 0) [] [] := ⟨by simp, .nil, fun _ h => (nomatch h), fun _ h => (nomatch h), fun _ h => (nomatch h), fun x => by simp, fun _ h => (nomatch h), fun _ h => (nomatch h)⟩
  have hR : ∀ q ∈ rows ws, ∃ k : Nat, k < ws.length ∧ k ∉ ([] : List Nat) ∧ q = row ws k := fun q hq => by
    obtain ⟨i, hi, rfl⟩ := List.mem_map.mp ((List.mergeSort_perm _ _).mem_iff.mp hq)
    exact ⟨i, List.mem_range.mp hi, by simp, rfl⟩
  obtain ⟨r1, r2⟩ := seatRun_spec ws (rows ws) _ _ _ S0 (rows_asc ws) (rowsNd ws) hR (fun _ h => (nomatch h))
  refine ⟨r1, fun f h => ?_⟩
  obtain ⟨tk', done', S, _, s2⟩ := r2 f h
  have all : ∀ k, k < ws.length → k ∈ done' := fun k hk => s2 k (List.mem_map.mpr ⟨row ws k, (List.mergeSort_perm _ _).mem_iff.mpr (List.mem_map.mpr ⟨k, List.mem_range.mpr hk, rfl⟩), rfl⟩)
  exact ⟨S.len, fun k hk => S.lo k (all k hk), fun k hk => S.hi k (all k hk), fun j k hj hk e => S.inj j (all j hj) k (all k hk) e⟩
end M44
namespace M44
open PySem
theorem firstLow_none {high : Int} : ∀ (l : List Int) (k : Nat), firstLow high l k = none → ∀ (i : Nat) (h : i < l.length), ((k + i : Nat) : Int) + 1 ≤ cnt l[i] high
  | [], _, _, _, h => (nomatch h)
  | x :: l, k, e, i, h => by
    have e : (if (k : Int) + 1 > cnt x high then some x else firstLow high l (k + 1)) = none := e
    by_cases hc : (k : Int) + 1 > cnt x high
    · rw [if_pos hc] at e; cases e
    · rw [if_neg hc] at e
      cases i with
      | zero => show ((k : Nat) : Int) + 1 ≤ cnt x high; omega
      | succ i =>
        have := firstLow_none l (k + 1) e i (by rw [List.length_cons] at h; omega)
        rw [List.getElem_cons_succ]
        have e2 : k + (i + 1) = k + 1 + i := by omega
        rw [e2]; exact this
theorem desc_first {a : Int} : ∀ (l : List Int), l.Pairwise (· ≥ ·) → ∀ i, i < (l.filter fun x => decide (a ≤ x)).length → ∃ h : i < l.length, a ≤ l[i]
  | [], _, i, h => (nomatch h)
  | x :: l, s, i, h => by
    obtain ⟨s1, s2⟩ := List.pairwise_cons.mp s
    by_cases hx : a ≤ x
    · rw [List.filter_cons, if_pos (decide_eq_true hx), List.length_cons] at h
      cases i with
      | zero => exact ⟨by simp, hx⟩
      | succ i =>
        obtain ⟨h1, h2⟩ := desc_first (a := a) l s2 i (by omega)
        exact ⟨by rw [List.length_cons]; omega, by rw [List.getElem_cons_succ]; exact h2⟩
    · exfalso
      rw [List.filter_cons, if_neg (by simpa using hx)] at h
      have : (l.filter fun x => decide (a ≤ x)) = [] := List.filter_eq_nil_iff.mpr fun y hy => by
        have := s1 y hy
        simp
        omega
      rw [this] at h; cases h
theorem max_hi (ws : List Wn) : ∀ (l : List Nat), l ≠ [] → ∃ m ∈ l, ∀ j ∈ l, hi ws j ≤ hi ws m
  | [], h => absurd rfl h
  | [x], _ => ⟨x, .head _, fun j hj => by rw [List.mem_singleton.mp hj]; exact Int.le_refl _⟩
  | x :: y :: l, _ => by
    obtain ⟨m, hm, h⟩ := max_hi ws (y :: l) (by simp)
    by_cases hx : hi ws x ≤ hi ws m
    · refine ⟨m, .tail _ hm, fun j hj => ?_⟩
      rcases List.mem_cons.mp hj with rfl | hj
      · exact hx
      · exact h j hj
    · refine ⟨x, .head _, fun j hj => ?_⟩
      rcases List.mem_cons.mp hj with rfl | hj
      · exact Int.le_refl _
      · have := h j hj; omega
theorem lows_count (ws : List Wn) (a h : Int) : ((lowsOf ws h).filter fun x => decide (a ≤ x)).length = (inN ws a h).length := by
  have p := (List.mergeSort_perm ((ws.filter fun w => decide (w.2 ≤ h)).map (·.1)) fun a b => decide (b ≤ a)).filter fun x => decide (a ≤ x)
  have p' : ((lowsOf ws h).filter fun x => decide (a ≤ x)).length = _ := p.length_eq
  rw [p', List.filter_map, List.filter_filter, List.length_map]
  have z := range_sel ws (0, 0) (fun w => decide (a ≤ w.1) && decide (w.2 ≤ h)) (fun w => w)
  have z' := congrArg List.length z
  rw [List.length_map, List.length_map] at z'
  unfold inN
  have e : (fun i => decide (a ≤ lo ws i ∧ hi ws i ≤ h)) = fun i => decide (a ≤ (ws.getD i (0, 0)).1) && decide ((ws.getD i (0, 0)).2 ≤ h) := by
    funext i
    rw [Bool.decide_and]
  rw [e, z']
  rfl
theorem lows_desc (ws : List Wn) (h : Int) : (lowsOf ws h).Pairwise (· ≥ ·) := by
  have := List.pairwise_mergeSort (le := fun a b : Int => decide (b ≤ a)) (fun a b c h1 h2 => by simp at *; omega) (fun a b => by simp; omega) ((ws.filter fun w => decide (w.2 ≤ h)).map (·.1))
  exact this.imp fun h => of_decide_eq_true h
theorem crowd_found {ws : List Wn} (h : crowdOf ws = none) (a h0 : Int) : ¬ Crowd ws a h0 := by
  intro c
  unfold Crowd at c
  have hne : inN ws a h0 ≠ [] := by
    intro e
    rw [e, ← cnt_le] at c
    simp at c
    omega
  obtain ⟨m, hm, hmax⟩ := max_hi ws _ hne
  obtain ⟨m1, m2, m3⟩ := mem_inN.mp hm
  have hin : hi ws m ∈ ws.map (·.2) := List.mem_map.mpr ⟨ws.getD m (0, 0), by rw [List.getD_eq_getElem?_getD, List.getElem?_eq_getElem m1]; exact List.getElem_mem _, rfl⟩
  have hg : greatestLow ws (hi ws m) = none := crowdRun_none' h _ (List.mem_mergeSort.mpr hin)
  generalize hi ws m = h' at *
  have ndS : (inN ws a h0).Nodup := List.nodup_range.filter _
  have hsub := ndS.length_le_of_subset (l₂ := inN ws a h') fun k hk => by
    obtain ⟨k1, k2, k3⟩ := mem_inN.mp hk
    exact mem_inN.mpr ⟨k1, k2, hmax k hk⟩
  have hpos : 0 < (inN ws a h0).length := List.length_pos_iff.mpr hne
  have hlc := lows_count ws a h'
  obtain ⟨hl, hge⟩ := desc_first (a := a) (lowsOf ws h') (lows_desc ws h') ((inN ws a h').length - 1) (by rw [hlc]; omega)
  have := firstLow_none (lowsOf ws h') 0 hg ((inN ws a h').length - 1) hl
  generalize (lowsOf ws h')[(inN ws a h').length - 1] = b at hge this
  have h1 := cnt_le b h'
  have h2 := cnt_le a h0
  omega
/-! the sweep -/
theorem pull_spec (n : Int) (l : List Tr) (r : List (Int × Int)) : ∀ k, ∃ p l', l = p ++ l' ∧ pull n k (l, r) = (l', r ++ p.map fun t => (t.2.1, t.2.2)) ∧ (∀ t ∈ p, t.1 ≤ n) ∧ (p.length = k ∨ l' = [] ∨ ∃ t l2, l' = t :: l2 ∧ n < t.1)
  | 0 => ⟨[], l, rfl, by show (l, r) = _; simp, fun _ h => (nomatch h), .inl rfl⟩
  | k + 1 => by
    obtain ⟨p, l', rfl, e, hp, hd⟩ := pull_spec n l r k
    have es : pull n (k + 1) (p ++ l', r) = pull1 n (l', r ++ p.map fun t => (t.2.1, t.2.2)) := by show pull1 n (pull n k (p ++ l', r)) = _; rw [e]
    cases l' with
    | nil => exact ⟨p, [], rfl, es, hp, .inr (.inl rfl)⟩
    | cons t l2 =>
      by_cases ht : t.1 ≤ n
      · have e1 : pull1 n (t :: l2, r ++ p.map fun t => (t.2.1, t.2.2)) = (l2, (r ++ p.map fun t => (t.2.1, t.2.2)) ++ [(t.2.1, t.2.2)]) := by show (if t.1 ≤ n then _ else _) = _; rw [if_pos ht]
        rcases hd with hd | hd | ⟨t', l3, e3, h3⟩
        · refine ⟨p ++ [t], l2, by simp, by rw [es, e1]; simp, fun u hu => ?_, .inl (by simp [hd])⟩
          rcases List.mem_append.mp hu with hu | hu
          · exact hp u hu
          · rw [List.mem_singleton.mp hu]; exact ht
        · cases hd
        · cases e3; omega
      · have e1 : pull1 n (t :: l2, r ++ p.map fun t => (t.2.1, t.2.2)) = (t :: l2, r ++ p.map fun t => (t.2.1, t.2.2)) := by show (if t.1 ≤ n then _ else _) = _; rw [if_neg ht]
        exact ⟨p, t :: l2, rfl, by rw [es, e1], hp, .inr (.inr ⟨t, l2, rfl, by omega⟩)⟩
theorem pull_all {n : Int} {l : List Tr} {r : List (Int × Int)} {m : Nat} (hm : l.length ≤ m) (hs : l.Pairwise fun t u => t.1 ≤ u.1) : ∃ p l', l = p ++ l' ∧ pull n m (l, r) = (l', r ++ p.map fun t => (t.2.1, t.2.2)) ∧ (∀ t ∈ p, t.1 ≤ n) ∧ ∀ t ∈ l', n < t.1 := by
  obtain ⟨p, l', rfl, e, hp, hd⟩ := pull_spec n l r m
  refine ⟨p, l', rfl, e, hp, ?_⟩
  rcases hd with hd | rfl | ⟨t, l2, rfl, ht⟩
  · rw [List.length_append] at hm
    have : l' = [] := List.eq_nil_of_length_eq_zero (by omega)
    rw [this]
    exact fun _ h => (nomatch h)
  · exact fun _ h => (nomatch h)
  · intro u hu
    rcases List.mem_cons.mp hu with rfl | hu
    · exact ht
    · have := (List.pairwise_append.mp hs).2.1
      have := (List.pairwise_cons.mp this).1 u hu
      omega
/-- the places of the three lists -/
def places3 (l : List Tr) (r : List (Int × Int)) (done : List Nat) : List Int := l.map (·.2.2) ++ (r.map (·.2) ++ done.map fun k : Nat => (k : Int))
def fv (f : List (Option Int)) (k : Nat) : Int := (f.getD k none).getD 0
structure SwSt (ws : List Wn) (l : List Tr) (r : List (Int × Int)) (n : Int) (f : List (Option Int)) (done : List Nat) : Prop where
  len : f.length = ws.length
  pl : (places3 l r done).Perm ((List.range ws.length).map fun i : Nat => (i : Int))
  lm : ∀ t ∈ l, ∃ k : Nat, k < ws.length ∧ t = trip ws k
  rm : ∀ q ∈ r, ∃ k : Nat, k < ws.length ∧ q = (hi ws k, (k : Int)) ∧ lo ws k ≤ n
  srt : l.Pairwise fun t u => t.1 ≤ u.1
  is : ∀ k ∈ done, ∃ x, f.getD k none = some x
  lo : ∀ k ∈ done, lo ws k ≤ fv f k
  hi : ∀ k ∈ done, fv f k ≤ hi ws k
  lt : ∀ k ∈ done, fv f k < n
  inj : ∀ j ∈ done, ∀ k ∈ done, fv f j = fv f k → j = k
  low : done = [] ∨ ∀ t ∈ l, n ≤ t.1
/-- why a failure shows a crowd -/
def Blk (ws : List Wn) (l : List Tr) (r : List (Int × Int)) (n : Int) (done : List Nat) : Prop :=
  ∀ h : Int, ∃ a, a ≤ n ∧ n - a ≤ ((done.filter fun k => decide (a ≤ M44.lo ws k ∧ M44.hi ws k ≤ h)).length : Int) ∧ (∀ t ∈ l, t.2.1 ≤ h → a ≤ t.1) ∧ ∀ k : Nat, (M44.hi ws k, (k : Int)) ∈ r → M44.hi ws k ≤ h → a ≤ M44.lo ws k
theorem perm_nd {ws : List Wn} {l : List Tr} {r : List (Int × Int)} {n : Int} {f : List (Option Int)} {done : List Nat} (S : SwSt ws l r n f done) : (places3 l r done).Nodup := by
  refine S.pl.nodup_iff.mpr (List.Pairwise.map _ (fun a b (hab : a ≠ b) => ?_) List.nodup_range)
  intro e
  exact hab (by omega)
theorem done_nd {ws : List Wn} {l : List Tr} {r : List (Int × Int)} {n : Int} {f : List (Option Int)} {done : List Nat} (S : SwSt ws l r n f done) : done.Nodup := by
  have := (List.nodup_append.mp (List.nodup_append.mp (perm_nd S)).2.1).2.1
  rw [List.Nodup, List.pairwise_map] at this
  exact this.imp fun {a b} h e => h (by rw [e])
theorem done_lt {ws : List Wn} {l : List Tr} {r : List (Int × Int)} {n : Int} {f : List (Option Int)} {done : List Nat} (S : SwSt ws l r n f done) : ∀ k ∈ done, k < ws.length := fun k hk => by
  have h1 : ((k : Nat) : Int) ∈ places3 l r done := List.mem_append_right _ (List.mem_append_right _ (List.mem_map.mpr ⟨k, hk, rfl⟩))
  obtain ⟨i, hi, e⟩ := List.mem_map.mp (S.pl.mem_iff.mp h1)
  have := List.mem_range.mp hi
  omega
theorem sweep_spec (ws : List Wn) : ∀ (t : Nat) (l : List Tr) (r : List (Int × Int)) (n : Int) (f : List (Option Int)) (done : List Nat), SwSt ws l r n f done → (r ≠ [] → Blk ws l r n done) → ws.length < done.length + t →
    (sweep ws.length t l r n f = none → ∃ a h, Crowd ws a h) ∧ (∀ f', sweep ws.length t l r n f = some f' → f'.length = ws.length ∧ (∀ k, k < ws.length → ∃ x, f'.getD k none = some x) ∧ Seats ws (fv f'))
  | 0, l, r, n, f, done, S, B, ht => by
    exfalso
    have := (done_nd S).length_le_of_subset (l₂ := List.range ws.length) fun k hk => List.mem_range.mpr (done_lt S k hk)
    rw [List.length_range] at this
    omega
  | t + 1, l, r, n, f, done, S, B, ht => by
    have hll : l.length ≤ ws.length := by
      have := S.pl.length_eq
      simp [places3] at this
      omega
    -- the jump
    have S1 : SwSt ws l r (jump l r n) f done ∧ (r ≠ [] ∨ l ≠ [] → Blk ws l r (jump l r n) done) ∧ (r = [] → ∀ t l2, l = t :: l2 → t.1 ≤ jump l r n) := by
      cases r with
      | cons q r => exact ⟨S, fun _ => B (by simp), fun h => (nomatch h)⟩
      | nil =>
        cases l with
        | nil => exact ⟨S, fun h => by simp at h, fun _ _ _ h => (nomatch h)⟩
        | cons u l =>
          have hge : done ≠ [] → n ≤ u.1 := fun hd => (S.low.resolve_left hd) u (.head _)
          have hlow : ∀ t ∈ u :: l, u.1 ≤ t.1 := fun t ht => by
            rcases List.mem_cons.mp ht with rfl | ht
            · exact Int.le_refl _
            · exact (List.pairwise_cons.mp S.srt).1 t ht
          refine ⟨⟨S.len, S.pl, S.lm, fun q hq => (nomatch hq), S.srt, S.is, S.lo, S.hi, fun k hk => ?_, S.inj, .inr hlow⟩, fun _ h => ⟨u.1, Int.le_refl _, by show u.1 - u.1 ≤ _; omega, fun t ht _ => hlow t ht, fun k hk => (nomatch hk)⟩, fun _ t l2 e => by cases e; exact Int.le_refl _⟩
          have h1 := S.lt k hk
          have h2 := hge (fun z => by rw [z] at hk; cases hk)
          show fv f k < u.1
          omega
    obtain ⟨S1, B1, hj⟩ := S1
    have es : sweep ws.length (t + 1) l r n f = (match (pull (jump l r n) ws.length (l, r)).2.mergeSort leP with | [] => some f | h :: rest => if h.1 < jump l r n then none else sweep ws.length t (pull (jump l r n) ws.length (l, r)).1 rest (jump l r n + 1) (f.set h.2.toNat (some (jump l r n)))) := rfl
    rw [es]
    generalize jump l r n = n' at S1 B1 hj ⊢
    obtain ⟨p, l', rfl, ep, hp, hl'⟩ := pull_all (n := n') (r := r) hll S1.srt
    rw [ep]
    have hpm := List.mergeSort_perm (r ++ p.map fun t => (t.2.1, t.2.2)) leP
    have hps := List.pairwise_mergeSort leP_trans leP_total (r ++ p.map fun t => (t.2.1, t.2.2))
    have hsrt' : l'.Pairwise fun t u => t.1 ≤ u.1 := (List.pairwise_append.mp S1.srt).2.1
    have hrm : ∀ q ∈ r ++ p.map (fun t => (t.2.1, t.2.2)), ∃ k : Nat, k < ws.length ∧ q = (M44.hi ws k, (k : Int)) ∧ M44.lo ws k ≤ n' := fun q hq => by
      rcases List.mem_append.mp hq with hq | hq
      · exact S1.rm q hq
      · obtain ⟨u, hu, rfl⟩ := List.mem_map.mp hq
        obtain ⟨k, hk, rfl⟩ := S1.lm u (List.mem_append_left _ hu)
        exact ⟨k, hk, rfl, hp _ hu⟩
    have hpl : (places3 l' (r ++ p.map fun t => (t.2.1, t.2.2)) done).Perm ((List.range ws.length).map fun i : Nat => (i : Int)) := by
      refine List.Perm.trans ?_ S1.pl
      unfold places3
      rw [List.map_append, List.map_append, List.map_map]
      have e : p.map ((fun x : Int × Int => x.2) ∘ fun t : Tr => (t.2.1, t.2.2)) = p.map (·.2.2) := rfl
      rw [e]
      generalize p.map (·.2.2) = A
      generalize l'.map (·.2.2) = Bq
      generalize r.map (·.2) = Cq
      generalize done.map (fun k : Nat => (k : Int)) = Dq
      -- B ++ ((C ++ A) ++ D) ~ (A ++ B) ++ (C ++ D)
      rw [List.perm_iff_count]
      intro x
      simp only [List.count_append]
      omega
    cases hms : (r ++ p.map fun t => (t.2.1, t.2.2)).mergeSort leP with
    | nil =>
      refine ⟨fun h => (nomatch h), fun f' h => ?_⟩
      obtain rfl := Option.some.inj h
      have h0 : (r ++ p.map fun t => (t.2.1, t.2.2)) = [] := by
        have := List.length_mergeSort (le := leP) (r ++ p.map fun t => (t.2.1, t.2.2))
        rw [hms] at this
        exact List.eq_nil_of_length_eq_zero this.symm
      obtain ⟨hr0, hp0⟩ := List.append_eq_nil_iff.mp h0
      have hp0 : p = [] := List.map_eq_nil_iff.mp hp0
      subst hr0 hp0
      have hl0 : l' = [] := by
        cases l' with
        | nil => rfl
        | cons u l2 =>
          have h1 := hj rfl u l2 rfl
          have h2 := hl' u (.head _)
          omega
      subst hl0
      have hall : ∀ k, k < ws.length → k ∈ done := fun k hk => by
        have : ((k : Nat) : Int) ∈ places3 [] [] done := S1.pl.mem_iff.mpr (List.mem_map.mpr ⟨k, List.mem_range.mpr hk, rfl⟩)
        have : ((k : Nat) : Int) ∈ done.map fun k : Nat => (k : Int) := this
        obtain ⟨j, hj, e⟩ := List.mem_map.mp this
        have : j = k := by omega
        rw [← this]; exact hj
      exact ⟨S1.len, fun k hk => S1.is k (hall k hk), fun k hk => S1.lo k (hall k hk), fun k hk => S1.hi k (hall k hk), fun j k hj hk e => S1.inj j (hall j hj) k (hall k hk) e⟩
    | cons q rest =>
      rw [hms] at hpm hps
      obtain ⟨k, hk, rfl, hkn⟩ := hrm q (hpm.mem_iff.mp (.head _))
      have hmin : ∀ u ∈ rest, M44.hi ws k ≤ u.1 := fun u hu => by
        have := (List.pairwise_cons.mp hps).1 u hu
        unfold leP at this
        have := of_decide_eq_true this
        omega
      have hpl2 : (places3 l' ((M44.hi ws k, (k : Int)) :: rest) done).Perm ((List.range ws.length).map fun i : Nat => (i : Int)) := by
        refine List.Perm.trans ?_ hpl
        unfold places3
        exact List.Perm.append_left _ (List.Perm.append_right _ (hpm.map _))
      have hne : r ≠ [] ∨ p ++ l' ≠ [] := by
        by_cases h0 : r = []
        · right
          intro z
          rw [h0, (List.append_eq_nil_iff.mp z).1] at hms
          simp at hms
        · exact .inl h0
      have B1 := B1 hne
      -- after the pull
      have B2 : ∀ h : Int, ∃ a, a ≤ n' ∧ n' - a ≤ ((done.filter fun k => decide (a ≤ M44.lo ws k ∧ M44.hi ws k ≤ h)).length : Int) ∧ (∀ t ∈ l', t.2.1 ≤ h → a ≤ t.1) ∧ ∀ j : Nat, (M44.hi ws j, (j : Int)) ∈ (M44.hi ws k, (k : Int)) :: rest → M44.hi ws j ≤ h → a ≤ M44.lo ws j := fun h => by
        obtain ⟨a, a1, a2, a3, a4⟩ := B1 h
        refine ⟨a, a1, a2, fun t ht => a3 t (List.mem_append_right _ ht), fun j hj hjh => ?_⟩
        rcases List.mem_append.mp (hpm.mem_iff.mp hj) with hj | hj
        · exact a4 j hj hjh
        · obtain ⟨u, hu, e⟩ := List.mem_map.mp hj
          obtain ⟨i, hi, rfl⟩ := S1.lm u (List.mem_append_left _ hu)
          have e2 : (i : Int) = (j : Int) := congrArg Prod.snd e
          have : i = j := by omega
          subst this
          exact a3 _ (List.mem_append_left _ hu) hjh
      have nd3 : (places3 l' ((M44.hi ws k, (k : Int)) :: rest) done).Nodup := by
        refine hpl2.nodup_iff.mpr (List.Pairwise.map _ (fun a b (hab : a ≠ b) => ?_) List.nodup_range)
        intro e
        exact hab (by omega)
      have hkd : k ∉ done := fun z => by
        have := (List.nodup_append.mp nd3).2.1
        rw [List.map_cons, List.cons_append] at this
        exact (List.nodup_cons.mp this).1 (List.mem_append_right _ (List.mem_map.mpr ⟨k, z, rfl⟩))
      show ((if M44.hi ws k < n' then none else sweep ws.length t l' rest (n' + 1) (f.set ((k : Nat) : Int).toNat (some n'))) = none → ∃ a h, Crowd ws a h) ∧ (∀ f', (if M44.hi ws k < n' then none else sweep ws.length t l' rest (n' + 1) (f.set ((k : Nat) : Int).toNat (some n'))) = some f' → f'.length = ws.length ∧ (∀ k, k < ws.length → ∃ x, f'.getD k none = some x) ∧ Seats ws (fv f'))
      rw [Int.toNat_natCast]
      by_cases hc : M44.hi ws k < n'
      · rw [if_pos hc]
        refine ⟨fun _ => ?_, fun f' h => (nomatch h)⟩
        obtain ⟨a, a1, a2, a3, a4⟩ := B2 (M44.hi ws k)
        have ak := a4 k (.head _) (Int.le_refl _)
        refine ⟨a, M44.hi ws k, crowd_by_list (l := k :: done.filter fun j => decide (a ≤ M44.lo ws j ∧ M44.hi ws j ≤ M44.hi ws k)) ?_ ?_ ?_⟩
        · exact List.nodup_cons.mpr ⟨fun z => hkd (List.mem_filter.mp z).1, (done_nd S1).filter _⟩
        · intro j hj
          rcases List.mem_cons.mp hj with rfl | hj
          · exact ⟨hk, ak, Int.le_refl _⟩
          · obtain ⟨h1, h2⟩ := List.mem_filter.mp hj
            exact ⟨done_lt S1 j h1, of_decide_eq_true h2⟩
        · rw [← cnt_le, List.length_cons]
          omega
      · rw [if_neg hc]
        have hkl : k < f.length := by rw [S1.len]; exact hk
        have own : (f.set k (some n')).getD k none = some n' := by rw [getD_set hkl, if_pos rfl]
        have old : ∀ j ∈ done, (f.set k (some n')).getD j none = f.getD j none := fun j hj => by
          rw [getD_set hkl, if_neg]; intro e; subst e; exact hkd hj
        have fown : fv (f.set k (some n')) k = n' := by unfold fv; rw [own]; rfl
        have fold : ∀ j ∈ done, fv (f.set k (some n')) j = fv f j := fun j hj => by unfold fv; rw [old j hj]
        refine sweep_spec ws t l' rest (n' + 1) (f.set k (some n')) (k :: done) ⟨by rw [List.length_set]; exact S1.len, ?_, fun u hu => S1.lm u (List.mem_append_right _ hu), fun q hq => ?_, hsrt', fun j hj => ?_, fun j hj => ?_, fun j hj => ?_, fun j hj => ?_, fun i hi j hj e => ?_, .inr fun u hu => by have := hl' u hu; omega⟩ (fun _ h => ?_) (by rw [List.length_cons]; omega)
        · refine List.Perm.trans ?_ hpl2
          unfold places3
          refine List.Perm.append_left _ ?_
          rw [List.map_cons, List.map_cons]
          exact List.perm_middle
        · obtain ⟨j, hj, e, hjn⟩ := hrm q (hpm.mem_iff.mp (.tail _ hq))
          exact ⟨j, hj, e, by omega⟩
        · rcases List.mem_cons.mp hj with rfl | hj
          · exact ⟨n', own⟩
          · rw [old j hj]; exact S1.is j hj
        · rcases List.mem_cons.mp hj with rfl | hj
          · rw [fown]; exact hkn
          · rw [fold j hj]; exact S1.lo j hj
        · rcases List.mem_cons.mp hj with rfl | hj
          · rw [fown]; omega
          · rw [fold j hj]; exact S1.hi j hj
        · rcases List.mem_cons.mp hj with rfl | hj
          · rw [fown]; omega
          · rw [fold j hj]; have := S1.lt j hj; omega
        · rcases List.mem_cons.mp hi with ei | hi' <;> rcases List.mem_cons.mp hj with ej | hj'
          · rw [ei, ej]
          · rw [ei, fown, fold j hj'] at e
            have := S1.lt j hj'; omega
          · rw [ej, fown, fold i hi'] at e
            have := S1.lt i hi'; omega
          · rw [fold i hi', fold j hj'] at e
            exact S1.inj i hi' j hj' e
        · by_cases hh : M44.hi ws k ≤ h
          · obtain ⟨a, a1, a2, a3, a4⟩ := B2 h
            have ak := a4 k (.head _) hh
            refine ⟨a, by omega, ?_, a3, fun j hj => a4 j (.tail _ hj)⟩
            rw [List.filter_cons, if_pos (decide_eq_true ⟨ak, hh⟩), List.length_cons]
            omega
          · refine ⟨n' + 1, Int.le_refl _, by omega, fun u hu _ => by have := hl' u hu; omega, fun j hj hjh => ?_⟩
            have := hmin _ hj
            have : M44.hi ws k ≤ M44.hi ws j := this
            omega
theorem leT_trans (a b c : Tr) : leT a b = true → leT b c = true → leT a c = true := by
  unfold leT
  simp only [decide_eq_true_iff]
  omega
theorem leT_total (a b : Tr) : (leT a b || leT b a) = true := by
  unfold leT
  simp only [Bool.or_eq_true, decide_eq_true_iff]
  omega
theorem sweep0 (ws : List Wn) : SwSt ws (lefts ws) [] 0 (List.replicate ws.length none) [] := by
  refine ⟨by simp, ?_, fun t ht => ?_, fun _ h => (nomatch h), ?_, fun _ h => (nomatch h), fun _ h => (nomatch h), fun _ h => (nomatch h), fun _ h => (nomatch h), fun _ h => (nomatch h), .inl rfl⟩
  · have z := (List.mergeSort_perm ((List.range ws.length).map (trip ws)) leT).map (·.2.2)
    rw [List.map_map] at z
    unfold places3
    rw [List.map_nil, List.map_nil, List.append_nil, List.append_nil]
    exact z
  · obtain ⟨i, hi, rfl⟩ := List.mem_map.mp ((List.mergeSort_perm _ _).mem_iff.mp ht)
    exact ⟨i, List.mem_range.mp hi, rfl⟩
  · have := List.pairwise_mergeSort leT_trans leT_total ((List.range ws.length).map (trip ws))
    refine this.imp fun {a b} h => ?_
    unfold leT at h
    have := of_decide_eq_true h
    omega
theorem sweep_none {ws : List Wn} (h : sweepOf ws = none) : seatsOf ws = none ∧ ∃ r, crowdOf ws = some r := by
  obtain ⟨a, b, c⟩ := (sweep_spec ws _ _ _ _ _ _ (sweep0 ws) (fun h => absurd rfl h) (by simp; omega)).1 h
  constructor
  · cases e : seatsOf ws with
    | none => rfl
    | some f => exact absurd c (seats_no_crowd ((seats_spec ws).2 f e).2 a b)
  · cases e : crowdOf ws with
    | none => exact absurd c (crowd_found e a b)
    | some r => exact ⟨r, rfl⟩
theorem sweep_some {ws : List Wn} {f : List (Option Int)} (h : sweepOf ws = some f) : (∃ seats, seatsOf ws = some seats ∧ seats.length = ws.length) ∧ ∃ ns : List Int, f = ns.map some ∧ ns.length = ws.length := by
  obtain ⟨h1, h2, h3⟩ := (sweep_spec ws _ _ _ _ _ _ (sweep0 ws) (fun h => absurd rfl h) (by simp; omega)).2 f h
  constructor
  · cases e : seatsOf ws with
    | some s => exact ⟨s, rfl, ((seats_spec ws).2 s e).1⟩
    | none =>
      obtain ⟨a, b, c⟩ := (seats_spec ws).1 e
      exact absurd c (seats_no_crowd h3 a b)
  · refine ⟨f.map fun o => o.getD 0, ?_, by rw [List.length_map]; exact h1⟩
    rw [List.map_map]
    apply List.ext_getElem
    · simp
    · intro i i1 i2
      obtain ⟨x, hx⟩ := h2 i (by omega)
      rw [List.getD_eq_getElem?_getD, List.getElem?_eq_getElem i1] at hx
      have hx : f[i] = some x := hx
      simp [hx]
end M44
namespace M44
open PySem
/-- n windows alike -/
abbrev wide (n : Nat) : List Wn := List.replicate n (0, 1000)
theorem wide_row {n i : Nat} (hi : i < n) : row (wide n) i = (1000, (i : Int)) := by
  unfold row
  rw [List.getD_eq_getElem?_getD, List.getElem?_eq_getElem (by simp [hi])]
  simp
theorem rows_wide (n : Nat) : rows (wide n) = (List.range' 0 n).map fun i : Nat => ((1000 : Int), (i : Int)) := by
  unfold rows
  have e : (List.range (wide n).length).map (row (wide n)) = (List.range' 0 n).map fun i : Nat => ((1000 : Int), (i : Int)) := by
    rw [List.range_eq_range']
    have hl : (wide n).length = n := by simp
    rw [hl]
    refine List.map_congr_left fun i hi => wide_row ?_
    have := (List.mem_range'_1.mp hi).2
    omega
  rw [e]
  refine List.mergeSort_of_pairwise ?_
  refine List.Pairwise.map _ (fun a b (hab : a < b) => ?_) List.pairwise_lt_range'
  unfold leP
  rw [decide_eq_true_iff]
  exact .inr ⟨rfl, by show (a : Int) ≤ (b : Int); omega⟩
theorem climb_block {tk : List Int} {k : Int} (hk0 : 0 ≤ k) (hk : k ≤ 1000) (h : ∀ x, x ∈ tk ↔ 0 ≤ x ∧ x < k) : climb tk 1000 0 = k := by
  obtain ⟨a, b, c⟩ := climbSpec tk 1000 0
  have h1 : climb tk 1000 0 ≤ k := by
    apply Int.not_lt.mp
    intro lt
    have := (h k).mp (b k hk0 lt).1
    omega
  have h2 := c (by omega)
  rw [h] at h2
  omega
theorem wide_run (n : Nat) (hn : n ≤ 1000) : ∀ (m k : Nat) (seats tk : List Int), k + m = n → (∀ x, x ∈ tk ↔ 0 ≤ x ∧ x < (k : Int)) → seats.length = n → (∀ i, i < k → seats.getD i 0 = (i : Int)) →
    ∃ f, seatRun (wide n) ((List.range' k m).map fun i : Nat => ((1000 : Int), (i : Int))) seats tk = some f ∧ f.length = n ∧ ∀ i, i < n → f.getD i 0 = (i : Int)
  | 0, k, seats, tk, hk, _, hl, hs => ⟨seats, rfl, hl, fun i hi => hs i (by omega)⟩
  | m + 1, k, seats, tk, hk, ht, hl, hs => by
    have e : (List.range' k (m + 1)).map (fun i : Nat => ((1000 : Int), (i : Int))) = ((1000 : Int), (k : Int)) :: (List.range' (k + 1) m).map fun i : Nat => ((1000 : Int), (i : Int)) := by rw [List.range'_succ]; rfl
    have hlo : ((wide n).getD ((k : Nat) : Int).toNat (0, 0)).1 = 0 := by
      rw [Int.toNat_natCast, List.getD_eq_getElem?_getD, List.getElem?_eq_getElem (by simp; omega)]
      simp
    have er : seatRun (wide n) (((1000 : Int), (k : Int)) :: (List.range' (k + 1) m).map fun i : Nat => ((1000 : Int), (i : Int))) seats tk = if climb tk 1000 ((wide n).getD ((k : Nat) : Int).toNat (0, 0)).1 > 1000 then none else
        seatRun (wide n) ((List.range' (k + 1) m).map fun i : Nat => ((1000 : Int), (i : Int))) (seats.set ((k : Nat) : Int).toNat (climb tk 1000 ((wide n).getD ((k : Nat) : Int).toNat (0, 0)).1)) (climb tk 1000 ((wide n).getD ((k : Nat) : Int).toNat (0, 0)).1 :: tk) := rfl
    rw [e, er, hlo, climb_block (k := (k : Int)) (by omega) (by omega) ht, if_neg (by omega), Int.toNat_natCast]
    refine wide_run n hn m (k + 1) _ _ (by omega) (fun x => ?_) (by rw [List.length_set]; exact hl) fun i hi => ?_
    · rw [List.mem_cons, ht]; omega
    · rw [getD_set (by omega)]
      by_cases ei : k = i
      · rw [if_pos ei, ei]
      · rw [if_neg ei]; exact hs i (by omega)
theorem wide_seats (n : Nat) (hn : n ≤ 1000) : seatsOf (wide n) = some ((List.range n).map fun i : Nat => (i : Int)) := by
  obtain ⟨f, h1, h2, h3⟩ := wide_run n hn n 0 (List.replicate n 0) [] (by omega) (fun x => by constructor <;> intro h <;> first | (cases h; done) | omega) (by simp) (fun i hi => by omega)
  unfold seatsOf
  have hl : (wide n).length = n := by simp
  rw [rows_wide, hl, h1]
  congr 1
  apply List.ext_getElem
  · simp [h2]
  · intro i i1 i2
    have := h3 i (by omega)
    rw [List.getD_eq_getElem?_getD, List.getElem?_eq_getElem i1] at this
    have : f[i] = (i : Int) := this
    simp [this]
theorem wide_is : isSeated (wide 401) (.tuple [.str (Str.ofString "seats"), .list ((List.range 401).map fun i : Nat => .int (i : Int))]) = true := by decide +kernel
end M44
namespace K44
open PySem PySem.Spec PyProof.Rows L2 Hx Hd M44
open Evl (pss_cut tCut ex_l ex_t)
open L2H
theorem op_isnot_bl {X : Cx} : OpR X (compareOp .IsNot) (fun x y H Q => ∃ c d, x = .bl c ∧ y = .bl d ∧ Q (.bl (c != d)) H) := by
  intro pins s σ H x y v u Q I rx ry h
  obtain ⟨c, d, rfl, rfl, q⟩ := h
  cases rx
  cases ry
  exact isnot_bool (fin_bl I q rfl)
def BadV (K : PySem.W.Frag) (G : Hp) (v : V) : Prop := ∃ d, Dz K G v d ∧ isWins d = false ∧ ∀ ds, d = .list ds → ds.length ≤ 100
theorem dz_mono {K : PySem.W.Frag} {G G' : Hp} {v : V} {d : PyData} (h : Dz K G v d) (e : Ex G G') : Dz K G' v d := by
  rcases h with h | ⟨a, rfl, h, rfl⟩
  · exact .inl (ex_dp e _ _ h)
  · exact .inr ⟨a, rfl, e _ _ h, rfl⟩
theorem BadV.mono {K : PySem.W.Frag} {G G' : Hp} {v : V} (h : BadV K G v) (e : Ex G G') : BadV K G' v := by
  obtain ⟨d, h1, h2, h3⟩ := h
  exact ⟨d, dz_mono h1 e, h2, h3⟩
theorem enc_inj : ∀ {a b : List Wn}, a.map encP = b.map encP → a = b
  | [], [], _ => rfl
  | [], _ :: _, h => by cases h
  | _ :: _, [], h => by cases h
  | (a1, a2) :: a, (b1, b2) :: b, h => by
    rw [List.map_cons, List.map_cons] at h
    injection h with h1 h2
    have e1 : a1 = b1 ∧ a2 = b2 := by
      have : PyData.tuple [.int a1, .int a2] = PyData.tuple [.int b1, .int b2] := h1
      simpa using this
    rw [e1.1, e1.2, enc_inj h2]
theorem rg_ints (n : Nat) : rgV 0 (n : Int) = ((List.range n).map fun i : Nat => (i : Int)).map V.int := by
  unfold rgV
  rw [List.map_map]
  have : ((n : Int) - 0).toNat = n := by omega
  rw [this]
  refine List.map_congr_left fun i _ => ?_
  show V.int (0 + (i : Int)) = V.int (i : Int)
  rw [Int.zero_add]
/-- what the handler is for -/
def t_hand (K : PySem.W.Frag) : Addr → Value → Option Addr → TS := fun a cls d D σ H => σ[10]? = some (some (.ref a)) ∧
  ((∃ dd, cls = .ref (He.ga K "BadValue") ∧ d = some dd ∧ Hnd dd "name" "windows" H ∧ ∀ l p H2, H l = none → H p = none → Ex H H2 → H2 p = some (.tup [.str "windows"]) → H2 l = some (.lst [.str "raised", .str "BadValue", .ref p]) → D.nx (σ.set 9 (some (.ref l))) H2) ∨
   (∃ dd, cls = .ref (He.ga K "TooMany") ∧ d = some dd ∧ Hnd dd "word" "windows" H ∧ ∀ l p H2, H l = none → H p = none → Ex H H2 → H2 p = some (.tup [.str "windows"]) → H2 l = some (.lst [.str "raised", .str "TooMany", .ref p]) → D.nx (σ.set 9 (some (.ref l))) H2))
theorem dpSeats {K : PySem.W.Frag} {H : Hp} {t p : Addr} (n : Nat) (ht : H t = some (.tup [.str "seats", .ref p])) (hp : H p = some (.lst (rgV 0 (n : Int)))) : Dp K H (.ref t) (.tuple [.str "seats", .list (((List.range n).map fun i : Nat => (i : Int)).map PyData.int)]) := by
  rw [rg_ints] at hp
  exact .tup (SqT.of ht) (.cons (.str _) (.cons (.lst (SqL.of hp) (dpa_ints _)) .nil))
theorem smallSeats (n : Nat) (hn : n ≤ 100000) : Small (.tuple [.str "seats", .list (((List.range n).map fun i : Nat => (i : Int)).map PyData.int)]) := by
  intro ds e es hes
  cases e
  simp only [List.mem_cons, List.not_mem_nil, or_false] at hes
  rcases hes with h | h
  · cases h
  · cases h; simpa using hn
theorem nodes_ints : ∀ (l : List Int), nodesL (l.map PyData.int) = l.length
  | [] => by simp [nodesL]
  | i :: l => by rw [List.map_cons, nodesL, nodes_ints l, List.length_cons]; simp [nodes]; omega
theorem nodesSeats (n : Nat) (hn : n ≤ 1000) : nodes (.tuple [.str "seats", .list (((List.range n).map fun i : Nat => (i : Int)).map PyData.int)]) ≤ 100000 := by
  simp only [nodes, nodesL, nodes_ints, List.length_map, List.length_range]
  omega
theorem dpErr {K : PySem.W.Frag} {H : Hp} {l p : Addr} {nm : Str} (hl : H l = some (.lst [.str "raised", .str nm, .ref p])) (hp : H p = some (.tup [.str "windows"])) : Dp K H (.ref l) (.list [.str "raised", .str nm, .tuple [.str "windows"]]) :=
  .lst (SqL.of hl) (.cons (.str _) (.cons (.str _) (.cons (.tup (SqT.of hp) (.cons (.str _) .nil)) .nil)))
theorem wideIs : isSeated (wide 401) (.tuple [.str "seats", .list (((List.range 401).map fun i : Nat => (i : Int)).map PyData.int)]) = true := by
  have := wide_is
  rw [List.map_map]
  exact this
section
variable {P : Program} {w : World} {K : PySem.W.Frag} {mg : Str → Option Value} {base : Heap}
def spRef : Sp := fun vs H Q _ => ∃ (s L : Addr), vs = [.ref s] ∧ Strm H s L ∧ ∀ H2, Q (.bl true) H2
abbrev N_law_refusals : List Str := ["stream", "good", "bad", "many", "turn", "rows", "call", "windows", "due", "answer", "e"]
theorem sc_law_refusals : FnScope N_law_refusals ["stream"] (defScope (top 49)) := ⟨rfl, rfl, rfl, by decide +kernel, rfl, by decide +kernel, by decide +kernel⟩
theorem ok_ref (T : Txt K mg) (C__law_pick : Cal P w K mg base CX0 2 "_law_pick" ["stream", "rows"] (spPick K)) (C__law_same : Cal P w K mg base CX0 1 "_law_same" ["actual", "due"] (spSame K))
    (C_seated : Cal P w K mg base (L2.CX P w) 4 "seated" ["windows"] (spStd K)) (C_is_seated : Cal P w K mg base (L2.CX P w) 4 "is_seated" ["windows", "value"] (spIs K)) : Cal P w K mg base CX0 5 "_law_refusals" ["stream"] spRef := by
  obtain ⟨gS, fdS, kS, FS, bS⟩ := C_seated
  obtain ⟨gI, fdI, kI, FI, bI⟩ := C_is_seated
  refine mkCal T.g__law_refusals T.d__law_refusals sc_law_refusals (fun _ _ _ _ _ _ us hl => match us, hl with | [_], _ => rfl) (fun vs H Q E h => ?_) fun cdv A outer s0 H vs Q E hr h => ?_
  · obtain ⟨x, _, rfl, _⟩ := h; rfl
  obtain ⟨s, L, rfl, st, q⟩ := h
  have hrm : RoomH 4 (A.deeper (envOfC "_law_refusals" (defScope (top 49)) s0.heap.objs.size (He.ga K "_law_refusals") cdv)) := roomH_of hr
  refine ⟨_, (pss_cons (ps_set (i := 1) sc_law_refusals.nd rfl (Or.inl rfl) (pe_lst (pa_cons (pe_tup (pa_cons pe_int (pa_cons pe_int pa_nil))) (pa_cons (pe_tup (pa_cons pe_int (pa_cons pe_int pa_nil))) pa_nil))))
      (pss_cons (ps_set (i := 2) sc_law_refusals.nd rfl (Or.inl rfl) (pe_cal (E := E0) C__law_pick (hr.mono (by decide)) pass0 (pa_cons (pv 0) (pa_cons (pe_tup (pa_cons pe_non (pa_cons (pe_callTy (tupOf (K := K)) (by rfl) T.n_tuple (by decide +kernel) (pa_cons (pv 1) pa_nil)) (pa_cons (pe_lst (pa_cons (pe_lst (pa_cons pe_int (pa_cons pe_int pa_nil))) pa_nil)) (pa_cons (pe_lst (pa_cons (pe_tup (pa_cons pe_int (pa_cons pe_int (pa_cons pe_int pa_nil)))) pa_nil)) (pa_cons (pe_lst (pa_cons (pe_tup (pa_cons pe_int (pa_cons pe_bl pa_nil))) pa_nil)) (pa_cons (pe_op op_cat (pv 1) (pe_lst (pa_cons (pe_tup (pa_cons pe_str (pa_cons pe_int pa_nil))) pa_nil))) (pa_cons (pe_op op_cat (pv 1) (pe_lst (pa_cons pe_non pa_nil))) (pa_cons (pe_lst (pa_cons (pe_tup (pa_cons pe_int pa_nil)) pa_nil)) (pa_cons pe_dnewK (pa_cons pe_str (pa_cons (pe_op op_cat (pv 1) (pe_lst (pa_cons (pe_tup (pa_cons pe_int (pa_cons pe_non pa_nil))) pa_nil))) pa_nil)))))))))))) pa_nil))))
      (pss_cons (ps_setLc (i := 3) (own := [("turn", 4)]) (g := gName 4) rfl sc_law_refusals.nd rfl rfl (sw_true rfl rfl rfl (by decide +kernel)) (pi_range1 (by rfl) T.n_range (pa_cons pe_int pa_nil)) (blkOk_by (N := N_law_refusals) (sc := defScope (top 49)) (by decide +kernel)) (fun _ _ _ _ _ => (pg_name (i := 4) sc_law_refusals.nd rfl (Or.inl rfl))) (fun _ _ _ _ _ => pts_nil) (fun _ _ _ _ _ => (pe_tup (pa_cons pe_int (pa_cons pe_int pa_nil)))))
      (pss_cons (ps_set (i := 5) sc_law_refusals.nd rfl (Or.inl rfl) (pe_lst (pa_cons (pe_tup (pa_cons pe_str (pa_cons (pv 2) (pa_cons pe_str pa_nil)))) (pa_cons (pe_tup (pa_cons pe_str (pa_cons (pv 2) (pa_cons pe_str pa_nil)))) (pa_cons (pe_tup (pa_cons pe_str (pa_cons (pv 3) (pa_cons pe_str pa_nil)))) (pa_cons (pe_tup (pa_cons pe_str (pa_cons (pv 3) (pa_cons pe_str pa_nil)))) (pa_cons (pe_tup (pa_cons pe_str (pa_cons (pe_slice (slL (K := K)) (pv 3) (po_some pe_int) po_none) (pa_cons pe_str pa_nil)))) pa_nil)))))))
      (pss_cons (ps_for PassesOwn.never rfl (piL (K := K) (pv 5)) (pgTup (K := K) rfl (pgs_cons (pg_name (i := 6) sc_law_refusals.nd rfl (Or.inl rfl)) (pgs_cons (pg_name (i := 7) sc_law_refusals.nd rfl (Or.inl rfl)) (pgs_cons (pg_name (i := 8) sc_law_refusals.nd rfl (Or.inl rfl)) pgs_nil)))) (pss_cut (ps_try_as (i := 10) (tb := fun W => tAsg (tLst (tCons (tC (.str "told")) (tCons (tIf (tTest (tOp rEq (tVar 6) (tC (.str "seated")))) (tCallS (spStd K) (WE W) (tCons (tVar 7) tNil)) (tCallS (spIs K) (WE W) (tCons (tVar 7) (tCons (tTup (tCons (tC (.str "seats")) (tCons (tLstRg (tRg1 (tC (.int 401)))) tNil))) tNil)))) tNil))) (gName 9)) (ts := t_hand K) (Wout := fun _ _ _ _ => False) rfl rfl sc_law_refusals.nd rfl rfl ⟨rfl, by decide, Or.inl T.g_HoldError⟩ takes0
        (fun W pn xe tk _ => pss_one (ps_set (i := 9) sc_law_refusals.nd rfl (Or.inl rfl) (by exact (pe_lst (pa_cons pe_str (pa_cons (pe_ifExp (pt_cmpR op_eq (pv 6) pe_str (nomark _)) (by exact (pe_callS FS (hr.mono (by decide)) rfl gS kS bS (fun σ => passAt tk σ) (by exact (pa_cons (pv 7) pa_nil)))) (by exact (pe_callS FI (hr.mono (by decide)) rfl gI kI bI (fun σ => passAt tk σ) (by exact (pa_cons (pv 7) (pa_cons (pe_tup (pa_cons pe_str (pa_cons (pe_listRg rfl (by rfl) T.n_list (prg_1 (by rfl) T.n_range pe_int)) pa_nil))) pa_nil)))))) pa_nil))))))
        (fun a oe cls d pn hz hf => ⟨fun pins s σ H D I h => by
          obtain ⟨hσ, ⟨dd, e1, e2, hh, q⟩ | ⟨dd, e1, e2, hh, q⟩⟩ := h
          · exact PSs.run (t := tAsg (tCall (spErr a dd "name" "windows" "BadValue") [] E0 (tCons (tVar 10) tNil)) (gName 9)) (pss_one (ps_set (i := 9) sc_law_refusals.nd rfl (Or.inl rfl) (pe_calP (ok_errorBadValue (z := "windows") T (hz.1.trans e1) (hz.2.trans e2) hf) (.head _) ((roomH_mark hr (some (.ref a))).mono (by decide)) (pa_cons (pv 10) pa_nil)))) pins s σ H D I ⟨_, hσ, rfl, hh, fun l p H2 h1 h2 h3 h4 h5 => q l p H2 h1 h2 h3 h4 h5⟩
          · exact PSs.run (t := tAsg (tCall (spErr a dd "word" "windows" "TooMany") [] E0 (tCons (tVar 10) tNil)) (gName 9)) (pss_one (ps_set (i := 9) sc_law_refusals.nd rfl (Or.inl rfl) (pe_calP (ok_errorTooMany (z := "windows") T (hz.1.trans e1) (hz.2.trans e2) hf) (.head _) ((roomH_mark hr (some (.ref a))).mono (by decide)) (pa_cons (pv 10) pa_nil)))) pins s σ H D I ⟨_, hσ, rfl, hh, fun l p H2 h1 h2 h3 h4 h5 => q l p H2 h1 h2 h3 h4 h5⟩⟩))
      (pss_cons (ps_if (PW.pt (pw_and (pt_cmpR op_eq (pv 8) pe_str (nomark _)) (pw_and1 (PW.pt (pw_or (pt_cmpR op_ne (pe_ix (ixL (K := K)) (pv 9) pe_int (fun _ _ => rfl)) pe_str (nomark _)) (pw_or1 (PW.pt (pw_and (pt_cmpR op_eq (pv 6) pe_str (nomark _)) (pw_and1 (pt_cmpR op_isnot_bl (pe_ix (ixL (K := K)) (pv 9) pe_int (fun _ _ => rfl)) pe_bl (nomark _))))))))))) (pss_one (ps_ret pe_bl)) pss_nil)
      (pss_cons (ps_if (PW.pt (pw_and (pt_cmpR op_ne (pv 8) pe_str (nomark _)) (pw_and1 (pt_not (pt_val (pe_cal (E := E0) C__law_same (hr.mono (by decide)) pass0 (pa_cons (pv 9) (pa_cons (pe_lst (pa_cons pe_str (pa_cons (pv 8) (pa_cons (pe_tup (pa_cons pe_str pa_nil)) pa_nil)))) pa_nil)))))))) (pss_one (ps_ret pe_bl)) pss_nil)
      (pss_one (ps_if (PW.pt (pw_and (pt_cmpR op_eq (pv 8) pe_str (nomark _)) (pw_and (pt_cmpR op_eq (pv 6) pe_str (nomark _)) (pw_and1 (pt_not (pt_val (pe_cal (E := E0) C__law_same (hr.mono (by decide)) pass0 (pa_cons (pe_ix (ixL (K := K)) (pv 9) pe_int (fun _ _ => rfl)) (pa_cons (pe_tup (pa_cons pe_str (pa_cons (pe_listRg rfl (by rfl) T.n_list (prg_1 (by rfl) T.n_range pe_int)) pa_nil))) pa_nil))))))))) (pss_one (ps_ret pe_bl)) pss_nil))))))
      (pss_one (ps_ret pe_bl))))))), ?_⟩
  have sz : ∀ m : Nat, m ≤ 200000 → m < sizeLine := fun m h => Nat.lt_of_le_of_lt h (by decide)
  have szl : ∀ m : Nat, m ≤ 200000 → m ≤ sizeLine := fun m h => Nat.le_of_lt (sz m h)
  have n0 := Nr.start st
  generalize (fun a => if a = s then none else H a) = G0 at n0
  refine ⟨szl 2 (by omega), fun t1 ht1 => ?_⟩
  obtain ⟨n1, x1⟩ := n0.imm (o := .tup [.int 1, .int 4]) ht1
  have et1 : upd G0 t1 (.tup [.int 1, .int 4]) t1 = some (.tup [.int 1, .int 4]) := upd_same
  generalize upd G0 t1 (.tup [.int 1, .int 4]) = G1 at n1 x1 et1 
  generalize upd H t1 (.tup [.int 1, .int 4]) = H1 at n1 ⊢
  clear x1
  refine ⟨szl 2 (by omega), fun t2 ht2 => ?_⟩
  obtain ⟨n2, x2⟩ := n1.imm (o := .tup [.int 2, .int 2]) ht2
  have et2 : upd G1 t2 (.tup [.int 2, .int 2]) t2 = some (.tup [.int 2, .int 2]) := upd_same
  replace et1 := x2 _ _ et1
  generalize upd G1 t2 (.tup [.int 2, .int 2]) = G2 at n2 x2 et2 et1
  generalize upd H1 t2 (.tup [.int 2, .int 2]) = H2 at n2 ⊢
  clear n1 x2
  refine ⟨szl 2 (by omega), fun g hg => ?_⟩
  obtain ⟨n3, x3⟩ := n2.imm (o := .lst [.ref t1, .ref t2]) hg
  have eg : upd G2 g (.lst [.ref t1, .ref t2]) g = some (.lst [.ref t1, .ref t2]) := upd_same
  replace et1 := x3 _ _ et1
  replace et2 := x3 _ _ et2
  generalize upd G2 g (.lst [.ref t1, .ref t2]) = G3 at n3 x3 eg et1 et2
  generalize upd H2 g (.lst [.ref t1, .ref t2]) = H3 at n3 ⊢
  clear n2 x3
  refine ⟨_, rfl, _, rfl, g, _, rfl, .inl ⟨SqL.of (n3.e _ _ eg), fun p1 hp1 => ?_⟩⟩
  obtain ⟨n4, x4⟩ := n3.imm (o := .tup [.ref t1, .ref t2]) hp1
  have ep1 : upd G3 p1 (.tup [.ref t1, .ref t2]) p1 = some (.tup [.ref t1, .ref t2]) := upd_same
  replace et1 := x4 _ _ et1
  replace et2 := x4 _ _ et2
  replace eg := x4 _ _ eg
  generalize upd G3 p1 (.tup [.ref t1, .ref t2]) = G4 at n4 x4 ep1 et1 et2 eg
  generalize upd H3 p1 (.tup [.ref t1, .ref t2]) = H4 at n4 ⊢
  clear n3 x4
  have B1 : BadV K G4 (.ref p1) := ⟨.tuple [.tuple [.int 1, .int 4], .tuple [.int 2, .int 2]], .inl (.tup (SqT.of ep1) (.cons (.tup (SqT.of et1) (.cons (.int 1) (.cons (.int 4) .nil))) (.cons (.tup (SqT.of et2) (.cons (.int 2) (.cons (.int 2) .nil))) .nil))), rfl, fun ds e => by cases e <;> decide⟩
  refine ⟨szl 2 (by omega), fun a1 ha1 => ?_⟩
  obtain ⟨n5, x5⟩ := n4.imm (o := .lst [.int 1, .int 4]) ha1
  have ea1 : upd G4 a1 (.lst [.int 1, .int 4]) a1 = some (.lst [.int 1, .int 4]) := upd_same
  replace et1 := x5 _ _ et1
  replace et2 := x5 _ _ et2
  replace eg := x5 _ _ eg
  replace B1 := B1.mono x5
  generalize upd G4 a1 (.lst [.int 1, .int 4]) = G5 at n5 x5 ea1 et1 et2 eg B1
  generalize upd H4 a1 (.lst [.int 1, .int 4]) = H5 at n5 ⊢
  clear n4 x5
  refine ⟨szl 1 (by omega), fun a2 ha2 => ?_⟩
  obtain ⟨n6, x6⟩ := n5.imm (o := .lst [.ref a1]) ha2
  have ea2 : upd G5 a2 (.lst [.ref a1]) a2 = some (.lst [.ref a1]) := upd_same
  replace et1 := x6 _ _ et1
  replace et2 := x6 _ _ et2
  replace eg := x6 _ _ eg
  replace B1 := B1.mono x6
  replace ea1 := x6 _ _ ea1
  generalize upd G5 a2 (.lst [.ref a1]) = G6 at n6 x6 ea2 et1 et2 eg B1 ea1
  generalize upd H5 a2 (.lst [.ref a1]) = H6 at n6 ⊢
  clear n5 x6
  have B2 : BadV K G6 (.ref a2) := ⟨.list [.list [.int 1, .int 4]], .inl (.lst (SqL.of ea2) (.cons (.lst (SqL.of ea1) (.cons (.int 1) (.cons (.int 4) .nil))) .nil)), rfl, fun ds e => by cases e <;> decide⟩
  refine ⟨szl 3 (by omega), fun b1 hb1 => ?_⟩
  obtain ⟨n7, x7⟩ := n6.imm (o := .tup [.int 1, .int 4, .int 4]) hb1
  have eb1 : upd G6 b1 (.tup [.int 1, .int 4, .int 4]) b1 = some (.tup [.int 1, .int 4, .int 4]) := upd_same
  replace et1 := x7 _ _ et1
  replace et2 := x7 _ _ et2
  replace eg := x7 _ _ eg
  replace B1 := B1.mono x7
  replace B2 := B2.mono x7
  generalize upd G6 b1 (.tup [.int 1, .int 4, .int 4]) = G7 at n7 x7 eb1 et1 et2 eg B1 B2
  generalize upd H6 b1 (.tup [.int 1, .int 4, .int 4]) = H7 at n7 ⊢
  clear n6 x7
  refine ⟨szl 1 (by omega), fun b2 hb2 => ?_⟩
  obtain ⟨n8, x8⟩ := n7.imm (o := .lst [.ref b1]) hb2
  have eb2 : upd G7 b2 (.lst [.ref b1]) b2 = some (.lst [.ref b1]) := upd_same
  replace et1 := x8 _ _ et1
  replace et2 := x8 _ _ et2
  replace eg := x8 _ _ eg
  replace B1 := B1.mono x8
  replace B2 := B2.mono x8
  replace eb1 := x8 _ _ eb1
  generalize upd G7 b2 (.lst [.ref b1]) = G8 at n8 x8 eb2 et1 et2 eg B1 B2 eb1
  generalize upd H7 b2 (.lst [.ref b1]) = H8 at n8 ⊢
  clear n7 x8
  have B3 : BadV K G8 (.ref b2) := ⟨.list [.tuple [.int 1, .int 4, .int 4]], .inl (.lst (SqL.of eb2) (.cons (.tup (SqT.of eb1) (.cons (.int 1) (.cons (.int 4) (.cons (.int 4) .nil)))) .nil)), rfl, fun ds e => by cases e <;> decide⟩
  refine ⟨szl 2 (by omega), fun c1 hc1 => ?_⟩
  obtain ⟨n9, x9⟩ := n8.imm (o := .tup [.int 1, .bl true]) hc1
  have ec1 : upd G8 c1 (.tup [.int 1, .bl true]) c1 = some (.tup [.int 1, .bl true]) := upd_same
  replace et1 := x9 _ _ et1
  replace et2 := x9 _ _ et2
  replace eg := x9 _ _ eg
  replace B1 := B1.mono x9
  replace B2 := B2.mono x9
  replace B3 := B3.mono x9
  generalize upd G8 c1 (.tup [.int 1, .bl true]) = G9 at n9 x9 ec1 et1 et2 eg B1 B2 B3
  generalize upd H8 c1 (.tup [.int 1, .bl true]) = H9 at n9 ⊢
  clear n8 x9
  refine ⟨szl 1 (by omega), fun c2 hc2 => ?_⟩
  obtain ⟨n10, x10⟩ := n9.imm (o := .lst [.ref c1]) hc2
  have ec2 : upd G9 c2 (.lst [.ref c1]) c2 = some (.lst [.ref c1]) := upd_same
  replace et1 := x10 _ _ et1
  replace et2 := x10 _ _ et2
  replace eg := x10 _ _ eg
  replace B1 := B1.mono x10
  replace B2 := B2.mono x10
  replace B3 := B3.mono x10
  replace ec1 := x10 _ _ ec1
  generalize upd G9 c2 (.lst [.ref c1]) = G10 at n10 x10 ec2 et1 et2 eg B1 B2 B3 ec1
  generalize upd H9 c2 (.lst [.ref c1]) = H10 at n10 ⊢
  clear n9 x10
  have B4 : BadV K G10 (.ref c2) := ⟨.list [.tuple [.int 1, .bool true]], .inl (.lst (SqL.of ec2) (.cons (.tup (SqT.of ec1) (.cons (.int 1) (.cons (.bl true) .nil))) .nil)), rfl, fun ds e => by cases e <;> decide⟩
  refine ⟨_, rfl, szl 2 (by omega), fun d1 hd1 => ?_⟩
  obtain ⟨n11, x11⟩ := n10.imm (o := .tup [.str "1", .int 2]) hd1
  have ed1 : upd G10 d1 (.tup [.str "1", .int 2]) d1 = some (.tup [.str "1", .int 2]) := upd_same
  replace et1 := x11 _ _ et1
  replace et2 := x11 _ _ et2
  replace eg := x11 _ _ eg
  replace B1 := B1.mono x11
  replace B2 := B2.mono x11
  replace B3 := B3.mono x11
  replace B4 := B4.mono x11
  generalize upd G10 d1 (.tup [.str "1", .int 2]) = G11 at n11 x11 ed1 et1 et2 eg B1 B2 B3 B4
  generalize upd H10 d1 (.tup [.str "1", .int 2]) = H11 at n11 ⊢
  clear n10 x11
  refine ⟨szl 1 (by omega), fun d2 hd2 => ?_⟩
  obtain ⟨n12, x12⟩ := n11.imm (o := .lst [.ref d1]) hd2
  have ed2 : upd G11 d2 (.lst [.ref d1]) d2 = some (.lst [.ref d1]) := upd_same
  replace et1 := x12 _ _ et1
  replace et2 := x12 _ _ et2
  replace eg := x12 _ _ eg
  replace B1 := B1.mono x12
  replace B2 := B2.mono x12
  replace B3 := B3.mono x12
  replace B4 := B4.mono x12
  replace ed1 := x12 _ _ ed1
  generalize upd G11 d2 (.lst [.ref d1]) = G12 at n12 x12 ed2 et1 et2 eg B1 B2 B3 B4 ed1
  generalize upd H11 d2 (.lst [.ref d1]) = H12 at n12 ⊢
  clear n11 x12
  refine ⟨g, d2, _, _, rfl, rfl, n12.e _ _ eg, n12.e _ _ ed2, szl 3 (by omega), fun d3 hd3 => ?_⟩
  obtain ⟨n13, x13⟩ := n12.imm (o := .lst ([.ref t1, .ref t2] ++ [.ref d1])) hd3
  have ed3 : upd G12 d3 (.lst ([.ref t1, .ref t2] ++ [.ref d1])) d3 = some (.lst ([.ref t1, .ref t2] ++ [.ref d1])) := upd_same
  replace et1 := x13 _ _ et1
  replace et2 := x13 _ _ et2
  replace eg := x13 _ _ eg
  replace B1 := B1.mono x13
  replace B2 := B2.mono x13
  replace B3 := B3.mono x13
  replace B4 := B4.mono x13
  replace ed1 := x13 _ _ ed1
  replace ed2 := x13 _ _ ed2
  generalize upd G12 d3 (.lst ([.ref t1, .ref t2] ++ [.ref d1])) = G13 at n13 x13 ed3 et1 et2 eg B1 B2 B3 B4 ed1 ed2
  generalize upd H12 d3 (.lst ([.ref t1, .ref t2] ++ [.ref d1])) = H13 at n13 ⊢
  clear n12 x13
  have B5 : BadV K G13 (.ref d3) := ⟨.list [.tuple [.int 1, .int 4], .tuple [.int 2, .int 2], .tuple [.str "1", .int 2]], .inl (.lst (SqL.of ed3) (.cons (.tup (SqT.of et1) (.cons (.int 1) (.cons (.int 4) .nil))) (.cons (.tup (SqT.of et2) (.cons (.int 2) (.cons (.int 2) .nil))) (.cons (.tup (SqT.of ed1) (.cons (.str "1") (.cons (.int 2) .nil))) .nil)))), rfl, fun ds e => by cases e <;> decide⟩
  refine ⟨_, rfl, szl 1 (by omega), fun f2 hf2 => ?_⟩
  obtain ⟨n14, x14⟩ := n13.imm (o := .lst [.non]) hf2
  have ef2 : upd G13 f2 (.lst [.non]) f2 = some (.lst [.non]) := upd_same
  replace et1 := x14 _ _ et1
  replace et2 := x14 _ _ et2
  replace eg := x14 _ _ eg
  replace B1 := B1.mono x14
  replace B2 := B2.mono x14
  replace B3 := B3.mono x14
  replace B4 := B4.mono x14
  replace B5 := B5.mono x14
  generalize upd G13 f2 (.lst [.non]) = G14 at n14 x14 ef2 et1 et2 eg B1 B2 B3 B4 B5
  generalize upd H13 f2 (.lst [.non]) = H14 at n14 ⊢
  clear n13 x14
  refine ⟨g, f2, _, _, rfl, rfl, n14.e _ _ eg, n14.e _ _ ef2, szl 3 (by omega), fun f3 hf3 => ?_⟩
  obtain ⟨n15, x15⟩ := n14.imm (o := .lst ([.ref t1, .ref t2] ++ [.non])) hf3
  have ef3 : upd G14 f3 (.lst ([.ref t1, .ref t2] ++ [.non])) f3 = some (.lst ([.ref t1, .ref t2] ++ [.non])) := upd_same
  replace et1 := x15 _ _ et1
  replace et2 := x15 _ _ et2
  replace eg := x15 _ _ eg
  replace B1 := B1.mono x15
  replace B2 := B2.mono x15
  replace B3 := B3.mono x15
  replace B4 := B4.mono x15
  replace B5 := B5.mono x15
  replace ef2 := x15 _ _ ef2
  generalize upd G14 f3 (.lst ([.ref t1, .ref t2] ++ [.non])) = G15 at n15 x15 ef3 et1 et2 eg B1 B2 B3 B4 B5 ef2
  generalize upd H14 f3 (.lst ([.ref t1, .ref t2] ++ [.non])) = H15 at n15 ⊢
  clear n14 x15
  have B6 : BadV K G15 (.ref f3) := ⟨.list [.tuple [.int 1, .int 4], .tuple [.int 2, .int 2], .none], .inl (.lst (SqL.of ef3) (.cons (.tup (SqT.of et1) (.cons (.int 1) (.cons (.int 4) .nil))) (.cons (.tup (SqT.of et2) (.cons (.int 2) (.cons (.int 2) .nil))) (.cons .non .nil)))), rfl, fun ds e => by cases e <;> decide⟩
  refine ⟨szl 1 (by omega), fun h1 hh1 => ?_⟩
  obtain ⟨n16, x16⟩ := n15.imm (o := .tup [.int 1]) hh1
  have eh1 : upd G15 h1 (.tup [.int 1]) h1 = some (.tup [.int 1]) := upd_same
  replace et1 := x16 _ _ et1
  replace et2 := x16 _ _ et2
  replace eg := x16 _ _ eg
  replace B1 := B1.mono x16
  replace B2 := B2.mono x16
  replace B3 := B3.mono x16
  replace B4 := B4.mono x16
  replace B5 := B5.mono x16
  replace B6 := B6.mono x16
  generalize upd G15 h1 (.tup [.int 1]) = G16 at n16 x16 eh1 et1 et2 eg B1 B2 B3 B4 B5 B6
  generalize upd H15 h1 (.tup [.int 1]) = H16 at n16 ⊢
  clear n15 x16
  refine ⟨szl 1 (by omega), fun h2 hh2 => ?_⟩
  obtain ⟨n17, x17⟩ := n16.imm (o := .lst [.ref h1]) hh2
  have eh2 : upd G16 h2 (.lst [.ref h1]) h2 = some (.lst [.ref h1]) := upd_same
  replace et1 := x17 _ _ et1
  replace et2 := x17 _ _ et2
  replace eg := x17 _ _ eg
  replace B1 := B1.mono x17
  replace B2 := B2.mono x17
  replace B3 := B3.mono x17
  replace B4 := B4.mono x17
  replace B5 := B5.mono x17
  replace B6 := B6.mono x17
  replace eh1 := x17 _ _ eh1
  generalize upd G16 h2 (.lst [.ref h1]) = G17 at n17 x17 eh2 et1 et2 eg B1 B2 B3 B4 B5 B6 eh1
  generalize upd H16 h2 (.lst [.ref h1]) = H17 at n17 ⊢
  clear n16 x17
  have B7 : BadV K G17 (.ref h2) := ⟨.list [.tuple [.int 1]], .inl (.lst (SqL.of eh2) (.cons (.tup (SqT.of eh1) (.cons (.int 1) .nil)) .nil)), rfl, fun ds e => by cases e <;> decide⟩
  intro k1 hk1
  obtain ⟨n18, x18⟩ := n17.imm (o := .dK []) hk1
  have ek1 : upd G17 k1 (.dK []) k1 = some (.dK []) := upd_same
  replace et1 := x18 _ _ et1
  replace et2 := x18 _ _ et2
  replace eg := x18 _ _ eg
  replace B1 := B1.mono x18
  replace B2 := B2.mono x18
  replace B3 := B3.mono x18
  replace B4 := B4.mono x18
  replace B5 := B5.mono x18
  replace B6 := B6.mono x18
  replace B7 := B7.mono x18
  generalize upd G17 k1 (.dK []) = G18 at n18 x18 ek1 et1 et2 eg B1 B2 B3 B4 B5 B6 B7
  generalize upd H17 k1 (.dK []) = H18 at n18 ⊢
  clear n17 x18
  have B8 : BadV K G18 (.ref k1) := ⟨.dict [], .inr ⟨k1, rfl, ek1, rfl⟩, rfl, fun ds e => by cases e <;> decide⟩
  refine ⟨_, rfl, szl 2 (by omega), fun m1 hm1 => ?_⟩
  obtain ⟨n19, x19⟩ := n18.imm (o := .tup [.int 0, .non]) hm1
  have em1 : upd G18 m1 (.tup [.int 0, .non]) m1 = some (.tup [.int 0, .non]) := upd_same
  replace et1 := x19 _ _ et1
  replace et2 := x19 _ _ et2
  replace eg := x19 _ _ eg
  replace B1 := B1.mono x19
  replace B2 := B2.mono x19
  replace B3 := B3.mono x19
  replace B4 := B4.mono x19
  replace B5 := B5.mono x19
  replace B6 := B6.mono x19
  replace B7 := B7.mono x19
  replace B8 := B8.mono x19
  generalize upd G18 m1 (.tup [.int 0, .non]) = G19 at n19 x19 em1 et1 et2 eg B1 B2 B3 B4 B5 B6 B7 B8
  generalize upd H18 m1 (.tup [.int 0, .non]) = H19 at n19 ⊢
  clear n18 x19
  refine ⟨szl 1 (by omega), fun m2 hm2 => ?_⟩
  obtain ⟨n20, x20⟩ := n19.imm (o := .lst [.ref m1]) hm2
  have em2 : upd G19 m2 (.lst [.ref m1]) m2 = some (.lst [.ref m1]) := upd_same
  replace et1 := x20 _ _ et1
  replace et2 := x20 _ _ et2
  replace eg := x20 _ _ eg
  replace B1 := B1.mono x20
  replace B2 := B2.mono x20
  replace B3 := B3.mono x20
  replace B4 := B4.mono x20
  replace B5 := B5.mono x20
  replace B6 := B6.mono x20
  replace B7 := B7.mono x20
  replace B8 := B8.mono x20
  replace em1 := x20 _ _ em1
  generalize upd G19 m2 (.lst [.ref m1]) = G20 at n20 x20 em2 et1 et2 eg B1 B2 B3 B4 B5 B6 B7 B8 em1
  generalize upd H19 m2 (.lst [.ref m1]) = H20 at n20 ⊢
  clear n19 x20
  refine ⟨g, m2, _, _, rfl, rfl, n20.e _ _ eg, n20.e _ _ em2, szl 3 (by omega), fun m3 hm3 => ?_⟩
  obtain ⟨n21, x21⟩ := n20.imm (o := .lst ([.ref t1, .ref t2] ++ [.ref m1])) hm3
  have em3 : upd G20 m3 (.lst ([.ref t1, .ref t2] ++ [.ref m1])) m3 = some (.lst ([.ref t1, .ref t2] ++ [.ref m1])) := upd_same
  replace et1 := x21 _ _ et1
  replace et2 := x21 _ _ et2
  replace eg := x21 _ _ eg
  replace B1 := B1.mono x21
  replace B2 := B2.mono x21
  replace B3 := B3.mono x21
  replace B4 := B4.mono x21
  replace B5 := B5.mono x21
  replace B6 := B6.mono x21
  replace B7 := B7.mono x21
  replace B8 := B8.mono x21
  replace em1 := x21 _ _ em1
  replace em2 := x21 _ _ em2
  generalize upd G20 m3 (.lst ([.ref t1, .ref t2] ++ [.ref m1])) = G21 at n21 x21 em3 et1 et2 eg B1 B2 B3 B4 B5 B6 B7 B8 em1 em2
  generalize upd H20 m3 (.lst ([.ref t1, .ref t2] ++ [.ref m1])) = H21 at n21 ⊢
  clear n20 x21
  have B10 : BadV K G21 (.ref m3) := ⟨.list [.tuple [.int 1, .int 4], .tuple [.int 2, .int 2], .tuple [.int 0, .none]], .inl (.lst (SqL.of em3) (.cons (.tup (SqT.of et1) (.cons (.int 1) (.cons (.int 4) .nil))) (.cons (.tup (SqT.of et2) (.cons (.int 2) (.cons (.int 2) .nil))) (.cons (.tup (SqT.of em1) (.cons (.int 0) (.cons .non .nil))) .nil)))), rfl, fun ds e => by cases e <;> decide⟩
  have B0 : BadV K G21 .non := ⟨.none, .inl .non, rfl, fun ds e => by cases e <;> decide⟩
  have B9 : BadV K G21 (.str "") := ⟨.str "", .inl (.str _), rfl, fun ds e => by cases e <;> decide⟩
  refine ⟨szl 11 (by omega), fun q1 hq1 => ?_⟩
  obtain ⟨n22, x22⟩ := n21.imm (o := .tup [.non, .ref p1, .ref a2, .ref b2, .ref c2, .ref d3, .ref f3, .ref h2, .ref k1, .str "", .ref m3]) hq1
  have eq1 : upd G21 q1 (.tup [.non, .ref p1, .ref a2, .ref b2, .ref c2, .ref d3, .ref f3, .ref h2, .ref k1, .str "", .ref m3]) q1 = some (.tup [.non, .ref p1, .ref a2, .ref b2, .ref c2, .ref d3, .ref f3, .ref h2, .ref k1, .str "", .ref m3]) := upd_same
  replace et1 := x22 _ _ et1
  replace et2 := x22 _ _ et2
  replace eg := x22 _ _ eg
  replace B1 := B1.mono x22
  replace B2 := B2.mono x22
  replace B3 := B3.mono x22
  replace B4 := B4.mono x22
  replace B5 := B5.mono x22
  replace B6 := B6.mono x22
  replace B7 := B7.mono x22
  replace B8 := B8.mono x22
  replace B10 := B10.mono x22
  replace B0 := B0.mono x22
  replace B9 := B9.mono x22
  generalize upd G21 q1 (.tup [.non, .ref p1, .ref a2, .ref b2, .ref c2, .ref d3, .ref f3, .ref h2, .ref k1, .str "", .ref m3]) = G22 at n22 x22 eq1 et1 et2 eg B1 B2 B3 B4 B5 B6 B7 B8 B10 B0 B9
  generalize upd H21 q1 (.tup [.non, .ref p1, .ref a2, .ref b2, .ref c2, .ref d3, .ref f3, .ref h2, .ref k1, .str "", .ref m3]) = H22 at n22 ⊢
  clear n21 x22
  have nq : q1 ≠ s := fun z => by have := n22.gs; rw [← z, eq1] at this; cases this
  refine ⟨s, L, q1, _, rfl, n22.st, .inr (SqT.of (n22.e _ _ eq1)), nq, (show 1 ≤ 11 by decide), (show 11 < 1073741824 by decide), fun i x Hp1 hx kp1 st1 => ?_⟩
  have BX : BadV K G22 x := by
    have hx := List.mem_of_getElem? hx
    simp only [List.mem_cons, List.not_mem_nil, or_false] at hx
    rcases hx with rfl | rfl | rfl | rfl | rfl | rfl | rfl | rfl | rfl | rfl | rfl <;> assumption
  have nP := n22.next kp1 st1
  clear hx B0 B1 B2 B3 B4 B5 B6 B7 B8 B9 B10 eq1 et1 et2 eg n22
  generalize G22 = GP at nP BX
  refine ⟨401, rfl, by decide, by decide, fun D hD => ?_⟩
  refine lcW (M := NoM) walk_range nP.e (fun _ _ => trivial) (by decide) (fun i y G => Dp K G y (encP (0, 1000))) (dp_mono (enc := fun _ => encP (0, 1000))) (fun _ => true) (fun i => [some (.ref s), some (.ref g), some x, none, some (.int (i : Nat)), none, none, none, none, none, none])
    (fun i y G' H' H'' hj a' yy Q q => turn_range0 (σ0 := [some (.ref s), some (.ref g), some x, none, none, none, none, none, none, none, none]) (j := 4) a' yy q) (fun _ _ => rfl) (fun i G' H' hj a' Q q => yes_t a'.gh q) (fun i G' H' hj _ a' Q q => ⟨szl 2 (by omega), fun p hp => q _ _ _ (Stp.new a'.gh hp) (dp_pair (x := 0) (y := 1000) upd_same)⟩) (fun _ _ h => h) hD (fun ys G1 H1 a1 gD1 hD1 hsel => ?_)
  have hys : DpAll K G1 ys ((wide 401).map encP) := by
    have z := sel_dpa1 (enc := fun _ => encP (0, 1000)) hsel
    have e : (List.range (401 : Int).toNat).map (fun _ => encP (0, 1000)) = (wide 401).map encP := by
      rw [List.map_const', List.map_replicate, List.length_range]
      rfl
    rw [e] at z
    exact z
  have hyl : ys.length = 401 := by have := dpa_len hys; simpa using this
  have nQ := nP.stp (a1.fix hD hD1)
  have xQ := (a1.fix hD hD1).gg
  have gD : upd G1 D (.lst ys) D = some (.lst ys) := upd_same
  have hys2 := ex_dpa (Evl.Ex.new (o := .lst ys) gD1) hys
  have gW : Wns K (upd G1 D (.lst ys)) D (wide 401) := ⟨ys, SqL.of gD, hys2⟩
  have hcut : DpAll K (upd G1 D (.lst ys)) (cutV ys (some 1) none) ((wide 400).map encP) := by
    have ec : cutV ys (some 1) none = ys.drop 1 := by
      unfold cutV
      have e1 : HT.sIx ys.length 0 (some 1) = 1 := by
        have := HT.sIx_nat ys.length 0 1
        rw [hyl] at this ⊢
        exact this
      have e2 : HT.sIx ys.length ys.length none = ys.length := rfl
      rw [e1, e2, List.take_of_length_le (by rw [List.length_drop]; exact Nat.le_refl _)]
    rw [ec]
    have hw : (wide 401).map encP = encP (0, 1000) :: (wide 400).map encP := rfl
    rw [hw] at hys2
    cases hys2 with
    | cons _ h2 => exact h2
  replace BX := BX.mono xQ
  clear hsel a1 gD1 hys hys2 nP xQ hD hD1
  generalize upd G1 D (.lst ys) = GQ at nQ gD gW BX hcut
  refine ⟨_, rfl, szl 3 (by omega), fun r0 hr0 => ?_⟩
  obtain ⟨n201, x201⟩ := nQ.imm (o := .tup [.str "seated", x, .str "BadValue"]) hr0
  have er0 : upd GQ r0 (.tup [.str "seated", x, .str "BadValue"]) r0 = some (.tup [.str "seated", x, .str "BadValue"]) := upd_same
  replace BX := BX.mono x201
  replace gD := x201 _ _ gD
  replace gW := gW.keep x201
  replace hcut := ex_dpa x201 hcut
  generalize upd GQ r0 (.tup [.str "seated", x, .str "BadValue"]) = G201 at n201 x201 er0 BX gD gW hcut
  generalize upd H1 r0 (.tup [.str "seated", x, .str "BadValue"]) = H201 at n201 ⊢
  clear nQ x201
  refine ⟨_, rfl, szl 3 (by omega), fun r1 hr1 => ?_⟩
  obtain ⟨n202, x202⟩ := n201.imm (o := .tup [.str "is_seated", x, .str "BadValue"]) hr1
  have er1 : upd G201 r1 (.tup [.str "is_seated", x, .str "BadValue"]) r1 = some (.tup [.str "is_seated", x, .str "BadValue"]) := upd_same
  replace BX := BX.mono x202
  replace gD := x202 _ _ gD
  replace gW := gW.keep x202
  replace hcut := ex_dpa x202 hcut
  replace er0 := x202 _ _ er0
  generalize upd G201 r1 (.tup [.str "is_seated", x, .str "BadValue"]) = G202 at n202 x202 er1 BX gD gW hcut er0
  generalize upd H201 r1 (.tup [.str "is_seated", x, .str "BadValue"]) = H202 at n202 ⊢
  clear n201 x202
  refine ⟨_, rfl, szl 3 (by omega), fun r2 hr2 => ?_⟩
  obtain ⟨n203, x203⟩ := n202.imm (o := .tup [.str "seated", .ref D, .str "TooMany"]) hr2
  have er2 : upd G202 r2 (.tup [.str "seated", .ref D, .str "TooMany"]) r2 = some (.tup [.str "seated", .ref D, .str "TooMany"]) := upd_same
  replace BX := BX.mono x203
  replace gD := x203 _ _ gD
  replace gW := gW.keep x203
  replace hcut := ex_dpa x203 hcut
  replace er0 := x203 _ _ er0
  replace er1 := x203 _ _ er1
  generalize upd G202 r2 (.tup [.str "seated", .ref D, .str "TooMany"]) = G203 at n203 x203 er2 BX gD gW hcut er0 er1
  generalize upd H202 r2 (.tup [.str "seated", .ref D, .str "TooMany"]) = H203 at n203 ⊢
  clear n202 x203
  refine ⟨_, rfl, szl 3 (by omega), fun r3 hr3 => ?_⟩
  obtain ⟨n204, x204⟩ := n203.imm (o := .tup [.str "is_seated", .ref D, .str ""]) hr3
  have er3 : upd G203 r3 (.tup [.str "is_seated", .ref D, .str ""]) r3 = some (.tup [.str "is_seated", .ref D, .str ""]) := upd_same
  replace BX := BX.mono x204
  replace gD := x204 _ _ gD
  replace gW := gW.keep x204
  replace hcut := ex_dpa x204 hcut
  replace er0 := x204 _ _ er0
  replace er1 := x204 _ _ er1
  replace er2 := x204 _ _ er2
  generalize upd G203 r3 (.tup [.str "is_seated", .ref D, .str ""]) = G204 at n204 x204 er3 BX gD gW hcut er0 er1 er2
  generalize upd H203 r3 (.tup [.str "is_seated", .ref D, .str ""]) = H204 at n204 ⊢
  clear n203 x204
  refine ⟨_, rfl, 1, rfl, D, ys, rfl, SqL.of (n204.e _ _ gD), fun dc hdc => ?_⟩
  obtain ⟨n205, x205⟩ := n204.imm (o := .lst (cutV ys (some 1) none)) hdc
  have edc : upd G204 dc (.lst (cutV ys (some 1) none)) dc = some (.lst (cutV ys (some 1) none)) := upd_same
  replace BX := BX.mono x205
  replace gD := x205 _ _ gD
  replace gW := gW.keep x205
  replace hcut := ex_dpa x205 hcut
  replace er0 := x205 _ _ er0
  replace er1 := x205 _ _ er1
  replace er2 := x205 _ _ er2
  replace er3 := x205 _ _ er3
  generalize upd G204 dc (.lst (cutV ys (some 1) none)) = G205 at n205 x205 edc BX gD gW hcut er0 er1 er2 er3
  generalize upd H204 dc (.lst (cutV ys (some 1) none)) = H205 at n205 ⊢
  clear n204 x205
  refine ⟨szl 3 (by omega), fun r4 hr4 => ?_⟩
  obtain ⟨n206, x206⟩ := n205.imm (o := .tup [.str "seated", .ref dc, .str ""]) hr4
  have er4 : upd G205 r4 (.tup [.str "seated", .ref dc, .str ""]) r4 = some (.tup [.str "seated", .ref dc, .str ""]) := upd_same
  replace BX := BX.mono x206
  replace gD := x206 _ _ gD
  replace gW := gW.keep x206
  replace hcut := ex_dpa x206 hcut
  replace er0 := x206 _ _ er0
  replace er1 := x206 _ _ er1
  replace er2 := x206 _ _ er2
  replace er3 := x206 _ _ er3
  replace edc := x206 _ _ edc
  generalize upd G205 r4 (.tup [.str "seated", .ref dc, .str ""]) = G206 at n206 x206 er4 BX gD gW hcut er0 er1 er2 er3 edc
  generalize upd H205 r4 (.tup [.str "seated", .ref dc, .str ""]) = H206 at n206 ⊢
  clear n205 x206
  refine ⟨szl 5 (by omega), fun rw5 hrw5 => ?_⟩
  obtain ⟨n207, x207⟩ := n206.imm (o := .lst [.ref r0, .ref r1, .ref r2, .ref r3, .ref r4]) hrw5
  have erw : upd G206 rw5 (.lst [.ref r0, .ref r1, .ref r2, .ref r3, .ref r4]) rw5 = some (.lst [.ref r0, .ref r1, .ref r2, .ref r3, .ref r4]) := upd_same
  replace BX := BX.mono x207
  replace gD := x207 _ _ gD
  replace gW := gW.keep x207
  replace hcut := ex_dpa x207 hcut
  replace er0 := x207 _ _ er0
  replace er1 := x207 _ _ er1
  replace er2 := x207 _ _ er2
  replace er3 := x207 _ _ er3
  replace edc := x207 _ _ edc
  replace er4 := x207 _ _ er4
  generalize upd G206 rw5 (.lst [.ref r0, .ref r1, .ref r2, .ref r3, .ref r4]) = G207 at n207 x207 erw BX gD gW hcut er0 er1 er2 er3 edc er4
  generalize upd H206 rw5 (.lst [.ref r0, .ref r1, .ref r2, .ref r3, .ref r4]) = H207 at n207 ⊢
  clear n206 x207
  have gC : Wns K G207 dc (wide 400) := ⟨_, SqL.of edc, hcut⟩
  have nZ := n207
  clear n207 edc hcut gD
  generalize G207 = GZ at *
  generalize H207 = HZ at *
  refine ⟨_, rfl, rw5, rfl, ⟨_, SqL.of (nZ.e _ _ erw)⟩, ?_⟩
  refine for_it walk_list (fun i σ' H' => ∃ cv wv dv av, σ' = [some (.ref s), some (.ref g), some x, some (.ref D), none, some (.ref rw5), cv, wv, dv, av, none] ∧ Ex HZ H') ⟨none, none, none, none, rfl, Evl.Ex.refl _⟩ (fun i σ' H' hi ⟨_, _, _, _, _, e⟩ => ex_l e (SqL.of (nZ.e _ _ erw))) ?_ ?_
  · rintro i v σ' H' H5 hi ⟨cv, wv, dw, av, rfl, eH⟩ ⟨rfl, hv⟩
    have eG : Ex GZ H5 := nZ.e.trans eH
    have lenSmall : ∀ (m : Nat) (ds : List PyData), PyData.list ((wide m).map encP) = .list ds → ds.length = m := fun m ds e => by cases e; simp
    have wideI : ∀ (m : Nat) (ws : List Wn), PyData.list ((wide m).map encP) = .list (ws.map encP) → ws = wide m := fun m ws e => by
      have : (wide m).map encP = ws.map encP := by simpa using e
      exact (enc_inj this).symm
    have vS : Dp K HZ .non .none := .non
    rcases i with _ | _ | _ | _ | _ | i
    · obtain rfl := Option.some.inj hv
      refine ⟨r0, _, rfl, SqT.of (eG _ _ er0), rfl, _, _, rfl, _, _, rfl, _, _, rfl, rfl, ?_⟩
      refine ⟨fun σ' H' => ∃ l p, σ' = [some (.ref s), some (.ref g), some x, some (.ref D), none, some (.ref rw5), some (.str "seated"), some (x), some (.str "BadValue"), some (.ref l), none] ∧ Ex H5 H' ∧ H' p = some (.tup [.str "windows"]) ∧ H' l = some (.lst [.str "raised", .str "BadValue", .ref p]), ?_, ?_⟩
      · obtain ⟨dB, dz, hb, hlen⟩ := BX
        exact ⟨_, rfl, rfl, true, congrArg V.bl (by decide +kernel), _, rfl, x, dB, rfl, dz_mono dz eG, fun ds e => Nat.le_trans (hlen ds e) (by decide), fun _ => fun dx H6 e6 hn hx6 => ⟨true, T.x_BadValue.exm, fun _ aa haa => ⟨rfl, .inl ⟨dx, rfl, rfl, hx6, fun l p H7 hl hp e7 hp7 hl7 => ⟨l, p, rfl, ((Evl.Ex.refl H5).trans e6).trans e7, hp7, hl7⟩⟩⟩, fun z => nomatch z⟩, fun ws ed => by rw [ed, enc_isWins] at hb; cases hb⟩
      rintro σ' H6 ⟨l, p, rfl, e6, hp6, hl6⟩
      refine ⟨_, rfl, rfl, false, congrArg V.bl (by decide +kernel), ?_⟩
      refine ⟨_, rfl, rfl, true, congrArg V.bl (by decide +kernel), _, rfl, _, rfl, szl 1 (by omega), fun p2 hp2 => ⟨szl 3 (by omega), fun l2 hl2 => ?_⟩⟩
      have e67 : Ex H6 (upd (upd H6 p2 (.tup [.str "windows"])) l2 (.lst [.str "raised", .str "BadValue", .ref p2])) := (Evl.Ex.new hp2).trans (Evl.Ex.new hl2)
      have hp2' : upd (upd H6 p2 (.tup [.str "windows"])) l2 (.lst [.str "raised", .str "BadValue", .ref p2]) p2 = some (.tup [.str "windows"]) := by rw [upd_ne (ne_of_none upd_same hl2)]; exact upd_same
      refine ⟨.ref l, .ref l2, .list [.str "raised", .str "BadValue", .tuple [.str "windows"]], rfl, dpErr (e67 _ _ hl6) (e67 _ _ hp6), dpErr upd_same hp2', by simp [nodes, nodesL], fun H8 e8 => ⟨_, rfl, ?_⟩⟩
      refine ⟨_, rfl, rfl, false, congrArg V.bl (by decide +kernel), ?_⟩
      exact ⟨_, _, _, _, rfl, ((eH.trans e6).trans e67).trans e8⟩
    · obtain rfl := Option.some.inj hv
      refine ⟨r1, _, rfl, SqT.of (eG _ _ er1), rfl, _, _, rfl, _, _, rfl, _, _, rfl, rfl, ?_⟩
      refine ⟨fun σ' H' => ∃ l p, σ' = [some (.ref s), some (.ref g), some x, some (.ref D), none, some (.ref rw5), some (.str "is_seated"), some (x), some (.str "BadValue"), some (.ref l), none] ∧ Ex H5 H' ∧ H' p = some (.tup [.str "windows"]) ∧ H' l = some (.lst [.str "raised", .str "BadValue", .ref p]), ?_, ?_⟩
      · obtain ⟨dB, dz, hb, hlen⟩ := BX
        refine ⟨_, rfl, rfl, false, congrArg V.bl (by decide +kernel), _, rfl, 401, rfl, RgOk.of_le (by decide) (by decide) (by decide) (by decide), fun pr hpr => ⟨szl 2 (by omega), fun tt htt => ?_⟩⟩
        have e56 : Ex H5 (upd (upd H5 pr (.lst (rgV 0 401))) tt (.tup [.str "seats", .ref pr])) := (Evl.Ex.new hpr).trans (Evl.Ex.new htt)
        refine ⟨x, .ref tt, dB, .tuple [.str "seats", .list (((List.range 401).map fun i : Nat => (i : Int)).map PyData.int)], rfl, dz_mono dz (eG.trans e56), dpSeats 401 upd_same (by rw [upd_ne (ne_of_none upd_same htt)]; exact upd_same), smallSeats 401 (by decide), fun ds e => Nat.le_trans (hlen ds e) (by decide), fun _ => fun dx H6 e6 hn hx6 => ⟨true, T.x_BadValue.exm, fun _ aa haa => ⟨rfl, .inl ⟨dx, rfl, rfl, hx6, fun l p H7 hl hp e7 hp7 hl7 => ⟨l, p, rfl, (e56.trans e6).trans e7, hp7, hl7⟩⟩⟩, fun z => nomatch z⟩, fun ws ed => by rw [ed, enc_isWins] at hb; cases hb⟩
      rintro σ' H6 ⟨l, p, rfl, e6, hp6, hl6⟩
      refine ⟨_, rfl, rfl, false, congrArg V.bl (by decide +kernel), ?_⟩
      refine ⟨_, rfl, rfl, true, congrArg V.bl (by decide +kernel), _, rfl, _, rfl, szl 1 (by omega), fun p2 hp2 => ⟨szl 3 (by omega), fun l2 hl2 => ?_⟩⟩
      have e67 : Ex H6 (upd (upd H6 p2 (.tup [.str "windows"])) l2 (.lst [.str "raised", .str "BadValue", .ref p2])) := (Evl.Ex.new hp2).trans (Evl.Ex.new hl2)
      have hp2' : upd (upd H6 p2 (.tup [.str "windows"])) l2 (.lst [.str "raised", .str "BadValue", .ref p2]) p2 = some (.tup [.str "windows"]) := by rw [upd_ne (ne_of_none upd_same hl2)]; exact upd_same
      refine ⟨.ref l, .ref l2, .list [.str "raised", .str "BadValue", .tuple [.str "windows"]], rfl, dpErr (e67 _ _ hl6) (e67 _ _ hp6), dpErr upd_same hp2', by simp [nodes, nodesL], fun H8 e8 => ⟨_, rfl, ?_⟩⟩
      refine ⟨_, rfl, rfl, false, congrArg V.bl (by decide +kernel), ?_⟩
      exact ⟨_, _, _, _, rfl, ((eH.trans e6).trans e67).trans e8⟩
    · obtain rfl := Option.some.inj hv
      refine ⟨r2, _, rfl, SqT.of (eG _ _ er2), rfl, _, _, rfl, _, _, rfl, _, _, rfl, rfl, ?_⟩
      refine ⟨fun σ' H' => ∃ l p, σ' = [some (.ref s), some (.ref g), some x, some (.ref D), none, some (.ref rw5), some (.str "seated"), some (.ref D), some (.str "TooMany"), some (.ref l), none] ∧ Ex H5 H' ∧ H' p = some (.tup [.str "windows"]) ∧ H' l = some (.lst [.str "raised", .str "TooMany", .ref p]), ?_, ?_⟩
      · have dz : Dz K GZ (.ref D) (.list ((wide 401).map encP)) := by obtain ⟨zs, z1, z2⟩ := gW; exact .inl (.lst z1 z2)
        refine ⟨_, rfl, rfl, true, congrArg V.bl (by decide +kernel), _, rfl, .ref D, .list ((wide 401).map encP), rfl, dz_mono dz eG, fun ds e => by rw [lenSmall 401 ds e]; decide, fun hw => (by rw [enc_isWins] at hw; cases hw), fun ws ed => ?_⟩
        obtain rfl := wideI 401 ws ed
        exact ⟨fun _ => fun dx H6 e6 hn hx6 => ⟨true, T.x_TooMany.exm, fun _ aa haa => ⟨rfl, .inr ⟨dx, rfl, rfl, hx6, fun l p H7 hl hp e7 hp7 hl7 => ⟨l, p, rfl, ((Evl.Ex.refl H5).trans e6).trans e7, hp7, hl7⟩⟩⟩, fun z => nomatch z⟩, fun hle => absurd hle (by simp)⟩
      rintro σ' H6 ⟨l, p, rfl, e6, hp6, hl6⟩
      refine ⟨_, rfl, rfl, false, congrArg V.bl (by decide +kernel), ?_⟩
      refine ⟨_, rfl, rfl, true, congrArg V.bl (by decide +kernel), _, rfl, _, rfl, szl 1 (by omega), fun p2 hp2 => ⟨szl 3 (by omega), fun l2 hl2 => ?_⟩⟩
      have e67 : Ex H6 (upd (upd H6 p2 (.tup [.str "windows"])) l2 (.lst [.str "raised", .str "TooMany", .ref p2])) := (Evl.Ex.new hp2).trans (Evl.Ex.new hl2)
      have hp2' : upd (upd H6 p2 (.tup [.str "windows"])) l2 (.lst [.str "raised", .str "TooMany", .ref p2]) p2 = some (.tup [.str "windows"]) := by rw [upd_ne (ne_of_none upd_same hl2)]; exact upd_same
      refine ⟨.ref l, .ref l2, .list [.str "raised", .str "TooMany", .tuple [.str "windows"]], rfl, dpErr (e67 _ _ hl6) (e67 _ _ hp6), dpErr upd_same hp2', by simp [nodes, nodesL], fun H8 e8 => ⟨_, rfl, ?_⟩⟩
      refine ⟨_, rfl, rfl, false, congrArg V.bl (by decide +kernel), ?_⟩
      exact ⟨_, _, _, _, rfl, ((eH.trans e6).trans e67).trans e8⟩
    · obtain rfl := Option.some.inj hv
      refine ⟨r3, _, rfl, SqT.of (eG _ _ er3), rfl, _, _, rfl, _, _, rfl, _, _, rfl, rfl, ?_⟩
      refine ⟨fun σ' H' => ∃ l, σ' = [some (.ref s), some (.ref g), some x, some (.ref D), none, some (.ref rw5), some (.str "is_seated"), some (.ref D), some (.str ""), some (.ref l), none] ∧ Ex H5 H' ∧ H' l = some (.lst [.str "told", .bl true]), ?_, ?_⟩
      · have dz : Dz K GZ (.ref D) (.list ((wide 401).map encP)) := by obtain ⟨zs, z1, z2⟩ := gW; exact .inl (.lst z1 z2)
        refine ⟨_, rfl, rfl, false, congrArg V.bl (by decide +kernel), _, rfl, 401, rfl, RgOk.of_le (by decide) (by decide) (by decide) (by decide), fun pr hpr => ⟨szl 2 (by omega), fun tt htt => ?_⟩⟩
        have e56 : Ex H5 (upd (upd H5 pr (.lst (rgV 0 401))) tt (.tup [.str "seats", .ref pr])) := (Evl.Ex.new hpr).trans (Evl.Ex.new htt)
        refine ⟨.ref D, .ref tt, .list ((wide 401).map encP), .tuple [.str "seats", .list (((List.range 401).map fun i : Nat => (i : Int)).map PyData.int)], rfl, dz_mono dz (eG.trans e56), dpSeats 401 upd_same (by rw [upd_ne (ne_of_none upd_same htt)]; exact upd_same), smallSeats 401 (by decide), fun ds e => by rw [lenSmall 401 ds e]; decide, fun hw => (by rw [enc_isWins] at hw; cases hw), fun ws ed => ?_⟩
        obtain rfl := wideI 401 ws ed
        refine ⟨by simp, fun H7 e7 => ?_⟩
        rw [wideIs]
        exact ⟨szl 2 (by omega), fun l hl => ⟨l, rfl, (e56.trans e7).trans (Evl.Ex.new hl), upd_same⟩⟩
      rintro σ' H6 ⟨l, rfl, e6, hl6⟩
      refine ⟨_, rfl, rfl, true, congrArg V.bl (by decide +kernel), _, rfl, l, _, 0, _, rfl, rfl, SqL.of hl6, rfl, rfl, false, congrArg V.bl (by decide +kernel), _, rfl, rfl, true, congrArg V.bl (by decide +kernel), _, rfl, l, _, 1, _, rfl, rfl, SqL.of hl6, rfl, true, true, rfl, rfl, false, rfl, ?_⟩
      refine ⟨_, rfl, rfl, false, congrArg V.bl (by decide +kernel), ?_⟩
      refine ⟨_, rfl, rfl, true, congrArg V.bl (by decide +kernel), _, rfl, rfl, false, congrArg V.bl (by decide +kernel), ?_⟩
      exact ⟨_, _, _, _, rfl, eH.trans e6⟩
    · obtain rfl := Option.some.inj hv
      refine ⟨r4, _, rfl, SqT.of (eG _ _ er4), rfl, _, _, rfl, _, _, rfl, _, _, rfl, rfl, ?_⟩
      refine ⟨fun σ' H' => ∃ l t p, σ' = [some (.ref s), some (.ref g), some x, some (.ref D), none, some (.ref rw5), some (.str "seated"), some (.ref dc), some (.str ""), some (.ref l), none] ∧ Ex H5 H' ∧ H' l = some (.lst [.str "told", .ref t]) ∧ H' t = some (.tup [.str "seats", .ref p]) ∧ H' p = some (.lst (((List.range 400).map fun i : Nat => (i : Int)).map V.int)), ?_, ?_⟩
      · have dz : Dz K GZ (.ref dc) (.list ((wide 400).map encP)) := by obtain ⟨zs, z1, z2⟩ := gC; exact .inl (.lst z1 z2)
        refine ⟨_, rfl, rfl, true, congrArg V.bl (by decide +kernel), _, rfl, .ref dc, .list ((wide 400).map encP), rfl, dz_mono dz eG, fun ds e => by rw [lenSmall 400 ds e]; decide, fun hw => (by rw [enc_isWins] at hw; cases hw), fun ws ed => ?_⟩
        obtain rfl := wideI 400 ws ed
        refine ⟨fun h => absurd h (by simp), fun _ => ?_⟩
        unfold Std
        rw [wide_seats 400 (by decide)]
        intro t p H7 ht hp e7 ht7 hp7
        refine ⟨szl 2 (by omega), fun l hl => ⟨l, t, p, rfl, e7.trans (Evl.Ex.new hl), upd_same, ?_, ?_⟩⟩
        · rw [upd_ne (ne_of_none ht7 hl)]; exact ht7
        · rw [upd_ne (ne_of_none hp7 hl)]; exact hp7
      rintro σ' H6 ⟨l, t, p, rfl, e6, hl6, ht6, hp6⟩
      refine ⟨_, rfl, rfl, true, congrArg V.bl (by decide +kernel), _, rfl, l, _, 0, _, rfl, rfl, SqL.of hl6, rfl, rfl, false, congrArg V.bl (by decide +kernel), _, rfl, rfl, false, congrArg V.bl (by decide +kernel), ?_⟩
      refine ⟨_, rfl, rfl, false, congrArg V.bl (by decide +kernel), ?_⟩
      refine ⟨_, rfl, rfl, true, congrArg V.bl (by decide +kernel), _, rfl, rfl, true, congrArg V.bl (by decide +kernel), _, rfl, l, _, 1, _, rfl, rfl, SqL.of hl6, rfl, 400, rfl, RgOk.of_le (by decide) (by decide) (by decide) (by decide), fun pr hpr => ⟨szl 2 (by omega), fun tt htt => ?_⟩⟩
      have e67 : Ex H6 (upd (upd H6 pr (.lst (rgV 0 400))) tt (.tup [.str "seats", .ref pr])) := (Evl.Ex.new hpr).trans (Evl.Ex.new htt)
      refine ⟨.ref t, .ref tt, .tuple [.str "seats", .list (((List.range 400).map fun i : Nat => (i : Int)).map PyData.int)], rfl, ?_, dpSeats 400 upd_same (by rw [upd_ne (ne_of_none upd_same htt)]; exact upd_same), nodesSeats 400 (by decide), fun H8 e8 => ⟨_, rfl, ⟨_, _, _, _, rfl, ((eH.trans e6).trans e67).trans e8⟩⟩⟩
      exact .tup (SqT.of (e67 _ _ ht6)) (.cons (.str _) (.cons (.lst (SqL.of (e67 _ _ hp6)) (dpa_ints _)) .nil))
    · simp at hv
  · rintro σ' H6 ⟨cv, wv, dw, av, rfl, e⟩
    exact q H6
end
end K44
namespace K44
open PySem PySem.Spec PyProof.Rows L2 Hx Hd M44
open Evl (pss_cut tCut ex_l ex_t)
/-! what the law's rows know -/
theorem sqt_drop {K : PySem.W.Frag} {H : Hp} {s r : Addr} {zs xs : List V} (h : H s = some (.lst zs)) (q : SqT K H r xs) : SqT K (fun a => if a = s then none else H a) r xs := by
  rcases q with (q | ⟨o, q⟩) | q
  · have : r ≠ s := fun z => by rw [z, h] at q; cases q
    exact .inl (.inl (by simp [this, q]))
  · have : r ≠ s := fun z => by rw [z, h] at q; cases q
    exact .inl (.inr ⟨o, by simp [this, q]⟩)
  · exact .inr q
theorem dpa_drop {K : PySem.W.Frag} {H : Hp} {s : Addr} {zs : List V} (h : H s = some (.lst zs)) : ∀ {ys : List V} {ws : List Wn}, DpAll K H ys (ws.map encP) → DpAll K (fun a => if a = s then none else H a) ys (ws.map encP)
  | _, [], q => by cases q; exact .nil
  | _, w :: ws, q => by
    cases q with
    | cons q1 q2 =>
      refine .cons ?_ (dpa_drop h q2)
      cases q1 with
      | tup t1 t2 =>
        cases t2 with
        | cons u1 u2 => cases u2 with
          | cons u2 u3 =>
            cases u3; cases u1; cases u2
            exact .tup (sqt_drop h t1) (.cons (.int _) (.cons (.int _) .nil))
theorem optV_some (ns : List Int) : (ns.map some).map optV = ns.map V.int := by rw [List.map_map]; rfl
/-- the answer that is due -/
def Ans (K : PySem.W.Frag) (G : Hp) (ws : List Wn) (sv dv : V) : Prop :=
  (∃ fa ns seats l t, sv = .ref fa ∧ G fa = some (.lst ((ns : List Int).map V.int)) ∧ ns.length = ws.length ∧ seatsOf ws = some seats ∧ seats.length = ws.length ∧ dv = .ref t ∧ G t = some (.tup [.str "seats", .ref l]) ∧ G l = some (.lst (seats.map V.int))) ∨
  (∃ lo hi pl c l, sv = .non ∧ seatsOf ws = none ∧ crowdOf ws = some (lo, hi, pl) ∧ 1 ≤ pl.length ∧ pl.length ≤ ws.length ∧ dv = .ref c ∧ G c = some (.tup [.str "crowd", .int lo, .int hi, .ref l]) ∧ G l = some (.lst (pl.map V.int)))
theorem Ans.mono {K : PySem.W.Frag} {G G' : Hp} {ws : List Wn} {sv dv : V} (h : Ans K G ws sv dv) (e : Ex G G') : Ans K G' ws sv dv := by
  rcases h with ⟨fa, ns, seats, l, t, h1, h2, h3, h4, h5, h6, h7, h8⟩ | ⟨lo, hi, pl, c, l, h1, h2, h3, h4, h5, h6, h7, h8⟩
  · exact .inl ⟨fa, ns, seats, l, t, h1, e _ _ h2, h3, h4, h5, h6, e _ _ h7, e _ _ h8⟩
  · exact .inr ⟨lo, hi, pl, c, l, h1, h2, h3, h4, h5, h6, e _ _ h7, e _ _ h8⟩
theorem crowd_rows {ws : List Wn} {lo hi : Int} {pl : List Int} (h : crowdOf ws = some (lo, hi, pl)) : 1 ≤ pl.length ∧ pl.length ≤ ws.length := by
  obtain ⟨k, hk, l2, hg, e, _⟩ := crowdRun_some' (sorted_le _) h
  obtain ⟨rfl, rfl, rfl⟩ : lo = l2 ∧ hi = k ∧ pl = inside ws l2 k := by simpa using e
  refine ⟨?_, insLen ws lo hi⟩
  have mem : ∀ (l : List Int) (n : Nat) {x : Int}, firstLow hi l n = some x → x ∈ l := by
    intro l
    induction l with
    | nil => intro n x h; cases h
    | cons y l ih =>
      intro n x h
      have h : (if (n : Int) + 1 > cnt y hi then some y else firstLow hi l (n + 1)) = some x := h
      by_cases hc : (n : Int) + 1 > cnt y hi
      · rw [if_pos hc] at h; cases h; exact .head _
      · rw [if_neg hc] at h; exact .tail _ (ih (n + 1) h)
  have hm := (List.mergeSort_perm _ _).mem_iff.mp (mem _ 0 hg)
  obtain ⟨w, hw, rfl⟩ := List.mem_map.mp hm
  obtain ⟨hw1, hw2⟩ := List.mem_filter.mp hw
  obtain ⟨i, hi2, e2⟩ := List.getElem_of_mem hw1
  have : (i : Nat) ∈ inN ws w.1 hi := mem_inN.mpr ⟨hi2, by
    show w.1 ≤ (ws.getD i (0, 0)).1
    rw [List.getD_eq_getElem?_getD, List.getElem?_eq_getElem hi2]
    show w.1 ≤ ws[i].1
    rw [e2]; exact Int.le_refl _, by
    show (ws.getD i (0, 0)).2 ≤ hi
    rw [List.getD_eq_getElem?_getD, List.getElem?_eq_getElem hi2]
    show ws[i].2 ≤ hi
    rw [e2]; exact of_decide_eq_true hw2⟩
  rw [inside_len]
  exact List.length_pos_of_mem this
theorem flt_ints (l : List Int) (h : l.length ≤ 10000) : Flt (.list (l.map PyData.int)) := .inr ⟨l.map V.int, .inl (by rw [List.map_map]; rfl), by rw [List.length_map]; exact h⟩
theorem flt_atomS (z : Str) : Flt (.str z) := .inl fun ds => ⟨fun h => (nomatch h), fun h => (nomatch h)⟩
theorem flt_atomI (i : Int) : Flt (.int i) := .inl fun ds => ⟨fun h => (nomatch h), fun h => (nomatch h)⟩
theorem ans_dp {K : PySem.W.Frag} {G : Hp} {ws : List Wn} {sv dv : V} (h : Ans K G ws sv dv) (hw : ws.length ≤ 1000) : ∃ dd, Dp K G dv dd ∧ Okd dd ∧ nodes dd ≤ 100000 ∧
    ∀ (Q : VK) (H : Hp), (∀ t xs l zs H2, H t = none → H l = none → Ex H H2 → H2 t = some (.tup xs) → xs[xs.length - 1]? = some (.ref l) → 1 ≤ xs.length → xs.length ≤ 4 → H2 l = some (.lst zs) → zs.length ≤ 1000 → Dp K H2 (.ref t) dd → Q (.ref t) H2) → Std Q H ws := by
  rcases h with ⟨fa, ns, seats, l, t, h1, h2, h3, h4, h5, rfl, h7, h8⟩ | ⟨lo, hi, pl, c, l, h1, h2, h3, h4, h5, rfl, h7, h8⟩
  · refine ⟨.tuple [.str "seats", .list (seats.map PyData.int)], .tup (SqT.of h7) (.cons (.str _) (.cons (.lst (SqL.of h8) (dpa_ints _)) .nil)), okd_row (.inl rfl) (by simp) fun u hu => ?_, ?_, fun Q H q => ?_⟩
    · simp only [List.mem_cons, List.not_mem_nil, or_false] at hu
      rcases hu with rfl | rfl
      · exact flt_atomS _
      · exact flt_ints _ (by omega)
    · simp only [nodes, nodesL, nodes_ints]; omega
    · unfold Std
      rw [h4]
      intro p l2 H2 n1 n2 e2 hp hl
      exact q p _ l2 _ H2 n1 n2 e2 hp rfl (show 1 ≤ 2 by decide) (show 2 ≤ 4 by decide) hl (by rw [List.length_map]; omega) (.tup (SqT.of hp) (.cons (.str _) (.cons (.lst (SqL.of hl) (dpa_ints _)) .nil)))
  · refine ⟨.tuple [.str "crowd", .int lo, .int hi, .list (pl.map PyData.int)], .tup (SqT.of h7) (.cons (.str _) (.cons (.int _) (.cons (.int _) (.cons (.lst (SqL.of h8) (dpa_ints _)) .nil)))), okd_row (.inl rfl) (by simp) fun u hu => ?_, ?_, fun Q H q => ?_⟩
    · simp only [List.mem_cons, List.not_mem_nil, or_false] at hu
      rcases hu with rfl | rfl | rfl | rfl
      · exact flt_atomS _
      · exact flt_atomI _
      · exact flt_atomI _
      · exact flt_ints _ (by omega)
    · simp only [nodes, nodesL, nodes_ints]; omega
    · unfold Std
      rw [h2, h3]
      intro p l2 H2 n1 n2 e2 hp hl
      exact q p _ l2 _ H2 n1 n2 e2 hp rfl (show 1 ≤ 4 by decide) (show 4 ≤ 4 by decide) hl (show (pl.map V.int).length ≤ 1000 by rw [List.length_map]; omega) (.tup (SqT.of hp) (.cons (.str _) (.cons (.int _) (.cons (.int _) (.cons (.lst (SqL.of hl) (dpa_ints _)) .nil)))))
/-- two parts that stand still -/
theorem Nr.union {H0 H1 G G2 H2 : Hp} {s L : Addr} (n : Nr H0 G H1 s L) (m : Nr H1 G2 H2 s L) : ∃ U, Nr H0 U H2 s L ∧ Ex G U ∧ Ex G2 U ∧ ∀ p, G p = none → G2 p = none → U p = none := by
  have n2 := n.next m.kp m.st
  refine ⟨fun a => match G a with | some o => some o | none => G2 a, ⟨fun a o h => ?_, ?_, n2.kp, n2.st, n2.st0⟩, fun a o h => ?_, fun a o h => ?_, fun p h1 h2 => ?_⟩
  · cases e : G a with
    | some u => simp only [e] at h; rw [← h]; exact n2.e a u e
    | none => simp only [e] at h; exact m.e a o h
  · simp only [n.gs, m.gs]
  · simp only [h]
  · cases e : G a with
    | some u =>
      have h1 := n2.e a u e
      have h2 := m.e a o h
      rw [h1] at h2
      simp only [e]; exact h2
    | none => simp only [e]; exact h
  · simp only [h1, h2]
end K44
namespace K44
open PySem PySem.Spec PyProof.Rows L2 Hx Hd M44
open Evl (pss_cut tCut ex_l ex_t)
section
variable {P : Program} {w : World} {K : PySem.W.Frag} {mg : Str → Option Value} {base : Heap}
theorem nodes_pairs : ∀ (ws : List Wn), nodesL (ws.map encP) = 3 * ws.length
  | [] => by simp [nodesL]
  | w :: ws => by rw [List.map_cons, nodesL, nodes_pairs ws, List.length_cons]; simp [nodes, nodesL]; omega
def spLaw (K : PySem.W.Frag) : Sp := fun vs H Q _ => ∃ (a : Addr) (ns : List Int), vs = [.ref a] ∧ SqL K H a (ns.map V.int) ∧ ns.length ≤ 63 ∧ ∀ H', Q (.bl true) H'
abbrev Nlaw : List Str := ["script", "stream", "kind", "windows", "swept", "due", "passed", "turn", "answer", "told", "one", "low", "high", "inside", "value"]
theorem sclaw : FnScope Nlaw ["script"] (defScope (top 50)) := ⟨rfl, rfl, rfl, by decide +kernel, rfl, by decide +kernel, by decide +kernel⟩
theorem mkFn {x : Str} {st : Stmt} {N ps : List Str} {k : Nat} {sp : Sp} {fd : FuncData} (F : FunD K x x (defArgs st) (defBody st) (defScope st) [] [] (He.ga K x) fd) (sc : FnScope N ps (defScope st))
    (len : ∀ vs H Q E, sp vs H Q E → vs.length = ps.length)
    (body : ∀ (cdv : Value) (A : Around) (outer : List Env) (s : Shared) (H : Hp) (vs : List V) (Q : VK) (E : XK), Room k (A.deeper (envOfC x (defScope st) s.heap.objs.size (He.ga K x) cdv)) → sp vs H Q E →
      ∃ t, PSs (cxOf CX0 P w K mg base N x (defScope st) (He.ga K x) cdv A outer s H E).nox (defBody st) t ∧ t { nx := fun _ H' => Q .non H', rt := Q } (start N vs) H) : FnOk P w K mg base CX0 (k + 1) (He.ga K x) fd ps sp :=
  F.ok sc len fun cdv A outer s H vs Q E hr h => by
    obtain ⟨t, a, b⟩ := body cdv A outer s H vs Q E hr h
    exact ⟨t, a.nox, b⟩
theorem ok_law (T : Txt K mg) {fd : FuncData} (F : FunD K "law" "law" (defArgs (top 50)) (defBody (top 50)) (defScope (top 50)) [] [] (He.ga K "law") fd) : FnOk P w K mg base CX0 6 (He.ga K "law") fd ["script"] (spLaw K) := by
  have C__law_next := ok_next (P := P) (w := w) (base := base) T
  have C__law_stream := ok_stream (P := P) (w := w) (base := base) T
  have C__law_pick := ok_pick T C__law_next
  have C_num := ok_number (P := P) (w := w) (base := base) T
  have C_check := ok_check T (ok_window T C_num)
  have C_cnt := ok_cnt (P := P) (w := w) (base := base) T
  have C_seated := ok_seated T C_check (ok_seats T) (ok_crowd T (ok_gl T C_cnt))
  have C_is_seated := ok_isseated T C_check (ok_are T C_num) (ok_iscrowd T C_num C_cnt)
  have C__law_same := ok_same (P := P) (w := w) (base := base) T
  have C__law_copy := ok_copyS T (ok_copyS T (ok_copy0 (P := P) (w := w) (base := base) T))
  have C__law_refusals := ok_ref T C__law_pick C__law_same C_seated C_is_seated
  have C__law_some_windows := ok_some T C__law_next C__law_pick (ok_shuf T C__law_next)
  have C__law_swept := ok_swept (P := P) (w := w) (base := base) T
  have C__law_told_seats := ok_toldseats (P := P) (w := w) (base := base) T
  have C__law_inside_places := ok_inside (P := P) (w := w) (base := base) T
  have C__law_count := ok_count (P := P) (w := w) (base := base) T
  have C__law_told_crowd := ok_toldcrowd T C__law_count C__law_inside_places
  have C__law_right := ok_right T (ok_lnum T) (ok_word T) (ok_row T) C__law_count
  have C__law_near_seats := ok_nears T C__law_next
  have C__law_near_crowds := ok_nearc T C__law_next C__law_inside_places
  refine mkFn F sclaw (fun vs H Q E h => ?_) fun cdv A outer s0 H vs Q E hr h => ?_
  · obtain ⟨a, _, rfl, _⟩ := h; rfl
  obtain ⟨sc, sn, rfl, hsc, hsl, q⟩ := h
  refine ⟨_, (pss_cons (ps_set (i := 1) sclaw.nd rfl (Or.inl rfl) (pe_cal (E := E0) C__law_stream (hr.mono (by decide)) pass0 (pa_cons (pv 0) pa_nil)))
      (pss_cons (ps_set (i := 2) sclaw.nd rfl (Or.inl rfl) (pe_cal (E := E0) C__law_next (hr.mono (by decide)) pass0 (pa_cons (pv 1) (pa_cons pe_int pa_nil))))
      (pss_cons (ps_if (pt_cmpR op_lt (pv 2) pe_int (nomark _)) (pss_one (ps_ret (pe_cal (E := E0) C__law_refusals (hr.mono (by decide)) pass0 (pa_cons (pv 1) pa_nil)))) pss_nil)
      (pss_cut (ps_if (pt_cmpR op_eq (pv 2) pe_int (nomark _)) (pss_one (ps_set (i := 3) sclaw.nd rfl (Or.inl rfl) (pe_cal (E := E0) C__law_some_windows (hr.mono (by decide)) pass0 (pa_cons (pv 1) (pa_cons pe_int (pa_cons pe_int (pa_cons pe_int pa_nil))))))) (pss_one (ps_set (i := 3) sclaw.nd rfl (Or.inl rfl) (pe_cal (E := E0) C__law_some_windows (hr.mono (by decide)) pass0 (pa_cons (pv 1) (pa_cons (pe_cal (E := E0) C__law_pick (hr.mono (by decide)) pass0 (pa_cons (pv 1) (pa_cons (pe_tup (pa_cons pe_int (pa_cons pe_int (pa_cons pe_int (pa_cons pe_int (pa_cons pe_int (pa_cons pe_int (pa_cons pe_int (pa_cons pe_int (pa_cons pe_int pa_nil)))))))))) pa_nil))) (pa_cons (pe_cal (E := E0) C__law_pick (hr.mono (by decide)) pass0 (pa_cons (pv 1) (pa_cons (pe_tup (pa_cons pe_int (pa_cons pe_int (pa_cons pe_int (pa_cons pe_int pa_nil))))) pa_nil))) (pa_cons (pe_cal (E := E0) C__law_pick (hr.mono (by decide)) pass0 (pa_cons (pv 1) (pa_cons (pe_tup (pa_cons pe_int (pa_cons pe_int (pa_cons pe_int (pa_cons pe_int (pa_cons pe_int pa_nil)))))) pa_nil))) pa_nil))))))))
      (pss_cut (ps_set (i := 4) sclaw.nd rfl (Or.inl rfl) (pe_cal (E := E0) C__law_swept (hr.mono (by decide)) pass0 (pa_cons (pv 3) pa_nil)))
      (pss_cut (ps_set (i := 5) sclaw.nd rfl (Or.inl rfl) (pe_ifExp (pt_cmpR op_notN (pv 4) pe_non (nomark _)) (pe_tup (pa_cons pe_str (pa_cons (pe_cal (E := E0) C__law_told_seats (hr.mono (by decide)) pass0 (pa_cons (pv 3) pa_nil)) pa_nil))) (pe_cal (E := E0) C__law_told_crowd (hr.mono (by decide)) pass0 (pa_cons (pv 3) pa_nil))))
      (pss_cons (ps_set (i := 6) sclaw.nd rfl (Or.inl rfl) (pe_callTy (listOf (K := K)) (by rfl) T.n_list (by decide +kernel) (pa_cons (pv 3) pa_nil)))
      (pss_cons (ps_for PassesOwn.never rfl (pi_range1 (by rfl) T.n_range (pa_cons pe_int pa_nil)) (pg_name (i := 7) sclaw.nd rfl (Or.inl rfl)) (pss_cons (ps_set (i := 8) sclaw.nd rfl (Or.inl rfl) (pe_cal (E := E0) C_seated (hr.mono (by decide)) passL (pa_cons (pv 6) pa_nil)))
      (pss_cons (ps_if (pt_not (pt_val (pe_cal (E := E0) C__law_same (hr.mono (by decide)) pass0 (pa_cons (pv 8) (pa_cons (pv 5) pa_nil))))) (pss_one (ps_ret pe_bl)) pss_nil)
      (pss_one (ps_expr (pe_bm PySem.F.plainAttrs_list PySem.F.slot_list_append PySem.F.type_list_append mt_append (pe_ix (ixT (K := K)) (pv 8) (pe_op op_sub (pe_callB (lenL (K := K)) (by rfl) T.n_len PySem.boot_len (pa_cons (pv 8) pa_nil)) pe_int) (fun _ _ => rfl)) (pa_cons pe_int pa_nil)))))))
      (pss_cut (ps_set (i := 9) sclaw.nd rfl (Or.inl rfl) (pe_ifExp (pt_cmpR op_notN (pv 4) pe_non (nomark _)) (pe_cal (E := E0) C__law_near_seats (hr.mono (by decide)) pass0 (pa_cons (pv 1) (pa_cons (pv 4) pa_nil))) (pe_cal (E := E0) C__law_near_crowds (hr.mono (by decide)) pass0 (pa_cons (pv 1) (pa_cons (pv 3) (pa_cons (pv 5) pa_nil))))))
      (pss_cons (ps_expr (pe_bm PySem.F.plainAttrs_list PySem.F.slot_list_append PySem.F.type_list_append mt_append (pv 9) (pa_cons (pv 5) pa_nil)))
      (pss_cut (ps_if (PW.pt (pw_and (pt_cmpR op_isN (pv 4) pe_non (nomark _)) (pw_and1 (pt_cmpR op_gt (pe_callB (lenL (K := K)) (by rfl) T.n_len PySem.boot_len (pa_cons (pv 3) pa_nil)) pe_int (nomark _))))) (pss_one (ps_set (i := 9) sclaw.nd rfl (Or.inl rfl) (pe_op op_cat (pv 9) (pe_cal (E := E0) C__law_near_seats (hr.mono (by decide)) pass0 (pa_cons (pv 1) (pa_cons (pe_lc (own := [("one", 10)]) (g := gName 10) rfl sclaw.nd (piL (K := K) (pv 3)) (blkOk_by (N := Nlaw) (sc := defScope (top 50)) (by decide +kernel)) (fun _ _ _ _ _ => (pg_name (i := 10) sclaw.nd rfl (Or.inl rfl))) (fun _ _ _ _ _ => pts_nil) (fun _ _ _ _ _ => (pe_ix (ixT (K := K)) (pv 10) pe_int (fun _ _ => rfl)))) pa_nil)))))) pss_nil)
      (pss_cut (ps_if (PW.pt (pw_and (pt_cmpR op_notN (pv 4) pe_non (nomark _)) (pw_and1 (pt_cmpR op_gt (pe_callB (lenL (K := K)) (by rfl) T.n_len PySem.boot_len (pa_cons (pv 3) pa_nil)) pe_int (nomark _))))) (pss_cons (ps_asg (pe_cal (E := E0) C__law_pick (hr.mono (by decide)) pass0 (pa_cons (pv 1) (pa_cons (pv 3) pa_nil))) (pgTup (K := K) rfl (pgs_cons (pg_name (i := 11) sclaw.nd rfl (Or.inl rfl)) (pgs_cons (pg_name (i := 12) sclaw.nd rfl (Or.inl rfl)) pgs_nil))))
      (pss_cons (ps_set (i := 13) sclaw.nd rfl (Or.inl rfl) (pe_cal (E := E0) C__law_inside_places (hr.mono (by decide)) pass0 (pa_cons (pv 3) (pa_cons (pv 11) (pa_cons (pv 12) pa_nil)))))
      (pss_cons (ps_set (i := 9) sclaw.nd rfl (Or.inl rfl) (pe_op op_cat (pv 9) (pe_lst (pa_cons (pe_tup (pa_cons pe_str (pa_cons (pv 11) (pa_cons (pv 12) (pa_cons (pv 13) pa_nil))))) (pa_cons (pe_tup (pa_cons pe_str (pa_cons (pv 11) (pa_cons (pv 12) (pa_cons (pe_listRg rfl (by rfl) T.n_list (prg_1 (by rfl) T.n_range (pe_callB (lenL (K := K)) (by rfl) T.n_len PySem.boot_len (pa_cons (pv 3) pa_nil)))) pa_nil))))) pa_nil)))))
      (pss_one (ps_set (i := 9) sclaw.nd rfl (Or.inl rfl) (pe_op op_cat (pv 9) (pe_lst (pa_cons (pe_tup (pa_cons pe_str (pa_cons (pv 11) (pa_cons (pe_op op_sub (pe_op op_add (pv 11) (pe_callB (lenL (K := K)) (by rfl) T.n_len PySem.boot_len (pa_cons (pv 13) pa_nil))) pe_int) (pa_cons (pv 13) pa_nil))))) (pa_cons (pe_tup (pa_cons pe_str (pa_cons (pv 11) (pa_cons (pv 12) (pa_cons (pe_lc (own := [("one", 10)]) (g := gName 10) rfl sclaw.nd (pi_range1 (by rfl) T.n_range (pa_cons (pe_op op_add (pe_op op_sub (pv 12) (pv 11)) pe_int) pa_nil)) (blkOk_by (N := Nlaw) (sc := defScope (top 50)) (by decide +kernel)) (fun _ _ _ _ _ => (pg_name (i := 10) sclaw.nd rfl (Or.inl rfl))) (fun _ _ _ _ _ => pts_nil) (fun _ _ _ _ _ => pe_int)) pa_nil))))) pa_nil))))))))) pss_nil)
      (pss_cons (ps_for PassesOwn.never rfl (piL (K := K) (pv 9)) (pg_name (i := 14) sclaw.nd rfl (Or.inl rfl)) (pss_one (ps_if (pt_not (pt_val (pe_cal (E := E0) C__law_same (hr.mono (by decide)) pass0 (pa_cons (pe_cal (E := E0) C_is_seated (hr.mono (by decide)) passL (pa_cons (pv 6) (pa_cons (pe_cal (E := E0) C__law_copy (hr.mono (by decide)) pass0 (pa_cons (pv 14) pa_nil)) pa_nil))) (pa_cons (pe_cal (E := E0) C__law_right (hr.mono (by decide)) pass0 (pa_cons (pv 3) (pa_cons (pv 14) pa_nil))) pa_nil))))) (pss_one (ps_ret pe_bl)) pss_nil)))
      (pss_one (ps_ret (pe_cal (E := E0) C__law_same (hr.mono (by decide)) pass0 (pa_cons (pv 6) (pa_cons (pv 3) pa_nil)))))))))))))))))), ?_⟩
  have sz : ∀ m : Nat, m ≤ 200000 → m < sizeLine := fun m h => Nat.lt_of_le_of_lt h (by decide)
  have szl : ∀ m : Nat, m ≤ 200000 → m ≤ sizeLine := fun m h => Nat.le_of_lt (sz m h)
  refine ⟨_, rfl, sc, sn, rfl, hsc, hsl, fun s L H1 _ _ _ st1 => ?_⟩
  refine ⟨_, rfl, s, L, 30, rfl, st1, by decide, by decide, fun kd H2 k0 k1 _ st2 => ?_⟩
  refine ⟨_, rfl, kd, 2, rfl, rfl, _, rfl, ?_⟩
  refine ite2 (fun _ => ⟨_, rfl, s, L, rfl, st2, fun H3 => q H3⟩) (fun _ => ?_)
  refine ⟨fun σ' H' => ∃ wa ys ws, σ' = [some (.ref sc), some (.ref s), some (.int kd), some (.ref wa), none, none, none, none, none, none, none, none, none, none, none] ∧ Strm H' s L ∧ wa ≠ s ∧ H' wa = some (.lst ys) ∧ DpAll K H' ys (ws.map encP) ∧ ws.length ≤ 120 ∧ Near ws, ?_, ?_⟩
  · refine ⟨_, rfl, rfl, _, rfl, ?_⟩
    have fin : ∀ (Ha : Hp) (m : Nat), Strm Ha s L → m ≤ 120 → ∀ p ys ws H3, Ha p = none → Kp s Ha H3 → Strm H3 s L → H3 p = some (.lst ys) → DpAll K H3 ys (ws.map encP) → ws.length = m → Near ws →
        ∃ wa ys ws, [some (V.ref sc), some (.ref s), some (.int kd), some (.ref p), none, none, none, none, none, none, none, none, none, none, none] = [some (V.ref sc), some (.ref s), some (.int kd), some (.ref wa), none, none, none, none, none, none, none, none, none, none, none] ∧ Strm H3 s L ∧ wa ≠ s ∧ H3 wa = some (.lst ys) ∧ DpAll K H3 ys (ws.map encP) ∧ ws.length ≤ 120 ∧ Near ws := fun Ha m sa hm p ys ws H3 hp _ st3 hp3 hd hl hn => by
      refine ⟨p, ys, ws, rfl, st3, ?_, hp3, hd, by omega, hn⟩
      rintro rfl
      obtain ⟨o, ho⟩ := sa.there
      rw [ho] at hp; cases hp
    refine ite2 (fun _ => ?_) (fun _ => ?_)
    · exact ⟨_, rfl, s, L, 120, 126, 9, rfl, st2, by decide, by decide, by decide, by decide, fun p ys ws H3 h1 h2 h3 h4 h5 h6 h7 => fin H2 120 st2 (by decide) p ys ws H3 h1 h2 h3 h4 h5 h6 h7⟩
    · have pk : ∀ (Ha : Hp) (l : List Int) (t : Addr), Strm Ha s L → Ha t = none → t ≠ s := fun Ha l t sa ht z => by
        obtain ⟨o, ho⟩ := sa.there
        rw [z, ho] at ht; cases ht
      refine ⟨_, rfl, _, rfl, szl 9 (by omega), fun t1 ht1 => ⟨s, L, t1, _, rfl, st2.keep (Evl.Ex.new ht1), .inr (SqT.of upd_same), pk H2 [] t1 st2 ht1, (show 1 ≤ 9 by decide), (show 9 < 1073741824 by decide), fun i1 x1 Ha hx1 _ sta => ?_⟩⟩
      obtain ⟨m1, rfl, hm1⟩ : ∃ m : Nat, x1 = .int (m : Int) ∧ m ≤ 120 := by
        have hx := List.mem_of_getElem? hx1
        simp only [List.mem_cons, List.not_mem_nil, or_false] at hx
        rcases hx with rfl | rfl | rfl | rfl | rfl | rfl | rfl | rfl | rfl
        · exact ⟨0, rfl, by decide⟩
        · exact ⟨1, rfl, by decide⟩
        · exact ⟨2, rfl, by decide⟩
        · exact ⟨3, rfl, by decide⟩
        · exact ⟨4, rfl, by decide⟩
        · exact ⟨5, rfl, by decide⟩
        · exact ⟨6, rfl, by decide⟩
        · exact ⟨8, rfl, by decide⟩
        · exact ⟨11, rfl, by decide⟩
      clear hx1
      refine ⟨_, rfl, szl 4 (by omega), fun t2 ht2 => ⟨s, L, t2, _, rfl, sta.keep (Evl.Ex.new ht2), .inr (SqT.of upd_same), pk Ha [] t2 sta ht2, (show 1 ≤ 4 by decide), (show 4 < 1073741824 by decide), fun i2 x2 Hb hx2 _ stb => ?_⟩⟩
      obtain ⟨m2, rfl, hm2⟩ : ∃ m : Nat, x2 = .int (m : Int) ∧ m ≤ 126 := by
        have hx := List.mem_of_getElem? hx2
        simp only [List.mem_cons, List.not_mem_nil, or_false] at hx
        rcases hx with rfl | rfl | rfl | rfl
        · exact ⟨1, rfl, by decide⟩
        · exact ⟨4, rfl, by decide⟩
        · exact ⟨7, rfl, by decide⟩
        · exact ⟨12, rfl, by decide⟩
      clear hx2
      refine ⟨_, rfl, szl 5 (by omega), fun t3 ht3 => ⟨s, L, t3, _, rfl, stb.keep (Evl.Ex.new ht3), .inr (SqT.of upd_same), pk Hb [] t3 stb ht3, (show 1 ≤ 5 by decide), (show 5 < 1073741824 by decide), fun i3 x3 Hc hx3 _ stc => ?_⟩⟩
      obtain ⟨m3, rfl, hm3, hm4⟩ : ∃ m : Int, x3 = .int m ∧ 1 ≤ m ∧ m ≤ 9 := by
        have hx := List.mem_of_getElem? hx3
        simp only [List.mem_cons, List.not_mem_nil, or_false] at hx
        rcases hx with rfl | rfl | rfl | rfl | rfl
        · exact ⟨1, rfl, by decide, by decide⟩
        · exact ⟨2, rfl, by decide, by decide⟩
        · exact ⟨2, rfl, by decide, by decide⟩
        · exact ⟨3, rfl, by decide, by decide⟩
        · exact ⟨6, rfl, by decide, by decide⟩
      clear hx3
      exact ⟨s, L, m1, m2, m3, rfl, stc, hm1, hm2, hm3, hm4, fun p ys ws H3 h1 h2 h3 h4 h5 h6 h7 => fin Hc m1 stc hm1 p ys ws H3 h1 h2 h3 h4 h5 h6 h7⟩
  clear k0 k1
  rintro σ' Hb ⟨wa, ys, ws, rfl, stb, hws, hwa, hyd, hwl, near⟩
  obtain ⟨zs0, hs0⟩ := stb.lst
  have n0 := Nr.start stb
  have gw0 : (fun a => if a = s then none else Hb a) wa = some (.lst ys) := by simp [hws, hwa]
  have gd0 := dpa_drop hs0 hyd
  generalize (fun a => if a = s then none else Hb a) = G0 at n0 gw0 gd0
  have wn : ∀ {G Hx : Hp}, Ex G Hx → G wa = some (.lst ys) → DpAll K G ys (ws.map encP) → Wns K Hx wa ws := fun e g d => ⟨ys, SqL.of (e _ _ g), ex_dpa e d⟩
  have hyl : ys.length = ws.length := by have := dpa_len gd0; rwa [List.length_map] at this
  have W0 := wn n0.e gw0 gd0
  refine ⟨fun σ' H' => ∃ sv G, σ' = [some (.ref sc), some (.ref s), some (.int kd), some (.ref wa), some sv, none, none, none, none, none, none, none, none, none, none] ∧ Nr Hb G H' s L ∧ G wa = some (.lst ys) ∧ DpAll K G ys (ws.map encP) ∧ ((sv = .non ∧ sweepOf ws = none) ∨ ∃ fa ns, sv = .ref fa ∧ G fa = some (.lst ((ns : List Int).map V.int)) ∧ sweepOf ws = some (ns.map some) ∧ ns.length = ws.length), ?_, ?_⟩
  · refine ⟨_, rfl, wa, ws, rfl, W0, by omega, fun hs H2 e2 => ?_, fun f hs p H2 hp e2 hp2 => ?_⟩
    · exact ⟨_, G0, rfl, n0.ex e2, gw0, gd0, .inl ⟨rfl, hs⟩⟩
    · obtain ⟨_, ns, rfl, hnl⟩ := sweep_some hs
      rw [optV_some] at hp2
      obtain ⟨hps, gp, _⟩ := n0.sub hp
      obtain ⟨n1, x1⟩ := (n0.ex e2).fix hp2 hps gp
      exact ⟨_, _, rfl, n1, x1 _ _ gw0, ex_dpa x1 gd0, .inr ⟨p, ns, rfl, upd_same, hs, hnl⟩⟩
  clear n0 gw0 gd0 W0
  rintro σ' H3 ⟨sv, G, rfl, n, gw, gd, hsw⟩
  have W3 := wn n.e gw gd
  refine ⟨fun σ' H' => ∃ dw G, σ' = [some (.ref sc), some (.ref s), some (.int kd), some (.ref wa), some sv, some dw, none, none, none, none, none, none, none, none, none] ∧ Nr Hb G H' s L ∧ G wa = some (.lst ys) ∧ DpAll K G ys (ws.map encP) ∧ Ans K G ws sv dw, ?_, ?_⟩
  · rcases hsw with ⟨rfl, hs⟩ | ⟨fa, ns, rfl, gf, hs, hnl⟩
    · obtain ⟨hs2, ⟨lo, hi, pl⟩, hcr⟩ := sweep_none hs
      refine ⟨_, rfl, rfl, false, by simp, _, rfl, wa, ws, rfl, W3, by omega, ?_⟩
      rw [hcr]
      intro c l H4 hc hl e4 hc4 hl4
      obtain ⟨hls, gl, _⟩ := n.sub hl
      obtain ⟨hcs, gc, _⟩ := n.sub hc
      obtain ⟨n1, x1⟩ := (n.ex e4).fix hl4 hls gl
      have ncl : c ≠ l := fun z => by rw [z, hl4] at hc4; cases hc4
      obtain ⟨n2, x2⟩ := n1.fix hc4 hcs (by rw [upd_ne ncl]; exact gc)
      obtain ⟨c1, c2⟩ := crowd_rows hcr
      exact ⟨_, _, rfl, n2, x2 _ _ (x1 _ _ gw), ex_dpa (x1.trans x2) gd, .inr ⟨lo, hi, pl, c, l, rfl, hs2, hcr, c1, c2, rfl, upd_same, x2 _ _ upd_same⟩⟩
    · obtain ⟨⟨seats, hso, hsl2⟩, _⟩ := sweep_some hs
      refine ⟨_, rfl, rfl, true, by simp, _, rfl, wa, ws, seats, rfl, W3, by omega, hso, fun l H4 hl e4 hl4 => ⟨szl 2 (by omega), fun t ht => ?_⟩⟩
      obtain ⟨hls, gl, _⟩ := n.sub hl
      obtain ⟨n1, x1⟩ := (n.ex e4).fix hl4 hls gl
      obtain ⟨n2, x2⟩ := n1.imm (o := .tup [.str "seats", .ref l]) ht
      exact ⟨_, _, rfl, n2, x2 _ _ (x1 _ _ gw), ex_dpa (x1.trans x2) gd, .inl ⟨fa, ns, seats, l, t, rfl, x2 _ _ (x1 _ _ gf), hnl, hso, hsl2, rfl, upd_same, x2 _ _ upd_same⟩⟩
  clear hsw n gw gd W3
  rintro σ' H4 ⟨dw, G4, rfl, n4, gw4, gd4, an4⟩
  -- passed
  refine ⟨_, rfl, wa, ys, rfl, .inl (SqL.of (n4.e _ _ gw4)), fun pa hpa => ?_⟩
  obtain ⟨n5, x5⟩ := n4.imm (o := .lst ys) hpa
  have gp5 : upd G4 pa (.lst ys) pa = some (.lst ys) := upd_same
  have gw5 := x5 _ _ gw4
  have gd5 := ex_dpa x5 gd4
  have an5 := an4.mono x5
  clear n4 gw4 gd4 an4
  generalize upd G4 pa (.lst ys) = G at n5 gp5 gw5 gd5 an5
  generalize upd H4 pa (.lst ys) = H5 at n5 ⊢
  obtain ⟨dd, hdd, hok, hnd, hstd⟩ := ans_dp an5 (by omega)
  have lw : ∀ ds, PyData.list (ws.map encP) = .list ds → ds.length ≤ 100000 := fun ds e => by
    cases e; rw [List.length_map]; omega
  have wd : ∀ {Gx Hx : Hp} {b : Addr}, Ex Gx Hx → Gx b = some (.lst ys) → DpAll K Gx ys (ws.map encP) → Dp K Hx (.ref b) (.list (ws.map encP)) := fun e g d => .lst (SqL.of (e _ _ g)) (ex_dpa e d)
  refine ⟨2, rfl, by decide, by decide, ?_⟩
  refine for_it walk_range (fun i σ' H' => ∃ tv av, σ' = [some (.ref sc), some (.ref s), some (.int kd), some (.ref wa), some sv, some dw, some (.ref pa), tv, av, none, none, none, none, none, none] ∧ Nr Hb G H' s L) ⟨none, none, rfl, n5⟩ (fun _ _ _ _ _ => trivial) ?_ ?_
  · rintro i x σ' H' H6 hi ⟨tv, av, rfl, n6⟩ ⟨rfl, rfl⟩
    refine ⟨_, rfl, .ref pa, .list (ws.map encP), rfl, .inl (wd n6.e gp5 gd5), lw, fun hw => (by rw [enc_isWins] at hw; cases hw), fun ws2 e2 => ?_⟩
    obtain rfl : ws2 = ws := by
      have : ws.map encP = ws2.map encP := by simpa using e2
      exact (enc_inj this).symm
    refine ⟨fun h => absurd h (by omega), fun _ => hstd _ _ fun t xs l zs H7 ht hl e7 ht7 hlast hx1 hx4 hl7 hz hdp => ?_⟩
    have n7 := n6.ex e7
    refine ⟨_, rfl, _, rfl, .ref t, dw, dd, rfl, hdp, ex_dp n7.e _ _ hdd, hnd, fun H8 e8 => ⟨_, rfl, ?_⟩⟩
    have n8 := n7.ex e8
    have ht8 := SqT.of (K := K) (e8 _ _ ht7)
    obtain ⟨hls, gl, hl0⟩ := n6.sub hl
    have hat : atI xs ((xs.length : Int) - 1) = some (.ref l) := at_of (j := xs.length - 1) (by omega) hlast
    refine ⟨_, rfl, _, rfl, t, xs, rfl, .inr ht8, _, 1, rfl, rfl, t, xs, _, _, rfl, rfl, ht8, hat, .inl ⟨rfl, _, SqL.of (e8 _ _ hl7)⟩, l, zs, _, rfl, rfl, e8 _ _ hl7, sz _ (by omega), ?_⟩
    exact ⟨_, _, rfl, n8.mut hl0 gl⟩
  clear n5
  rintro σ' H6 ⟨tv, av, rfl, n6⟩
  -- the rows
  refine ⟨fun σ' H' => ∃ tp us G, σ' = [some (.ref sc), some (.ref s), some (.int kd), some (.ref wa), some sv, some dw, some (.ref pa), tv, av, some (.ref tp), none, none, none, none, none] ∧ Nr Hb G H' s L ∧ G wa = some (.lst ys) ∧ DpAll K G ys (ws.map encP) ∧ G pa = some (.lst ys) ∧ Ans K G ws sv dw ∧ G tp = none ∧ Hb tp = none ∧ tp ≠ s ∧ H' tp = some (.lst us) ∧ (∀ v ∈ us, OkV K G v) ∧ us.length ≤ 1000, ?_, ?_⟩
  · have key : ∀ p vs G2 H2, H6 p = none → Nr H6 G2 H2 s L → G2 p = none → H2 p = some (.lst vs) → vs.length ≤ 1000 → (∀ v ∈ vs, OkV K G2 v) →
        ∃ G, Nr Hb G H2 s L ∧ G wa = some (.lst ys) ∧ DpAll K G ys (ws.map encP) ∧ G pa = some (.lst ys) ∧ Ans K G ws sv dw ∧ G p = none ∧ Hb p = none ∧ p ≠ s ∧ H2 p = some (.lst vs) ∧ (∀ v ∈ vs, OkV K G v) ∧ vs.length ≤ 1000 := by
      intro p vs G2 H2 hp m gp2 hp2 hvl hv
      obtain ⟨U, nU, xU, yU, fU⟩ := n6.union m
      obtain ⟨hps, gp, hp0⟩ := n6.sub hp
      exact ⟨U, nU, xU _ _ gw5, ex_dpa xU gd5, xU _ _ gp5, an5.mono xU, fU p gp gp2, hp0, hps, hp2, fun v hv' => (hv v hv').mono yU, hvl⟩
    rcases id an5 with ⟨fa, ns, seats, l, t, rfl, h2, h3, h4, h5, rfl, h7, h8⟩ | ⟨lo, hi, pl, c, l, rfl, h2, h3, h4, h5, rfl, h7, h8⟩
    · have nfs : fa ≠ s := fun z => by have := n6.gs; rw [← z, h2] at this; cases this
      refine ⟨_, rfl, rfl, true, by simp, _, rfl, _, rfl, s, L, fa, ns, rfl, n6.st, nfs, n6.e _ _ h2, by omega, fun p vs G2 H2 hp m gp2 hp2 hvl hv => ?_⟩
      obtain ⟨U, hU⟩ := key p vs G2 H2 hp m gp2 hp2 hvl hv
      exact ⟨p, vs, U, rfl, hU.1, hU.2.1, hU.2.2.1, hU.2.2.2.1, hU.2.2.2.2⟩
    · refine ⟨_, rfl, rfl, false, by simp, _, rfl, _, rfl, _, rfl, s, L, wa, c, l, ws, lo, hi, pl, G, rfl, ⟨n6.e, n6.gs, Kp.refl s H6, n6.st, n6.st⟩, ⟨ys, SqL.of gw5, gd5⟩, by omega, h7, h8, h4, by omega, fun p vs G2 H2 hp m gp2 hp2 hvl hv => ?_⟩
      obtain ⟨U, hU⟩ := key p vs G2 H2 hp m gp2 hp2 hvl hv
      exact ⟨p, vs, U, rfl, hU.1, hU.2.1, hU.2.2.1, hU.2.2.2.1, hU.2.2.2.2⟩
  rintro σ' H7 ⟨tp, us, G7, rfl, n7, gw7, gd7, gp7, an7, gt7, ht0, hts, ht7, hus, hul⟩
  refine ⟨_, rfl, .inl ⟨rfl, _, SqL.of ht7⟩, _, rfl, tp, us, _, rfl, rfl, ht7, sz _ (by omega), ?_⟩
  have n8 := n7.mut (o := .lst (us ++ [dw])) ht0 gt7
  obtain ⟨n9, x9⟩ := n8.fix upd_same hts gt7
  have U9 : ∀ v ∈ us ++ [dw], OkV K (upd G7 tp (.lst (us ++ [dw]))) v := fun v hv' => by
    rcases List.mem_append.mp hv' with hv' | hv'
    · exact (hus v hv').mono x9
    · rw [List.mem_singleton.mp hv']
      obtain ⟨d2, e1, e2, _⟩ := ans_dp (an7.mono x9) (by omega)
      exact ⟨d2, e1, e2⟩
  have l9 : (us ++ [dw]).length ≤ 1001 := by simp; omega
  have gt9 : upd G7 tp (.lst (us ++ [dw])) tp = some (.lst (us ++ [dw])) := upd_same
  have gw9 := x9 _ _ gw7
  have gp9 := x9 _ _ gp7
  have gd9 := ex_dpa x9 gd7
  have an9 := an7.mono x9
  generalize upd G7 tp (.lst (us ++ [dw])) = G9 at n9 U9 gt9 gw9 gp9 gd9 an9
  generalize us ++ [dw] = us9 at *
  generalize upd H7 tp (.lst us9) = H9 at n9 ⊢
  clear n7 n8 gw7 gd7 gp7 an7 gt7 ht7 hus hul x9 n6 gw5 gd5 gp5 an5 hdd
  -- more rows of a crowd
  refine ⟨fun σ' H' => ∃ tp us G, σ' = [some (.ref sc), some (.ref s), some (.int kd), some (.ref wa), some sv, some dw, some (.ref pa), tv, av, some (.ref tp), none, none, none, none, none] ∧ Nr Hb G H' s L ∧ G wa = some (.lst ys) ∧ DpAll K G ys (ws.map encP) ∧ G pa = some (.lst ys) ∧ Ans K G ws sv dw ∧ G tp = some (.lst us) ∧ (∀ v ∈ us, OkV K G v) ∧ us.length ≤ 2100, ?_, ?_⟩
  · rcases id an9 with ⟨fa, ns, seats, l, t, rfl, h2, h3, h4, h5, rfl, h7, h8⟩ | ⟨lo, hi, pl, c, l, rfl, h2, h3, h4, h5, rfl, h7, h8⟩
    · exact ⟨_, rfl, rfl, false, by simp, tp, us9, G9, rfl, n9, gw9, gd9, gp9, an9, gt9, U9, by omega⟩
    · refine ⟨_, rfl, rfl, true, by simp, _, rfl, wa, ys, rfl, .inl (SqL.of (n9.e _ _ gw9)), _, 0, rfl, rfl, _, rfl, ?_⟩
      refine ite2 (fun _ => ?_) (fun _ => ⟨tp, us9, G9, rfl, n9, gw9, gd9, gp9, an9, gt9, U9, by omega⟩)
      refine ⟨_, rfl, _, rfl, _, rfl, wa, rfl, ⟨ys, SqL.of (n9.e _ _ gw9)⟩, fun D hD => ?_⟩
      refine lcW (M := NoM) walk_list n9.e (fun H' e => SqL.of (e _ _ gw9)) (by omega) (fun i y _ => y = .int (ws.getD i (0, 0)).1) (fun _ _ _ _ _ h => h) (fun _ => true) (fun i => [some (.ref sc), some (.ref s), some (.int kd), some (.ref wa), some .non, some (.ref c), some (.ref pa), tv, av, some (.ref tp), some (ys.getD i .non), none, none, none, none])
        (fun i y G' H' H'' hj a' yy Q q => turn_name (σ0 := [some (.ref sc), some (.ref s), some (.int kd), some (.ref wa), some .non, some (.ref c), some (.ref pa), tv, av, some (.ref tp), none, none, none, none, none]) (j := 10) a' yy (by rw [List.getD_eq_getElem?_getD]; simp [hj]) q) (fun _ _ => rfl) (fun i G' H' hj a' Q q => yes_t a'.gh q) (fun i G' H' hj _ a' Q q => ?_) (fun _ _ h => h) hD (fun zs G10 H10 a10 gD10 hl10 hsel => ?_)
      · obtain ⟨r, er, ht⟩ := wel gd9 (a'.gg.trans a'.gh) hj
        refine ⟨_, rfl, ?_⟩
        rw [er]
        exact ⟨r, _, 0, _, rfl, rfl, ht, rfl, q _ _ _ (Stp.refl a'.gh) rfl⟩
      · have ez : zs = (ws.map (·.1)).map V.int := by
          rw [sel_flat1 hsel, hyl, ← range_map ws (0, 0) (·.1), List.map_map]
          rfl
        subst ez
        obtain ⟨hDs, _, _⟩ := n9.sub hD
        have n10 := n9.stp a10
        refine ⟨s, L, D, ws.map (·.1), rfl, n10.st, hDs, hl10, by rw [List.length_map]; omega, fun p vs G2 H2 hp m gp2 hp2 hvl hv => ?_⟩
        obtain ⟨U, nU, xU, yU, fU⟩ := n10.union m
        have xx := a10.gg.trans xU
        obtain ⟨hps, gpn, _⟩ := n10.sub hp
        have htp := nU.e _ _ (xx _ _ gt9)
        refine ⟨tp, p, us9, vs, rfl, rfl, htp, hp2, szl _ (by omega), fun q9 hq9 => ?_⟩
        obtain ⟨nV, xV⟩ := nU.imm (o := .lst (us9 ++ vs)) hq9
        have xy := xx.trans xV
        refine ⟨q9, us9 ++ vs, _, rfl, nV, xy _ _ gw9, ex_dpa xy gd9, xy _ _ gp9, an9.mono xy, upd_same, fun v hv' => ?_, by rw [List.length_append]; omega⟩
        rcases List.mem_append.mp hv' with hv' | hv'
        · exact (U9 v hv').mono xy
        · exact (hv v hv').mono (yU.trans xV)
  clear n9 gw9 gd9 gp9 an9 gt9 U9 l9
  rintro σ' H11 ⟨tp, us, G11, rfl, n11, gw11, gd11, gp11, an11, gt11, U11, l11⟩
  -- more rows of seats
  refine ⟨fun σ' H' => ∃ tp us lv hv iv G, σ' = [some (.ref sc), some (.ref s), some (.int kd), some (.ref wa), some sv, some dw, some (.ref pa), tv, av, some (.ref tp), none, lv, hv, iv, none] ∧ Nr Hb G H' s L ∧ G wa = some (.lst ys) ∧ DpAll K G ys (ws.map encP) ∧ G pa = some (.lst ys) ∧ Ans K G ws sv dw ∧ G tp = some (.lst us) ∧ (∀ v ∈ us, OkV K G v) ∧ us.length ≤ 2200, ?_, ?_⟩
  · skip
    rcases id an11 with ⟨fa, ns, seats, l, t, rfl, h2, h3, h4, h5, rfl, h7, h8⟩ | ⟨lo, hi, pl, c, l, rfl, h2, h3, h4, h5, rfl, h7, h8⟩
    rotate_left
    · exact ⟨_, rfl, rfl, false, by simp, tp, us, none, none, none, G11, rfl, n11, gw11, gd11, gp11, an11, gt11, U11, by omega⟩
    refine ⟨_, rfl, rfl, true, by simp, _, rfl, wa, ys, rfl, .inl (SqL.of (n11.e _ _ gw11)), _, 0, rfl, rfl, _, rfl, ?_⟩
    refine ite2 (fun hpos => ?_) (fun _ => ⟨tp, us, none, none, none, G11, rfl, n11, gw11, gd11, gp11, an11, gt11, U11, by omega⟩)
    have hpos := of_decide_eq_true hpos
    have nws : wa ≠ s := hws
    refine ⟨_, rfl, _, rfl, s, L, wa, ys, rfl, n11.st, .inl (SqL.of (n11.e _ _ gw11)), nws, by omega, by omega, fun i x H19 hx kp19 st19 => ?_⟩
    have n19 := n11.next kp19 st19
    have hi0 : i < ws.length := by have := (List.getElem?_eq_some_iff.mp hx).1; omega
    obtain ⟨d0, hd1, hd2⟩ := dpa_get gd11 hx
    have hd0 : (ws.map encP)[i]? = some (encP (ws.getD i (0, 0))) := by
      rw [List.getElem?_map, List.getD_eq_getElem?_getD, List.getElem?_eq_getElem hi0]; rfl
    rw [hd0] at hd1
    obtain rfl := Option.some.inj hd1
    have hwm : ws.getD i (0, 0) ∈ ws := by rw [List.getD_eq_getElem?_getD, List.getElem?_eq_getElem hi0]; exact List.getElem_mem _
    obtain ⟨nb, hnb⟩ := near
    have hnw := hnb _ hwm
    generalize ws.getD i (0, 0) = wlh at *
    obtain ⟨lo, hi⟩ := wlh
    refine gpair (ex_dp n19.e _ _ hd2) ?_
    refine ⟨_, rfl, _, rfl, _, rfl, wa, ws, lo, hi, rfl, wn n19.e gw11 gd11, by omega, fun pi H20 hpi e20 hpi20 => ?_⟩
    obtain ⟨his, gi0, _⟩ := n19.sub hpi
    obtain ⟨n20, x20⟩ := (n19.ex e20).fix hpi20 his gi0
    have hil := insLen ws lo hi
    have fli := flatInts (inside ws lo hi)
    have hil2 : ((inside ws lo hi).map V.int).length ≤ 120 := by rw [List.length_map]; omega
    generalize (inside ws lo hi).map V.int = is at *
    have Fi : FlV (upd G11 pi (.lst is)) (.ref pi) := ⟨pi, is, rfl, .inl upd_same, fli, by omega⟩
    have gi : upd G11 pi (.lst is) pi = some (.lst is) := upd_same
    have gw := x20 _ _ gw11
    have gd := ex_dpa x20 gd11
    have gp := x20 _ _ gp11
    have gt := x20 _ _ gt11
    have an := an11.mono x20
    have Ut : ∀ v ∈ us, OkV K (upd G11 pi (.lst is)) v := fun v hv => (U11 v hv).mono x20
    generalize upd G11 pi (.lst is) = G20 at n20 Fi gi gw gd gp gt an Ut
    clear n19 x20 e20 hd2 hx n11 gw11 gd11 gp11 an11 gt11 U11
    refine ⟨_, rfl, _, rfl, _, rfl, _, rfl, szl 4 (by omega), fun r1 hr1 => ?_⟩
    obtain ⟨n21, x21⟩ := n20.imm (o := .tup [.str "crowd", .int lo, .int hi, .ref pi]) hr1
    have er1 : upd G20 r1 (.tup [.str "crowd", .int lo, .int hi, .ref pi]) r1 = some (.tup [.str "crowd", .int lo, .int hi, .ref pi]) := upd_same
    replace gw := x21 _ _ gw
    replace gi := x21 _ _ gi
    replace gd := ex_dpa x21 gd
    replace gp := x21 _ _ gp
    replace an := an.mono x21
    replace gt := x21 _ _ gt
    replace Ut := fun v hv => (Ut v hv).mono x21
    replace Fi := Fi.mono x21
    generalize upd G20 r1 (.tup [.str "crowd", .int lo, .int hi, .ref pi]) = G21 at n21 x21 er1 gw gi gd gp an gt Ut Fi
    generalize upd H20 r1 (.tup [.str "crowd", .int lo, .int hi, .ref pi]) = H21 at n21 ⊢
    clear n20 x21
    obtain ⟨dz, hdz, hfz⟩ := flv_dp (K := K) Fi
    have O1 : OkV K G21 (.ref r1) := ⟨.tuple [.str "crowd", .int (lo), .int (hi), dz], .tup (SqT.of er1) (.cons (.str _) (.cons (.int _) (.cons (.int _) (.cons hdz .nil)))), okd_row (.inl rfl) (by simp) fun u hu => by
      simp only [List.mem_cons, List.not_mem_nil, or_false] at hu
      rcases hu with rfl | rfl | rfl | rfl
      · exact flt_atomS _
      · exact flt_atomI _
      · exact flt_atomI _
      · exact hfz⟩
    clear hdz hfz
    refine ⟨_, rfl, _, rfl, _, rfl, wa, ys, rfl, .inl (SqL.of (n21.e _ _ gw)), _, rfl, RgOk.of_le (by omega) (by omega) (by omega) (by omega), fun p1 hp1 => ?_⟩
    obtain ⟨n22, x22⟩ := n21.imm (o := .lst (rgV 0 (ys.length : Int))) hp1
    have ep1 : upd G21 p1 (.lst (rgV 0 (ys.length : Int))) p1 = some (.lst (rgV 0 (ys.length : Int))) := upd_same
    replace gw := x22 _ _ gw
    replace gi := x22 _ _ gi
    replace gd := ex_dpa x22 gd
    replace gp := x22 _ _ gp
    replace an := an.mono x22
    replace gt := x22 _ _ gt
    replace Ut := fun v hv => (Ut v hv).mono x22
    replace Fi := Fi.mono x22
    replace O1 := O1.mono x22
    generalize upd G21 p1 (.lst (rgV 0 (ys.length : Int))) = G22 at n22 x22 ep1 gw gi gd gp an gt Ut Fi O1
    generalize upd H21 p1 (.lst (rgV 0 (ys.length : Int))) = H22 at n22 ⊢
    clear n21 x22
    have F1 : FlV G22 (.ref p1) := ⟨p1, _, rfl, .inl ep1, flat_rg _ _, by rw [rgV_length]; omega⟩
    refine ⟨szl 4 (by omega), fun r2 hr2 => ?_⟩
    obtain ⟨n23, x23⟩ := n22.imm (o := .tup [.str "crowd", .int lo, .int hi, .ref p1]) hr2
    have er2 : upd G22 r2 (.tup [.str "crowd", .int lo, .int hi, .ref p1]) r2 = some (.tup [.str "crowd", .int lo, .int hi, .ref p1]) := upd_same
    replace gw := x23 _ _ gw
    replace gi := x23 _ _ gi
    replace gd := ex_dpa x23 gd
    replace gp := x23 _ _ gp
    replace an := an.mono x23
    replace gt := x23 _ _ gt
    replace Ut := fun v hv => (Ut v hv).mono x23
    replace Fi := Fi.mono x23
    replace O1 := O1.mono x23
    replace F1 := F1.mono x23
    generalize upd G22 r2 (.tup [.str "crowd", .int lo, .int hi, .ref p1]) = G23 at n23 x23 er2 gw gi gd gp an gt Ut Fi O1 F1
    generalize upd H22 r2 (.tup [.str "crowd", .int lo, .int hi, .ref p1]) = H23 at n23 ⊢
    clear n22 x23
    obtain ⟨dz, hdz, hfz⟩ := flv_dp (K := K) F1
    have O2 : OkV K G23 (.ref r2) := ⟨.tuple [.str "crowd", .int (lo), .int (hi), dz], .tup (SqT.of er2) (.cons (.str _) (.cons (.int _) (.cons (.int _) (.cons hdz .nil)))), okd_row (.inl rfl) (by simp) fun u hu => by
      simp only [List.mem_cons, List.not_mem_nil, or_false] at hu
      rcases hu with rfl | rfl | rfl | rfl
      · exact flt_atomS _
      · exact flt_atomI _
      · exact flt_atomI _
      · exact hfz⟩
    clear hdz hfz
    refine ⟨szl 2 (by omega), fun f1 hf1 => ?_⟩
    obtain ⟨n24, x24⟩ := n23.imm (o := .lst [.ref r1, .ref r2]) hf1
    have ef1 : upd G23 f1 (.lst [.ref r1, .ref r2]) f1 = some (.lst [.ref r1, .ref r2]) := upd_same
    replace gw := x24 _ _ gw
    replace gi := x24 _ _ gi
    replace gd := ex_dpa x24 gd
    replace gp := x24 _ _ gp
    replace an := an.mono x24
    replace gt := x24 _ _ gt
    replace Ut := fun v hv => (Ut v hv).mono x24
    replace Fi := Fi.mono x24
    replace O1 := O1.mono x24
    replace O2 := O2.mono x24
    generalize upd G23 f1 (.lst [.ref r1, .ref r2]) = G24 at n24 x24 ef1 gw gi gd gp an gt Ut Fi O1 O2
    generalize upd H23 f1 (.lst [.ref r1, .ref r2]) = H24 at n24 ⊢
    clear n23 x24
    refine ⟨tp, f1, us, _, rfl, rfl, n24.e _ _ gt, n24.e _ _ ef1, szl _ (by simp; omega), fun t2 ht2 => ?_⟩
    obtain ⟨n25, x25⟩ := n24.imm (o := .lst (us ++ [.ref r1, .ref r2])) ht2
    have et2 : upd G24 t2 (.lst (us ++ [.ref r1, .ref r2])) t2 = some (.lst (us ++ [.ref r1, .ref r2])) := upd_same
    replace gw := x25 _ _ gw
    replace gi := x25 _ _ gi
    replace gd := ex_dpa x25 gd
    replace gp := x25 _ _ gp
    replace an := an.mono x25
    replace gt := x25 _ _ gt
    replace Ut := fun v hv => (Ut v hv).mono x25
    replace Fi := Fi.mono x25
    replace O1 := O1.mono x25
    replace O2 := O2.mono x25
    replace ef1 := x25 _ _ ef1
    generalize upd G24 t2 (.lst (us ++ [.ref r1, .ref r2])) = G25 at n25 x25 et2 gw gi gd gp an gt Ut Fi O1 O2 ef1
    generalize upd H24 t2 (.lst (us ++ [.ref r1, .ref r2])) = H25 at n25 ⊢
    clear n24 x25
    have V2 : ∀ v ∈ us ++ [V.ref r1, .ref r2], OkV K G25 v := fun v hv => by
      rcases List.mem_append.mp hv with hv | hv
      · exact Ut v hv
      · simp only [List.mem_cons, List.not_mem_nil, or_false] at hv
        rcases hv with rfl | rfl <;> assumption
    have lv2 : (us ++ [V.ref r1, .ref r2]).length ≤ 2110 := by simp; omega
    generalize us ++ [V.ref r1, .ref r2] = us2 at et2 V2 lv2 ⊢
    refine ⟨_, rfl, _, rfl, _, rfl, _, rfl, pi, is, rfl, .inl (SqL.of (n25.e _ _ gi)), lo, _, rfl, rfl, _, 2, rfl, rfl, _, rfl, szl 4 (by omega), fun r3 hr3 => ?_⟩
    obtain ⟨n26, x26⟩ := n25.imm (o := .tup [.str "crowd", .int lo, .int (lo + (is.length : Int) - 2), .ref pi]) hr3
    have er3 : upd G25 r3 (.tup [.str "crowd", .int lo, .int (lo + (is.length : Int) - 2), .ref pi]) r3 = some (.tup [.str "crowd", .int lo, .int (lo + (is.length : Int) - 2), .ref pi]) := upd_same
    replace gw := x26 _ _ gw
    replace gi := x26 _ _ gi
    replace gd := ex_dpa x26 gd
    replace gp := x26 _ _ gp
    replace an := an.mono x26
    replace Fi := Fi.mono x26
    replace et2 := x26 _ _ et2
    replace V2 := fun v hv => (V2 v hv).mono x26
    generalize upd G25 r3 (.tup [.str "crowd", .int lo, .int (lo + (is.length : Int) - 2), .ref pi]) = G26 at n26 x26 er3 gw gi gd gp an Fi et2 V2
    generalize upd H25 r3 (.tup [.str "crowd", .int lo, .int (lo + (is.length : Int) - 2), .ref pi]) = H26 at n26 ⊢
    clear n25 x26
    obtain ⟨dz, hdz, hfz⟩ := flv_dp (K := K) Fi
    have O3 : OkV K G26 (.ref r3) := ⟨.tuple [.str "crowd", .int (lo), .int (lo + (is.length : Int) - 2), dz], .tup (SqT.of er3) (.cons (.str _) (.cons (.int _) (.cons (.int _) (.cons hdz .nil)))), okd_row (.inl rfl) (by simp) fun u hu => by
      simp only [List.mem_cons, List.not_mem_nil, or_false] at hu
      rcases hu with rfl | rfl | rfl | rfl
      · exact flt_atomS _
      · exact flt_atomI _
      · exact flt_atomI _
      · exact hfz⟩
    clear hdz hfz
    refine ⟨_, rfl, _, rfl, _, rfl, _, rfl, hi, lo, rfl, rfl, _, 2, rfl, rfl, _, rfl, by omega, by omega, fun D hD => ?_⟩
    refine lcW (M := NoM) walk_range n26.e (fun _ _ => trivial) (by omega) (fun i y _ => flatV y = true) (fun _ _ _ _ _ h => h) (fun _ => true) (fun i => [some (.ref sc), some (.ref s), some (.int kd), some (.ref wa), some (.ref fa), some (.ref t), some (.ref pa), tv, av, some (.ref t2), some (.int (i : Nat)), some (.int lo), some (.int hi), some (.ref pi), none])
      (fun i y G' H' H'' hj a' yy Q q => turn_range0 (σ0 := [some (.ref sc), some (.ref s), some (.int kd), some (.ref wa), some (.ref fa), some (.ref t), some (.ref pa), tv, av, some (.ref t2), none, some (.int lo), some (.int hi), some (.ref pi), none]) (j := 10) a' yy q) (fun _ _ => rfl) (fun i G' H' hj a' Q q => yes_t a'.gh q) (fun i G' H' hj _ a' Q q => q _ _ _ (Stp.refl a'.gh) rfl) (fun _ _ h => h) hD (fun zs G' H' a' gD hl' hsel => ?_)
    obtain ⟨hlD, hgD⟩ := sel_all hsel
    have hfD : zs.all flatV = true := by
      rw [List.all_eq_true]
      intro v hv
      obtain ⟨i, hj, e⟩ := List.getElem_of_mem hv
      obtain ⟨y, hy, ok⟩ := hgD i (by omega)
      rw [List.getElem?_eq_getElem hj, e] at hy
      obtain rfl := Option.some.inj hy
      exact ok
    have n27 := n26.stp (a'.fix hD hl')
    have x27 := (a'.fix hD hl').gg
    have eD : upd G' D (.lst zs) D = some (.lst zs) := upd_same
    replace gw := x27 _ _ gw
    replace gi := x27 _ _ gi
    replace gd := ex_dpa x27 gd
    replace gp := x27 _ _ gp
    replace an := an.mono x27
    replace Fi := Fi.mono x27
    replace et2 := x27 _ _ et2
    replace V2 := fun v hv => (V2 v hv).mono x27
    replace O3 := O3.mono x27
    generalize upd G' D (.lst zs) = G27 at n27 x27 eD gw gi gd gp an Fi et2 V2 O3
    clear hl' hsel gD a' hgD n26 x27
    generalize H' = H27 at n27 ⊢
    have FD : FlV G27 (.ref D) := ⟨D, zs, rfl, .inl eD, hfD, by omega⟩
    refine ⟨szl 4 (by omega), fun r4 hr4 => ?_⟩
    obtain ⟨n28, x28⟩ := n27.imm (o := .tup [.str "crowd", .int lo, .int hi, .ref D]) hr4
    have er4 : upd G27 r4 (.tup [.str "crowd", .int lo, .int hi, .ref D]) r4 = some (.tup [.str "crowd", .int lo, .int hi, .ref D]) := upd_same
    replace gw := x28 _ _ gw
    replace gi := x28 _ _ gi
    replace gd := ex_dpa x28 gd
    replace gp := x28 _ _ gp
    replace an := an.mono x28
    replace Fi := Fi.mono x28
    replace et2 := x28 _ _ et2
    replace V2 := fun v hv => (V2 v hv).mono x28
    replace O3 := O3.mono x28
    replace FD := FD.mono x28
    generalize upd G27 r4 (.tup [.str "crowd", .int lo, .int hi, .ref D]) = G28 at n28 x28 er4 gw gi gd gp an Fi et2 V2 O3 FD
    generalize upd H27 r4 (.tup [.str "crowd", .int lo, .int hi, .ref D]) = H28 at n28 ⊢
    clear n27 x28
    obtain ⟨dz, hdz, hfz⟩ := flv_dp (K := K) FD
    have O4 : OkV K G28 (.ref r4) := ⟨.tuple [.str "crowd", .int (lo), .int (hi), dz], .tup (SqT.of er4) (.cons (.str _) (.cons (.int _) (.cons (.int _) (.cons hdz .nil)))), okd_row (.inl rfl) (by simp) fun u hu => by
      simp only [List.mem_cons, List.not_mem_nil, or_false] at hu
      rcases hu with rfl | rfl | rfl | rfl
      · exact flt_atomS _
      · exact flt_atomI _
      · exact flt_atomI _
      · exact hfz⟩
    clear hdz hfz
    refine ⟨szl 2 (by omega), fun f2 hf2 => ?_⟩
    obtain ⟨n29, x29⟩ := n28.imm (o := .lst [.ref r3, .ref r4]) hf2
    have ef2 : upd G28 f2 (.lst [.ref r3, .ref r4]) f2 = some (.lst [.ref r3, .ref r4]) := upd_same
    replace gw := x29 _ _ gw
    replace gi := x29 _ _ gi
    replace gd := ex_dpa x29 gd
    replace gp := x29 _ _ gp
    replace an := an.mono x29
    replace Fi := Fi.mono x29
    replace et2 := x29 _ _ et2
    replace V2 := fun v hv => (V2 v hv).mono x29
    replace O3 := O3.mono x29
    replace O4 := O4.mono x29
    generalize upd G28 f2 (.lst [.ref r3, .ref r4]) = G29 at n29 x29 ef2 gw gi gd gp an Fi et2 V2 O3 O4
    generalize upd H28 f2 (.lst [.ref r3, .ref r4]) = H29 at n29 ⊢
    clear n28 x29
    refine ⟨t2, f2, us2, _, rfl, rfl, n29.e _ _ et2, n29.e _ _ ef2, szl _ (by simp; omega), fun t3 ht3 => ?_⟩
    obtain ⟨n30, x30⟩ := n29.imm (o := .lst (us2 ++ [.ref r3, .ref r4])) ht3
    have et3 : upd G29 t3 (.lst (us2 ++ [.ref r3, .ref r4])) t3 = some (.lst (us2 ++ [.ref r3, .ref r4])) := upd_same
    replace gw := x30 _ _ gw
    replace gi := x30 _ _ gi
    replace gd := ex_dpa x30 gd
    replace gp := x30 _ _ gp
    replace an := an.mono x30
    replace Fi := Fi.mono x30
    replace et2 := x30 _ _ et2
    replace V2 := fun v hv => (V2 v hv).mono x30
    replace O3 := O3.mono x30
    replace O4 := O4.mono x30
    replace ef2 := x30 _ _ ef2
    generalize upd G29 t3 (.lst (us2 ++ [.ref r3, .ref r4])) = G30 at n30 x30 et3 gw gi gd gp an Fi et2 V2 O3 O4 ef2
    generalize upd H29 t3 (.lst (us2 ++ [.ref r3, .ref r4])) = H30 at n30 ⊢
    clear n29 x30
    have V3 : ∀ v ∈ us2 ++ [V.ref r3, .ref r4], OkV K G30 v := fun v hv => by
      rcases List.mem_append.mp hv with hv | hv
      · exact V2 v hv
      · simp only [List.mem_cons, List.not_mem_nil, or_false] at hv
        rcases hv with rfl | rfl <;> assumption
    exact ⟨t3, _, _, _, _, G30, rfl, n30, gw, gd, gp, an, et3, V3, by simp; omega⟩
  clear n11 gw11 gd11 gp11 an11 gt11 U11 l11
  rintro σ' H12 ⟨tp, us, lv, hv, iv, G12, rfl, n12, gw12, gd12, gp12, an12, gt12, U12, l12⟩
  refine ⟨_, rfl, tp, rfl, ⟨us, SqL.of (n12.e _ _ gt12)⟩, ?_⟩
  refine for_it walk_list (fun i σ' H' => ∃ vv, σ' = [some (.ref sc), some (.ref s), some (.int kd), some (.ref wa), some sv, some dw, some (.ref pa), tv, av, some (.ref tp), none, lv, hv, iv, vv] ∧ Ex H12 H') ⟨none, rfl, Evl.Ex.refl _⟩ (fun i σ' H' hi ⟨_, _, e⟩ => ex_l e (SqL.of (n12.e _ _ gt12))) ?_ ?_
  · rintro i x σ' H' H13 hi ⟨vv, rfl, e13⟩ ⟨rfl, hx⟩
    have eG := n12.e.trans e13
    obtain ⟨d, hd, hsm, hfit⟩ := U12 x (List.mem_of_getElem? hx)
    refine ⟨_, rfl, _, rfl, x, d, G12, rfl, eG, hd, hfit, fun v2 Gc H14 a14 hd2 => ?_⟩
    have e14 := a14.ex
    have eG14 := eG.trans e14
    refine ⟨.ref pa, v2, .list (ws.map encP), d, rfl, .inl (wd eG14 gp12 gd12), ex_dp a14.gh _ _ hd2, hsm, lw, fun hw => (by rw [enc_isWins] at hw; cases hw), fun ws2 e2 => ?_⟩
    obtain rfl : ws = ws2 := by
      have : ws.map encP = ws2.map encP := by simpa using e2
      exact enc_inj this
    refine ⟨by omega, fun H15 e15 => ?_⟩
    have eG15 := eG14.trans e15
    refine ⟨_, rfl, _, rfl, wa, x, ws, d, rfl, ⟨ys, SqL.of (eG15 _ _ gw12), ex_dpa eG15 gd12⟩, by omega, ex_dp eG15 _ _ hd, hsm, fun H16 e16 => ?_⟩
    exact ⟨_, _, .bool (isSeated ws d), rfl, .bl _, .bl _, by simp [nodes], fun H17 e17 => ⟨_, rfl, ⟨_, rfl, (((e13.trans e14).trans e15).trans e16).trans e17⟩⟩⟩
  · rintro σ' H13 ⟨vv, rfl, e13⟩
    have eG := n12.e.trans e13
    refine ⟨_, rfl, _, rfl, .ref pa, .ref wa, .list (ws.map encP), rfl, wd eG gp12 gd12, wd eG gw12 gd12, ?_, fun H14 _ => q H14⟩
    have : nodesL (ws.map encP) = 3 * ws.length := nodes_pairs ws
    simp only [nodes, this]; omega
end
end K44
namespace K44
open PySem PySem.Spec PyProof.Rows L2 Hx Hd M44
theorem facts {P : Program} {w w' : World} {K : PySem.W.Frag} {h : Heap} {mg : Str → Option Value} {f : Addr} (X : K.In h) (G : h.Ns mainGlobals mg) (hfa : mg ("law" : Str) = some (.ref f)) (c : He.SaysX fa fn [] [] ex w' h K) :
    ∃ fd : FuncData, (∀ (s : Shared) (v : Value), BindsTo s fd ⟨[v], []⟩ [("script", v)]) ∧ ∀ base : Heap, K.In base → base.Ns mainGlobals mg → FnOk P w K mg base CX0 6 f fd ["script"] (spLaw K) := by
  have T := txt_of X G c
  obtain ⟨fd, F⟩ := T.d_law
  have e := hfa.symm.trans T.g_law
  cases e
  have b := FunD.bindsA (ps := ["script"]) F fun _ _ _ _ _ _ us hl => match us, hl with | [_], _ => rfl
  exact ⟨fd, fun s v => b s [v] rfl, fun base _ _ => ok_law T F⟩
end K44
open PySem PySem.W PySem.Calls PyProof.Rows
theorem PySem.Challenge.cw_holdtogether_k44_seats_or_a_crowd_holds : PySem.Challenge.rw_holdtogether_k44_seats_or_a_crowd.Holds := by
  w_on; o_law
  refine HandSHeadRun.head_any (r := OpenLaw.row PySem.Challenge.rw_holdtogether_k44_seats_or_a_crowd) (q := view (OpenLaw.row PySem.Challenge.rw_holdtogether_k44_seats_or_a_crowd).prog [50]) (H := Hd.hk) (ob := Hd.ob) (M := 6000) (loose := Hd.loose) (d := HandSHeadRun.topDef (OpenLaw.row PySem.Challenge.rw_holdtogether_k44_seats_or_a_crowd).prog 50) (kwd := []) Hd.ob_eq
    (by kernel_rfl) (fun s => by kernel_rfl) Hd.run (by kernel_rfl) (by kernel_rfl) (by kernel_rfl) (by rfl) (by first | assumption | decide +kernel) (by decide +kernel) ⟨rfl, rfl, rfl, rfl, rfl, by decide +kernel⟩ ?hw ?hc
  case hw => w_witness2
  case hc =>
    refine L2.walk_ofE (l := PySem.Challenge.rw_holdtogether_k44_seats_or_a_crowd) (n := 63) (k := 6) (x := "script") (CX := L2.CX0) rfl (by decide) (by kernel_rfl) ⟨rfl, by decide, by decide⟩ ?F (fun _ _ _ _ z => z)
    intro w mg fa h Y G hmg0
    obtain ⟨K, KX, c⟩ := Y
    have hmg : mg ("law" : PySem.Str) = some (.ref fa) := by
      have e : (HandSHeadRun.topDef (OpenLaw.row PySem.Challenge.rw_holdtogether_k44_seats_or_a_crowd).prog 50).name = ("law" : PySem.Str) := by kernel_rfl
      rw [← e]
      exact hmg0
    obtain ⟨fd, hb, hF⟩ := K44.facts (P := (PySem.Challenge.rw_holdtogether_k44_seats_or_a_crowd).prog) (w := w) KX G hmg c
    exact ⟨K, fd, K44.spLaw K, KX, hb, fun H a ns hl _ hS => ⟨a, ns, rfl, hS, hl, fun _ => rfl⟩, hF⟩
