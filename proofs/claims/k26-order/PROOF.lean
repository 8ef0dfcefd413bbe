import PyProof.Rows.All
import Wide.All
import OpenK.AllK
import Wide.FinOn
import HandS.ForMost
import HandS.Exc
import HandS.Defaults
import HandS.Wide
import HandS.IsInst
import HandS.DictComp
import HandS.Strs
import HandS.Codes
import HandS.SortInts
import HandS.TupAny
import HandS.WordsExc
import HandS.ExcOwn
import HandS.Head0
import HandS.Head1
import HandS.Head2
import HandS.HeadEnd
import HandS.HeadHook1
import HandS.HeadHook2
import HandS.Walk
import KE.KExcIs
import HandS.ExcCtx
import HandS.HotCalls
import HandS.CallSlots
import KE.KCallOwn
import KE.KOpsOwn
import HandS.FStr
import KE.SortData
import KE.DataCmp
import KE.GoesMore
import HandS.Style
import HandS.Property
import KE.DataEq
import HandS.SetFor
import PySem.Challenge.RW_mostsalike_k26_case_form_and_order
set_option Elab.async false
set_option linter.all false
set_option maxRecDepth 100000
set_option maxHeartbeats 4000000
/-! our own base: calls by bundled facts, heaps, the source of draws -/
namespace My
open PySem PySem.Spec PyProof.Rows L2

/-! ### defs that may be called -/
section
variable (P : Program) (w : World) (K : PySem.W.Frag) (mg : Str → Option Value) (base : Heap) (CX : CXT) (k : Nat)
structure Cal (x : Str) (ps : List Str) (dvs : List V) (sp : Sp) : Prop where
  ex : ∃ f fd ds, mg x = some (.ref f) ∧ PySem.W.keepIn K (.ref f) = true ∧ FnOk P w K mg base CX k f fd ps sp ∧ Binds K fd ps ds ∧ Vals dvs ds
structure CalM (C : Addr) (m : Str) (ps : List Str) (dvs : List V) (sp : Sp) : Prop where
  c : Cls K C
  ex : ∃ f fd ds, Meth K C m f ∧ FnOk P w K mg base CX k f fd ps sp ∧ Binds K fd ps ds ∧ Vals dvs ds
structure CalI (x : Str) (C : Addr) (ps : List Str) (dvs : List V) (sp : Sp) : Prop where
  g : mg x = some (.ref C)
  ex : ∃ f fd ds, Mk K C f ∧ FnOk P w K mg base CX k f fd ps sp ∧ Binds K fd ps ds ∧ Vals dvs ds
end
section
variable {X : Cx} {CX : CXT} {k : Nat} {C : Addr} {ps : List Str} {sp : Sp} {dvs : List V} {E : XK} {x m : Str} {p pos apos : Pos} {e o : Expr} {es : List Expr} {ta : TE} {t : TA}
theorem pc_call (c : Cal X.prog X.w X.K X.mg X.base CX k x ps dvs sp) (hr : Room k X.A) (hx : Passes CX X E) (ha : PA X (e :: es) t) (hg : Gl X x := by rfl) (hdb : (x == ("__debug__" : Str)) = false := by decide)
    (he : starEach (e :: es) X.env = (false, eval e X.env) :: starEach es X.env := by rfl) (hpl : (backTo pos (starEach es X.env)).any (·.1) = false := by rfl) : PE X (.Call (.Name x p) (e :: es) [] pos) (tCall sp dvs E t) := by
  obtain ⟨f, fd, ds, h1, h2, F, b, v⟩ := c.ex
  exact pe_call F hr hg h1 h2 b v hx ha hdb he hpl
theorem pc_meth {pl : Sem Bool} (c : CalM X.prog X.w X.K X.mg X.base CX k C m ps dvs sp) (hr : Room k X.A) (hx : Passes CX X E) (ho : PE X o ta) (ha : PA X (e :: es) t)
    (hst : starEach (e :: es) X.env = (false, eval e X.env) :: starEach es X.env := by rfl) (hpl : (backTo pos (starEach es X.env)).any (·.1) = false := by rfl)
    (ht : eval (.Call (.Attribute o m apos) (e :: es) [] pos) X.env = (do
      let ov ← eval o X.env
      standAt apos.atName
      let (f, first) ← holding [ov] (getMethod ov m pl)
      callWith pos f first (backTo pos (starEach (e :: es) X.env)) (backToKw pos (keywordEach [] X.env))) := by rfl) :
    PE X (.Call (.Attribute o m apos) (e :: es) [] pos) (tMeth C m sp dvs E ta t) := by
  obtain ⟨f, fd, ds, h1, F, b, v⟩ := c.ex
  exact pe_meth ho c.c h1 F hr b v hx ha hst hpl ht
theorem pc_meth0 {pl : Sem Bool} (c : CalM X.prog X.w X.K X.mg X.base CX k C m ps dvs sp) (hr : Room k X.A) (hx : Passes CX X E) (ho : PE X o ta)
    (ht : eval (.Call (.Attribute o m apos) [] [] pos) X.env = (do
      let ov ← eval o X.env
      standAt apos.atName
      let (f, first) ← holding [ov] (getMethod ov m pl)
      callWith pos f first (backTo pos (starEach [] X.env)) (backToKw pos (keywordEach [] X.env))) := by rfl) :
    PE X (.Call (.Attribute o m apos) [] [] pos) (tMeth C m sp dvs E ta tNil) := by
  obtain ⟨f, fd, ds, h1, F, b, v⟩ := c.ex
  exact pe_meth0 ho c.c h1 F hr b v hx ht
theorem pc_make (c : CalI X.prog X.w X.K X.mg X.base CX k x C ps dvs sp) (hr : Room (k + 1) X.A) (hx : Passes CX X E) (ha : PA X (e :: es) t) (hg : Gl X x := by rfl) (hdb : (x == ("__debug__" : Str)) = false := by decide)
    (he : starEach (e :: es) X.env = (false, eval e X.env) :: starEach es X.env := by rfl) (hpl : (backTo pos (starEach es X.env)).any (·.1) = false := by rfl) : PE X (.Call (.Name x p) (e :: es) [] pos) (tMake C sp dvs E t) := by
  obtain ⟨f, fd, ds, h1, F, b, v⟩ := c.ex
  exact pe_make h1 F hr hg c.g b v hx ha hdb he hpl
end

section
variable {P : Program} {w : World} {K : PySem.W.Frag} {mg : Str → Option Value} {base : Heap}
theorem Cal.of {CX : CXT} {k : Nat} {x q : Str} {ps : List Str} {sp : Sp} {pa : Arguments} {bd : List Stmt} {sc : Scope} {kws : List (Str × V)} {f : Addr} (F : ∃ fd, FunD K x q pa bd sc [] kws f fd) (hm : mg x = some (.ref f))
    (ok : ∀ fd, FunD K x q pa bd sc [] kws f fd → FnOk P w K mg base CX k f fd ps sp)
    (hb : ∀ (kV doc pm : Value) (an : Option Addr) (cdv ct : Value) (us : List Value), us.length = ps.length → bindArgs (PySem.W.fnOf x q pa bd sc .none kV doc pm an cdv ct) ⟨us, []⟩ = pure (ps.zip us)) : Cal P w K mg base CX k x ps [] sp := by
  obtain ⟨fd, F⟩ := F
  exact ⟨f, fd, [], hm, F.kp, ok fd F, F.bindsN hb, .nil⟩
end

/-! ### heaps -/
/-- what was tracked stands, but at s -/
def But (s : Addr) (H H' : Hp) : Prop := ∀ b o, b ≠ s → H b = some o → H' b = some o
theorem But.refl {s : Addr} (H : Hp) : But s H H := fun _ _ _ e => e
theorem But.trans {s : Addr} {H H1 H2 : Hp} (a : But s H H1) (b : But s H1 H2) : But s H H2 := fun c o n e => b c o n (a c o n e)
theorem But.seq {s : Addr} {K : PySem.W.Frag} {H H' : Hp} {a : Addr} {xs : List V} (e : But s H H') (n : a ≠ s) (h : SqL K H a xs) : SqL K H' a xs := by
  rcases h with (h | ⟨o, h⟩) | h
  · exact .inl (.inl (e _ _ n h))
  · exact .inl (.inr ⟨o, e _ _ n h⟩)
  · exact .inr h
theorem But.tup {s : Addr} {K : PySem.W.Frag} {H H' : Hp} {a : Addr} {xs : List V} (e : But s H H') (n : a ≠ s) (h : SqT K H a xs) : SqT K H' a xs := by
  rcases h with (h | ⟨o, h⟩) | h
  · exact .inl (.inl (e _ _ n h))
  · exact .inl (.inr ⟨o, e _ _ n h⟩)
  · exact .inr h
theorem But.upd {s : Addr} {H : Hp} {o : HO} : But s H (upd H s o) := fun b u n e => by rw [upd_ne n]; exact e
theorem But.new {s p : Addr} {H H' : Hp} {o : HO} (e : But s H H') (hp : H' p = none) (hs : ∃ u, H' s = some u) : But s H (L2.upd H' p o) := fun b u n x => by
  have q := e b u n x
  rw [upd_ne (ne_of_none q hp)]
  exact q
theorem same_new {p : Addr} {H H' : Hp} {o : HO} (e : Same H H') (hp : H' p = none) : Same H (L2.upd H' p o) := fun b u x => by
  rw [upd_ne (ne_of_none (e b u x) hp)]
  exact e b u x
/-- an object that H does not know is changed -/
theorem same_mut {p : Addr} {H H' : Hp} {o : HO} (e : Same H H') (hp : H p = none) : Same H (L2.upd H' p o) := fun b u x => by
  rw [upd_ne (ne_of_none x hp)]
  exact e b u x
theorem But.mut {s p : Addr} {H H' : Hp} {o : HO} (e : But s H H') (hp : H p = none) : But s H (L2.upd H' p o) := fun b u n x => by
  rw [upd_ne (ne_of_none x hp)]
  exact e b u n x
theorem But.same {s : Addr} {H H' : Hp} (e : Same H H') : But s H H' := fun b o _ x => e b o x
theorem same_tup {K : PySem.W.Frag} {H H' : Hp} {a : Addr} {xs : List V} (e : Same H H') (h : SqT K H a xs) : SqT K H' a xs := by
  rcases h with (h | ⟨o, h⟩) | h
  · exact .inl (.inl (e _ _ h))
  · exact .inl (.inr ⟨o, e _ _ h⟩)
  · exact .inr h
theorem But.free {s p : Addr} {H H' : Hp} (e : But s H H') (n : p ≠ s) (h : H' p = none) : H p = none := by
  cases q : H p with
  | none => rfl
  | some o =>
    rw [e p o n q] at h
    cases h
theorem sl_of {K : PySem.W.Frag} {H : Hp} {a : Addr} {xs : List V} (h : H a = some (.lst xs)) : SqL K H a xs := SqL.of h
theorem sz {n : Nat} (h : n ≤ 100000) : n ≤ sizeLine := Nat.le_trans h (by decide)
theorem szl {n : Nat} (h : n < 100000) : n < sizeLine := Nat.lt_of_lt_of_le h (by decide)

/-! ### the source of draws -/
def srcK (c : Addr) (at_ left mixed seed : Int) : List (Key × V) := [(.inr "cells", .ref c), (.inr "at", .int at_), (.inr "left", .int left), (.inr "mixed", .int mixed), (.inr "seed", .int seed)]
structure Src (H : Hp) (s c : Addr) : Prop where
  ex : ∃ (ns : List Int) (at_ left mixed seed : Int), H s = some (.dK (srcK c at_ left mixed seed)) ∧ H c = some (.lst (ns.map V.int)) ∧ 0 ≤ at_
theorem kne : (Sum.inr "cells" : Key) ≠ .inr "at" ∧ (Sum.inr "cells" : Key) ≠ .inr "left" ∧ (Sum.inr "cells" : Key) ≠ .inr "mixed" ∧ (Sum.inr "cells" : Key) ≠ .inr "seed" ∧ (Sum.inr "at" : Key) ≠ .inr "left" ∧ (Sum.inr "at" : Key) ≠ .inr "mixed" ∧
    (Sum.inr "at" : Key) ≠ .inr "seed" ∧ (Sum.inr "left" : Key) ≠ .inr "mixed" ∧ (Sum.inr "left" : Key) ≠ .inr "seed" ∧ (Sum.inr "mixed" : Key) ≠ .inr "seed" := by decide +kernel
theorem src_cells {c : Addr} {a l m d : Int} : valV (srcK c a l m d) (.inr "cells") = some (.ref c) := by
  unfold srcK; rw [valV_pos rfl]
theorem src_at {c : Addr} {a l m d : Int} : valV (srcK c a l m d) (.inr "at") = some (.int a) := by
  obtain ⟨h1, h2, h3, h4, h5, h6, h7, h8, h9, h10⟩ := kne
  unfold srcK; rw [valV_neg h1, valV_pos rfl]
theorem src_left {c : Addr} {a l m d : Int} : valV (srcK c a l m d) (.inr "left") = some (.int l) := by
  obtain ⟨h1, h2, h3, h4, h5, h6, h7, h8, h9, h10⟩ := kne
  unfold srcK; rw [valV_neg h2, valV_neg h5, valV_pos rfl]
theorem src_mixed {c : Addr} {a l m d : Int} : valV (srcK c a l m d) (.inr "mixed") = some (.int m) := by
  obtain ⟨h1, h2, h3, h4, h5, h6, h7, h8, h9, h10⟩ := kne
  unfold srcK; rw [valV_neg h3, valV_neg h6, valV_neg h8, valV_pos rfl]
theorem src_seed {c : Addr} {a l m d : Int} : valV (srcK c a l m d) (.inr "seed") = some (.int d) := by
  obtain ⟨h1, h2, h3, h4, h5, h6, h7, h8, h9, h10⟩ := kne
  unfold srcK; rw [valV_neg h4, valV_neg h7, valV_neg h9, valV_neg h10, valV_pos rfl]
theorem put_at {c : Addr} {a l m d x : Int} : putK (srcK c a l m d) (.inr "at") (.int x) = srcK c x l m d := by
  obtain ⟨h1, h2, h3, h4, h5, h6, h7, h8, h9, h10⟩ := kne
  unfold putK srcK
  simp [h1, h5.symm, h6.symm, h7.symm]
theorem put_left {c : Addr} {a l m d x : Int} : putK (srcK c a l m d) (.inr "left") (.int x) = srcK c a x m d := by
  obtain ⟨h1, h2, h3, h4, h5, h6, h7, h8, h9, h10⟩ := kne
  unfold putK srcK
  simp [h2, h5, h8.symm, h9.symm]
theorem put_mixed {c : Addr} {a l m d x : Int} : putK (srcK c a l m d) (.inr "mixed") (.int x) = srcK c a l x d := by
  obtain ⟨h1, h2, h3, h4, h5, h6, h7, h8, h9, h10⟩ := kne
  unfold putK srcK
  simp [h3, h6, h8, h10.symm]
theorem put_seed {c : Addr} {a l m d x : Int} : putK (srcK c a l m d) (.inr "seed") (.int x) = srcK c a l m x := by
  obtain ⟨h1, h2, h3, h4, h5, h6, h7, h8, h9, h10⟩ := kne
  unfold putK srcK
  simp [h4, h7, h9, h10]
theorem g_cells {H : Hp} {s c : Addr} {a l m d : Int} (h : H s = some (.dK (srcK c a l m d))) : DGet H s (.str "cells") (some (.ref c)) := .inl ⟨_, .inr "cells", .inl h, rfl, src_cells.symm⟩
theorem g_at {H : Hp} {s c : Addr} {a l m d : Int} (h : H s = some (.dK (srcK c a l m d))) : DGet H s (.str "at") (some (.int a)) := .inl ⟨_, .inr "at", .inl h, rfl, src_at.symm⟩
theorem g_left {H : Hp} {s c : Addr} {a l m d : Int} (h : H s = some (.dK (srcK c a l m d))) : DGet H s (.str "left") (some (.int l)) := .inl ⟨_, .inr "left", .inl h, rfl, src_left.symm⟩
theorem g_mixed {H : Hp} {s c : Addr} {a l m d : Int} (h : H s = some (.dK (srcK c a l m d))) : DGet H s (.str "mixed") (some (.int m)) := .inl ⟨_, .inr "mixed", .inl h, rfl, src_mixed.symm⟩
theorem g_seed {H : Hp} {s c : Addr} {a l m d : Int} (h : H s = some (.dK (srcK c a l m d))) : DGet H s (.str "seed") (some (.int d)) := .inl ⟨_, .inr "seed", .inl h, rfl, src_seed.symm⟩
theorem five {c : Addr} {a l m d : Int} : (srcK c a l m d).length < sizeLine := small1000 (by show 5 ≤ 1000; decide)
theorem p_at {H : Hp} {s c : Addr} {a l m d x : Int} (h : H s = some (.dK (srcK c a l m d))) : DPut H s (.str "at") (.int x) (upd H s (.dK (srcK c x l m d))) := .inl ⟨_, .inr "at", h, rfl, five, by rw [put_at]⟩
theorem p_left {H : Hp} {s c : Addr} {a l m d x : Int} (h : H s = some (.dK (srcK c a l m d))) : DPut H s (.str "left") (.int x) (upd H s (.dK (srcK c a x m d))) := .inl ⟨_, .inr "left", h, rfl, five, by rw [put_left]⟩
theorem p_mixed {H : Hp} {s c : Addr} {a l m d x : Int} (h : H s = some (.dK (srcK c a l m d))) : DPut H s (.str "mixed") (.int x) (upd H s (.dK (srcK c a l x d))) := .inl ⟨_, .inr "mixed", h, rfl, five, by rw [put_mixed]⟩
theorem p_seed {H : Hp} {s c : Addr} {a l m d x : Int} (h : H s = some (.dK (srcK c a l m d))) : DPut H s (.str "seed") (.int x) (upd H s (.dK (srcK c a l m x))) := .inl ⟨_, .inr "seed", h, rfl, five, by rw [put_seed]⟩
/-! ### tests of open outcome -/
theorem ifI {i j : Int} {A B : Prop} (h1 : i = j → A) (h2 : i ≠ j → B) : if decide (V.int i = V.int j) = true then A else B := by
  by_cases h : i = j
  · rw [if_pos (decide_eq_true (congrArg V.int h))]
    exact h1 h
  · rw [if_neg (by rw [decide_eq_false fun e => h (V.int.inj e)]; decide)]
    exact h2 h
theorem ifD {c A B : Prop} [Decidable c] (h1 : c → A) (h2 : ¬ c → B) : if decide c = true then A else B := by
  by_cases h : c
  · rw [if_pos (decide_eq_true h)]
    exact h1 h
  · rw [if_neg (by rw [decide_eq_false h]; decide)]
    exact h2 h
theorem ifN {i j : Int} {A B : Prop} (h1 : i ≠ j → A) (h2 : i = j → B) : if (!decide (V.int i = V.int j)) = true then A else B := by
  by_cases h : i = j
  · rw [if_neg (by rw [decide_eq_true (congrArg V.int h)]; decide)]
    exact h2 h
  · rw [if_pos (by rw [decide_eq_false fun e => h (V.int.inj e)]; decide)]
    exact h1 h
theorem ifB {b : Bool} {A B : Prop} (h1 : b = true → A) (h2 : b = false → B) : if b = true then A else B := by
  cases b with
  | true => exact h1 rfl
  | false => exact h2 rfl
theorem ifT {b : Bool} {A B : Prop} (e : b = true) (h : A) : if b = true then A else B := by rw [if_pos e]; exact h
theorem ifF {b : Bool} {A B : Prop} (e : b = false) (h : B) : if b = true then A else B := by rw [e]; exact h
theorem atNat {xs : List V} {i : Int} {v : V} {n : Nat} (h : xs[n]? = some v) (e : i = (n : Int)) : atI xs i = some v := by
  subst e
  exact atI_nat h
theorem tyx_l {K : PySem.W.Frag} {H : Hp} {a : Addr} {xs : List V} (h : SqL K H a xs) : TyX K H (.ref a) (.type "list") := by
  rcases h with (h | ⟨o, h⟩) | ⟨o, its, n, hk, hc, _⟩
  · exact .base (.lst h)
  · exact .base (.frz h)
  · exact .kList hk hc
theorem tyx_t {K : PySem.W.Frag} {H : Hp} {a : Addr} {xs : List V} (h : SqT K H a xs) : TyX K H (.ref a) (.type "tuple") := by
  rcases h with (h | ⟨o, h⟩) | ⟨o, its, n, hk, hc, _⟩
  · exact .base (.tup h)
  · exact .fTuple h
  · exact .kTuple hk hc
theorem isi {K : PySem.W.Frag} {H : Hp} {Q : VK} {x : V} {n t : String} {b : Bool} (ty : TyX K H x (.type t)) (hk : kitB t n = some b) (q : Q (.bl b) H) : rIsi K [x, .ty n] H Q := ⟨x, .ty n, .type t, .type n, b, rfl, .ty n, ty, kit_ty hk, q⟩
theorem kt_NoneType_bool : kitB "NoneType" "bool" = some false := by decide +kernel
theorem kt_NoneType_int : kitB "NoneType" "int" = some false := by decide +kernel
theorem kt_NoneType_str : kitB "NoneType" "str" = some false := by decide +kernel
theorem kt_NoneType_tuple : kitB "NoneType" "tuple" = some false := by decide +kernel
theorem kt_NoneType_list : kitB "NoneType" "list" = some false := by decide +kernel
theorem kt_bool_bool : kitB "bool" "bool" = some true := by decide +kernel
theorem kt_bool_int : kitB "bool" "int" = some true := by decide +kernel
theorem kt_bool_str : kitB "bool" "str" = some false := by decide +kernel
theorem kt_bool_tuple : kitB "bool" "tuple" = some false := by decide +kernel
theorem kt_bool_list : kitB "bool" "list" = some false := by decide +kernel
theorem kt_int_bool : kitB "int" "bool" = some false := by decide +kernel
theorem kt_int_int : kitB "int" "int" = some true := by decide +kernel
theorem kt_int_str : kitB "int" "str" = some false := by decide +kernel
theorem kt_int_tuple : kitB "int" "tuple" = some false := by decide +kernel
theorem kt_int_list : kitB "int" "list" = some false := by decide +kernel
theorem kt_str_bool : kitB "str" "bool" = some false := by decide +kernel
theorem kt_str_int : kitB "str" "int" = some false := by decide +kernel
theorem kt_str_str : kitB "str" "str" = some true := by decide +kernel
theorem kt_str_tuple : kitB "str" "tuple" = some false := by decide +kernel
theorem kt_str_list : kitB "str" "list" = some false := by decide +kernel
theorem kt_list_bool : kitB "list" "bool" = some false := by decide +kernel
theorem kt_list_int : kitB "list" "int" = some false := by decide +kernel
theorem kt_list_str : kitB "list" "str" = some false := by decide +kernel
theorem kt_list_tuple : kitB "list" "tuple" = some false := by decide +kernel
theorem kt_list_list : kitB "list" "list" = some true := by decide +kernel
theorem kt_tuple_bool : kitB "tuple" "bool" = some false := by decide +kernel
theorem kt_tuple_int : kitB "tuple" "int" = some false := by decide +kernel
theorem kt_tuple_str : kitB "tuple" "str" = some false := by decide +kernel
theorem kt_tuple_tuple : kitB "tuple" "tuple" = some true := by decide +kernel
theorem kt_tuple_list : kitB "tuple" "list" = some false := by decide +kernel
theorem kt_dict_bool : kitB "dict" "bool" = some false := by decide +kernel
theorem kt_dict_int : kitB "dict" "int" = some false := by decide +kernel
theorem kt_dict_str : kitB "dict" "str" = some false := by decide +kernel
theorem kt_dict_tuple : kitB "dict" "tuple" = some false := by decide +kernel
theorem kt_dict_list : kitB "dict" "list" = some false := by decide +kernel
/-! ### data: bounded depth and lengths -/
def okD : Nat → PyData → Bool
  | 0, _ => false
  | _ + 1, .none => true
  | _ + 1, .bool _ => true
  | _ + 1, .int _ => true
  | _ + 1, .str _ => true
  | n + 1, .list ds => decide (ds.length ≤ 100000) && ds.all (okD n)
  | n + 1, .tuple ds => decide (ds.length ≤ 100000) && ds.all (okD n)
  | _ + 1, .dict _ => false
theorem dp_len {K : PySem.W.Frag} {H : Hp} : ∀ {vs : List V} {ds : List PyData}, DpAll K H vs ds → vs.length = ds.length
  | _, _, .nil => rfl
  | _, _, .cons _ t => congrArg Nat.succ (dp_len t)
theorem dp_get {K : PySem.W.Frag} {H : Hp} : ∀ {vs : List V} {ds : List PyData} {i : Nat} {d : PyData}, DpAll K H vs ds → ds[i]? = some d → ∃ v, vs[i]? = some v ∧ Dp K H v d
  | _, _, _, _, .nil, e => by simp at e
  | _, _, 0, _, .cons h _, e => by simp at e; subst e; exact ⟨_, rfl, h⟩
  | _, _, i + 1, _, .cons _ t, e => by
    obtain ⟨v, h1, h2⟩ := dp_get (i := i) t (by simpa using e)
    exact ⟨v, by simpa using h1, h2⟩
theorem dp_ints {K : PySem.W.Frag} {H : Hp} : ∀ (ns : List Int), DpAll K H (ns.map V.int) (ns.map PyData.int)
  | [] => .nil
  | n :: ns => .cons (.int n) (dp_ints ns)
theorem okD_ints {n : Nat} {ns : List Int} : (ns.map PyData.int).all (okD (n + 1)) = true := by
  rw [List.all_eq_true]
  intro d hd
  obtain ⟨i, _, rfl⟩ := List.mem_map.mp hd
  rfl
def spWhole : Sp := fun vs H Q _ => ∃ i : Int, vs = [.int i] ∧ Q (.bl true) H
def spSame (K : PySem.W.Frag) (n : Nat) : Sp := fun vs H Q _ => ∃ (x y : V) (d : PyData), vs = [x, y] ∧ Dp K H x d ∧ Dp K H y d ∧ okD n d = true ∧ Q (.bl true) H
def spNumber : Sp := fun vs H Q _ => ∃ s c, vs = [.ref s] ∧ Src H s c ∧ ∀ (r : Int) H', -(10 ^ 20) ≤ r → r ≤ 10 ^ 20 → Src H' s c → But s H H' → Q (.int r) H'
theorem Src.ne {H : Hp} {s c : Addr} (S : Src H s c) : c ≠ s := by
  obtain ⟨ns, a, l, m, d, hs, hc, _⟩ := S.ex
  exact ne_of hc hs (by intro z; cases z)
theorem Src.at {H H' : Hp} {s c : Addr} (S : Src H s c) (e1 : H' s = H s) (e2 : H' c = H c) : Src H' s c := by
  obtain ⟨ns, a, l, m, d, hs, hc, ha⟩ := S.ex
  exact ⟨ns, a, l, m, d, e1.trans hs, e2.trans hc, ha⟩
theorem Src.same {H H' : Hp} {s c : Addr} (S : Src H s c) (e : Same H H') : Src H' s c := by
  obtain ⟨ns, a, l, m, d, hs, hc, ha⟩ := S.ex
  exact ⟨ns, a, l, m, d, e _ _ hs, e _ _ hc, ha⟩
theorem Src.new {H : Hp} {s c p : Addr} {o : HO} (S : Src H s c) (np : H p = none) : Src (L2.upd H p o) s c := S.same (same_new (Same.refl H) np)
theorem Src.put {H : Hp} {s c p : Addr} {o : HO} (S : Src H s c) (h1 : p ≠ s) (h2 : p ≠ c) : Src (L2.upd H p o) s c := S.at (upd_ne h1.symm) (upd_ne h2.symm)
/-- an object that is no source stands apart from it -/
theorem Src.apart {H : Hp} {s c p : Addr} (S : Src H s c) (h : H p = none) : p ≠ s ∧ p ≠ c := by
  obtain ⟨ns, a, l, m, d, hs, hc, ha⟩ := S.ex
  exact ⟨ne_of_none hs h |>.symm, (ne_of_none hc h).symm⟩
/-- the promises of the source's makers -/
def spSource (K : PySem.W.Frag) : Sp := fun vs H Q _ => ∃ (a : Addr) (ns : List Int), vs = [.ref a] ∧ SqL K H a (ns.map V.int) ∧ ∀ s c H', H s = none → H c = none → Src H' s c → Same H H' → Q (.ref s) H'
def spDraw : Sp := fun vs H Q _ => ∃ (s c : Addr) (many : Int), vs = [.ref s, .int many] ∧ Src H s c ∧ 0 < many ∧ many < 2 ^ 200 ∧ ∀ r H', 0 ≤ r → r < many → Src H' s c → But s H H' → Q (.int r) H'
end My

set_option Elab.async false
set_option linter.all false
set_option maxRecDepth 100000
set_option maxHeartbeats 4000000
namespace My
open PySem PySem.Spec PyProof.Rows L2
/-! ### a list or a tuple, walked -/
def Sq (K : PySem.W.Frag) (H : Hp) (a : Addr) (xs : List V) : Prop := SqL K H a xs ∨ SqT K H a xs
theorem sqL_at {K : PySem.W.Frag} {H H' : Hp} {a : Addr} {xs : List V} (e : ∀ o, H a = some o → H' a = some o) (h : SqL K H a xs) : SqL K H' a xs := by
  rcases h with (h | ⟨o, h⟩) | h
  · exact .inl (.inl (e _ h))
  · exact .inl (.inr ⟨o, e _ h⟩)
  · exact .inr h
theorem sqT_at {K : PySem.W.Frag} {H H' : Hp} {a : Addr} {xs : List V} (e : ∀ o, H a = some o → H' a = some o) (h : SqT K H a xs) : SqT K H' a xs := by
  rcases h with (h | ⟨o, h⟩) | h
  · exact .inl (.inl (e _ h))
  · exact .inl (.inr ⟨o, e _ h⟩)
  · exact .inr h
theorem Sq.at {K : PySem.W.Frag} {H H' : Hp} {a : Addr} {xs : List V} (e : ∀ o, H a = some o → H' a = some o) (h : Sq K H a xs) : Sq K H' a xs := h.imp (sqL_at e) (sqT_at e)
def SeqIn (K : PySem.W.Frag) (x : V) (H1 : Hp) (R : It → Hp → Prop) : Prop := ∃ a, x = .ref a ∧ (((∃ xs, SqL K H1 a xs) ∧ R (Itl K a) H1) ∨ ((∃ xs, SqT K H1 a xs) ∧ R (Itt K a) H1))
def iSeq (K : PySem.W.Frag) (tl : TE) : TI := fun σ H R => tl σ H fun x H1 => SeqIn K x H1 R
theorem pi_seq {X : Cx} {tg l : Expr} {tl : TE} (hl : PE X l tl) : PI X tg l (iSeq X.K tl) := by
  refine ⟨fun pins s σ H R I h => thn (hl.run pins s σ H _ I h) fun v s1 ⟨x, H1, I1, r1, q1⟩ => ?_⟩
  obtain ⟨a, e, q⟩ := q1
  subst e
  cases r1
  have fr : ∀ b ∈ [s1.heap.objs.size], FpOk X pins H1 b := fun b hb => by
    have e : b = s1.heap.objs.size := by simpa using hb
    rw [e]
    exact I1.fpOk (Nat.le_refl _) (I1.hok.fresh (Nat.le_refl _))
  rcases q with ⟨⟨xs, hq⟩, q⟩ | ⟨⟨xs, hq⟩, q⟩
  · obtain ⟨its, _, p, _⟩ := I1.list hq
    exact wpAny_pyIter_list p.isList ⟨s1.heap.objs.size, [s1.heap.objs.size], _, _, H1, rfl, I1.kept (t' := s1.toks) fun b o e => Heap.get?_push_of_some _ e, turn_list a _, ⟨_, Heap.get?_push_size _ rfl, rfl, rfl⟩, fr, q⟩
  · obtain ⟨its, _, p, _⟩ := I1.tuple hq
    exact wpAny_pyIter_tuple (show s1.heap.IsTuple a its.toArray from p) ⟨s1.heap.objs.size, [s1.heap.objs.size], _, _, H1, rfl, I1.kept (t' := s1.toks) fun b o e => Heap.get?_push_of_some _ e, turn_tuple a _, ⟨_, Heap.get?_push_size _ rfl, rfl, rfl⟩, fr, q⟩
theorem rseq {K : PySem.W.Frag} {H : Hp} {a : Addr} {xs : List V} {R : It → Hp → Prop} (hS : Sq K H a xs)
    (h : ∀ (J : It) (G : Hp → Prop), (∀ H', (∀ o, H a = some o → H' a = some o) → G H') → Walk J xs.length G (YAt xs) → R J H) : SeqIn K (.ref a) H R := by
  rcases hS with q | q
  · exact ⟨a, rfl, .inl ⟨⟨xs, q⟩, h _ _ (fun H' e => sqL_at e q) walk_list⟩⟩
  · exact ⟨a, rfl, .inr ⟨⟨xs, q⟩, h _ _ (fun H' e => sqT_at e q) walk_tup⟩⟩
/-- a dict's comprehension over a walk -/
theorem dc_it {J : It} {n : Nat} {G : Hp → Prop} {Y : Nat → Hp → V → Hp → Prop} (wk : Walk J n G Y) {g : TG} {tt : TT} {tk tv : TE} {vs : List Nat} {σ : L2.St} {H1 : Hp} {D : Addr} {Qd : Hp → Prop} (Pv : Nat → Hp → Prop)
    (h0 : Pv 0 (upd H1 D (.dK []))) (hG : ∀ i H, i ≤ n → Pv i H → G H)
    (hs : ∀ i x H H', i < n → Pv i H → Y i H x H' → g x (wipe σ vs) H' fun σ2 H2 => wipe σ2 vs = wipe σ vs ∧ tt σ2 H2 fun b H3 =>
      if b = true then tk σ2 H3 fun y H4 => tv σ2 H4 fun z H5 => ∃ kvs k, y = kV k ∧ H5 D = some (.dK kvs) ∧ kvs.length < sizeLine ∧ Pv (i + 1) (upd H5 D (.dK (putK kvs k z))) else Pv (i + 1) H3) (hd : ∀ H, Pv n H → Qd H) :
    ∃ W : Nat → Nat → Hp → Prop, (∃ m, W 0 m (upd H1 D (.dK []))) ∧ ∀ i m H, W i m H →
      (J.stop i H ∧ Qd H) ∨ (J.go i H ∧ ∃ Nx : Hp → Prop, (∀ H', Nx H' → ∃ m', m' < m ∧ W (i + 1) m' H') ∧ ∀ x H', J.yld i H x H' → g x (wipe σ vs) H' fun σ2 H2 => wipe σ2 vs = wipe σ vs ∧ tt σ2 H2 fun b H3 =>
        if b = true then tk σ2 H3 fun y H4 => tv σ2 H4 fun z H5 => ∃ kvs k, y = kV k ∧ H5 D = some (.dK kvs) ∧ kvs.length < sizeLine ∧ Nx (upd H5 D (.dK (putK kvs k z))) else Nx H3) := by
  refine ⟨fun i m H => m = n - i ∧ i ≤ n ∧ Pv i H, ⟨n, rfl, Nat.zero_le _, h0⟩, ?_⟩
  rintro i m H ⟨rfl, hi, p⟩
  have q := hG i H hi p
  by_cases hlt : i < n
  · exact .inr ⟨wk.goes i H hlt q, Pv (i + 1), fun H' p' => ⟨n - (i + 1), by omega, rfl, hlt, p'⟩, fun x H' y => hs i x H H' hlt p (wk.yields i H x H' hlt q y)⟩
  · have e : i = n := by omega
    subst e
    exact .inl ⟨wk.stops H q, hd H p⟩
/-- an item of a written list -/
theorem item_of {L : List Int} {P : Int → Prop} (hP : ∀ x ∈ L, P x) {r : Int} (h0 : 0 ≤ r) (h1 : r < L.length) : ∃ m, atI (L.map V.int) r = some (.int m) ∧ P m := by
  have hr : r.toNat < L.length := by omega
  have e : (L.map V.int)[r.toNat]? = some (.int L[r.toNat]) := by rw [List.getElem?_map, List.getElem?_eq_getElem hr]; rfl
  exact ⟨L[r.toNat], atNat (n := r.toNat) e (by omega), hP _ (List.getElem_mem _)⟩
/-- the heap as a letter -/
theorem at_heap {α : Type} {f : α → Hp → Prop} {σ : α} {H : Hp} (h : ∀ H', H' = H → f σ H') : f σ H := h H rfl
theorem map_get {α β : Type} {f : α → β} {l : List α} {i : Nat} {y : β} (h : (l.map f)[i]? = some y) : ∃ x, l[i]? = some x ∧ y = f x := by
  rw [List.getElem?_map] at h
  cases e : l[i]? with
  | none => rw [e] at h; cases h
  | some x => rw [e] at h; exact ⟨x, rfl, (Option.some.inj h).symm⟩
theorem get_map {α β : Type} {f : α → β} {l : List α} {i : Nat} {x : α} (h : l[i]? = some x) : (l.map f)[i]? = some (f x) := by rw [List.getElem?_map, h]; rfl
theorem take_snoc {α : Type} {l : List α} {i : Nat} {x : α} (h : l[i]? = some x) : l.take (i + 1) = l.take i ++ [x] := by
  rw [List.take_succ, h]
  rfl
theorem take_all {α : Type} (l : List α) : l.take l.length = l := List.take_length
end My

set_option Elab.async false
set_option linter.all false
set_option maxRecDepth 100000
set_option maxHeartbeats 4000000
/-! exceptions: calls and a list's comprehension where an exception is handled, isinstance of it; calls that may raise -/
namespace My
open PySem PySem.Spec PyProof.Rows L2
section
variable {prog : Program} {w : World} {A : Around} {E : Value → Shared → Prop} {s : Shared}
/-- a list's iterator ends where an exception is handled -/
theorem list_end_hot {it l x1 : Addr} {i : Nat} {items : Array Value} {Q : Option Value → Shared → Prop} (hot : HotX.HotAt A x1 s.heap) (n1 : x1 ≠ it) (hit : s.heap.IsListIter it l i) (hl : s.heap.IsList l items) (hx : items[i]? = none)
    (hQ : ∀ h', (∀ b o, b ≠ it → s.heap.get? b = some o → h'.get? b = some o) → Q none { s with heap := h' }) : wpAny (model prog w) A (pyNext (.ref it)) Q E s := by
  obtain ⟨hh, o1, vs1, h1, d1, c1⟩ := hot
  obtain ⟨o, ho, hc, hd⟩ := id hit
  obtain ⟨ol, hol, _, nl, hdl⟩ := hl
  unfold pyNext
  refine wpAny_bind (wpAny_attempt (wpAny_callSpecial?_slot (name := Str.ofString "__next__") hit.typeIs slot_listiter_next (wpAny_call_entry slot_listiter_next hit.typeIs entry_listiter_next ?_ (args_listiter_next _))))
  show wpAny _ _ (field (.ref it) 0 >>= _) _ _ s
  refine wpAny_bind (wpAny_field ho hd (x := .ref l) rfl ?_)
  show wpAny _ _ (if (Value.ref l == Value.none) = true then _ else _) _ _ s
  rw [if_neg (show ¬ ((Value.ref l == Value.none) = true) from Bool.false_ne_true)]
  show wpAny _ _ (field (.ref it) 1 >>= _) _ _ s
  refine wpAny_bind (wpAny_field ho hd (x := .int i 0) rfl ?_)
  show wpAny _ _ (seqItems? (.ref l) >>= _) _ _ s
  refine wpAny_bind (wpAny_seqItems hol hdl ?_)
  simp only [Int.toNat_natCast, hx]
  refine wpAny_bind (wpAny_rule (wpAny_bind (wpAny_setField ho hd (by simp) ?_)))
  show wpAny _ _ (newExc (.type "StopIteration") [] >>= _) _ _ _
  refine wpAny_bind ?_
  simp only [newExc, newTuple]
  refine wpAny_bind (wpAny_newObj_type ?_ (by size_fits))
  refine wpAny_bind (m := firstArgMember _ _) (wpAny_of_eq (a := Value.none) (by first | rfl | (simp only [firstArgMember]; rfl)) ?_)
  refine wpAny_newObj_type ?_ (by size_fits)
  have g1 : ∀ (f : Obj → Obj), (s.heap.update it f).get? x1 = some o1 := fun f => by rw [Heap.get?_update_other _ _ n1.symm]; exact h1
  refine HotX.raiseNew_hot ⟨hh, o1, vs1, Heap.get?_push_of_some _ (Heap.get?_push_of_some _ (g1 _)), d1, c1⟩ (Nat.ne_of_lt (Heap.lt_size (Heap.get?_push_of_some _ (g1 _)))) (Heap.get?_push_size _ rfl) rfl (by first | (simp; done) | (simp; omega) | (simp only [Array.size_append]; simp; omega)) ?_
  refine wpAny_bind (wpAny_isInstance (T := "StopIteration") (b := true) ⟨_, Heap.get?_update_self _ (Heap.get?_push_size _ rfl) rfl, rfl⟩ isSubtype_stop ?_)
  refine wpAny_pure (hQ _ fun b u nb e => ?_)
  have e1 : ∀ (f : Obj → Obj), (s.heap.update it f).get? b = some u := fun f => by rw [Heap.get?_update_other _ _ nb.symm]; exact e
  rw [Heap.get?_update_other _ _ (Nat.ne_of_gt (Heap.lt_size (Heap.get?_push_of_some _ (e1 _))))]
  exact Heap.get?_push_of_some _ (Heap.get?_push_of_some _ (e1 _))
end
section
variable {X : Cx}
/-- [elt for x in l if ..] over a list, where an exception is handled -/
theorem pe_lcH {elt tg iter : Expr} {ifs : List Expr} {scope : Scope} {own : List (Str × Nat)} {pos : Pos} {tl : TE} {g : TG} {tt : TT} {te : TE} (hc : L2H.HotC X) (hN : X.N.Nodup) (hl : PE X iter tl) (ok : BlkOk X.N X.env.scope scope own)
    (hg : ∀ (s : Shared) (H : Hp) (C : Addr) (cl : List (Str × Addr)) (fp : List Addr), PG (X.blk s H scope (compEnvC scope cl C X.env) fp) tg g) (ht : ∀ (s : Shared) (H : Hp) (C : Addr) (cl : List (Str × Addr)) (fp : List Addr), PTs (X.blk s H scope (compEnvC scope cl C X.env) fp) ifs tt)
    (he : ∀ (s : Shared) (H : Hp) (C : Addr) (cl : List (Str × Addr)) (fp : List Addr), PE (X.blk s H scope (compEnvC scope cl C X.env) fp) elt te) (hs : ∀ x, foldedSetIterable iter X.env x = pure x := by intro _; rfl) :
    PE X (.ListComp elt [⟨tg, iter, ifs, 0⟩] scope pos) (tLc (iList X.K tl) g tt te (own.map (·.2))) := by
  refine ⟨fun pins s σ H Q I h => ?_⟩
  rw [eval_ListComp]
  obtain ⟨p, ⟨hh, v1, e1, c1⟩, hp⟩ := hc
  have hfree : ∀ y ∈ scope.names, y.2 = .free → ∃ c, X.env.cells.lookup y.1 = some c := fun y hy e => (ok.free y hy e).elim (fun k => I.ok.has _ (.inl k)) fun k => I.ok.has _ (.inr k)
  refine wpAny_comprehension_free (use := none) rfl hs (closure_ok hfree) ok.kind (fun y hy e => by rw [ok.uniq y hy, e]) (thn (hl.run pins s σ H _ I h) fun v s1 ⟨x, H1, I1, r1, q1⟩ => ?_)
  obtain ⟨a, e, ⟨xs, hq⟩, q⟩ := q1
  subst e
  cases r1
  obtain ⟨its, rv, pl, hz⟩ := I1.list hq
  refine wpAny_pyIter_list pl.isList ?_
  generalize hit : s1.heap.objs.size = it
  generalize hs2 : ({ s1 with heap := s1.heap.push { cls := .type "list_iterator", data := .fields #[.ref a, .int 0 0] } } : Shared) = s2
  have I2 : Inv X pins σ H1 s2 := by rw [← hs2]; exact I1.kept (t' := s1.toks) fun b o e => Heap.get?_push_of_some _ e
  have h2 : s2.heap = s1.heap.push { cls := .type "list_iterator", data := .fields #[.ref a, .int 0 0] } := by rw [← hs2]
  have f2 : FpOk X pins H1 it := by rw [← hit]; exact I1.fpOk (Nat.le_refl _) (I1.hok.fresh (Nat.le_refl _))
  have st2 : s2.heap.IsListIter it a 0 := by rw [h2, ← hit]; exact ⟨_, Heap.get?_push_size _ rfl, rfl, rfl⟩
  have zit : it < s2.heap.objs.size := by rw [h2, Heap.size_push, hit]; exact Nat.lt_succ_self _
  refine wpAny_newObj_type (newEnv_comp ?_) (by show 0 ≤ sizeLine; decide)
  generalize hD : s2.heap.objs.size = D
  have hDn : H1 D = none := I2.hok.fresh (Nat.le_of_eq hD)
  obtain ⟨W, ⟨m0, w0⟩, turn⟩ := q D hDn
  generalize hs3 : ({ s2 with heap := s2.heap.push { cls := .type "list", data := .seq ([] : List Value).toArray } } : Shared) = s3
  have I3 : Inv X pins σ (upd H1 D (.lst [])) s3 := by
    rw [← hs3]
    refine I2.laid (t' := s2.toks) (fun b o e => Heap.get?_push_of_some _ e) (Nat.le_of_eq hD) ⟨Nat.zero_le _, [], 0, .nil, ?_⟩
    rw [← hD]
    exact Heap.get?_push_size _ rfl
  have h3 : s3.heap = s2.heap.push { cls := .type "list", data := .seq ([] : List Value).toArray } := by rw [← hs3]
  have f3 : FpOk X pins (upd H1 D (.lst [])) it ∧ it < s3.heap.objs.size := by
    refine ⟨⟨?_, f2.2⟩, by rw [h3, Heap.size_push]; exact Nat.lt_succ_of_lt zit⟩
    rw [upd_ne (by rw [← hD]; exact Nat.ne_of_lt zit)]
    exact f2.1
  have f3' : ∀ b ∈ [it], FpOk X pins (upd H1 D (.lst [])) b ∧ b < s3.heap.objs.size := fun b hb => by
    have e : b = it := by simpa using hb
    rw [e]
    exact f3
  have st3 : s3.heap.IsListIter it a 0 := st2.at fun o e => by rw [h3]; exact Heap.get?_push_of_some _ e
  have pin3 := I3.pin p (List.mem_append_left _ hp)
  have nip : p.1 ≠ it := fun z => f3.1.2.2.2.2.2 p (List.mem_append_left _ hp) z
  have I4 := block_start I3 ok hN f3'
  have pg := hg s3 (upd H1 D (.lst [])) s3.heap.objs.size (cellsFrom (s3.heap.objs.size + 1) scope.names (cloFrom X.env.cells scope.names [])) [it]
  have pt := ht s3 (upd H1 D (.lst [])) s3.heap.objs.size (cellsFrom (s3.heap.objs.size + 1) scope.names (cloFrom X.env.cells scope.names [])) [it]
  have pe := he s3 (upd H1 D (.lst [])) s3.heap.objs.size (cellsFrom (s3.heap.objs.size + 1) scope.names (cloFrom X.env.cells scope.names [])) [it]
  generalize hce : compEnvC scope (cellsFrom (s3.heap.objs.size + 1) scope.names (cloFrom X.env.cells scope.names [])) s3.heap.objs.size X.env = ce at I4 pg pt pe
  have cL : ce.locals = s3.heap.objs.size := by subst hce; rfl
  generalize hH3 : upd H1 D (.lst []) = H3 at I3 I4 pg pt pe w0 f3 pin3
  generalize hs4 : ({ s3 with heap := pushCells (s3.heap.push { cls := .type "dict", data := .dict #[] }) scope.names } : Shared) = s4 at I4
  have st4 : s4.heap.IsListIter it a 0 := st3.at fun o e => by rw [← hs4]; exact pushCells_keeps _ _ _ _ (Heap.get?_push_of_some _ e)
  have hotB : ∀ {σ' : L2.St} {H' : Hp} {s' : Shared} {pn : List (Addr × Obj)}, Inv (X.blk s3 H3 scope ce [it]) pn σ' H' s' → HotX.HotAt X.A p.1 s'.heap := fun I' =>
    ⟨hh, p.2, v1, I'.base.keep p.1 p.2 pin3.1 pin3.2.1 (fun hm => (List.mem_cons.mp (I3.stkSub p.1 hm)).elim pin3.2.2.1 pin3.2.2.2.1) (by simpa using nip), e1, c1⟩
  have stat : ∀ {σ' : L2.St} {H' : Hp} {s' : Shared}, Inv (X.blk s3 H3 scope ce [it]) [] σ' H' s' → H' it = none → FpOk (X.blk s3 H3 scope ce [it]) [] H' it := fun {σ' H' s'} I' hn =>
    ⟨hn, (I'.ok.exf it List.mem_cons_self).1, I'.ok.exfs it List.mem_cons_self, .inl List.mem_cons_self, fun x c e => (I'.ok.exf it List.mem_cons_self).2 x c e, fun p hp => absurd (show p ∈ ([] : List (Addr × Obj)) ++ [] from hp) (by simp)⟩
  have loop : codeAny (model X.prog X.w) X.A (.compLoop (.ListComp elt [⟨tg, iter, ifs, 0⟩] scope pos) 0 (.ref it) (.ref D) ce) (compPost (model X.prog X.w) X.A X.xe none (EP X pins σ Q) (.ref D) s3.heap.objs.size) s4 := by
    refine compLoop_any (fun n s' => ∃ i H', Inv (X.blk s3 H3 scope ce [it]) [] (wipe σ (own.map (·.2))) H' s' ∧ s'.heap.IsListIter it a i ∧ H' it = none ∧ W i n H') ?_ m0 ⟨0, H3, I4, st4, f3.1.1, w0⟩
    rintro n s5 ⟨i, H5, I5, st5, n5, w5⟩
    obtain ⟨f0, f1, f2, f3', f4, f5⟩ := stat I5 n5
    rcases turn i n H5 w5 with ⟨⟨ys, hys, hlen⟩, qq⟩ | ⟨⟨ys, y0, hys, hy0⟩, Nx, hNx, step⟩
    · obtain ⟨its5, rv5, pl5, _⟩ := I5.list hys
      have hl5 := rv5.length
      refine list_end_hot (hotB I5) nip st5 pl5.isList (by simp; omega) fun h' k => ?_
      have I6 : Inv (X.blk s3 H3 scope ce [it]) [] (wipe σ (own.map (·.2))) H5 { s5 with heap := h' } := I5.turned (t' := s5.toks) (fun b o hb e => k b o hb e) f0 f1 f3' f4 f5
      have I7 : Inv X pins σ H5 { s5 with heap := h' } := I3.call' (ch := [it]) I6.os I6.base I6.hok I6.bare fun b hb => by
        have e : b = it := by simpa using hb
        rw [e]
        exact ⟨f3.1.2.2.2.1, f3.1.2.1, f3.1.2.2.2.2.1, f3.1.2.2.2.2.2⟩
      have nC : H5 s3.heap.objs.size = none := by
        have z : H5 ce.locals = none := I6.free
        rw [cL] at z
        exact z
      obtain ⟨m, hn, _⟩ := I6.loc
      have hn : h'.Ns ce.locals m := hn
      rw [cL] at hn
      refine ⟨m, hn, fun h'' sb => ?_⟩
      obtain ⟨z0, z1, z2, z3, z4, z5⟩ := I3.fpOk (pins := pins) (Nat.le_refl _) nC
      exact ⟨.ref D, H5, I7.turned (t' := s5.toks) (fun b o hb e => (sb.2 b hb).trans e) z0 z1 z3 z4 z5, rfl, qq⟩
    · obtain ⟨its5, rv5, pl5, _⟩ := I5.list hys
      obtain ⟨u, hu, ru⟩ := rv5.get hy0
      refine wpAny_pyNext_list_item st5 pl5.isList (x := u) (by simpa using hu) fun h' st' sb => ?_
      have I6 : Inv (X.blk s3 H3 scope ce [it]) [] (wipe σ (own.map (·.2))) H5 { s5 with heap := h' } := I5.turned (t' := s5.toks) (fun b o hb e => (sb.2 b hb).trans e) f0 f1 f3' f4 f5
      obtain ⟨oi, ei, ci, di⟩ := id st'
      refine go_of (s := { s5 with heap := h' }) ei ci di (by decide) ?_
      have y7 : (Itl X.K a).yld i H5 y0 H5 := ⟨rfl, fun zs hz => by rw [I5.list_inj hz hys]; exact hy0⟩
      have I7' := I6.pinned (fp := [it]) (fun b hb => by
        have e : b = it := by simpa using hb
        rw [e]
        exact stat I6 n5) (fun b hb => by
        have e : b = it := by simpa using hb
        rw [e]
        exact ⟨oi, ei, fun v z => by rw [di] at z; cases z⟩)
      refine thnF (pg.run _ _ _ H5 y0 u _ I7' ru (step y0 H5 y7)) fun _ s8 ⟨σ8, H8, I8, hw8, q8⟩ => ?_
      refine thnF (pt.run _ s8 σ8 H8 _ I8 q8) fun b s9 ⟨H9, I9, q9⟩ => ?_
      have fin : ∀ {s' : Shared} {H' : Hp}, Inv (X.blk s3 H3 scope ce [it]) ([] ++ pinsAt [it] h') σ8 H' s' → Nx H' → ∃ m, m < n ∧ ∃ i H', Inv (X.blk s3 H3 scope ce [it]) [] (wipe σ (own.map (·.2))) H' s' ∧ s'.heap.IsListIter it a i ∧ H' it = none ∧ W i m H' := fun {s' H'} I' nx => by
        obtain ⟨m', hm, w'⟩ := hNx H' nx
        have pin' : ∀ o, h'.get? it = some o → s'.heap.get? it = some o ∧ H' it = none := fun o e =>
          let z := I'.pin (it, o) (List.mem_append_right _ (List.mem_append_right _ (mem_pinsAt List.mem_cons_self e)))
          ⟨z.1, z.2.1⟩
        have hl8 : (wipe σ (own.map (·.2))).length = σ8.length := by rw [← hw8, wipe_length]
        refine ⟨m', hm, i + 1, H', (I'.unpinned (pins := [])).weak hl8 (fun j v e => ?_), st'.at fun o e => (pin' o e).1, (pin' oi ei).2, w'⟩
        rw [← hw8] at e
        exact (wipe_some e).1
      cases b with
      | false =>
        simp only [Bool.false_eq_true, if_false] at q9 ⊢
        exact fin I9 q9
      | true =>
        simp only [if_true] at q9 ⊢
        refine thnF (pe.run _ s9 σ8 H9 _ I9 q9) fun z s10 ⟨yv, H10, I10, r10, acc, hD10, hz10, nx⟩ => ?_
        exact app_ok (X := X.blk s3 H3 scope ce [it]) I10 hD10 hz10 r10 fun s11 I11 => fin I11 nx
  have fin : codeAny (model X.prog X.w) X.A (.compStart (.ListComp elt [⟨tg, iter, ifs, 0⟩] scope pos) 0 (.ref it) (.ref D) ce) (compPost (model X.prog X.w) X.A X.xe none (EP X pins σ Q) (.ref D) s3.heap.objs.size) s4 := codeAny_compStart_list loop (wpAny_pyIter_listiter st4 loop)
  rw [← hce] at fin
  exact fin
end
end My

set_option Elab.async false
set_option linter.all false
set_option maxRecDepth 100000
set_option maxHeartbeats 4000000
namespace My
open PySem PySem.Spec PyProof.Rows L2
/-! ### isinstance of the exception that is handled -/
structure ExcD (K : PySem.W.Frag) (D : Addr) : Prop where
  cl : (PySem.W.clsIn K D).isSome = true
  ga : PySem.W.findIn K (.ref D) "__getattribute__" = some (some (.builtin "BaseException.__getattribute__"))
  gt : PySem.W.findIn K (.ref D) "__getattr__" = some none
  sb : PySem.W.subIn K (.ref D) (.type "BaseException") = some true
  ha : PySem.W.findIn K (.ref D) "__class__" = some (some (.builtin "object.__class__"))
  hn : PySem.W.specialIn K (.builtin "object.__class__") "__get__" = some (some (.builtin "getset_descriptor.__get__"))
  ht : PySem.W.takesIn K (.builtin "object.__class__") = some true
  hm : PySem.W.mroIn K D (.type "object") = some true
def excDB (K : PySem.W.Frag) (D : Addr) : Bool :=
  (PySem.W.clsIn K D).isSome && (He.eqO (PySem.W.findIn K (.ref D) "__getattribute__") (some (some (.builtin "BaseException.__getattribute__"))) && (He.eqO (PySem.W.findIn K (.ref D) "__getattr__") (some none) &&
  (decide (PySem.W.subIn K (.ref D) (.type "BaseException") = some true) && (He.eqO (PySem.W.findIn K (.ref D) "__class__") (some (some (.builtin "object.__class__"))) &&
  (He.eqO (PySem.W.specialIn K (.builtin "object.__class__") "__get__") (some (some (.builtin "getset_descriptor.__get__"))) && (decide (PySem.W.takesIn K (.builtin "object.__class__") = some true) && decide (PySem.W.mroIn K D (.type "object") = some true)))))))
theorem excDB_ok {K : PySem.W.Frag} {D : Addr} (h : excDB K D = true) : ExcD K D := by
  obtain ⟨h1, h⟩ := He.ba h
  obtain ⟨h2, h⟩ := He.ba h
  obtain ⟨h3, h⟩ := He.ba h
  obtain ⟨h4, h⟩ := He.ba h
  obtain ⟨h5, h⟩ := He.ba h
  obtain ⟨h6, h⟩ := He.ba h
  obtain ⟨h7, h8⟩ := He.ba h
  exact ⟨h1, He.eqO_ok h2, He.eqO_ok h3, of_decide_eq_true h4, He.eqO_ok h5, He.eqO_ok h6, of_decide_eq_true h7, of_decide_eq_true h8⟩
def rIsG (K : PySem.W.Frag) (cls : Value) (d : Option Addr) (a : Addr) : List V → Hp → VK → Prop := fun xs H Q => ∃ (D : Addr) (c : V) (cv : Value) (b : Bool), cls = .ref D ∧ ExcD K D ∧ xs = [.ref a, c] ∧ ClsV c cv ∧ (∀ dx, d = some dx → ∃ o, H dx = some o) ∧ PySem.W.kitOne K cls cv = some b ∧ Q (.bl b) H
theorem call_isG {X : Cx} {K : PySem.W.Frag} {a : Addr} {cls : Value} {d : Option Addr} {oe : Obj} (eK : X.K = K) (hz : L2N.Zn cls d oe) (hf : ∃ vs, oe.data = .fields vs) (hp : (a, oe) ∈ X.pn) : CallR X (.builtin "isinstance") (rIsG K cls d a) := by
  subst eK
  intro pins s σ H xs us Q I r h
  obtain ⟨D, c, cv, b, rfl, C, rfl, hcv, hd, e, q⟩ := h
  cases r with
  | cons rx rr =>
    cases rr with
    | cons rt rr =>
      cases rr
      cases rx
      have ec := hcv.eq rt
      subst ec
      obtain ⟨hget, _⟩ := I.pin (a, oe) (List.mem_append_left _ hp)
      obtain ⟨vs, hv⟩ := hf
      obtain ⟨oc, od, oda, osl⟩ := oe
      obtain ⟨h1, h2⟩ := hz.zc
      dsimp only at h1 h2 hv
      subst h1 h2 hv
      have J : ∃ od', PySem.W.InstAt s.heap a ⟨.ref D, od, .fields vs, osl⟩ D od' := by
        cases od with
        | none => exact ⟨none, hget, rfl, rfl, trivial⟩
        | some dx =>
          obtain ⟨o, ho⟩ := hd dx rfl
          obtain ⟨u, hu⟩ := objOk_get (I.hok dx o ho)
          exact ⟨some u, hget, rfl, rfl, hu⟩
      obtain ⟨od', J⟩ := J
      exact PySem.W.kia_one (PySem.W.kitx_exc C.cl C.ga C.gt C.sb C.ha C.hn C.ht C.hm) I.kIn J e (fun z => nomatch z) fun tk => ⟨.bl b, H, I.kept (t' := tk) fun _ _ z => z, rfl, q⟩
/-! ### defs that are called with the exception that is handled -/
structure FnE (P : Program) (w : World) (K : PySem.W.Frag) (mg : Str → Option Value) (base : Heap) (CX : CXT) (k : Nat) (f : Addr) (fd : FuncData) (ps : List Str) (sp : Addr → Value → Option Addr → Sp) : Prop where
  len : ∀ a c d vs H Q E, sp a c d vs H Q E → vs.length = ps.length
  run : ∀ (A : Around) (outer : List Env) (s : Shared) (H : Hp) (args : Args) (us : List Value) (vs : List V) (Q : VK) (E : XK) (a : Addr) (oe : Obj) (cls : Value) (d : Option Addr), L2H.RoomH k A → L2H.Hot1 A (a, oe) → L2H.PinOk outer H s (a, oe) → L2N.Zn cls d oe → (∃ vs, oe.data = .fields vs) → Env0 P w K mg base A outer s H →
    BindsTo s fd args (ps.zip us) → Vals vs us → sp a cls d vs H Q E → codeAny (model P w) A (.call (.ref f) args) (CR CX outer P w H s Q E) s
section
variable {P : Program} {w : World} {K : PySem.W.Frag} {mg : Str → Option Value} {base : Heap} {CX : CXT} {k : Nat} {f : Addr} {x qual : Str} {params : Arguments} {body : List Stmt} {scope : Scope} {dvs : List V} {kws : List (Str × V)} {fd : FuncData} {N ps : List Str}
theorem FnE.mk' {sp : Addr → Value → Option Addr → Sp} (F : FunD K x qual params body scope dvs kws f fd) (S : FnScope N ps scope) (len : ∀ a c d vs H Q E, sp a c d vs H Q E → vs.length = ps.length)
    (hbody : ∀ (cdv : Value) (A : Around) (outer : List Env) (s : Shared) (H : Hp) (vs : List V) (Q : VK) (E : XK) (a : Addr) (oe : Obj) (cls : Value) (d : Option Addr), L2H.Hot1 A (a, oe) → L2N.Zn cls d oe → (∃ vs, oe.data = .fields vs) → L2H.RoomH k (A.deeper (envOfC qual scope s.heap.objs.size f cdv)) → sp a cls d vs H Q E →
      ∃ t, PSs (L2H.cxH CX P w K mg base N qual scope f cdv A outer s H E (a, oe)) body t ∧ t { nx := fun _ H' => Q .non H', rt := Q } (start N vs) H) : FnE P w K mg base CX (k + 1) f fd ps sp := by
  obtain ⟨oc, od, dV, kV, doc, pm, an, cdv, ct, osl, rfl, lk, hcd, _, _⟩ := F.ex
  refine ⟨len, fun A outer s H args us vs Q E a oe cls d hr hot hpin hz hf e0 hb r hsp => ?_⟩
  have KX : K.In s.heap := e0.mod.kin.keeps fun b o e => (e0.bs b o e).1
  have lim : s.heap.NoLimit := e0.mod.nolimit.keeps fun b o e => (e0.bs b o e).1
  have hkind : ∀ y ∈ ps.zip us, scope.names.lookup y.1 = some .local ∨ (scope.names.lookup y.1 = some .cell ∧ ((cellsFrom (s.heap.objs.size + 1) scope.names []).lookup y.1).isSome = true) := fun ⟨n, v⟩ hy =>
    (S.par n (List.of_mem_zip hy).1).elim .inl fun q => .inr ⟨q, PySem.W.cellsFrom_some _ _ _ (.inl q)⟩
  refine codeAny_call_function hr.depth (KX _ _ lk) rfl S.co S.gen rfl (PySem.W.codeRec_of KX hcd) (hb _ _ _ _ (wpAny_newFunctionEnv_cells S.kind hkind fun env he s1 xx => ?_))
  subst he
  refine ⟨lim.keeps xx.toInCall.keep, codeAny_func ?_⟩
  obtain ⟨t, ht, hq⟩ := hbody cdv A outer s H vs Q E a oe cls d hot hz hf (hr.deeper _) hsp
  have I := L2H.inv_startH (CX := CX) (E := E) S hpin e0 (len _ _ _ _ _ _ _ hsp) r xx
  refine wpAny_mono (ht.run [] s1 (start N vs) H _ I hq) (fun fl s' hs => ?_) fun e s' hs => hs
  cases fl with
  | ret u =>
    obtain ⟨v, σ', H', J, rv, q⟩ := hs
    exact ⟨v, H', J.os, J.bare, J.base, J.hok, rv, q⟩
  | next =>
    obtain ⟨σ', H', J, q⟩ := hs
    exact ⟨.non, H', J.os, J.bare, J.base, J.hok, rfl, q⟩
  | brk => exact (let ⟨_, _, _, q⟩ := hs; False.elim q)
  | cont => exact (let ⟨_, _, _, q⟩ := hs; False.elim q)
end
section
variable {X : Cx} {CX : CXT} {k : Nat} {f C : Addr} {fd : FuncData} {ps : List Str} {x m : Str} {q pos apos : Pos} {e o : Expr} {es : List Expr} {ta : TE} {t : TA}
theorem pe_callE {sp : Addr → Value → Option Addr → Sp} {E : L2.St → XK} {a : Addr} {oe : Obj} {cls : Value} {d : Option Addr} (F : FnE X.prog X.w X.K X.mg X.base CX k f fd ps sp) (hr : L2H.RoomH k X.A) (hot : L2H.Hot1 X.A (a, oe)) (hz : L2N.Zn cls d oe) (hf : ∃ vs, oe.data = .fields vs) (hp : (a, oe) ∈ X.pn) (hm : X.mg x = some (.ref f)) (hk : PySem.W.keepIn X.K (.ref f) = true) (hb : Binds X.K fd ps [])
    (hx : ∀ σ, PassesAt CX X σ (E σ)) (ha : PA X (e :: es) t) (hg : Gl X x := by rfl) (hdb : (x == ("__debug__" : Str)) = false := by decide) (he : starEach (e :: es) X.env = (false, eval e X.env) :: starEach es X.env := by rfl)
    (hpl : (backTo pos (starEach es X.env)).any (·.1) = false := by rfl) : PE X (.Call (.Name x q) (e :: es) [] pos) (tCallS (sp a cls d) E t) := by
  refine ⟨fun pins s σ H Q I h => wpAny_Call_Name_kw (ld_glob I hg hm (PySem.W.callWith_K (h₀ := X.base) I.ok.mod.kin hk (thn (ha.run pos pins s σ H _ I h) fun us s1 ⟨vs, H1, I1, r, hq⟩ => ⟨I1.kIn, ?_⟩) he hpl) hdb)⟩
  have hl : us.length = ps.length := by rw [← r.length]; exact F.len _ _ _ _ _ _ _ hq
  have b := hb s1 us I1.kIn (by rw [List.append_nil]; exact hl)
  rw [List.append_nil] at b
  have P1 := I1.pin (a, oe) (List.mem_append_left _ hp)
  have hpin : L2H.PinOk X.stack H1 s1 (a, oe) := ⟨P1.1, P1.2.1, fun hm => (List.mem_cons.mp (I1.stkSub a hm)).elim P1.2.2.1 P1.2.2.2.1, P1.2.2.2.2⟩
  refine wpAny_call (codeAny_mono (F.run X.A X.stack s1 H1 ⟨us, []⟩ us vs Q (E σ) a oe cls d hr hot hpin hz hf I1.env0 b r hq) fun r s' hq' => ?_)
  cases r with
  | error e => exact hx σ pins H1 s1 e s' I1 hq'
  | ok fl =>
    cases fl with
    | ret u => exact I1.after hq'
    | next => exact False.elim hq'
    | brk => exact False.elim hq'
    | cont => exact False.elim hq'
end
theorem never0 {X : Cx} : ∀ σ : L2.St, PassesAt CX0 X σ ((fun _ => E0) σ) := fun _ _ _ _ _ _ _ h => h.elim
theorem roomH_mark {k : Nat} {A : Around} (hr : Room k A) (v : Option Value) : L2H.RoomH k (A.mark v) := ⟨hr.dp, hr.un⟩
theorem hot_mark {A : Around} {a : Addr} {cls : Value} {d : Option Addr} {oe : Obj} (hz : L2N.Zn cls d oe) (hf : ∃ vs, oe.data = .fields vs) : L2H.Hot1 (A.mark (some (.ref a))) (a, oe) := by
  obtain ⟨vs, hv⟩ := hf
  exact ⟨rfl, vs, hv, hz.2.2 vs hv⟩
theorem CalM.of {P : Program} {w : World} {K : PySem.W.Frag} {mg : Str → Option Value} {base : Heap} {CX : CXT} {k : Nat} {m x q : Str} {ps : List Str} {sp : Sp} {pa : Arguments} {bd : List Stmt} {sc : Scope} {kws : List (Str × V)} {C f : Addr}
    (F : ∃ fd, FunD K x q pa bd sc [] kws f fd) (c : Cls K C) (hm : Meth K C m f) (ok : ∀ fd, FunD K x q pa bd sc [] kws f fd → FnOk P w K mg base CX k f fd ps sp)
    (hb : ∀ (kV doc pm : Value) (an : Option Addr) (cdv ct : Value) (us : List Value), us.length = ps.length → bindArgs (PySem.W.fnOf x q pa bd sc .none kV doc pm an cdv ct) ⟨us, []⟩ = pure (ps.zip us)) : CalM P w K mg base CX k C m ps [] sp := by
  obtain ⟨fd, F⟩ := F
  exact ⟨c, f, fd, [], hm, ok fd F, F.bindsN hb, .nil⟩
/-! ### calls that may raise: the wish is W at the caller's slots -/
section
variable {X : Cx} {k : Nat} {C : Addr} {ps : List Str} {sp : Sp} {dvs : List V} {W : WX} {x m : Str} {p pos apos : Pos} {e o : Expr} {es : List Expr} {ta : TE} {t : TA}
theorem pcS_call (c : Cal X.prog X.w X.K X.mg X.base (L2N.CX X.prog X.w) k x ps dvs sp) (hr : Room k X.A) (tk : L2N.Takes X W) (ha : PA X (e :: es) t) (hg : Gl X x := by rfl) (hdb : (x == ("__debug__" : Str)) = false := by decide)
    (he : starEach (e :: es) X.env = (false, eval e X.env) :: starEach es X.env := by rfl) (hpl : (backTo pos (starEach es X.env)).any (·.1) = false := by rfl) : PE X (.Call (.Name x p) (e :: es) [] pos) (tCallSD sp dvs (WE W) t) := by
  obtain ⟨f, fd, ds, h1, h2, F, b, v⟩ := c.ex
  exact pe_callSD F hr hg h1 h2 b v (fun σ => L2N.passAt tk σ) ha hdb he hpl
def tMakeS (C : Addr) (sp : Sp) (dvs : List V) (W : WX) (t : TA) : TE := fun σ H Q => t σ H fun vs H1 => ∀ x dx, H1 x = none → H1 dx = none → dx ≠ x →
  sp (.ref x :: (vs ++ dvs)) (upd (upd H1 dx (.own x)) x (.ins C dx [])) (fun v H2 => v = .non ∧ Q (.ref x) H2) (WE W σ)
theorem pcS_make (c : CalI X.prog X.w X.K X.mg X.base (L2N.CX X.prog X.w) k x C ps dvs sp) (hr : Room (k + 1) X.A) (tk : L2N.Takes X W) (ha : PA X (e :: es) t) (hg : Gl X x := by rfl) (hdb : (x == ("__debug__" : Str)) = false := by decide)
    (he : starEach (e :: es) X.env = (false, eval e X.env) :: starEach es X.env := by rfl) (hpl : (backTo pos (starEach es X.env)).any (·.1) = false := by rfl) : PE X (.Call (.Name x p) (e :: es) [] pos) (tMakeS C sp dvs W t) := by
  obtain ⟨f, fd, ds, M, F, b, hd⟩ := c.ex
  refine ⟨fun pins s σ H Q I h => wpAny_Call_Name_kw (ld_glob I hg c.g (PySem.W.callWith_K (h₀ := X.base) I.ok.mod.kin M.kp (thn (ha.run pos pins s σ H _ I h) fun us s1 ⟨vs, H1, I1, r, hq⟩ => ⟨I1.kIn, ?_⟩) he hpl) hdb)⟩
  have hq0 := hq (s1.heap.objs.size + 1) s1.heap.objs.size (I1.hok.fresh (Nat.le_succ _)) (I1.hok.fresh (Nat.le_refl _)) (Nat.ne_of_lt (Nat.lt_succ_self _))
  have I2 := Inv.made (C := C) I1
  have r2 : Vals (V.ref (s1.heap.objs.size + 1) :: (vs ++ dvs)) (Value.ref (s1.heap.objs.size + 1) :: (us ++ ds)) := .cons rfl (r.append hd)
  have hl : (Value.ref (s1.heap.objs.size + 1) :: us ++ ds).length = ps.length := by
    have e := r2.length
    rw [F.len _ _ _ _ hq0] at e
    exact e.symm
  refine wpAny_call (make_map (f := f) I1.kIn M.makes M.init (beq_iff_eq.mp M.fn) (codeAny_mono (F.run _ X.stack _ _ ⟨Value.ref (s1.heap.objs.size + 1) :: us, []⟩ (Value.ref (s1.heap.objs.size + 1) :: (us ++ ds)) _ _ (WE W σ) (hr.make C us [])
    (I2.env0.make C us []) (b _ (Value.ref (s1.heap.objs.size + 1) :: us) I2.kIn hl) r2 hq0) fun r s' hq' => ?_))
  cases r with
  | error e => exact L2N.passAt tk σ pins _ _ e s' I2 hq'
  | ok fl =>
    cases fl with
    | ret u =>
      obtain ⟨v, H', I3, rv, ev, q3⟩ := I2.after hq'
      subst ev
      exact ⟨rv, ⟨V.ref (s1.heap.objs.size + 1), H', I3, rfl, q3⟩⟩
    | next => exact False.elim hq'
    | brk => exact False.elim hq'
    | cont => exact False.elim hq'
end
section
variable {X : Cx} {k : Nat} {C : Addr} {ps : List Str} {sp : Sp} {dvs : List V} {W : WX} {x m : Str} {p pos apos : Pos} {e o : Expr} {es : List Expr} {ta : TE} {t : TA}
def tMethS (C : Addr) (m : Str) (sp : Sp) (dvs : List V) (W : WX) (ta : TE) (t : TA) : TE := fun σ H Q => ta σ H fun x H1 => ∃ a dx fs, x = .ref a ∧ H1 a = some (.ins C dx fs) ∧ fs.lookup m = none ∧ t σ H1 fun vs H2 => sp (x :: (vs ++ dvs)) H2 Q (WE W σ)
theorem pcS_meth0 {pl : Sem Bool} (c : CalM X.prog X.w X.K X.mg X.base (L2N.CX X.prog X.w) k C m ps dvs sp) (hr : Room k X.A) (tk : L2N.Takes X W) (ho : PE X o ta)
    (ht : eval (.Call (.Attribute o m apos) [] [] pos) X.env = (do
      let ov ← eval o X.env
      standAt apos.atName
      let (f, first) ← holding [ov] (getMethod ov m pl)
      callWith pos f first (backTo pos (starEach [] X.env)) (backToKw pos (keywordEach [] X.env))) := by rfl) :
    PE X (.Call (.Attribute o m apos) [] [] pos) (tMethS C m sp dvs W ta tNil) := by
  obtain ⟨f, fd, ds, hm, F, hb, hd⟩ := c.ex
  refine ⟨fun pins s σ H Q I h => ?_⟩
  refine PySem.W.methodCall_KW (pl := pl) (thn (ho.run pins s σ H _ I h) fun u s1 ⟨x, H1, I1, rx, a, dx, fs, ex, ea, l, q⟩ => ?_) ht
  subst ex
  obtain rfl : u = Value.ref a := rx
  refine getmeth_ok I1 ea c.c hm l ?_
  exact PySem.W.callWith_K0 (first := [.ref a]) I1.kIn hm.kp (run_fnSD (us := [.ref a]) (vs := [.ref a]) (E := WE W) F hr hb hd (L2N.passAt tk σ) I1 (.cons rfl .nil) q)
theorem pcS_meth {pl : Sem Bool} (c : CalM X.prog X.w X.K X.mg X.base (L2N.CX X.prog X.w) k C m ps dvs sp) (hr : Room k X.A) (tk : L2N.Takes X W) (ho : PE X o ta) (ha : PA X (e :: es) t)
    (hst : starEach (e :: es) X.env = (false, eval e X.env) :: starEach es X.env := by rfl) (hpl : (backTo pos (starEach es X.env)).any (·.1) = false := by rfl)
    (ht : eval (.Call (.Attribute o m apos) (e :: es) [] pos) X.env = (do
      let ov ← eval o X.env
      standAt apos.atName
      let (f, first) ← holding [ov] (getMethod ov m pl)
      callWith pos f first (backTo pos (starEach (e :: es) X.env)) (backToKw pos (keywordEach [] X.env))) := by rfl) :
    PE X (.Call (.Attribute o m apos) (e :: es) [] pos) (tMethS C m sp dvs W ta t) := by
  obtain ⟨f, fd, ds, hm, F, hb, hd⟩ := c.ex
  refine ⟨fun pins s σ H Q I h => ?_⟩
  refine PySem.W.methodCall_KW (pl := pl) (thn (ho.run pins s σ H _ I h) fun u s1 ⟨x, H1, I1, rx, a, dx, fs, ex, ea, l, q⟩ => ?_) ht
  subst ex
  obtain rfl : u = Value.ref a := rx
  refine getmeth_ok I1 ea c.c hm l ?_
  refine PySem.W.callWith_K (first := [.ref a]) (h₀ := X.base) I.ok.mod.kin hm.kp (thn (ha.run pos pins s1 σ H1 _ I1 q) fun us s2 ⟨vs, H2, I2, r, q2⟩ => ⟨I2.kIn, ?_⟩) hst hpl
  exact run_fnSD (us := .ref a :: us) (vs := .ref a :: vs) (E := WE W) F hr hb hd (L2N.passAt tk σ) I2 (.cons rfl r) q2
end
/-- a def that is called with the handled exception -/
structure CalE (P : Program) (w : World) (K : PySem.W.Frag) (mg : Str → Option Value) (base : Heap) (CX : CXT) (k : Nat) (x : Str) (ps : List Str) (sp : Addr → Value → Option Addr → Sp) : Prop where
  ex : ∃ f fd, mg x = some (.ref f) ∧ PySem.W.keepIn K (.ref f) = true ∧ FnE P w K mg base CX k f fd ps sp ∧ Binds K fd ps []
section
variable {X : Cx} {CX : CXT} {k : Nat} {ps : List Str} {x : Str} {p pos : Pos} {e : Expr} {es : List Expr} {t : TA}
theorem pcE_call {sp : Addr → Value → Option Addr → Sp} {a : Addr} {oe : Obj} {cls : Value} {d : Option Addr} (c : CalE X.prog X.w X.K X.mg X.base CX0 k x ps sp) (hr : L2H.RoomH k X.A) (hot : L2H.Hot1 X.A (a, oe)) (hz : L2N.Zn cls d oe) (hf : ∃ vs, oe.data = .fields vs) (hp : (a, oe) ∈ X.pn)
    (ha : PA X (e :: es) t) (hg : Gl X x := by rfl) (hdb : (x == ("__debug__" : Str)) = false := by decide)
    (he : starEach (e :: es) X.env = (false, eval e X.env) :: starEach es X.env := by rfl) (hpl : (backTo pos (starEach es X.env)).any (·.1) = false := by rfl) : PE X (.Call (.Name x p) (e :: es) [] pos) (tCallS (sp a cls d) (fun _ => E0) t) := by
  obtain ⟨f, fd, h1, h2, F, b⟩ := c.ex
  exact pe_callE F hr hot hz hf hp h1 h2 b never0 ha hg hdb he hpl
end
/-- what is never reached -/
theorem pe_no {X : Cx} {e : Expr} : PE X e (fun _ _ _ => False) := ⟨fun _ _ _ _ _ _ h => h.elim⟩
theorem ps_no {X : Cx} {e : Stmt} : PS X e (fun _ _ _ => False) := ⟨fun _ _ _ _ _ _ h => h.elim⟩
theorem pss_no {X : Cx} {e : List Stmt} : PSs X e (fun _ _ _ => False) := ⟨fun _ _ _ _ _ _ h => h.elim⟩
/-- nothing is let out -/
theorem takesNo {X : Cx} : L2N.Takes X (fun _ _ _ _ => False) := fun u s' x => by
  obtain ⟨a, B, sI, pins, σ, H, cls, d, e, I, nb, up, sky, na, os, ag, z⟩ := x
  exact z.elim
/-- of the named classes the exception's class x is itself alone -/
def marksB (K : PySem.W.Frag) (names : List Str) (x : Str) : Bool := excDB K (He.ga K x) && (names.all (fun m => decide (PySem.W.kitOne K (.ref (He.ga K x)) (.ref (He.ga K m)) = some (decide (m = x)))) &&
  (decide (PySem.W.kitOne K (.ref (He.ga K x)) (.ref (He.ga K "MostsError")) = some true) && decide (PySem.W.kitOne K (.ref (He.ga K x)) (.type "ValueError") = some true)))
theorem marksB_ok {K : PySem.W.Frag} {names : List Str} {x : Str} (h : marksB K names x = true) : ExcD K (He.ga K x) ∧ (∀ m ∈ names, PySem.W.kitOne K (.ref (He.ga K x)) (.ref (He.ga K m)) = some (decide (m = x))) ∧
    PySem.W.kitOne K (.ref (He.ga K x)) (.ref (He.ga K "MostsError")) = some true ∧ PySem.W.kitOne K (.ref (He.ga K x)) (.type "ValueError") = some true := by
  obtain ⟨h1, h⟩ := He.ba h
  obtain ⟨h2, h⟩ := He.ba h
  obtain ⟨h3, h4⟩ := He.ba h
  exact ⟨excDB_ok h1, fun m hm => of_decide_eq_true (List.all_eq_true.mp h2 m hm), of_decide_eq_true h3, of_decide_eq_true h4⟩
/-- the exception's own dict stands -/
def HD (H : Hp) (d : Option Addr) : Prop := ∀ dx, d = some dx → ∃ o, H dx = some o
theorem HD.upd {H : Hp} {d : Option Addr} {p : Addr} {o : HO} (h : HD H d) : HD (L2.upd H p o) d := fun dx e => by
  by_cases q : dx = p
  · subst q
    exact ⟨_, upd_same⟩
  · rw [upd_ne q]
    exact h dx e
theorem HD.same {H H' : Hp} {d : Option Addr} (h : HD H d) (e : Same H H') : HD H' d := fun dx q => by
  obtain ⟨o, ho⟩ := h dx q
  exact ⟨o, e _ _ ho⟩
theorem HD.non {H : Hp} : HD H none := fun _ z => nomatch z
/-! ### one more Bool of the head -/
def hookX (n : Nat) (fa : List He.Fa) (fn : List He.DefD) (xb : PySem.W.Frag → Bool) : PySem.W.Hook where
  α := He.AlD × Bool
  obs := fun s => (He.obsDG n fa fn s.heap.get?, xb (He.frG s.heap.get? (He.asD s.heap.get? n)))
  val := fun _ => (He.valD fn, true)
  says := fun _ h => ∃ K : PySem.W.Frag, K.In h ∧ He.SaysD fa fn K ∧ xb K = true
  of := fun _ _ e => ⟨_, He.frG_in, congrArg Prod.fst e, congrArg Prod.snd e⟩
  keeps := fun _ _ _ ⟨K, hK, c⟩ k => ⟨K, PySem.W.Frag.In.keeps hK k, c⟩
def obsX (n : Nat) (fa : List He.Fa) (fn : List He.DefD) (xb : PySem.W.Frag → Bool) (g : Addr → Option Obj) : He.AlD × Bool := (He.obsDG n fa fn g, xb (He.frG g (He.asD g n)))
theorem obsX_eq {n : Nat} {fa : List He.Fa} {fn : List He.DefD} {xb : PySem.W.Frag → Bool} {g : Addr → Option Obj} {s : Shared} (h : ∀ a, g a = s.heap.get? a) : obsX n fa fn xb g = (hookX n fa fn xb).obs s := by
  have e : g = s.heap.get? := funext h
  rw [e] <;> rfl
end My

set_option Elab.async false
set_option linter.all false
set_option maxRecDepth 100000
set_option maxHeartbeats 4000000
namespace My
open PySem PySem.Spec PyProof.Rows L2
/-! ### // by any divisor but 0 -/
def CDivNW (_ j : Int) : Prop := j ≠ 0 ∧ j.natAbs.log2 < 9000
theorem op_fdivNW {X : Cx} : OpR X (binaryOp .FloorDiv) (rI CDivNW fun i j => .int (i.fdiv j)) := opI fun _ _ _ _ _ _ _ hc q => floordiv_int hc.1 q (.inl (PyProof.noPylong_of_log2 hc.2))
theorem wide_divN {i j : Int} {b : Nat} (h : j ≠ 0) (hb : j.natAbs < 2 ^ b) (h0 : 0 < b) (h9 : b ≤ 9000) : CDivNW i j := ⟨h, Nat.lt_of_lt_of_le (PySem.Flt.log2_lt_of h0 hb) h9⟩
/-! ### greatest divisors -/
theorem gcd_fmod (a b : Int) : Int.gcd b (a.fmod b) = Int.gcd a b := by
  rw [Int.fmod_def, Int.gcd_sub_mul_left_right, Int.gcd_comm]
theorem gcd_emod (a b : Int) : Int.gcd b (a % b) = Int.gcd a b := by
  rw [Int.emod_def, Int.gcd_sub_mul_left_right, Int.gcd_comm]
theorem fmod_less (a : Int) {b : Int} (h : b ≠ 0) : (a.fmod b).natAbs < b.natAbs := by
  rw [Int.fmod_eq_emod]
  have h1 := Int.emod_nonneg a h
  have h2 := Int.emod_lt a h
  split
  · omega
  · rename_i q
    have hb : b < 0 := by
      have := not_or.mp q
      omega
    have hn : ¬ b ∣ a := (not_or.mp q).2
    have : a % b ≠ 0 := fun z => hn (Int.dvd_of_emod_eq_zero z)
    omega
theorem abs_if (i : Int) : (if i < 0 then -i else i) = (i.natAbs : Int) := by
  split <;> omega
theorem dvd_cop {k m n : Int} (h : Int.gcd k m = 1) (d : k ∣ m * n) : k ∣ n := by
  have e := Int.gcd_mul_right_right_of_gcd_eq_one (k := n) h
  rw [Int.gcd_eq_natAbs_left d] at e
  exact Int.natAbs_dvd_natAbs.mp (by rw [e]; exact Nat.gcd_dvd_right _ _)
/-- p/q is t/b in lowest terms -/
structure Rt (p q t b : Int) : Prop where
  pos : 1 ≤ q
  one : Int.gcd p q = 1
  eq : p * b = t * q
theorem Rt.uniq {p q p' q' t b : Int} (h : Rt p q t b) (h' : Rt p' q' t b) (hb : b ≠ 0) : p = p' ∧ q = q' := by
  have e : p * q' = p' * q := by
    have e1 : (p * q') * b = (p' * q) * b := by
      rw [Int.mul_right_comm, h.eq, Int.mul_right_comm p' q b, h'.eq, Int.mul_right_comm]
    exact Int.eq_of_mul_eq_mul_right hb e1
  have d1 : q ∣ q' := by
    have : q ∣ p * q' := ⟨p', by rw [e, Int.mul_comm]⟩
    exact dvd_cop (by rw [Int.gcd_comm]; exact h.one) this
  have d2 : q' ∣ q := by
    have : q' ∣ p' * q := ⟨p, by rw [← e, Int.mul_comm]⟩
    exact dvd_cop (by rw [Int.gcd_comm]; exact h'.one) this
  have hq : q = q' := Int.dvd_antisymm (by have := h.pos; omega) (by have := h'.pos; omega) d1 d2
  refine ⟨?_, hq⟩
  rw [← hq] at e
  exact Int.eq_of_mul_eq_mul_right (by have := h.pos; omega) e
/-- what Ratio's maker does -/
theorem rt_make {t b d : Int} (hb : b ≠ 0) (hd : d = if b < 0 then -(Int.gcd t b : Int) else (Int.gcd t b : Int)) : d ≠ 0 ∧ Rt (t.fdiv d) (b.fdiv d) t b ∧ (t.fdiv d).natAbs ≤ t.natAbs ∧ (b.fdiv d).natAbs ≤ b.natAbs ∧ d.natAbs ≤ b.natAbs := by
  have hg : 0 < Int.gcd t b := Int.gcd_pos_of_ne_zero_right t hb
  obtain ⟨k, hk⟩ := Int.gcd_dvd_left t b
  obtain ⟨m, hm⟩ := Int.gcd_dvd_right t b
  have hkm : Int.gcd k m = 1 := by
    have e : Int.gcd t b = (Int.gcd t b : Int).natAbs * Int.gcd k m := by
      rw [← Int.gcd_mul_left, ← hk, ← hm]
    rw [Int.natAbs_natCast] at e
    have : Int.gcd t b * 1 = Int.gcd t b * Int.gcd k m := by rw [Nat.mul_one]; exact e
    exact (Nat.eq_of_mul_eq_mul_left hg this).symm
  have hle : Int.gcd t b ≤ b.natAbs := Int.gcd_le_natAbs_right t hb
  generalize hG : Int.gcd t b = g at *
  have key : ∀ s : Int, s = 1 ∨ s = -1 → d = s * g → 0 < s * m → d ≠ 0 ∧ Rt (t.fdiv d) (b.fdiv d) t b ∧ (t.fdiv d).natAbs ≤ t.natAbs ∧ (b.fdiv d).natAbs ≤ b.natAbs ∧ d.natAbs ≤ b.natAbs := by
    intro s hs ed hsm
    have hss : s * s = 1 := by rcases hs with rfl | rfl <;> rfl
    have d0 : d ≠ 0 := by rcases hs with rfl | rfl <;> omega
    have et : t.fdiv d = s * k := by
      have : t = d * (s * k) := by rw [ed, hk, show s * (g : Int) * (s * k) = (s * s) * (g * k) by ac_rfl, hss, Int.one_mul]
      rw [this, Int.mul_fdiv_cancel_left _ d0]
    have eb : b.fdiv d = s * m := by
      have : b = d * (s * m) := by rw [ed, hm, show s * (g : Int) * (s * m) = (s * s) * (g * m) by ac_rfl, hss, Int.one_mul]
      rw [this, Int.mul_fdiv_cancel_left _ d0]
    have ns : s.natAbs = 1 := by rcases hs with rfl | rfl <;> rfl
    have gk : k.natAbs ≤ t.natAbs := by
      rw [hk, Int.natAbs_mul, Int.natAbs_natCast]
      exact Nat.le_mul_of_pos_left _ hg
    have gm : m.natAbs ≤ b.natAbs := by
      rw [hm, Int.natAbs_mul, Int.natAbs_natCast]
      exact Nat.le_mul_of_pos_left _ hg
    refine ⟨d0, ⟨by rw [eb]; omega, ?_, ?_⟩, ?_, ?_, ?_⟩
    · rw [et, eb, Int.gcd_mul_left, ns, hkm]
    · rw [et, eb, hk, hm]
      ac_rfl
    · rw [et, Int.natAbs_mul, ns, Nat.one_mul]; exact gk
    · rw [eb, Int.natAbs_mul, ns, Nat.one_mul]; exact gm
    · rw [ed, Int.natAbs_mul, ns, Nat.one_mul, Int.natAbs_natCast]; exact hle
  have hgi : (0 : Int) < (g : Int) := by omega
  by_cases hneg : b < 0
  · rw [if_pos hneg] at hd
    refine key (-1) (.inr rfl) (by rw [hd]; omega) ?_
    have : m < 0 := by
      rcases Int.lt_or_le m 0 with h | h
      · exact h
      · have := Int.mul_nonneg (Int.le_of_lt hgi) h
        omega
    omega
  · rw [if_neg hneg] at hd
    refine key 1 (.inl rfl) (by rw [hd]; omega) ?_
    have : 0 < m := by
      rcases Int.lt_or_le 0 m with h | h
      · exact h
      · have := Int.mul_nonpos_of_nonneg_of_nonpos (Int.le_of_lt hgi) h
        omega
    omega
/-! ### Euclid's way ends in time -/
def fibs : Nat → Nat × Nat
  | 0 => (0, 1)
  | n + 1 => let p := fibs n; (p.2, p.1 + p.2)
theorem fib400 : 2 ^ 270 ≤ (fibs 400).1 := by decide +kernel
/-- after n + 1 turns: the pair is x, y -/
structure Eu (n : Nat) (a b x y : Int) : Prop where
  g : Int.gcd x y = Int.gcd a b
  lo : 0 ≤ y
  lt : y < x
  fib : ((fibs (n + 1)).1 : Int) * x + ((fibs n).1 : Int) * y ≤ b
theorem Eu.first {a b : Int} (h : 0 < b) : Eu 0 a b b (a % b) := by
  have h1 := Int.emod_nonneg a (show b ≠ 0 by omega)
  have h2 := Int.emod_lt_of_pos a h
  exact ⟨gcd_emod a b, h1, h2, by show ((1 : Nat) : Int) * b + ((0 : Nat) : Int) * (a % b) ≤ b; omega⟩
theorem Eu.next {n : Nat} {a b x y : Int} (h : Eu n a b x y) (h0 : y ≠ 0) : Eu (n + 1) a b y (x % y) := by
  have p : 0 < y := by have := h.lo; omega
  have h1 := Int.emod_nonneg x h0
  have h2 := Int.emod_lt_of_pos x p
  refine ⟨(gcd_emod x y).trans h.g, h1, h2, ?_⟩
  have e := Int.mul_ediv_add_emod x y
  have q1 : 1 ≤ x / y := by
    rcases Int.lt_or_le 0 (x / y) with z | z
    · exact z
    · have : y * (x / y) ≤ 0 := Int.mul_nonpos_of_nonneg_of_nonpos (Int.le_of_lt p) z
      have := h.lt
      omega
  have q2 : y ≤ y * (x / y) := by
    have := Int.mul_le_mul_of_nonneg_left q1 (Int.le_of_lt p)
    rw [Int.mul_one] at this
    exact this
  have q3 : y + x % y ≤ x := by omega
  have f : ((fibs (n + 1)).1 : Int) * (y + x % y) ≤ ((fibs (n + 1)).1 : Int) * x := Int.mul_le_mul_of_nonneg_left q3 (Int.natCast_nonneg _)
  rw [Int.mul_add] at f
  have e2 : ((fibs (n + 2)).1 : Int) * y = ((fibs n).1 : Int) * y + ((fibs (n + 1)).1 : Int) * y := by
    rw [← Int.add_mul, ← Int.natCast_add]
    rfl
  have := h.fib
  show ((fibs (n + 2)).1 : Int) * y + ((fibs (n + 1)).1 : Int) * (x % y) ≤ b
  omega
theorem Eu.done {a b x y : Int} {n : Nat} (h : Eu n a b x y) (hb : b < ((fibs (n + 1)).1 : Int)) : False := by
  have h1 := h.fib
  have h2 := h.lo
  have h3 := h.lt
  have f1 : ((fibs (n + 1)).1 : Int) * 1 ≤ ((fibs (n + 1)).1 : Int) * x := Int.mul_le_mul_of_nonneg_left (by omega) (Int.natCast_nonneg _)
  have f2 : 0 ≤ ((fibs n).1 : Int) * y := Int.mul_nonneg (Int.natCast_nonneg _) h2
  omega
/-! ### floors and orders of quotients -/
/-- z is t/b rounded down -/
def Fl (z t b : Int) : Prop := (0 < b ∧ z * b ≤ t ∧ t < (z + 1) * b) ∨ (b < 0 ∧ z * (-b) ≤ -t ∧ -t < (z + 1) * (-b))
theorem fl_pos {z t b : Int} (hb : 0 < b) : Fl z t b ↔ z * b ≤ t ∧ t < (z + 1) * b := ⟨fun h => by
  rcases h with h | h
  · exact h.2
  · omega, fun h => .inl ⟨hb, h⟩⟩
theorem fl_neg {z t b : Int} (hb : b < 0) : Fl z t b ↔ z * (-b) ≤ -t ∧ -t < (z + 1) * (-b) := ⟨fun h => by
  rcases h with h | h
  · omega
  · exact h.2, fun h => .inr ⟨hb, h⟩⟩
theorem fl_ediv {t b : Int} (hb : 0 < b) : (t / b) * b ≤ t ∧ t < (t / b + 1) * b := by
  have e := Int.mul_ediv_add_emod t b
  have h1 := Int.emod_nonneg t (show b ≠ 0 by omega)
  have h2 := Int.emod_lt_of_pos t hb
  rw [Int.mul_comm (t / b) b, Int.add_mul, Int.one_mul, Int.mul_comm (t / b) b]
  omega
theorem fl_fdiv {t b : Int} (hb : b ≠ 0) : Fl (t.fdiv b) t b := by
  by_cases h : 0 < b
  · rw [fl_pos h, Int.fdiv_eq_ediv_of_nonneg t (Int.le_of_lt h)]
    exact fl_ediv h
  · have hn : b < 0 := by omega
    rw [fl_neg hn, ← Int.neg_fdiv_neg, Int.fdiv_eq_ediv_of_nonneg (-t) (by omega)]
    exact fl_ediv (by omega)
/-- signs off -/
theorem fl_abs {z t b : Int} (hb : b ≠ 0) : ∃ s : Int, (s = 1 ∨ s = -1) ∧ 0 < s * b ∧ (Fl z t b ↔ z * (s * b) ≤ s * t ∧ s * t < (z + 1) * (s * b)) := by
  by_cases h : 0 < b
  · refine ⟨1, .inl rfl, by omega, ?_⟩
    rw [fl_pos h, Int.one_mul, Int.one_mul]
  · refine ⟨-1, .inr rfl, by omega, ?_⟩
    rw [fl_neg (by omega), show (-1 : Int) * b = -b by omega, show (-1 : Int) * t = -t by omega]
theorem fl_cross {z T B t b : Int} (h : Fl z T B) (hB : B ≠ 0) (hb : b ≠ 0) (e : T * b = t * B) : Fl z t b := by
  obtain ⟨s, hs, pB, hF⟩ := fl_abs (z := z) (t := T) hB
  obtain ⟨s', hs', pb, hf⟩ := fl_abs (z := z) (t := t) hb
  rw [hf]
  obtain ⟨h1, h2⟩ := hF.mp h
  have e2 : (s * T) * (s' * b) = (s' * t) * (s * B) := by
    rw [show (s * T) * (s' * b) = (s * s') * (T * b) by ac_rfl, e]
    ac_rfl
  constructor
  · refine Int.le_of_mul_le_mul_right (a := s * B) ?_ pB
    rw [← e2]
    have := Int.mul_le_mul_of_nonneg_right h1 (Int.le_of_lt pb)
    rw [show z * (s' * b) * (s * B) = z * (s * B) * (s' * b) by ac_rfl]
    exact this
  · refine Int.lt_of_mul_lt_mul_right (a := s * B) ?_ (Int.le_of_lt pB)
    rw [← e2]
    have := Int.mul_lt_mul_of_pos_right h2 pb
    rw [show (z + 1) * (s' * b) * (s * B) = (z + 1) * (s * B) * (s' * b) by ac_rfl]
    exact this
/-- orders by cross products -/
theorem cross_lt {p q t b p' q' t' b' : Int} (h : Rt p q t b) (h' : Rt p' q' t' b') (hb : 0 < b) (hb' : 0 < b') : p * q' < p' * q ↔ t * b' < t' * b := by
  have hq := h.pos
  have hq' := h'.pos
  have pos : 0 < b * b' := Int.mul_pos hb hb'
  have pos2 : 0 < q * q' := Int.mul_pos (by omega) (by omega)
  have e1 : (p * q') * (b * b') = (t * b') * (q * q') := by
    rw [show (p * q') * (b * b') = (p * b) * (q' * b') by ac_rfl, h.eq]
    ac_rfl
  have e2 : (p' * q) * (b * b') = (t' * b) * (q * q') := by
    rw [show (p' * q) * (b * b') = (p' * b') * (q * b) by ac_rfl, h'.eq]
    ac_rfl
  constructor
  · intro z
    refine Int.lt_of_mul_lt_mul_right (a := q * q') ?_ (Int.le_of_lt pos2)
    rw [← e1, ← e2]
    exact Int.mul_lt_mul_of_pos_right z pos
  · intro z
    refine Int.lt_of_mul_lt_mul_right (a := b * b') ?_ (Int.le_of_lt pos)
    rw [e1, e2]
    exact Int.mul_lt_mul_of_pos_right z pos2
theorem cross_eq {p q t b p' q' t' b' : Int} (h : Rt p q t b) (h' : Rt p' q' t' b') (hb : b ≠ 0) (hb' : b' ≠ 0) : (p = p' ∧ q = q') ↔ t * b' = t' * b := by
  have hq := h.pos
  have hq' := h'.pos
  constructor
  · rintro ⟨rfl, rfl⟩
    have e : (t * b') * q = (t' * b) * q := by
      rw [Int.mul_right_comm, ← h.eq, Int.mul_right_comm t', ← h'.eq]
      ac_rfl
    exact Int.eq_of_mul_eq_mul_right (by omega) e
  · intro e
    refine h.uniq ⟨hq', h'.one, ?_⟩ hb
    have : (p' * b) * b' = (t * q') * b' := by
      rw [Int.mul_right_comm, h'.eq, Int.mul_right_comm t q' b', e]
      ac_rfl
    exact Int.eq_of_mul_eq_mul_right hb' this
theorem rt_zero {p q t b : Int} (h : Rt p q t b) (hb : b ≠ 0) : p = 0 ↔ t = 0 := by
  have hq := h.pos
  have e := h.eq
  constructor
  · rintro rfl
    rw [Int.zero_mul] at e
    rcases Int.mul_eq_zero.mp e.symm with z | z
    · exact z
    · omega
  · rintro rfl
    rw [Int.zero_mul] at e
    rcases Int.mul_eq_zero.mp e with z | z
    · exact z
    · exact absurd z hb
theorem cross_div {p q t b p' q' t' b' : Int} (h : Rt p q t b) (h' : Rt p' q' t' b') (hb : b ≠ 0) (hb' : b' ≠ 0) : (p * q') * (t' * b) = (t * b') * (q * p') := by
  have e : ((p * q') * (t' * b)) * b' = ((t * b') * (q * p')) * b' := by
    rw [show (p * q') * (t' * b) * b' = (p * b) * (t' * q') * b' by ac_rfl, h.eq, ← h'.eq]
    ac_rfl
  exact Int.eq_of_mul_eq_mul_right hb' e
end My

set_option Elab.async false
set_option linter.all false
set_option maxRecDepth 100000
set_option maxHeartbeats 4000000
/-! operators by an own class's methods -/
namespace My
open PySem PySem.Spec PyProof.Rows L2
section
variable {X : Cx} {CX : CXT} {k : Nat} {C : Addr} {ps : List Str} {sp : Sp} {dvs : List V} {E : XK} {m : Str}
theorem rel_ref (a : Addr) : RelV (V.ref a) (Value.ref a) := rfl
/-- a method runs below the running body -/
theorem run_own {A' : Around} {f : Addr} {fd : FuncData} {ds : List Value} {pins : List (Addr × Obj)} {σ : L2.St} {H : Hp} {s : Shared} {Q : VK} {us : List Value} {vs : List V} (F : FnOk X.prog X.w X.K X.mg X.base CX k f fd ps sp) (hr : Room k A') (fr : A'.frames = X.A.frames)
    (hb : Binds X.K fd ps ds) (hd : Vals dvs ds) (hx : PassesAt CX X σ E) (I : Inv X pins σ H s) (r : Vals vs us) (h : sp (vs ++ dvs) H Q E) : wpAny (model X.prog X.w) A' (call (.ref f) us) (EP X pins σ Q) X.xe s := by
  have r2 : Vals (vs ++ dvs) (us ++ ds) := r.append hd
  have hl : (us ++ ds).length = ps.length := by rw [← r2.length]; exact F.len _ _ _ _ h
  have e0 : Env0 X.prog X.w X.K X.mg X.base A' X.stack s H := by
    have e := I.env0
    exact ⟨by rw [fr]; exact e.frames, e.mod, e.bs, e.bsz, e.funs, e.frf, e.hok, e.bare⟩
  refine wpAny_call (codeAny_mono (F.run A' X.stack s H ⟨us, []⟩ (us ++ ds) (vs ++ dvs) Q E hr e0 (hb s us I.kIn hl) r2 h) fun r s' hq => ?_)
  cases r with
  | error e => exact hx pins H s e s' I hq
  | ok fl =>
    cases fl with
    | ret u => exact I.after hq
    | next => exact False.elim hq
    | brk => exact False.elim hq
    | cont => exact False.elim hq
theorem inst_at {pins : List (Addr × Obj)} {σ : L2.St} {H : Hp} {s : Shared} {a dx : Addr} {fs : List (Str × V)} (I : Inv X pins σ H s) (e : H a = some (.ins C dx fs)) : ∃ ox od, PySem.W.InstAt s.heap a ox C od := by
  obtain ⟨mA, J, _⟩ := ins_get I.hok e
  obtain ⟨od, J, _⟩ := J.look
  exact ⟨_, _, J⟩
/-- of a value that is no NotImplemented -/
theorem back_of {pins : List (Addr × Obj)} {σ : L2.St} {Q : VK} {v : Value} {s : Shared} (h : EP X pins σ Q v s) : PySem.W.CmpBack (EP X pins σ Q) v s := by
  cases v with
  | notImplemented =>
    obtain ⟨x, H', I, r, q⟩ := h
    cases x <;> first | (cases r; done) | (obtain ⟨_, z⟩ := r; cases z)
  | _ => exact h
/-- x is an instance of C -/
def InsC (C : Addr) (H : Hp) (x : V) : Prop := ∃ a dx fs, x = .ref a ∧ H a = some (.ins C dx fs)
/-- - x -/
theorem un_negO (c : CalM X.prog X.w X.K X.mg X.base CX k C "__neg__" ps dvs sp) (hr : Room k X.A) (hx : ∀ σ, PassesAt CX X σ E) : UnR X (unaryOp .USub) (fun x H Q => InsC C H x ∧ sp (x :: dvs) H Q E) := by
  intro pins s σ H x v Q I rx ⟨⟨a, dx, fs, hxa, ha⟩, h⟩
  subst hxa
  cases rx
  obtain ⟨f, fd, ds, M, F, hb, hd⟩ := c.ex
  obtain ⟨ox, od, J⟩ := inst_at I ha
  obtain ⟨m, hF⟩ := I.fr
  exact PySem.W.ksp_neg hF I.ok.mod.kin J M.at_ M.fn (run_own F hr rfl hb hd (hx σ) I (.cons (rel_ref a) .nil) h)
/-- x op y, both of C -/
theorem op_ownS {op : Operator} (c : CalM X.prog X.w X.K X.mg X.base CX k C m ps dvs sp) (e : PySem.dunder op.info.2 = m) (hc : PySem.W.selfFirst X.K C = true) (hr : Room k X.A) (hx : ∀ σ, PassesAt CX X σ E) :
    OpR X (binaryOp op) (fun x y H Q => InsC C H x ∧ InsC C H y ∧ sp (x :: y :: dvs) H Q E) := by
  intro pins s σ H x y v u Q I rx ry ⟨⟨a, dx, fs, hxa, ha⟩, ⟨b, dy, gs, hyb, hb'⟩, h⟩
  subst e
  subst hxa hyb
  cases rx
  cases ry
  obtain ⟨f, fd, ds, M, F, hb, hd⟩ := c.ex
  obtain ⟨ox, od, J⟩ := inst_at I ha
  obtain ⟨oy, od', J'⟩ := inst_at I hb'
  obtain ⟨m, hF⟩ := I.fr
  exact PySem.W.binop_K hF I.ok.mod.kin J J'.type hc M.at_ M.fn (wpAny_mono (run_own F hr rfl hb hd (hx σ) I (.cons (rel_ref a) (.cons (rel_ref b) .nil)) h) (fun _ _ z => back_of z) fun _ _ z => z)
/-- x op i, x of C, i an int -/
theorem op_ownI {op : Operator} {fo ro rc : Option Value} (c : CalM X.prog X.w X.K X.mg X.base CX k C m ps dvs sp) (e : PySem.dunder op.info.2 = m) (hc : PySem.W.selfFirst X.K C = true) (hR : PySem.W.findIn X.K (.ref C) (dunderR op.info.2) = some rc)
    (hp : rc = none ∨ ∃ g : Addr, rc = some (.ref g)) (h1 : PySem.W.findIn X.K (.type "int") (PySem.dunder op.info.2) = some fo) (h2 : PySem.W.findIn X.K (.type "int") (dunderR op.info.2) = some ro) (hs : PySem.W.subIn X.K (.type "int") (.ref C) = some false)
    (hr : Room k X.A) (hx : ∀ σ, PassesAt CX X σ E) : OpR X (binaryOp op) (fun x y H Q => ∃ i : Int, y = .int i ∧ InsC C H x ∧ sp (x :: y :: dvs) H Q E) := by
  intro pins s σ H x y v u Q I rx ry ⟨i, hyi, ⟨a, dx, fs, hxa, ha⟩, h⟩
  subst e
  subst hxa hyi
  cases rx
  obtain ⟨t, rfl⟩ := _root_.id ry
  obtain ⟨f, fd, ds, M, F, hb, hd⟩ := c.ex
  obtain ⟨ox, od, J⟩ := inst_at I ha
  obtain ⟨m, hF⟩ := I.fr
  exact PySem.W.ksp_binT hF I.ok.mod.kin J rfl hc M.at_ M.fn hR hp h1 h2 hs (wpAny_mono (run_own F hr rfl hb hd (hx σ) I (.cons (rel_ref a) (.cons ry .nil)) h) (fun _ _ z => back_of z) fun _ _ z => z)
/-- comparisons of two of C -/
theorem op_cmpS {op : CmpOp} {nm : Str} (c : CalM X.prog X.w X.K X.mg X.base CX k C nm ps dvs sp) (e : (cmpInfo op).2.1 = nm) (hop : ∀ a b, compareOp op a b = richCompare op a b) (hr : Room k X.A) (hx : ∀ σ, PassesAt CX X σ E) :
    OpR X (compareOp op) (fun x y H Q => InsC C H x ∧ InsC C H y ∧ sp (x :: y :: dvs) H Q E) := by
  intro pins s σ H x y v u Q I rx ry ⟨⟨a, dx, fs, hxa, ha⟩, ⟨b, dy, gs, hyb, hb'⟩, h⟩
  subst e
  subst hxa hyb
  cases rx
  cases ry
  obtain ⟨f, fd, ds, M, F, hb, hd⟩ := c.ex
  obtain ⟨ox, od, J⟩ := inst_at I ha
  obtain ⟨oy, od', J'⟩ := inst_at I hb'
  obtain ⟨m, hF⟩ := I.fr
  rw [hop]
  exact PySem.W.cmp_K hr.units0 hF I.ok.mod.kin J J'.type (by simp [PySem.W.notFirst]) M.at_ M.fn (wpAny_mono (run_own F hr rfl hb hd (hx σ) I (.cons (rel_ref a) (.cons (rel_ref b) .nil)) h) (fun _ _ z => back_of z) fun _ _ z => z)
/-- a comparison of one of C with a plain value -/
theorem op_cmpT {op : CmpOp} {nm : Str} {T : String} (c : CalM X.prog X.w X.K X.mg X.base CX k C nm ps dvs sp) (e : (cmpInfo op).2.1 = nm) (hop : ∀ a b, compareOp op a b = richCompare op a b) (hn : PySem.W.notFirst X.K C (.type T) = true) (hr : Room k X.A) (hx : ∀ σ, PassesAt CX X σ E) :
    OpR X (compareOp op) (fun x y H Q => (∀ u, RelV y u → typeOf u = pure (.type T)) ∧ InsC C H x ∧ sp (x :: y :: dvs) H Q E) := by
  intro pins s σ H x y v u Q I rx ry ⟨hy, ⟨a, dx, fs, hxa, ha⟩, h⟩
  subst e
  subst hxa
  cases rx
  obtain ⟨f, fd, ds, M, F, hb, hd⟩ := c.ex
  obtain ⟨ox, od, J⟩ := inst_at I ha
  obtain ⟨m, hF⟩ := I.fr
  rw [hop]
  exact PySem.W.cmp_K hr.units0 hF I.ok.mod.kin J (.of_pure (hy u ry)) hn M.at_ M.fn (wpAny_mono (run_own F hr rfl hb hd (hx σ) I (.cons (rel_ref a) (.cons ry .nil)) h) (fun _ _ z => back_of z) fun _ _ z => z)
/-- abs(x) -/
theorem call_absO (c : CalM X.prog X.w X.K X.mg X.base CX k C "__abs__" ps dvs sp) (hr : Room (k + 1) X.A) (hx : ∀ σ, PassesAt CX X σ E) : CallR X (.builtin "abs") (fun xs H Q => ∃ x, xs = [x] ∧ InsC C H x ∧ sp (x :: dvs) H Q E) := by
  intro pins s σ H xs us Q I r ⟨x, hxs, ⟨a, dx, fs, hxa, ha⟩, h⟩
  subst hxs hxa
  obtain ⟨v, rfl, rv⟩ := vals1 r
  cases rv
  obtain ⟨f, fd, ds, M, F, hb, hd⟩ := c.ex
  obtain ⟨ox, od, J⟩ := inst_at I ha
  refine PySem.Calls.call_function_entry kind_abs plain_abs entry_abs (args_abs _) ?_
  unfold Builtin.«abs»
  refine wpAny_bind (m := oneArg "abs" _) (wpAny_pure ?_)
  refine wpAny_bind (m := callSpecial? (.ref a) (Str.ofString "__abs__")) (PySem.W.special_fn I.kIn J M.at_ (beq_iff_eq.mp M.fn) (wpAny_mono (run_own F hr.in1 rfl hb hd (hx σ) I (.cons (rel_ref a) .nil) h) (fun r s' hr => ?_) fun _ _ z => z))
  exact wpAny_pure ⟨_, rfl, hr⟩
/-- bool(x) -/
theorem call_boolO (c : CalM X.prog X.w X.K X.mg X.base CX k C "__bool__" ps dvs sp) (hr : Room (k + 2) X.A) (hx : ∀ σ, PassesAt CX X σ E) : CallR X (.type "bool") (fun xs H Q => ∃ x, xs = [x] ∧ InsC C H x ∧ sp (x :: dvs) H (fun v H' => ∃ b, v = .bl b ∧ Q (.bl b) H') E) := by
  intro pins s σ H xs us Q I r ⟨x, hxs, ⟨a, dx, fs, hxa, ha⟩, h⟩
  subst hxs hxa
  obtain ⟨v, rfl, rv⟩ := vals1 r
  cases rv
  obtain ⟨f, fd, ds, M, F, hb, hd⟩ := c.ex
  obtain ⟨ox, od, J⟩ := inst_at I ha
  obtain ⟨m, hF⟩ := I.fr
  refine callType_codes (T := "bool") (Bi := Builtin.«object.__init__») (Q₁ := fun r s₁ => ∃ b, r = .bool b ∧ EP X pins σ Q r s₁) PySem.F.called_bool (PySem.F.typeCall_bool_1 _) PySem.F.entry_object_init ?_ ?_
  · refine codeAny_of_tree ?_
    show wpAny _ X.A.in1.in1 (do checkBuiltinCall "bool.__new__" ⟨[.type "bool", .ref a], []⟩; again (.builtin "bool.__new__" ⟨[.type "bool", .ref a], []⟩)) _ _ s
    refine wpAny_bind (wpAny_of_eq (PySem.F.newCall_bool_1 _) (wpAny_pure ⟨plainId_quiet (by decide +kernel) _, codeAny_builtin PySem.F.entry_bool_new ?_⟩))
    rw [Around.under_plainId (by decide +kernel) _]
    unfold Builtin.«bool.__new__»
    have f1 := PySem.F.conv_sub_bool
    refine wpAny_bind (m := isType _) (wpAny_pure ?_)
    show wpAny _ _ (isSubtype (.type "bool") (.type "bool") >>= _) _ _ _
    refine wpAny_bind (wpAny_of_eq f1 ?_)
    refine wpAny_bind (m := someArgs "bool" 0 1 _) (wpAny_pure ?_)
    refine wpAny_bind (PySem.W.truthy_K hF I.ok.mod.kin J M.at_ M.fn (wpAny_mono (run_own F hr.in1.in1 rfl hb hd (hx σ) I (.cons (rel_ref a) .nil) h) (fun r s' hr => ?_) fun _ _ z => z))
    obtain ⟨v, H', I', rv, b, ev, q⟩ := hr
    subst ev
    cases rv
    exact wpAny_pure ⟨b, rfl, .bl b, H', I', rfl, q⟩
  · rintro obj s₁ ⟨b, rfl, hq⟩
    exact ⟨typeIs_bool' _ _, PySem.F.args_object_init_2 _ _, object_init_meets PySem.F.called_bool.init.lookup PySem.F.called_bool.made (by decide) X.prog X.w X.A.in1 _ s₁ ⟨typeIs_bool' _ _, rfl, hq⟩⟩
/-- str(x) -/
theorem call_strO (c : CalM X.prog X.w X.K X.mg X.base CX k C "__str__" ps dvs sp) (hr : Room (k + 2) X.A) (hx : ∀ σ, PassesAt CX X σ E) : CallR X (.type "str") (fun xs H Q => ∃ x, xs = [x] ∧ InsC C H x ∧ sp (x :: dvs) H (fun v H' => ∃ z, v = .str z ∧ Q (.str z) H') E) := by
  intro pins s σ H xs us Q I r ⟨x, hxs, ⟨a, dx, fs, hxa, ha⟩, h⟩
  subst hxs hxa
  obtain ⟨v, rfl, rv⟩ := vals1 r
  cases rv
  obtain ⟨f, fd, ds, M, F, hb, hd⟩ := c.ex
  obtain ⟨ox, od, J⟩ := inst_at I ha
  refine PySem.W.kso_call hr.in1.in1.units0 I.kIn J M.at_ M.fn (wpAny_mono (run_own F hr.in1.in1 rfl hb hd (hx σ) I (.cons (rel_ref a) .nil) h) (fun r s' hr => ?_) fun _ _ z => z)
  obtain ⟨v, H', I', rv, b, ev, q⟩ := hr
  subst ev
  obtain ⟨t, rfl⟩ := rv
  exact ⟨.str b, H', I', ⟨t, rfl⟩, q⟩
end
/-! ### an int in front of one of C -/
section
variable {M : Model} {A : Around} {E : Value → Shared → Prop} {s : Shared} {x : Addr} {ox : Obj} {i : Int} {t : Tok}
theorem intBin_ref {name : String} {f : Int → Int → Sem Fin} {r : Bool} {Q : Fin → Shared → Prop} (hx : s.heap.get? x = some ox) (hd : ox.data = .plain) (hs : slotArgs name 1 ⟨[.int i t, .ref x], []⟩ = pure (.int i t, [.ref x])) (h : Q (.done (.ret .notImplemented)) s) :
    wpAny M A (Builtin.Int.intBinary name f r ⟨[.int i t, .ref x], []⟩) Q E s := by
  unfold Builtin.Int.intBinary
  rw [hs]
  refine wpAny_bind (wpAny_pure ?_)
  refine wpAny_bind (m := Builtin.Int.intOfSelf _) (wpAny_pure ?_)
  refine wpAny_bind (m := asInt? (.ref x)) ?_
  · unfold asInt?
    refine wpAny_bind (wpAny_load hx ?_)
    rw [hd]
    refine wpAny_pure ?_
    first
      | exact wpAny_pure h
      | exact wpAny_bind (wpAny_rule (wpAny_pure h))
      | exact wpAny_rule (wpAny_pure h)
end
theorem intDiv_ref {M : Model} {A : Around} {E : Value → Shared → Prop} {s : Shared} {x : Addr} {ox : Obj} {i : Int} {t : Tok} {Q : Fin → Shared → Prop} (hx : s.heap.get? x = some ox) (hd : ox.data = .plain) (h : Q (.done (.ret .notImplemented)) s) :
    wpAny M A (Builtin.«int.__floordiv__» ⟨[.int i t, .ref x], []⟩) Q E s := by
  unfold Builtin.«int.__floordiv__»
  refine wpAny_bind (m := Builtin.exactOperandsForPylong _ _) ?_
  unfold Builtin.exactOperandsForPylong
  rw [if_pos (by rfl)]
  show wpAny M A (asInt? (.int i t) >>= fun _ => _) _ _ _
  refine wpAny_bind (m := asInt? (.int i t)) (wpAny_pure ?_)
  refine wpAny_bind (m := asInt? (.ref x)) ?_
  unfold asInt?
  refine wpAny_bind (wpAny_load hx ?_)
  rw [hd]
  exact wpAny_pure (wpAny_pure (intBin_ref hx hd rfl h))
section
variable {prog : Program} {w : World} {A : Around} {E : Value → Shared → Prop} {s : Shared} {x : Addr} {ox : Obj} {i : Int} {t : Tok} {Q : Option Value → Shared → Prop}
theorem try_int {nm id : String} {B : Builtin} (sl : Slot "int" (PySem.dunder nm) id) (en : entryFor table id = some B) (ar : argsOk id ⟨[.int i t, .ref x], []⟩) (hb : ∀ {A Q E}, Q (.done (.ret .notImplemented)) s → wpAny (model prog w) A (B ⟨[.int i t, .ref x], []⟩) Q E s) (h : Q none s) :
    wpAny (model prog w) A (tryMethod (.int i t) (PySem.dunder nm) (.ref x)) Q E s := by
  unfold tryMethod
  refine wpAny_bind (wpAny_callSpecial?_slot (typeIs_int s i t) sl (wpAny_call_entry sl (typeIs_int s i t) en (hb ⟨_, rfl, wpAny_pure h⟩) ar))
open PySem.W in
theorem bin_R {op : Operator} {C f g : Addr} {K : Frag} {od : Option Obj} {id : String} {B : Builtin} {fo ro : Option Value} {Q : Value → Shared → Prop} (X : K.In s.heap) (I : InstAt s.heap x ox C od) (hc : selfFirst K C = true)
    (hs : findIn K (.ref C) (PySem.dunder op.info.2) = some (some (.ref g))) (hr : findIn K (.ref C) (dunderR op.info.2) = some (some (.ref f))) (hf : isFn K (.ref f) = true) (hsub : subIn K (.ref C) (.type "int") = some false)
    (h1 : findIn K (.type "int") (PySem.dunder op.info.2) = some fo) (h2 : findIn K (.type "int") (dunderR op.info.2) = some ro) (h3 : ((fo.isSome && !isSeqSlot fo) || (ro.isSome && !isSeqSlot ro)) = true)
    (sl : Slot "int" (PySem.dunder op.info.2) id) (en : entryFor table id = some B) (ar : argsOk id ⟨[.int i t, .ref x], []⟩) (hb : ∀ {A Q E}, Q (.done (.ret .notImplemented)) s → wpAny (model prog w) A (B ⟨[.int i t, .ref x], []⟩) Q E s)
    (h : wpAny (model prog w) A (call (.ref f) [.ref x, .int i t]) (PySem.W.CmpBack Q) E s) : wpAny (model prog w) A (binaryOp op (.int i t) (.ref x)) Q E s := by
  obtain ⟨cd, rest, hcd, hm⟩ := ksp_first hc
  rcases hi : op.info with ⟨sym, nm'⟩
  rw [hi] at hs hr h1 h2 sl
  dsimp only at hs hr h1 h2 sl
  have one := ksp_try (A := A) (E := E) (b := .int i t) X I hr hf h
  have two := fun {Q : Option Value → Shared → Prop} (q : Q none s) => try_int (A := A) (E := E) (Q := Q) (x := x) (i := i) (t := t) sl en ar hb q
  obtain ⟨hh, gg, d, tt, os⟩ := s
  have L1 : Looks (model prog w) hh (typeOf (.ref x)) (.ref C) := I.type
  have L2 : Looks (model prog w) hh (typeOf (.int i t)) (.type "int") := Looks.of_pure rfl
  have L3 : Looks (model prog w) hh (fillsNumberSlot (.ref C) nm') true := fills_K X hcd hm hs
  have L4 : Looks (model prog w) hh (fillsNumberSlot (.type "int") nm') ((fo.isSome && !isSeqSlot fo) || (ro.isSome && !isSeqSlot ro)) := ksp_fillsT X h1 h2
  rw [h3] at L4
  have L5 : Looks (model prog w) hh (isSubtype (.ref C) (.type "int")) false := looks_subIn X hsub
  have L6 : Looks (model prog w) hh (numberSlotInPython (.type "int") nm') false := Looks.of_pure rfl
  have hne : (Value.type "int" == Value.ref C) = false := Bool.eq_false_iff.mpr fun q => by cases beq_iff_eq.mp q
  simp only [binaryOp, hi]
  refine wpAny_holding (wpAny_bind ?_)
  unfold binaryOp1
  refine wpAny_bind (L2.at (wpAny_bind (L1.at (wpAny_bind (L4.at ?_)))))
  simp only [hne, Bool.false_eq_true, if_false]
  ksp_lk
  refine two ?_
  ksp_lk
  refine wpAny_mono one (fun r s' hr' => ?_) fun _ _ e => e
  obtain ⟨v, rfl, hq⟩ := hr'
  ksp_lk
  exact hq
/-- int == one of C: by the own == -/
theorem try_cmp_int {id : String} {B : Builtin} {nm : Str} {Q : Option Value → Shared → Prop} (sl : Slot "int" nm id) (en : entryFor table id = some B) (ar : argsOk id ⟨[.int i t, .ref x], []⟩) (hb : ∀ {A Q E}, Q (.done (.ret .notImplemented)) s → wpAny (model prog w) A (B ⟨[.int i t, .ref x], []⟩) Q E s) (h : Q none s) :
    wpAny (model prog w) A (tryCompare (.int i t) nm (.ref x)) Q E s := by
  unfold tryCompare
  refine wpAny_bind (wpAny_callSpecialIfBound?_slot (typeIs_int s i t) sl (wpAny_call_entry sl (typeIs_int s i t) en (hb ⟨_, rfl, wpAny_pure h⟩) ar))
open PySem.W in
theorem cmp_R {C f : Addr} {K : Frag} {od : Option Obj} {Q : Value → Shared → Prop} (hu : A.units < cLine) (X : K.In s.heap) (I : InstAt s.heap x ox C od) (hsub : subIn K (.ref C) (.type "int") = some false) (hd : ox.data = .plain)
    (hs : findIn K (.ref C) "__eq__" = some (some (.ref f))) (hf : isFn K (.ref f) = true)
    (h : wpAny (model prog w) A (call (.ref f) [.ref x, .int i t]) (PySem.W.CmpBack Q) E s) : wpAny (model prog w) A (richCompare .Eq (.int i t) (.ref x)) Q E s := by
  have one : wpAny (model prog w) A (tryCompare (.ref x) "__eq__" (.int i t)) (fun r s' => ∃ v, r = some v ∧ Q v s') E s := by
    unfold tryCompare
    refine wpAny_bind (ifBound_K X I hs hf (wpAny_mono h (fun v s' hv => ?_) fun _ _ e => e))
    cases v <;> first | exact hv.elim | exact wpAny_pure ⟨_, rfl, hv⟩
  have hne : (Value.type "int" != Value.ref C) = true := by simp
  unfold richCompare
  refine wpAny_holding (wpAny_bind (wpAny_cRoomFor hu ?_))
  have e1 : oneThing? .Eq (.int i t) (.ref x) = none := rfl
  simp only [e1]
  refine wpAny_bind (m := typeOf (.int i t)) (wpAny_pure ?_)
  refine wpAny_bind (I.type.here ?_)
  rw [if_pos (by rw [bne_comm]; exact hne)]
  refine wpAny_bind ((looks_subIn X hsub).here ?_)
  simp only [Bool.false_eq_true, if_false]
  refine wpAny_bind (try_cmp_int (nm := (cmpInfo .Eq).2.1) PySem.F.slot_int_eq PySem.F.entry_int_eq (PySem.F.args_int_eq_2 _ _) (fun q => intBin_ref I.at_ hd rfl q) ?_)
  simp only [Bool.not_false, if_true]
  refine wpAny_bind (wpAny_mono one (fun r s' z => ?_) fun _ _ e => e)
  obtain ⟨v, rfl, hq⟩ := z
  exact wpAny_pure hq
end
/-! ### an operator on ratios and ints -/
section
variable {X : Cx} {CX : CXT} {k kR : Nat} {C : Addr} {psM psR : List Str} {spM spR : Sp} {m mR : Str} {op : Operator}
/-- what int says to an operator -/
structure IntOp (op : Operator) (id : String) (B : Builtin) (fo ro : Option Value) : Prop where
  l1 : ∀ K : PySem.W.Frag, PySem.W.findIn K (.type "int") (PySem.dunder op.info.2) = some fo
  l2 : ∀ K : PySem.W.Frag, PySem.W.findIn K (.type "int") (dunderR op.info.2) = some ro
  fl : ((fo.isSome && !isSeqSlot fo) || (ro.isSome && !isSeqSlot ro)) = true
  sl : Slot "int" (PySem.dunder op.info.2) id
  en : entryFor table id = some B
  ar : ∀ a b : Value, argsOk id ⟨[a, b], []⟩
  no : ∀ {prog : Program} {w : World} {A : Around} {E : Value → Shared → Prop} {s : Shared} {x : Addr} {ox : Obj} {i : Int} {t : Tok} {Q : Fin → Shared → Prop}, s.heap.get? x = some ox → ox.data = .plain → Q (.done (.ret .notImplemented)) s → wpAny (model prog w) A (B ⟨[.int i t, .ref x], []⟩) Q E s
theorem intAdd : IntOp .Add "int.__add__" Builtin.«int.__add__» (some (.builtin "int.__add__")) (some (.builtin "int.__radd__")) := ⟨fun _ => by kernel_rfl, fun _ => by kernel_rfl, by decide +kernel, PySem.F.slot_int_add, PySem.F.entry_int_add, PySem.F.args_int_add_2, fun hx hd q => intBin_ref hx hd rfl q⟩
theorem intSub : IntOp .Sub "int.__sub__" Builtin.«int.__sub__» (some (.builtin "int.__sub__")) (some (.builtin "int.__rsub__")) := ⟨fun _ => by kernel_rfl, fun _ => by kernel_rfl, by decide +kernel, PySem.F.slot_int_sub, PySem.F.entry_int_sub, PySem.F.args_int_sub_2, fun hx hd q => intBin_ref hx hd rfl q⟩
theorem intMul : IntOp .Mult "int.__mul__" Builtin.«int.__mul__» (some (.builtin "int.__mul__")) (some (.builtin "int.__rmul__")) := ⟨fun _ => by kernel_rfl, fun _ => by kernel_rfl, by decide +kernel, PySem.F.slot_int_mul, PySem.F.entry_int_mul, PySem.F.args_int_mul_2, fun hx hd q => intBin_ref hx hd rfl q⟩
theorem intDiv : IntOp .FloorDiv "int.__floordiv__" Builtin.«int.__floordiv__» (some (.builtin "int.__floordiv__")) (some (.builtin "int.__rfloordiv__")) := ⟨fun _ => by kernel_rfl, fun _ => by kernel_rfl, by decide +kernel, PySem.F.slot_int_floordiv, PySem.F.entry_int_floordiv, PySem.F.args_int_floordiv_2, fun hx hd q => intDiv_ref hx hd q⟩
/-- x op y: both of C, or one of C and one int -/
def rAnyO (C : Addr) (spM spR : Sp) (E : XK) (x y : V) (H : Hp) (Q : VK) : Prop := (InsC C H x ∧ InsC C H y ∧ spM [x, y] H Q E) ∨ (∃ i : Int, InsC C H x ∧ y = .int i ∧ spM [x, y] H Q E) ∨ (∃ i : Int, x = .int i ∧ InsC C H y ∧ spR [y, x] H Q E)
theorem binO {E : XK} {σ : L2.St} {id : String} {B : Builtin} {fo ro : Option Value} {pins : List (Addr × Obj)} {s : Shared} {H : Hp} {x y : V} {v u : Value} {Q : VK} (io : IntOp op id B fo ro) (c : CalM X.prog X.w X.K X.mg X.base CX k C m psM [] spM) (cR : CalM X.prog X.w X.K X.mg X.base CX kR C mR psR [] spR)
    (e : PySem.dunder op.info.2 = m) (eR : dunderR op.info.2 = mR) (hc : PySem.W.selfFirst X.K C = true) (h1 : PySem.W.subIn X.K (.type "int") (.ref C) = some false) (h2 : PySem.W.subIn X.K (.ref C) (.type "int") = some false)
    (hr : Room k X.A) (hrR : Room kR X.A) (hx : PassesAt CX X σ E) (I : Inv X pins σ H s) (rx : RelV x v) (ry : RelV y u) (h : rAnyO C spM spR E x y H Q) : wpAny (model X.prog X.w) X.A (binaryOp op v u) (EP X pins σ Q) X.xe s := by
  subst e eR
  obtain ⟨f, fd, ds, M, F, hb, hd⟩ := c.ex
  obtain ⟨g, gd, es, MR, FR, hbR, hdR⟩ := cR.ex
  rcases h with ⟨⟨a, dx, fs, hxa, ha⟩, ⟨b, dy, gs, hyb, hb'⟩, h⟩ | ⟨i, ⟨a, dx, fs, hxa, ha⟩, hyi, h⟩ | ⟨i, hxi, ⟨b, dy, gs, hyb, hb'⟩, h⟩
  · subst hxa hyb
    cases rx
    cases ry
    obtain ⟨ox, od, J⟩ := inst_at I ha
    obtain ⟨oy, od', J'⟩ := inst_at I hb'
    obtain ⟨m, hF⟩ := I.fr
    exact PySem.W.binop_K hF I.ok.mod.kin J J'.type hc M.at_ M.fn (wpAny_mono (run_own F hr rfl hb hd hx I (.cons (rel_ref a) (.cons (rel_ref b) .nil)) h) (fun _ _ z => back_of z) fun _ _ z => z)
  · subst hxa hyi
    cases rx
    obtain ⟨t, rfl⟩ := _root_.id ry
    obtain ⟨ox, od, J⟩ := inst_at I ha
    obtain ⟨m, hF⟩ := I.fr
    exact PySem.W.ksp_binT hF I.ok.mod.kin J rfl hc M.at_ M.fn MR.at_ (.inr ⟨_, rfl⟩) (io.l1 _) (io.l2 _) h1 (wpAny_mono (run_own F hr rfl hb hd hx I (.cons (rel_ref a) (.cons ry .nil)) h) (fun _ _ z => back_of z) fun _ _ z => z)
  · subst hxi hyb
    cases ry
    obtain ⟨t, rfl⟩ := _root_.id rx
    obtain ⟨mA, J0, _⟩ := ins_get I.hok hb'
    obtain ⟨od, J, _⟩ := J0.look
    exact bin_R I.kIn J hc M.at_ MR.at_ MR.fn h2 (io.l1 _) (io.l2 _) io.fl io.sl io.en (io.ar _ _) (fun q => io.no J.at_ rfl q) (wpAny_mono (run_own FR hrR rfl hbR hdR hx I (.cons (rel_ref b) (.cons rx .nil)) h) (fun _ _ z => back_of z) fun _ _ z => z)
theorem op_anyO {E : XK} {id : String} {B : Builtin} {fo ro : Option Value} (io : IntOp op id B fo ro) (c : CalM X.prog X.w X.K X.mg X.base CX k C m psM [] spM) (cR : CalM X.prog X.w X.K X.mg X.base CX kR C mR psR [] spR)
    (e : PySem.dunder op.info.2 = m) (eR : dunderR op.info.2 = mR) (hc : PySem.W.selfFirst X.K C = true) (h1 : PySem.W.subIn X.K (.type "int") (.ref C) = some false) (h2 : PySem.W.subIn X.K (.ref C) (.type "int") = some false)
    (hr : Room k X.A) (hrR : Room kR X.A) (hx : ∀ σ, PassesAt CX X σ E) : OpR X (binaryOp op) (rAnyO C spM spR E) := fun pins s σ H x y v u Q I rx ry h => binO io c cR e eR hc h1 h2 hr hrR (hx σ) I rx ry h
def tOpE (C : Addr) (spM spR : Sp) (W : WX) (ta tb : TE) : TE := fun σ H Q => ta σ H fun x H1 => tb σ H1 fun y H2 => rAnyO C spM spR (WE W σ) x y H2 Q
/-- an operator that may raise -/
theorem pe_opE {W : WX} {ta tb : TE} {a b : Expr} {pos : Pos} {id : String} {B : Builtin} {fo ro : Option Value} (io : IntOp op id B fo ro) (c : CalM X.prog X.w X.K X.mg X.base (L2N.CX X.prog X.w) k C m psM [] spM) (cR : CalM X.prog X.w X.K X.mg X.base (L2N.CX X.prog X.w) kR C mR psR [] spR)
    (e : PySem.dunder op.info.2 = m) (eR : dunderR op.info.2 = mR) (hc : PySem.W.selfFirst X.K C = true) (h1 : PySem.W.subIn X.K (.type "int") (.ref C) = some false) (h2 : PySem.W.subIn X.K (.ref C) (.type "int") = some false)
    (hr : Room k X.A) (hrR : Room kR X.A) (tk : L2N.Takes X W) (ha : PE X a ta) (hb : PE X b tb) : PE X (.BinOp a op b pos) (tOpE C spM spR W ta tb) := by
  refine ⟨fun pins s σ H Q I h => ?_⟩
  exact wpAny_BinOp (binT ha hb I (show (tOp (fun x y H2 Q2 => rAnyO C spM spR (WE W σ) x y H2 Q2) ta tb) σ H Q from h) fun v u s2 x y H2 I2 rx ry q => binO io c cR e eR hc h1 h2 hr hrR (L2N.passAt tk σ) I2 rx ry q)
/-- x == y: both of C, or one of C and one int -/
theorem op_eqO {E : XK} (c : CalM X.prog X.w X.K X.mg X.base CX k C "__eq__" psM [] spM) (hn : PySem.W.notFirst X.K C (.type "int") = true) (h2 : PySem.W.subIn X.K (.ref C) (.type "int") = some false)
    (hr : Room k X.A) (hx : ∀ σ, PassesAt CX X σ E) : OpR X (compareOp .Eq) (rAnyO C spM spM E) := by
  intro pins s σ H x y v u Q I rx ry h
  obtain ⟨f, fd, ds, M, F, hb, hd⟩ := c.ex
  rcases h with ⟨⟨a, dx, fs, hxa, ha⟩, ⟨b, dy, gs, hyb, hb'⟩, h⟩ | ⟨i, ⟨a, dx, fs, hxa, ha⟩, hyi, h⟩ | ⟨i, hxi, ⟨b, dy, gs, hyb, hb'⟩, h⟩
  · exact op_cmpS c rfl (fun _ _ => rfl) hr hx pins s σ H x y v u Q I rx ry ⟨⟨a, dx, fs, hxa, ha⟩, ⟨b, dy, gs, hyb, hb'⟩, h⟩
  · refine op_cmpT (T := "int") c rfl (fun _ _ => rfl) hn hr hx pins s σ H x y v u Q I rx ry ⟨fun u r => ?_, ⟨a, dx, fs, hxa, ha⟩, h⟩
    subst hyi
    obtain ⟨t, rfl⟩ := r
    rfl
  · subst hxi hyb
    cases ry
    obtain ⟨t, rfl⟩ := _root_.id rx
    obtain ⟨mA, J0, _⟩ := ins_get I.hok hb'
    obtain ⟨od, J, _⟩ := J0.look
    show wpAny _ _ (richCompare .Eq (.int i t) (.ref b)) _ _ _
    exact cmp_R hr.units0 I.kIn J h2 rfl M.at_ M.fn (wpAny_mono (run_own F hr rfl hb hd (hx σ) I (.cons (rel_ref b) (.cons rx .nil)) h) (fun _ _ z => back_of z) fun _ _ z => z)
end
/-! ### rules where the text's part K is written out (in comprehensions) -/
theorem ix_tupK {X : Cx} {K : PySem.W.Frag} (e : X.K = K) : IxR X (rIxT K) := by subst e; exact ix_tup
theorem ix_listK {X : Cx} {K : PySem.W.Frag} (e : X.K = K) : IxR X (rIxL K) := by subst e; exact ix_list
theorem call_isiK2 {X : Cx} {K : PySem.W.Frag} (e : X.K = K) : CallR X (.builtin "isinstance") (rIsi K) := by subst e; exact call_isi
theorem pe_fldK {X : Cx} {K : PySem.W.Frag} {e : Expr} {ta : TE} {f : Str} {pos : Pos} (eK : X.K = K) (he : PE X e ta) (hb : attributeBase e f X.env (eval e X.env) = eval e X.env) : PE X (.Attribute e f pos) (tFld K ta f) := by subst eK; exact pe_fld he hb
/-! ### what of the text an own class has -/
structure OwnD (K : PySem.W.Frag) (C : Addr) : Prop where
  sf : PySem.W.selfFirst K C = true
  ha : PySem.W.findIn K (.ref C) "__class__" = some (some (.builtin "object.__class__"))
  hn : PySem.W.specialIn K (.builtin "object.__class__") "__get__" = some (some (.builtin "getset_descriptor.__get__"))
  ht : PySem.W.takesIn K (.builtin "object.__class__") = some true
  hm : PySem.W.mroIn K C (.type "object") = some true
  is : PySem.W.kitOne K (.ref C) (.ref C) = some true
  nn : ∀ T ∈ ["int", "bool", "str", "NoneType", "list", "tuple", "dict", "set"], PySem.W.kitOne K (.type T) (.ref C) = some false
  nt : ∀ T ∈ ["int", "bool", "str", "list", "tuple", "dict", "set"], PySem.W.kitOne K (.ref C) (.type T) = some false
  si : PySem.W.subIn K (.type "int") (.ref C) = some false
  is2 : PySem.W.subIn K (.ref C) (.type "int") = some false
  nf : PySem.W.notFirst K C (.type "int") = true
def ownB (K : PySem.W.Frag) (C : Addr) : Bool := PySem.W.selfFirst K C && (He.eqO (PySem.W.findIn K (.ref C) "__class__") (some (some (.builtin "object.__class__"))) &&
  (He.eqO (PySem.W.specialIn K (.builtin "object.__class__") "__get__") (some (some (.builtin "getset_descriptor.__get__"))) && (decide (PySem.W.takesIn K (.builtin "object.__class__") = some true) && (decide (PySem.W.mroIn K C (.type "object") = some true) &&
  (decide (PySem.W.kitOne K (.ref C) (.ref C) = some true) && ((["int", "bool", "str", "NoneType", "list", "tuple", "dict", "set"].all fun T => decide (PySem.W.kitOne K (.type T) (.ref C) = some false)) &&
  ((["int", "bool", "str", "list", "tuple", "dict", "set"].all fun T => decide (PySem.W.kitOne K (.ref C) (.type T) = some false)) && (decide (PySem.W.subIn K (.type "int") (.ref C) = some false) && (decide (PySem.W.subIn K (.ref C) (.type "int") = some false) && PySem.W.notFirst K C (.type "int"))))))))))
theorem ownB_ok {K : PySem.W.Frag} {C : Addr} (h : ownB K C = true) : OwnD K C := by
  obtain ⟨h1, h⟩ := He.ba h
  obtain ⟨h2, h⟩ := He.ba h
  obtain ⟨h3, h⟩ := He.ba h
  obtain ⟨h4, h⟩ := He.ba h
  obtain ⟨h5, h⟩ := He.ba h
  obtain ⟨h6, h⟩ := He.ba h
  obtain ⟨h7, h⟩ := He.ba h
  obtain ⟨h8, h⟩ := He.ba h
  obtain ⟨h9, h⟩ := He.ba h
  obtain ⟨h10, h11⟩ := He.ba h
  exact ⟨h1, He.eqO_ok h2, He.eqO_ok h3, of_decide_eq_true h4, of_decide_eq_true h5, of_decide_eq_true h6, fun T hT => of_decide_eq_true (List.all_eq_true.mp h7 T hT), fun T hT => of_decide_eq_true (List.all_eq_true.mp h8 T hT), of_decide_eq_true h9, of_decide_eq_true h10, h11⟩
/-- the own classes of a text: each as such, and no one below another -/
def ownedB (K : PySem.W.Frag) (l : List Str) : Bool := l.all fun x => ownB K (He.ga K x) && l.all fun y => decide (PySem.W.kitOne K (.ref (He.ga K x)) (.ref (He.ga K y)) = some (decide (x = y)))
theorem ownedB_ok {K : PySem.W.Frag} {l : List Str} (h : ownedB K l = true) {x : Str} (hx : x ∈ l) : OwnD K (He.ga K x) ∧ ∀ y ∈ l, PySem.W.kitOne K (.ref (He.ga K x)) (.ref (He.ga K y)) = some (decide (x = y)) := by
  obtain ⟨h1, h2⟩ := He.ba (List.all_eq_true.mp h x hx)
  exact ⟨ownB_ok h1, fun y hy => of_decide_eq_true (List.all_eq_true.mp h2 y hy)⟩
theorem tyx_ins {K : PySem.W.Frag} {H : Hp} {a C dx : Addr} {fs : List (Str × V)} (e : H a = some (.ins C dx fs)) (c : Cls K C) (o : OwnD K C) : TyX K H (.ref a) (.ref C) := .base (.ins e c o.ha o.hn o.ht o.hm)
/-- an empty tuple that stands in the text's part (a default) -/
def emptyB (K : PySem.W.Frag) (a : Addr) : Bool := match K.lookup a with
  | some ⟨.type n, _, .seq its _, _⟩ => (n == "tuple") && its.isEmpty
  | _ => false
theorem emptyB_ok {K : PySem.W.Frag} {a : Addr} (h : emptyB K a = true) (H : Hp) : SqT K H a [] := by
  unfold emptyB at h
  split at h
  · rename_i n dd its m sl e
    rw [Bool.and_eq_true] at h
    have e1 : n = "tuple" := by simpa using h.1
    have e2 : its = #[] := by simpa using h.2
    subst e1 e2
    exact .inr ⟨_, #[], m, e, rfl, rfl, Nat.zero_le _, .nil⟩
  · cases h
end My

set_option Elab.async false
set_option linter.all false
set_option maxRecDepth 100000
set_option maxHeartbeats 4000000
/-! sorted() and comparisons of nested data -/
namespace My
open PySem PySem.Spec PyProof.Rows L2
theorem each_of_vals {α : Type} {f : α → V} : ∀ {bs : List α} {us : List Value}, Vals (bs.map f) us → PySem.W.EachIs (fun u b => RelV (f b) u) us bs
  | [], _, .nil => .nil
  | _ :: _, _, .cons r t => .cons r (each_of_vals t)
theorem vals_of_each {α : Type} {f : α → V} : ∀ {bs : List α} {us : List Value}, PySem.W.EachIs (fun u b => RelV (f b) u) us bs → Vals (bs.map f) us
  | [], _, .nil => .nil
  | _ :: _, _, .cons r t => .cons r (vals_of_each t)
theorem each_reads {X : Cx} {pins : List (Addr × Obj)} {σ : L2.St} {H : Hp} {s : Shared} (I : Inv X pins σ H s) : ∀ {bs : List (V × PyData)} {us : List Value}, (∀ b ∈ bs, Dp X.K H b.1 b.2) → Vals (bs.map Prod.fst) us → PySem.W.EachIs (fun u (b : V × PyData) => ∃ as, Reads s.heap u b.2 as) us bs
  | [], _, _, .nil => .nil
  | b :: _, _, h, .cons r t => .cons (Dp.reads I b.2 b.1 _ (h b List.mem_cons_self) r) (each_reads I (fun b hb => h b (List.mem_cons_of_mem _ hb)) t)
/-- sorted(l): l's items are data, each beside its value -/
def rSortD (K : PySem.W.Frag) : List V → Hp → VK → Prop := fun vs H Q => ∃ (a : Addr) (bs : List (V × PyData)), vs = [.ref a] ∧ SqL K H a (bs.map Prod.fst) ∧ (∀ b ∈ bs, Dp K H b.1 b.2) ∧ PySem.W.AllAlike (bs.map Prod.snd) ∧ PySem.W.Sortable (bs.map Prod.snd) ∧ (∀ b ∈ bs, b.2.depth ≤ 100) ∧
  ∀ p, H p = none → Q (.ref p) (upd H p (.lst ((bs.mergeSort (PySem.W.dataLe false Prod.snd)).map Prod.fst)))
theorem cr_sortedD {X : Cx} (hu : X.A.units + 200 < cLine) : CallR X (.builtin "sorted") (rSortD X.K) := by
  intro pins s σ H vs us Q I r h
  obtain ⟨a, bs, rfl, hS, hD, hal, hk, hd, q⟩ := h
  rw [Vals.ref1 r]
  obtain ⟨its, rv, pl, hz⟩ := I.list hS
  have hl : bs.length = its.length := by rw [← rv.length, List.length_map]
  refine PySem.W.sorted_data (R := fun u (b : V × PyData) => RelV b.1 u) (enc := Prod.snd) pl.isList (each_of_vals rv) (each_reads I hD rv) hal hk (by simpa [hl] using hz) (fun b hb => by have := hd b hb; omega) fun out ho eo => ?_
  obtain ⟨c, hc⟩ := sortedAll_at s.heap its out.toArray
  have hn : H (s.heap.objs.size + 1) = none := I.hok.fresh (Nat.le_succ _)
  have rv2 := vals_of_each (f := Prod.fst) eo
  refine ⟨.ref (s.heap.objs.size + 1), upd H (s.heap.objs.size + 1) (.lst ((bs.mergeSort (PySem.W.dataLe false Prod.snd)).map Prod.fst)), I.laid (t' := s.toks) (fun _ _ => sortedAll_old) (Nat.le_succ _) ⟨?_, out, c, rv2, hc⟩, rfl, q _ hn⟩
  rw [List.length_map, List.length_mergeSort]
  simpa [hl] using hz
theorem cr_sortedDR {X : Cx} {k : Nat} (hr : Room k X.A) : CallR X (.builtin "sorted") (rSortD X.K) := cr_sortedD (by have := hr.un; omega)
theorem call_tuple_ofK {X : Cx} {K : PySem.W.Frag} (e : X.K = K) : CallR X (.type "tuple") (fun xs H Q => ∃ p ys, xs = [.ref p] ∧ ((SqL K H p ys ∧ ∀ l, H l = none → Q (.ref l) (upd H l (.tup ys))) ∨ (SqT K H p ys ∧ Q (.ref p) H))) := by subst e; exact call_tuple_of
theorem call_len_seqK {X : Cx} {K : PySem.W.Frag} (e : X.K = K) : CallR X (.builtin "len") (fun xs H Q => ∃ p ys, xs = [.ref p] ∧ (SqL K H p ys ∨ SqT K H p ys) ∧ Q (.int ys.length) H) := by subst e; exact call_len_seq
theorem op_in_seqK {X : Cx} {K : PySem.W.Frag} (e : X.K = K) : OpR X (compareOp .In) (rIn K false) := by subst e; exact op_in_seq
theorem op_notIn_seqK {X : Cx} {K : PySem.W.Frag} (e : X.K = K) : OpR X (compareOp .NotIn) (rIn K true) := by subst e; exact op_notIn_seq
end My

set_option Elab.async false
set_option linter.all false
set_option maxRecDepth 100000
set_option maxHeartbeats 4000000
/-! enumerate over a tuple -/
namespace My
open PySem PySem.Spec PyProof.Rows L2
open AutoSeq1 (wpAny_loadPart')
theorem meets_enumT (l : Addr) (items : Array Value) (n : Nat) (dct : Option Addr) (sl : Array (Option Value)) :
    Meets (Builtin.«enumerate.__new__» ⟨[.type "enumerate", .ref l], []⟩) (fun _ R s => s.heap.get? l = some { cls := .type "tuple", dict := dct, data := .seq items n, slots := sl } ∧
      R (.ok (.ret (.ref (s.heap.push { cls := .type "tuple_iterator", data := .fields #[.ref l, .int 0 0] }).objs.size)))
        { s with heap := (s.heap.push { cls := .type "tuple_iterator", data := .fields #[.ref l, .int 0 0] }).push { cls := .type "enumerate", data := .fields #[.none, .bool false, .ref s.heap.objs.size, rawInt 0, .none, .none] } }) :=
  .of_wp fun prog w A R s h => by
    obtain ⟨hp, g, d, tk, os⟩ := s; obtain ⟨hl, h⟩ := h
    have hsub := sub_enumerate
    have hL : Heap.IsTuple (Shared.heap ⟨hp, g, d, tk, os⟩) l items := ⟨_, hl, rfl, n, rfl⟩
    wp_walk using wpAny_loadPart' hl
    refine wpAny_stack_any fun st => wpAny_pure ?_
    split
    · rename_i c _ _ _ _ _
      cases (c == Value.type "enumerate")
      · wp_walk using wpAny_loadPart' hl, wpAny_pyIter_tuple hL
        exact ⟨_, rfl, h⟩
      · wp_walk using wpAny_loadPart' hl, wpAny_pyIter_tuple hL
        exact ⟨_, rfl, h⟩
    · wp_walk using wpAny_loadPart' hl, wpAny_pyIter_tuple hL
      exact ⟨_, rfl, h⟩
section
variable {prog : Program} {w : World} {A : Around} {E : Value → Shared → Prop} {s : Shared}
theorem call_enumT {l : Addr} {items : Array Value} {Q : Value → Shared → Prop} (hL : s.heap.IsTuple l items)
    (h : ∀ h', IsEnum h' (s.heap.objs.size + 1) s.heap.objs.size 0 .none → h'.IsTupleIter s.heap.objs.size l 0 → h'.objs.size = s.heap.objs.size + 2 →
      (∀ b o, s.heap.get? b = some o → h'.get? b = some o) → Q (.ref (s.heap.objs.size + 1)) { s with heap := h' }) :
    wpAny (model prog w) A (call (.type "enumerate") [.ref l]) Q E s := by
  obtain ⟨⟨c, dct, dt, sl⟩, hl, hc, n, hd⟩ := hL
  replace hc : c = .type "tuple" := hc
  replace hd : dt = .seq items n := hd
  subst hc hd
  refine callType_new F.called_enumerate (by decide) (F.typeCall_enumerate_1 _) (F.newCall_enumerate_1 _) (fun obj => F.args_object_init_2 obj _) F.entry_enumerate_new
    (meets_enumT l items n dct sl) ⟨hl, ?_⟩
  have hz : (s.heap.push { cls := .type "tuple_iterator", data := .fields #[.ref l, .int 0 0] }).objs.size = s.heap.objs.size + 1 := Heap.size_push ..
  show _ ∧ _
  rw [hz]
  have he : IsEnum ((s.heap.push { cls := .type "tuple_iterator", data := .fields #[.ref l, .int 0 0] }).push
      { cls := .type "enumerate", data := .fields #[.none, .bool false, .ref s.heap.objs.size, rawInt 0, .none, .none] }) (s.heap.objs.size + 1) s.heap.objs.size 0 .none := by
    have := Heap.get?_push_size (s.heap.push { cls := .type "tuple_iterator", data := .fields #[.ref l, .int 0 0] })
      (o := { cls := .type "enumerate", data := .fields #[.none, .bool false, .ref s.heap.objs.size, rawInt 0, .none, .none] }) rfl
    rw [hz] at this; exact this
  refine ⟨⟨_, he, rfl⟩, h _ he ⟨_, Heap.get?_push_of_some _ (Heap.get?_push_size _ rfl), rfl, rfl⟩ (by rw [Heap.size_push, hz]) fun b o x => Heap.get?_push_of_some _ (Heap.get?_push_of_some _ x)⟩
end
section
variable {prog : Program} {w : World} {A : Around} {E : Value → Shared → Prop} {s : Shared}
theorem enumT_end {e it l : Addr} {i : Nat} {items : Array Value} {old : Value} {Q : Option Value → Shared → Prop} (hh : A.handled = none)
    (he : IsEnum s.heap e it i old) (hit : s.heap.IsTupleIter it l i) (hl : s.heap.IsTuple l items) (hx : items[i]? = none)
    (hQ : ∀ h', Heap.ExtBut it s.heap h' → Q none { s with heap := h' }) : wpAny (model prog w) A (pyNext (.ref e)) Q E s := by
  have hT : s.TypeIs (.ref e) "enumerate" := ⟨_, he, rfl⟩
  unfold pyNext
  refine wpAny_bind (wpAny_attempt (wpAny_callSpecial?_slot (name := Str.ofString "__next__") hT F.slot_enumerate_next
    (wpAny_call_entry F.slot_enumerate_next hT F.entry_enumerate_next ?_ (F.args_enumerate_next_1 _))))
  show wpAny _ _ (field (.ref e) 2 >>= _) _ _ _
  refine wpAny_bind (wpAny_field he rfl (x := .ref it) rfl ?_)
  refine wpAny_bind (wpAny_nextOf_tuple_end hh hit hl hx fun h' x he' hx' => ?_)
  obtain ⟨o, ho, hc⟩ := hx'
  refine wpAny_bind (wpAny_isInstance (T := "StopIteration") (b := true) ⟨o, ho, hc⟩ isSubtype_stop ?_)
  exact wpAny_pure (hQ _ he')
end
/-- the tuple at a, each item in a new pair -/
def IteT (K : PySem.W.Frag) (a : Addr) : It :=
  ⟨fun i H => ∃ (xs : List V) (x : V), SqT K H a xs ∧ xs[i]? = some x, fun i H v H' => ∃ T x, v = .ref T ∧ H T = none ∧ H' = upd H T (.tup [.int (i : Nat), x]) ∧ ∀ xs, SqT K H a xs → xs[i]? = some x, fun i H => ∃ xs : List V, SqT K H a xs ∧ xs.length ≤ i⟩
theorem turn_enumT {P : Program} {w : World} {K : PySem.W.Frag} {elts : List Expr} {kk : Nat} {tpos : Pos} (a e it : Addr) :
    Turn P w K (.Tuple elts kk tpos) (IteT K a) [e, it] e (fun i h => (∃ old, IsEnum h e it ((i : Nat) : Int) old) ∧ h.IsTupleIter it a i ∧ e ≠ it) where
  mem := by simp
  obj := fun i h st b hb => by
    obtain ⟨⟨old, he⟩, ⟨o, ho, hc, hd⟩, _⟩ := st
    have e' : b = e ∨ b = it := by simpa using hb
    rcases e' with z | z
    · rw [z]; exact ⟨_, he, fun v q => nomatch q⟩
    · rw [z]; exact ⟨o, ho, fun v q => by rw [hd] at q; cases q⟩
  keep := fun i h h' st k => let ⟨⟨old, he⟩, hi, hne⟩ := st; ⟨⟨old, k e (by simp) _ he⟩, hi.at fun o q => k it (by simp) o q, hne⟩
  item := by
    intro X hP hw hK hc i pins s σ H E I hf st hg
    subst hP hw hK
    obtain ⟨⟨old, he⟩, hit, hne⟩ := st
    obtain ⟨xs, x, hq, hx⟩ := hg
    obtain ⟨its, rv, p, hz⟩ := I.tuple hq
    obtain ⟨u, hu, ru⟩ := rv.get hx
    have hel : e < s.heap.objs.size := Heap.lt_size he
    have hil : it < s.heap.objs.size := by obtain ⟨_, q, _⟩ := hit; exact Heap.lt_size q
    have hai : a ≠ it := fun z => by
      obtain ⟨o1, g1, c1, _⟩ := id p
      obtain ⟨o2, g2, c2, _⟩ := id hit
      rw [z, g2] at g1
      cases g1
      rw [c2] at c1
      exact absurd (Value.type.inj c1) (by decide)
    have hae : e ∉ [it, a] := fun hm => by
      have : e = it ∨ e = a := by simpa using hm
      rcases this with z | z
      · exact hne z
      · obtain ⟨o1, g1, c1, _⟩ := id p
        rw [← z, he] at g1
        cases g1
        exact absurd (Value.type.inj c1) (by decide)
    have D := Draws.tuple (prog := X.prog) (w := X.w) (A := X.A.in1) (show X.A.in1.handled = none from I.ok.hd hc) it a hai its.toArray
    have hlt : i < its.toArray.size := by
      have := (List.getElem?_eq_some_iff.mp hu).1
      simpa using this
    refine wpAny_pyNext_enum_itemD D he ⟨hit, p⟩ hlt hne hae fun x' h' tk hxi ho hst hT hsz hk => ?_
    have ex : x' = u := by
      have : its[i]? = some x' := by simpa using hxi
      rw [hu] at this
      exact (Option.some.inj this).symm
    subst ex
    have hit' := hst.1
    refine ⟨_, rfl, wpAny_letOwnedTupleGo_enum (s := { s with heap := h', toks := tk + 1 }) ho fun h'' he' sb => ?_⟩
    have hT2 : h''.get? s.heap.objs.size = some { cls := .type "tuple", data := .seq #[.int i tk, x'] } := (sb.2 _ (Nat.ne_of_gt hel)).trans hT
    have new : ObjOk X.prog X.w (upd H s.heap.objs.size (.tup [.int (i : Nat), x])) h'' s.heap.objs.size (.tup [.int (i : Nat), x]) :=
      ⟨by show 2 ≤ sizeLine; decide, [.int i tk, x'], .cons ⟨_, rfl⟩ (.cons ru .nil), ⟨_, hT2, rfl, _, rfl⟩⟩
    have I1 : Inv X pins σ (upd H s.heap.objs.size (.tup [.int (i : Nat), x])) { s with heap := h'', toks := tk + 1 } :=
      I.turnedNew (ch := [e, it]) (fun b ob hb q => (sb.2 b (fun z => hb (by simp [z]))).trans (hk b ob (fun z => hb (by simp [z])) (fun z => hb (by simp [z])) q)) hf (Nat.le_refl _) new
    refine ⟨.ref s.heap.objs.size, _, I1, rfl, ⟨_, x, rfl, I.hok.fresh (Nat.le_refl _), rfl, fun ys hy => by rw [I.tuple_inj hy hq]; exact hx⟩, ⟨⟨x', ?_⟩, hit'.at fun o q => (sb.2 it (Ne.symm hne)).trans q, hne⟩, fun b hb => ?_⟩
    · have e1 : ((i + 1 : Nat) : Int) = (i : Int) + 1 := by omega
      rw [e1]; exact he'
    · have hb' : b < s.heap.objs.size := by
        have e' : b = e ∨ b = it := by simpa using hb
        rcases e' with z | z
        · rw [z]; exact hel
        · rw [z]; exact hil
      rw [upd_ne (Nat.ne_of_lt hb')]
      exact (hf b hb).1
  done := by
    intro X hP hw hK hc i pins s σ H E I hf st hg
    subst hP hw hK
    obtain ⟨⟨old, he⟩, hit, hne⟩ := st
    obtain ⟨xs, hq, hx⟩ := hg
    obtain ⟨its, rv, p, hz⟩ := I.tuple hq
    obtain ⟨f0, f1, f2, f3, f4, f5⟩ := hf it (by simp)
    have hl := rv.length
    exact enumT_end (I.ok.hd hc) he hit p (by simp; omega) fun h' eb => ⟨rfl, I.turned (t' := s.toks) (fun b o hb q => eb b o hb q) f0 f1 f3 f4 f5⟩
  self := fun A i s Q E st h => let ⟨⟨_, he⟩, _⟩ := st; wpAny_pyIter_enum he h
def iEnumT (K : PySem.W.Frag) (ta : TA) : TI := fun σ H R => ta σ H fun vs H1 => ∃ a xs, vs = [.ref a] ∧ SqT K H1 a xs ∧ R (IteT K a) H1
theorem pi_enumT {X : Cx} {e : Expr} {ta : TA} {p pos tpos : Pos} {elts : List Expr} {kk : Nat} (hg : Gl X "enumerate") (hm : X.mg "enumerate" = none) (ha : PA X [e] ta) (hs : starEach [e] X.env = [(false, eval e X.env)] := by rfl) :
    PI X (.Tuple elts kk tpos) (.Call (.Name "enumerate" p) [e] [] pos) (iEnumT X.K ta) := by
  refine ⟨fun pins s σ H R I h => ?_⟩
  refine Call_ (ld_blt I hg hm boot_enumerate (PyProof.Rows.callWith_type1 (thn (ha.run pos pins s σ H _ I h) fun us s1 ⟨vs, H1, I1, r1, q1⟩ => ?_) hs rfl))
  obtain ⟨a, xs, ex, hq, q⟩ := q1
  subst ex
  cases r1 with
  | cons r rr =>
    cases rr
    cases r
    obtain ⟨its, rv, p', hz⟩ := I1.tuple hq
    refine call_enumT (show s1.heap.IsTuple a its.toArray from p') fun h' he hit hsz hk => wpAny_pyIter_enum he ?_
    have I2 : Inv X pins σ H1 { s1 with heap := h' } := I1.kept (t' := s1.toks) hk
    refine ⟨s1.heap.objs.size + 1, [s1.heap.objs.size + 1, s1.heap.objs.size], _, _, H1, rfl, I2, turn_enumT a (s1.heap.objs.size + 1) s1.heap.objs.size, ⟨⟨.none, he⟩, hit, Nat.succ_ne_self _⟩, fun b hb => ?_, q⟩
    have e' : b = s1.heap.objs.size + 1 ∨ b = s1.heap.objs.size := by simpa using hb
    have hle : s1.heap.objs.size ≤ b := by
      rcases e' with z | z
      · rw [z]; exact Nat.le_add_right _ _
      · rw [z]; exact Nat.le_refl _
    exact I1.fpOk hle (I1.hok.fresh hle)
theorem walk_enumT {K : PySem.W.Frag} {a : Addr} {xs : List V} : Walk (IteT K a) xs.length (fun H => SqT K H a xs) (YPair (fun i => some (.int (i : Nat))) (fun i => xs[i]?)) := by
  refine ⟨fun i _ hi q => ⟨xs, xs[i], q, by simp [hi]⟩, fun _ q => ⟨xs, q, Nat.le_refl _⟩, fun i H v H' _ q y => ?_⟩
  obtain ⟨T, x, h1, h2, h3, h4⟩ := y
  exact ⟨T, .int (i : Nat), x, h1, h2, h3, rfl, h4 xs q⟩
end My

set_option Elab.async false
set_option linter.all false
set_option maxRecDepth 100000
set_option maxHeartbeats 4000000
namespace My
open PySem PySem.Spec PyProof.Rows L2
/-! ### data over a heap that grows -/
mutual
theorem dp_same {K : PySem.W.Frag} {H H' : Hp} (e : Same H H') : ∀ {v : V} {d : PyData}, Dp K H v d → Dp K H' v d
  | _, _, .non => .non
  | _, _, .bl b => .bl b
  | _, _, .int i => .int i
  | _, _, .str x => .str x
  | _, _, .lst h t => .lst (e.seq h) (dpAll_same e t)
  | _, _, .tup h t => .tup (same_tup e h) (dpAll_same e t)
theorem dpAll_same {K : PySem.W.Frag} {H H' : Hp} (e : Same H H') : ∀ {vs : List V} {ds : List PyData}, DpAll K H vs ds → DpAll K H' vs ds
  | _, _, .nil => .nil
  | _, _, .cons h t => .cons (dp_same e h) (dpAll_same e t)
end
theorem Sq.same {K : PySem.W.Frag} {H H' : Hp} {a : Addr} {xs : List V} (h : Sq K H a xs) (e : Same H H') : Sq K H' a xs := h.imp e.seq (same_tup e)
/-- tuple(x), x a list or a tuple -/
theorem call_tupA {X : Cx} {K : PySem.W.Frag} (e : X.K = K) : CallR X (.type "tuple") (fun xs H Q => ∃ p ys, xs = [.ref p] ∧ Sq K H p ys ∧ ∀ q H', SqT K H' q ys → Same H H' → Q (.ref q) H') := by
  subst e
  intro pins s σ H xs us Q I r ⟨p, ys, hx, hs, k⟩
  refine call_tuple_of pins s σ H xs us Q I r ⟨p, ys, hx, ?_⟩
  rcases hs with h | h
  · exact .inl ⟨h, fun l nl => k l _ (SqT.of upd_same) (same_new (Same.refl H) nl)⟩
  · exact .inr ⟨h, k p H h (Same.refl H)⟩
/-- data without lists -/
def noL : Nat → PyData → Bool
  | 0, _ => false
  | _ + 1, .none => true
  | _ + 1, .bool _ => true
  | _ + 1, .int _ => true
  | _ + 1, .str _ => true
  | n + 1, .tuple ds => ds.all (noL n)
  | _ + 1, _ => false
theorem sqT_lst {K : PySem.W.Frag} {H : Hp} {D a : Addr} {xs ys : List V} {o : HO} (hD : H D = some (.lst xs)) (h : SqT K H a ys) : SqT K (upd H D o) a ys := by
  rcases h with (h | ⟨u, h⟩) | h
  · exact .inl (.inl (by rw [upd_ne (ne_of h hD (by intro z; cases z))]; exact h))
  · exact .inl (.inr ⟨u, by rw [upd_ne (ne_of h hD (by intro z; cases z))]; exact h⟩)
  · exact .inr h
mutual
theorem dp_lst {K : PySem.W.Frag} {H : Hp} {D : Addr} {xs : List V} {o : HO} (hD : H D = some (.lst xs)) : ∀ {n : Nat} {v : V} {d : PyData}, noL n d = true → Dp K H v d → Dp K (upd H D o) v d
  | 0, _, _, z, _ => by cases z
  | _ + 1, _, _, _, .non => .non
  | _ + 1, _, _, _, .bl b => .bl b
  | _ + 1, _, _, _, .int i => .int i
  | _ + 1, _, _, _, .str x => .str x
  | _ + 1, _, _, z, .lst h t => by cases z
  | n + 1, _, _, z, .tup h t => .tup (sqT_lst hD h) (dpAll_lst hD (show List.all _ (noL n) = true from z) t)
theorem dpAll_lst {K : PySem.W.Frag} {H : Hp} {D : Addr} {xs : List V} {o : HO} (hD : H D = some (.lst xs)) : ∀ {n : Nat} {vs : List V} {ds : List PyData}, ds.all (noL n) = true → DpAll K H vs ds → DpAll K (upd H D o) vs ds
  | _, _, _, _, .nil => .nil
  | _, _, _, z, .cons h t => by
    rw [List.all_cons, Bool.and_eq_true] at z
    exact .cons (dp_lst hD z.1 h) (dpAll_lst hD z.2 t)
end
theorem dpAll_snoc {K : PySem.W.Frag} {H : Hp} {v : V} {d : PyData} (h : Dp K H v d) : ∀ {vs : List V} {ds : List PyData}, DpAll K H vs ds → DpAll K H (vs ++ [v]) (ds ++ [d])
  | _, _, .nil => .cons h .nil
  | _, _, .cons a t => .cons a (dpAll_snoc h t)
theorem dpAll_zip {K : PySem.W.Frag} {H : Hp} : ∀ {vs : List V} {ds : List PyData}, DpAll K H vs ds → ∃ bs : List (V × PyData), bs.map Prod.fst = vs ∧ bs.map Prod.snd = ds ∧ ∀ b ∈ bs, Dp K H b.1 b.2
  | _, _, .nil => ⟨[], rfl, rfl, fun _ h => by simp at h⟩
  | _, _, .cons (v := v) (d := d) h t => by
    obtain ⟨bs, h1, h2, h3⟩ := dpAll_zip t
    refine ⟨(v, d) :: bs, by rw [List.map_cons, h1], by rw [List.map_cons, h2], fun b hb => ?_⟩
    rcases List.mem_cons.mp hb with rfl | hb
    · exact h
    · exact h3 b hb
theorem dpAll_of {K : PySem.W.Frag} {H : Hp} : ∀ {bs : List (V × PyData)}, (∀ b ∈ bs, Dp K H b.1 b.2) → DpAll K H (bs.map Prod.fst) (bs.map Prod.snd)
  | [], _ => .nil
  | b :: bs, h => .cons (h b List.mem_cons_self) (dpAll_of fun c hc => h c (List.mem_cons_of_mem _ hc))
/-- what sorted(l) gives, by data alone -/
theorem sorted_dp {K : PySem.W.Frag} {H : Hp} {bs : List (V × PyData)} {ds : List PyData} (h2 : bs.map Prod.snd = ds) (h3 : ∀ b ∈ bs, Dp K H b.1 b.2) : DpAll K H ((bs.mergeSort (PySem.W.dataLe false Prod.snd)).map Prod.fst) (ds.mergeSort fun x y => !PySem.W.dataLt y x) := by
  have e := List.map_mergeSort (f := Prod.snd) (l := bs) (r := PySem.W.dataLe false Prod.snd) (s := fun x y => !PySem.W.dataLt y x) (fun _ _ _ _ => rfl)
  rw [h2] at e
  rw [← e]
  exact dpAll_of fun b hb => h3 b (List.mem_mergeSort.mp hb)
end My

set_option Elab.async false
set_option linter.all false
set_option maxRecDepth 100000
set_option maxHeartbeats 4000000
namespace L2
open PySem PySem.Spec PyProof.Rows HT
/-! ### t[::-1] of a tuple -/
section
variable {prog : Program} {w : World} {A : Around} {E : Value → Shared → Prop} {s : Shared}
theorem sliceApplied_rev {sl : Addr} {vl vu vs : Value} {n : Nat} {Q : Int × Int × Nat → Shared → Prop} (hs : s.heap.IsSliceOf sl vl vu vs) (pl : IsPart vl none) (pu : IsPart vu none) (ps : IsPart vs (some (-1)))
    (h : Q ((n : Int) - 1, -1, n) s) : wpAny (model prog w) A (Builtin.Slice.sliceApplied (.ref sl) (pure (n : Int))) Q E s := by
  obtain ⟨os, hos, hcs, hds⟩ := id hs
  unfold Builtin.Slice.sliceApplied Builtin.Slice.sliceFields
  refine wpAny_bind (wpAny_bind (wpAny_field hos hds (x := vl) rfl (wpAny_bind (wpAny_field hos hds (x := vu) rfl (wpAny_bind (wpAny_field hos hds (x := vs) rfl (wpAny_pure ?_)))))))
  refine wpAny_bind (slicePart_ ps ?_)
  show wpAny _ _ (if ((-1 : Int) == 0) = true then _ else _) _ _ s
  rw [if_neg (by decide)]
  refine wpAny_bind (slicePart_ pl (wpAny_bind (slicePart_ pu (wpAny_bind (wpAny_pure ?_)))))
  show wpAny _ _ (match Builtin.Slice.sliceAdjust none none (-1) (n : Int) with | (lo, hi) => pure (lo, (-1 : Int), Builtin.Slice.slicePlaces lo hi (-1))) _ _ s
  show wpAny _ _ (pure ((n : Int) - 1, (-1 : Int), Builtin.Slice.slicePlaces ((n : Int) - 1) (-1) (-1))) _ _ s
  have e : Builtin.Slice.slicePlaces ((n : Int) - 1) (-1) (-1) = n := by
    unfold Builtin.Slice.slicePlaces
    rw [if_neg (by decide)]
    by_cases q : (n : Int) - 1 > -1
    · rw [if_pos q, show (- -1 : Int) = 1 by decide, Int.ediv_one]
      omega
    · rw [if_neg q]
      omega
  rw [e]
  exact wpAny_pure h
theorem fm_congr {α β : Type} {f g : α → Option β} : ∀ {l : List α}, (∀ x ∈ l, f x = g x) → l.filterMap f = l.filterMap g
  | [], _ => rfl
  | x :: l, h => by
    rw [List.filterMap_cons, List.filterMap_cons, h x List.mem_cons_self, fm_congr (l := l) fun y hy => h y (List.mem_cons_of_mem _ hy)]
theorem pick_rev (xs : Array Value) : ((List.range xs.size).filterMap fun (m : Nat) => xs[((xs.size : Int) - 1 + (m : Int) * (-1)).toNat]?).toArray = xs.toList.reverse.toArray := by
  have e : (List.range xs.size).filterMap (fun (m : Nat) => xs[((xs.size : Int) - 1 + (m : Int) * (-1)).toNat]?) = (List.range xs.size).filterMap (fun m => xs[xs.size - 1 - m]?) := by
    refine fm_congr fun m hm => ?_
    have := List.mem_range.mp hm
    have : ((xs.size : Int) - 1 + (m : Int) * (-1)).toNat = xs.size - 1 - m := by omega
    rw [this]
  rw [e]
  have e2 : (List.range xs.size).filterMap (fun m => xs[xs.size - 1 - m]?) = ((List.range xs.size).map fun k => xs.size - 1 - k).filterMap (xs[·]?) := by
    rw [List.filterMap_map]
    rfl
  rw [e2, PySem.W.krv_range, List.filterMap_reverse, PySem.W.krv_all]
theorem getItem_tuple_rev {t sl : Addr} {items : Array Value} {vl vu vs : Value} {Q : Value → Shared → Prop} (ht : IsTup s.heap t items) (hs : s.heap.IsSliceOf sl vl vu vs) (pl : IsPart vl none) (pu : IsPart vu none) (ps : IsPart vs (some (-1)))
    (h : Q (.ref s.heap.objs.size) { s with heap := s.heap.push { cls := .type "tuple", data := .seq items.toList.reverse.toArray } })
    (hsz : items.size ≤ sizeLine) : wpAny (model prog w) A (getItem (.ref t) (.ref sl)) Q E s := by
  have htake : sizeOk (.seq items.toList.reverse.toArray) := by
    show items.toList.reverse.toArray.size ≤ sizeLine
    rw [List.size_toArray, List.length_reverse, Array.length_toList]
    exact hsz
  obtain ⟨os, hos, hcs, hds⟩ := id hs
  have hTs : s.TypeIs (.ref sl) "slice" := ⟨os, hos, hcs⟩
  unfold getItem
  try with_reducible refine wpAny_holding ?_
  first | refine wpAny_bind (wpAny_pure ?_) | skip
  refine wpAny_bind (wpAny_sequenceKey ht.typeIs (by decide) ?_)
  refine wpAny_bind (wpAny_callSpecial?_slot (name := Str.ofString "__getitem__") ht.typeIs PyProof.Rows.slot_tuple_getitem
    (wpAny_call_entry PyProof.Rows.slot_tuple_getitem ht.typeIs entry_tuple_getitem ?_ (args_tuple_getitem _ _)))
  show wpAny _ _ (Builtin.Tuple.tupleItemsOf (.ref t) >>= _) _ _ s
  refine wpAny_bind (tupleItemsOf_ ht ?_)
  refine wpAny_bind (wpAny_typeOf hTs ?_)
  rw [if_pos (by decide)]
  refine wpAny_bind (sliceApplied_rev hs pl pu ps ?_)
  have hno : ¬ ((((items.size : Int) - 1) == 0 && (-1 : Int) == 1 && items.size == items.size) = true) := by
    intro q
    rw [Bool.and_eq_true, Bool.and_eq_true] at q
    exact absurd q.1.2 (by decide)
  show wpAny _ _ (if (((items.size : Int) - 1) == 0 && (-1 : Int) == 1 && items.size == items.size) = true then _ else _) _ _ s
  rw [if_neg hno, pick_rev]
  first
    | exact wpAny_bind (m := Builtin.Tuple.tupleExact _) (wpAny_newObj_type (wpAny_pure ⟨_, rfl, wpAny_pure h⟩) htake)
    | exact wpAny_bind (m := Builtin.Tuple.tupleExact _) (wpAny_newObj_type (wpAny_bind (wpAny_pure (wpAny_pure ⟨_, rfl, wpAny_pure h⟩))) htake)
    | exact wpAny_bind (wpAny_bind (m := Builtin.Tuple.tupleExact _) (wpAny_newObj_type (wpAny_pure (wpAny_pure ⟨_, rfl, wpAny_pure h⟩)) htake))
    | exact wpAny_bind (wpAny_bind (m := Builtin.Tuple.tupleExact _) (wpAny_newObj_type (wpAny_pure ⟨_, rfl, wpAny_pure h⟩) htake))
end
section
variable {X : Cx}
def tRevT (K : PySem.W.Frag) (te : TE) : TE := fun σ H Q => te σ H fun x H1 => ∃ a xs, x = .ref a ∧ SqT K H1 a xs ∧ ∀ p, H1 p = none → Q (.ref p) (upd H1 p (.tup xs.reverse))
theorem pe_revT {e : Expr} {te : TE} {k : Nat} {p1 p2 p3 pos : Pos} (he : PE X e te) : PE X (.Subscript e (.Slice none none (some (.UnaryOp .USub (.Constant (.int 1) k p1) p2)) p3) pos) (tRevT X.K te) := by
  refine ⟨fun pins s σ H Q I h => ?_⟩
  refine Subscript_ (thn (he.run pins s σ H _ I h) fun v s1 ⟨x, H1, I1, r1, q1⟩ => ?_)
  obtain ⟨a, xs, ex, hx, q⟩ := q1
  subst ex
  cases r1
  have hst : PO X (some (.UnaryOp .USub (.Constant (.int 1) k p1) p2)) (tPart (tUn (rU fun i => .int (-i)) (tC (.int 1)))) := po_some (pe_un un_neg pe_int)
  refine wpAny_Slice (thn (po_none.run pins s1 σ H1 (fun o H2 => o = none ∧ H2 = H1) I1 ⟨rfl, rfl⟩) fun vl s2 ⟨l, H2, I2, pl, el, e2⟩ => ?_)
  subst el e2
  refine thn (po_none.run pins s2 σ H2 (fun o H3 => o = none ∧ H3 = H2) I2 ⟨rfl, rfl⟩) fun vu s3 ⟨u, H3, I3, pu, eu, e3⟩ => ?_
  subst eu e3
  refine thn (hst.run pins s3 σ H3 (fun o H4 => o = some (-1) ∧ H4 = H3) I3 ⟨1, rfl, -1, rfl, rfl, rfl⟩) fun vs s4 ⟨o, H4, I4, ps, eo, e4⟩ => ?_
  subst eo e4
  have I5 : Inv X pins σ H4 { s4 with heap := s4.heap.push { cls := .type "slice", data := .fields #[vl, vu, vs] } } := I4.kept (t' := s4.toks) fun b o e => Heap.get?_push_of_some _ e
  obtain ⟨its, r, ht, hz⟩ := I5.tuple hx
  have hlen := r.length
  show wpAny (model X.prog X.w) X.A (subscriptTail e (.Slice none none (some (.UnaryOp .USub (.Constant (.int 1) k p1) p2)) p3) (.ref a) (.ref s4.heap.objs.size)) (EP X pins σ Q) X.xe { s4 with heap := s4.heap.push { cls := .type "slice", data := .fields #[vl, vu, vs] } }
  refine tail_any (ops := [.ref a, .ref s4.heap.objs.size]) ht.typeIs (PyProof.Rows.slot_tuple_getitem.lookup) ?_ (by with_unfolding_all rfl)
  refine getItem_tuple_rev ht (Heap.IsSliceOf.new _ vl vu vs) pl pu ps ?_ (by rw [List.size_toArray]; omega)
  refine ⟨.ref _, _, I5.laid (t' := s4.toks) (o := .tup xs.reverse) (fun b ob q => Heap.get?_push_of_some _ q) (Nat.le_refl _) ?_, rfl, q _ (I5.hok.fresh (Nat.le_refl _))⟩
  exact ⟨by rw [List.length_reverse]; exact hz, _, r.reverse, IsTup.new _ _⟩
/-! ### data < data -/
def rLtD (K : PySem.W.Frag) : R2 := fun x y H Q => ∃ d e, Dp K H x d ∧ Dp K H y e ∧ PySem.W.alike d e = true ∧ d ≠ .none ∧ d.depth ≤ 60 ∧ Q (.bl (PySem.W.dataLt d e)) H
theorem op_ltD (hu : X.A.units + 64 < cLine) : OpR X (compareOp .Lt) (rLtD X.K) := by
  intro pins s σ H x y v u Q I rx ry h
  obtain ⟨d, e, hd, he, ha, hn, hz, q⟩ := h
  obtain ⟨as, r1⟩ := Dp.reads I d x v hd rx
  obtain ⟨bs, r2⟩ := Dp.reads I e y u he ry
  exact PySem.W.lt_data r1 r2 ha hn (by omega) ⟨.bl _, H, I, rfl, q⟩
end
end L2
namespace L2
open PySem PySem.Spec PyProof.Rows
section
variable {X : Cx}
/-- data == data, with texts of any signs -/
def rEqP (K : PySem.W.Frag) : R2 := fun x y H Q => ∃ d e, Dp K H x d ∧ Dp K H y e ∧ d.plain = true ∧ e.plain = true ∧ d.depth ≤ 60 ∧ Q (.bl (PyData.eqv d e)) H
theorem op_eqP (hu : X.A.units + 64 < cLine) : OpR X (compareOp .Eq) (rEqP X.K) := by
  intro pins s σ H x y v u Q I rx ry h
  obtain ⟨d, e, hd, he, sd, se, hz, q⟩ := h
  obtain ⟨as, r1⟩ := Dp.reads I d x v hd rx
  obtain ⟨bs, r2⟩ := Dp.reads I e y u he ry
  exact SeqAt.eq_plain r1 r2 sd se (by omega) ⟨.bl _, H, I, rfl, q⟩
def rNeP (K : PySem.W.Frag) : R2 := fun x y H Q => ∃ d e, Dp K H x d ∧ Dp K H y e ∧ d.plain = true ∧ e.plain = true ∧ d.depth ≤ 60 ∧ Q (.bl (!PyData.eqv d e)) H
theorem op_neP (hu : X.A.units + 64 < cLine) : OpR X (compareOp .NotEq) (rNeP X.K) := by
  intro pins s σ H x y v u Q I rx ry h
  obtain ⟨d, e, hd, he, sd, se, hz, q⟩ := h
  obtain ⟨as, r1⟩ := Dp.reads I d x v hd rx
  obtain ⟨bs, r2⟩ := Dp.reads I e y u he ry
  exact SeqAt.ne_plain r1 r2 sd se (by omega) ⟨.bl _, H, I, rfl, q⟩
end
end L2

set_option Elab.async false
set_option linter.all false
set_option maxRecDepth 100000
set_option maxHeartbeats 4000000
namespace My
open PySem PySem.Spec PyProof.Rows L2
/-! ### properties of own classes -/
section
variable (P : Program) (w : World) (K : PySem.W.Frag) (mg : Str → Option Value) (base : Heap) (CX : CXT) (k : Nat)
structure CalP (C : Addr) (f : Str) (ps : List Str) (dvs : List V) (sp : Sp) : Prop where
  c : Cls K C
  ex : ∃ p g fd ds, PropOf K C f p g ∧ FnOk P w K mg base CX k g fd ps sp ∧ Binds K fd ps ds ∧ Vals dvs ds
end
section
variable {X : Cx} {CX : CXT} {k : Nat} {C : Addr} {ps : List Str} {sp : Sp} {dvs : List V} {E : XK} {f : Str} {pos : Pos} {e : Expr} {ta : TE}
theorem pc_prop (c : CalP X.prog X.w X.K X.mg X.base CX k C f ps dvs sp) (hr : Room (k + 1) X.A) (hx : Passes CX X.nox E) (he : PE X e ta) (hab : attributeBase e f X.env (eval e X.env) = eval e X.env := by rfl) : PE X (.Attribute e f pos) (tProp C sp dvs E ta) := by
  obtain ⟨p, g, fd, ds, h1, F, b, v⟩ := c.ex
  exact pe_prop he c.c h1 F hr b v hx hab
end
/-- the getter of a property -/
def gAd (K : PySem.W.Frag) (p : Str × Option Str) : Addr := match PySem.W.recIn K (He.fAd K p) "property" with
  | some (.ref g :: _) => g
  | _ => 0
def fnP (K : PySem.W.Frag) (p : Str × Option Str) : He.FnW := match K.lookup (gAd K p) with
  | some ⟨_, _, .func fd, _⟩ => some (fd.name, fd.qualname, fd.params, fd.body, fd.scope, fd.globals, fd.closure, fd.builtins)
  | _ => none
def propB (K : PySem.W.Frag) (d : He.DefD) : Bool := match d.at_ with
  | (cls, some f) => He.eqO (PySem.W.findIn K (.ref (He.ga K cls)) f) (some (some (.ref (He.fAd K d.at_)))) &&
    (He.eqO (PySem.W.specialIn K (.ref (He.fAd K d.at_)) "__get__") (some (some (.builtin "property.__get__"))) &&
    (decide (PySem.W.takesIn K (.ref (He.fAd K d.at_)) = some true) &&
    ((match PySem.W.recIn K (He.fAd K d.at_) "property" with
      | some (.ref g :: _) => decide (g = gAd K d.at_)
      | _ => false) &&
    (PySem.W.keepIn K (.ref (gAd K d.at_)) && (match K.lookup (gAd K d.at_) with
      | some ⟨_, _, .func fd, _⟩ => PySem.W.codeIn K fd.code d.qual && (He.dflB K fd.defaults (d.dvs K) && He.kwdB K fd.kwdefaults (d.kws K))
      | _ => false)))))
  | _ => false
theorem prop_ok {K : PySem.W.Frag} {d : He.DefD} {cls f : Str} (ha : d.at_ = (cls, some f)) (e : fnP K d.at_ = d.val) (c : propB K d = true) :
    ∃ fd, PropOf K (He.ga K cls) f (He.fAd K d.at_) (gAd K d.at_) ∧ FunD K d.name d.qual d.params d.body d.scope (d.dvs K) (d.kws K) (gAd K d.at_) fd := by
  obtain ⟨at_, name, qual, params, body, scope, dfl, kwd⟩ := d
  subst ha
  obtain ⟨h1, c⟩ := He.ba c
  obtain ⟨h2, c⟩ := He.ba c
  obtain ⟨h3, c⟩ := He.ba c
  obtain ⟨h4, c⟩ := He.ba c
  obtain ⟨kp, c2⟩ := He.ba c
  have hp : PropOf K (He.ga K cls) f (He.fAd K (cls, some f)) (gAd K (cls, some f)) := by
    refine ⟨He.eqO_ok h1, He.eqO_ok h2, of_decide_eq_true h3, ?_⟩
    cases q : PySem.W.recIn K (He.fAd K (cls, some f)) "property" with
    | none =>
      rw [q] at h4
      cases h4
    | some l =>
      rw [q] at h4
      cases l with
      | nil => cases h4
      | cons x r =>
        cases x with
        | ref g =>
          have h4 : g = gAd K (cls, some f) := of_decide_eq_true h4
          exact ⟨r, by rw [h4]⟩
        | _ => cases h4
  unfold fnP at e
  cases q : K.lookup (gAd K (cls, some f)) with
  | none =>
    rw [q] at c2
    cases c2
  | some o =>
    obtain ⟨oc, od, dt, osl⟩ := o
    rw [q] at c2 e
    cases dt with
    | func fd =>
      obtain ⟨n1, n2, n3, n4, n5, n6, n7, n8, n9, n10, n11, n12, n13, n14, n15⟩ := fd
      have e2 : (some (n1, n2, n3, n4, n5, n6, n7, n15) : He.FnW) = some (name, qual, params, .stmts body, scope, mainGlobals, [], builtinsNs) := e
      simp only [Option.some.injEq, Prod.mk.injEq] at e2
      obtain ⟨g1, g2, g3, g4, g5, g6, g7, g8⟩ := e2
      subst g1 g2 g3 g4 g5 g6 g7 g8
      obtain ⟨k1, k2⟩ := He.ba c2
      obtain ⟨k3, k4⟩ := He.ba k2
      exact ⟨_, hp, ⟨oc, od, n8, n9, n10, n11, n12, n13, n14, osl, rfl, q, k1, He.dflB_ok k3, He.kwdB_ok k4⟩, kp⟩
    | _ => cases c2
/-! ### the head with one more Bool and the getters -/
abbrev AlP : Type := He.AlD × (Bool × List He.FnW)
def obsP (n : Nat) (fa : List He.Fa) (fn pr : List He.DefD) (xb : PySem.W.Frag → Bool) (g : Addr → Option Obj) : AlP :=
  (He.obsDG n fa fn g, (xb (He.frG g (He.asD g n)) && pr.all (fun d => propB (He.frG g (He.asD g n)) d), pr.map fun d => fnP (He.frG g (He.asD g n)) d.at_))
def hookP (n : Nat) (fa : List He.Fa) (fn pr : List He.DefD) (xb : PySem.W.Frag → Bool) : PySem.W.Hook where
  α := AlP
  obs := fun s => obsP n fa fn pr xb s.heap.get?
  val := fun _ => (He.valD fn, (true, pr.map He.DefD.val))
  says := fun _ h => ∃ K : PySem.W.Frag, K.In h ∧ He.SaysD fa fn K ∧ (xb K && pr.all (fun d => propB K d)) = true ∧ (pr.map fun d => fnP K d.at_) = pr.map He.DefD.val
  of := fun _ _ e => ⟨_, He.frG_in, congrArg Prod.fst e, congrArg (fun z : AlP => z.2.1) e, congrArg (fun z : AlP => z.2.2) e⟩
  keeps := fun _ _ _ ⟨K, hK, c⟩ k => ⟨K, PySem.W.Frag.In.keeps hK k, c⟩
theorem obsP_eq {n : Nat} {fa : List He.Fa} {fn pr : List He.DefD} {xb : PySem.W.Frag → Bool} {g : Addr → Option Obj} {s : Shared} (h : ∀ a, g a = s.heap.get? a) : obsP n fa fn pr xb g = (hookP n fa fn pr xb).obs s := by
  have e : g = s.heap.get? := funext h
  rw [e] <;> rfl
end My

set_option Elab.async false
set_option linter.all false
set_option maxRecDepth 100000
set_option maxHeartbeats 4000000
namespace My
open PySem PySem.Spec PyProof.Rows L2
/-! set(l) of a list of ints: by the road of the library's own rule for tuples -/
abbrev newSet (w : World) : Obj := { cls := .type "set", dict := none, data := .set #[] 0 (.fresh 0 0 (!w.params.followText "set-order")) }
section
variable {P : Program} {w : World} {A : Around} {E : Value → Shared → Prop} {s : Shared}
set_option maxHeartbeats 8000000 in
theorem set_of_ints {l : Addr} {items : Array Value} (ns : List Int) {Q : Value → Shared → Prop} (hh : A.handled = none) (hl : s.heap.IsList l items) (hit : IntsAre items.toList ns) (hb : ns.length + 1 < scanBound)
    (h : ∀ (h' : Heap) (tk c : Nat), SetR w h' s.heap.objs.size (fun j => decide (j ∈ ns)) c → c ≤ ns.length → (∀ b o, s.heap.get? b = some o → h'.get? b = some o) → Q (.ref s.heap.objs.size) { s with heap := h', toks := tk }) :
    wpAny (model P w) A (call (.type "set") [.ref l]) Q E s := by
  have hisz : items.size = ns.length := by
    have q := IntsAre.length hit
    rw [Array.length_toList] at q
    exact q
  obtain ⟨c, tl, hmro⟩ := F.called_set.mro
  have hmade := F.called_set.made
  have hsub := F.called_set.sub
  refine wpAny_call (codeAny_of_tree ?_)
  show wpAny _ _ (callAny (.type "set") _) _ _ _
  refine wpAny_pure ⟨Code.quiet_builtin _ (by decide +kernel), codeAny_builtin F.entry_type_call ?_⟩
  rw [Around.under_plain (weight_type_call_type "set" [.ref l] []) rfl]
  have h1 := F.called_set.notType
  have h2 := F.called_set.canCreate
  have hct := F.typeCall_set_1 (.ref l)
  repeat (any_goals (first | assumption | wp_step))

  refine codeAny_mono (code_set_led1 (.ref l) (E := E) (Q₁ := fun obj s₁ => obj = .ref s.heap.objs.size ∧ s₁ = { s with heap := s.heap.push (newSet w) }) ⟨rfl, rfl⟩) fun r s₁ hr => ?_
  cases r with
  | error e => exact hr
  | ok fl =>
    cases fl with
    | ret obj =>
      obtain ⟨rfl, rfl⟩ := hr
      have hS : (s.heap.push (newSet w)).get? s.heap.objs.size = some (newSet w) := Heap.get?_push_size _ rfl
      have hT : Shared.TypeIs { s with heap := s.heap.push (newSet w) } (.ref s.heap.objs.size) "set" := ⟨_, hS, rfl⟩
      have hli := F.called_set.init.lookup
      have hbi := F.called_set.init.bind (.ref s.heap.objs.size)
      repeat (any_goals (first | assumption | wp_step))

      refine codeAny_mono (codeAny_call_builtin (R := wants (fun r s₂ => r = .none ∧ ∃ h' tk c, s₂ = { s with heap := h', toks := tk } ∧ SetR w h' s.heap.objs.size (fun j => decide (j ∈ ns)) c ∧ c ≤ ns.length ∧
          (∀ b o, s.heap.get? b = some o → h'.get? b = some o)) E) F.called_set.init.plain F.entry_set_init (check_set_init_1 hT ?_)) fun r₂ s₂ hr₂ => ?_
      · obtain ⟨ol, hol, hcl, nl, hdl⟩ := hl
        obtain ⟨ocls, odict, odata, oslots⟩ := ol
        simp only at hcl hdl
        subst hcl; subst hdl
        have hol' : (s.heap.push (newSet w)).get? l = some { cls := .type "list", dict := odict, data := .seq items nl, slots := oslots } := Heap.get?_push_of_some _ hol
        have hsls := F.sub_list_set
        have hslf := F.sub_list_frozenset
        have hne : (Value.type "list" == Value.type "dict") = false := by decide
        have hl1 : (s.heap.push (newSet w)).IsList l items := ⟨_, hol', rfl, nl, rfl⟩
        unfold Builtin.«set.__init__» noKeywords Builtin.Frozenset.updateFrom
        generalize hPI : pyIter = PI
        wp_walk
        subst hPI

        refine wpAny_pyIter_list hl1 ?_
        refine wpAny_bind (wpAny_runValue ?_)
        have hlS : l < s.heap.objs.size := Heap.lt_size hol
        have hh3 : A.in1.in1.in1.handled = none := by simp [hh]
        have hz1 : (s.heap.push (newSet w)).objs.size = s.heap.objs.size + 1 := Heap.size_push ..
        have hneI : l ≠ (s.heap.push (newSet w)).objs.size := by
          rw [Heap.size_push]; exact Nat.ne_of_lt (Nat.lt_succ_of_lt hlS)
        have hSf : s.heap.objs.size ∉ [(s.heap.push (newSet w)).objs.size, l] := by
          rw [Heap.size_push]; simp only [List.mem_cons, List.mem_singleton, List.not_mem_nil, or_false, not_or]
          exact ⟨Nat.ne_of_lt (Nat.lt_succ_self _), Nat.ne_of_gt hlS⟩
        have hval : ∀ (i : Nat) (v : Value), items[i]? = some v → ∃ k t, ns[i]? = some k ∧ v = .int k t := fun i v hv => by
          have hi : i < ns.length := by rw [← hisz]; exact (Array.getElem?_eq_some_iff.mp hv).1
          obtain ⟨t, e⟩ := PyProof.Rows.IntsAre.int_at hit i v (by rw [Array.getElem?_toList]; exact hv)
          refine ⟨ns[i], t, List.getElem?_eq_getElem hi, ?_⟩
          rw [e, List.getD_eq_getElem?_getD, List.getElem?_eq_getElem hi] <;> rfl
        refine set_update_ints ((Walks.list hh3 _ l hneI items).toS) s.heap.objs.size
          hSf ns hisz hb hval (items.size - 0) 0 _ (by omega) (Nat.zero_le _)
          ⟨⟨_, Heap.get?_push_size _ rfl, rfl, rfl⟩, (hl1.push _)⟩ ?hS0 ?hR
        case hS0 =>
          have hget : ((s.heap.push (newSet w)).push { cls := .type "list_iterator", data := .fields #[.ref l, .int 0 0] }).get? s.heap.objs.size
              = some (newSet w) := Heap.get?_push_of_some _ hS
          exact ⟨0, Nat.le_refl 0, setR_new_at hget⟩
        case hR =>
          intro s' c' hm hc' hS'
          obtain ⟨h', g2, d', tk', os'⟩ := s'
          have eg : g2 = s.gens := hm.gens
          have ed : d' = s.drawn := hm.drawn
          have eo : os' = s.os := hm.os
          subst eg; subst ed; subst eo
          show wpAny _ _ _ _ _ _
          refine wpAny_pure ?_
          show wpAny _ _ (ret Value.none) _ _ _
          rw [hisz] at hc'
          refine wpAny_pure ⟨rfl, h', tk', c', rfl, hS', hc', fun b o e => ?_⟩
          have hb0 : b < s.heap.objs.size := Heap.lt_size e
          have hb1 : b ≠ s.heap.objs.size := Nat.ne_of_lt hb0
          have hb2 : b ≠ (s.heap.push (newSet w)).objs.size := by
            rw [Heap.size_push]; exact Nat.ne_of_lt (Nat.lt_succ_of_lt hb0)
          exact hm.heap b o (by simp only [List.mem_cons, List.mem_singleton, List.not_mem_nil, or_false, not_or]; exact ⟨hb1, hb2⟩) (Heap.get?_push_of_some _ (Heap.get?_push_of_some _ e))

      · cases r₂ with
        | error e => exact hr₂
        | ok fl₂ =>
          cases fl₂ with
          | ret r =>
            obtain ⟨rfl, h', tk, c', rfl, hS', hc', hk'⟩ := hr₂
            repeat (any_goals (first | assumption | wp_step))
            exact h _ _ _ hS' hc' hk'
          | _ => exact hr₂.elim
    | _ => exact hr.elim
end
section
variable {X : Cx}
def rSetL (K : PySem.W.Frag) (w : World) : List V → Hp → VK → Prop := fun vs H Q => ∃ (a : Addr) (ns : List Int), vs = [.ref a] ∧ SqL K H a (ns.map V.int) ∧ ns.length < 60 ∧
  ∀ p n, H p = none → n ≤ ns.length → Q (.ref p) (upd H p (SetO w p (fun k => decide (k ∈ ns)) n))
theorem cr_setL (hc : X.calm = true) : CallR X (.type "set") (rSetL X.K X.w) := by
  intro pins s σ H vs us Q I r h
  obtain ⟨a, ns, rfl, hS, hl, q⟩ := h
  rw [Vals.ref1 r]
  obtain ⟨its, rv, pl, hz⟩ := I.list hS
  have hn : H s.heap.objs.size = none := I.hok.fresh (Nat.le_refl _)
  refine set_of_ints (P := X.prog) (w := X.w) ns (I.ok.hd hc) pl.isList (by simpa using ints_of_vals rv) (Nat.lt_of_lt_of_le (Nat.succ_lt_succ hl) (by decide)) fun h' tk c R hcn k => ?_
  exact ⟨.ref s.heap.objs.size, upd H s.heap.objs.size (SetO X.w s.heap.objs.size (fun j => decide (j ∈ ns)) c), I.laid (t' := tk) k (Nat.le_refl _) (setO_new R), rfl, q _ c hn hcn⟩
end
end My

set_option Elab.async false
set_option linter.all false
set_option maxRecDepth 100000
set_option maxHeartbeats 4000000
namespace My
open PySem PySem.Spec PyProof.Rows L2
def top (i : Nat) : Stmt := PySem.Challenge.pw_mostsalike_k26_case_form_and_order.main.body.getD i (.Pass ⟨0, 0, 0, 0⟩)
abbrev s__law_source : Stmt := top 4
abbrev N__law_source : List Str := ["script"]
abbrev P__law_source : List Str := ["script"]
theorem sc__law_source : FnScope N__law_source P__law_source (defScope s__law_source) := ⟨rfl, rfl, rfl, by decide +kernel, rfl, by decide +kernel, by decide +kernel⟩
def d__law_source : He.DefD := ⟨("_law_source", none), "_law_source", "_law_source", defArgs s__law_source, defBody s__law_source, defScope s__law_source, [], []⟩
abbrev s__law_draw : Stmt := top 5
abbrev N__law_draw : List Str := ["source", "many", "cell", "drawn", "turn", "first", "second"]
abbrev P__law_draw : List Str := ["source", "many"]
theorem sc__law_draw : FnScope N__law_draw P__law_draw (defScope s__law_draw) := ⟨rfl, rfl, rfl, by decide +kernel, rfl, by decide +kernel, by decide +kernel⟩
def d__law_draw : He.DefD := ⟨("_law_draw", none), "_law_draw", "_law_draw", defArgs s__law_draw, defBody s__law_draw, defScope s__law_draw, [], []⟩
abbrev s__law_name : Stmt := top 6
abbrev N__law_name : List Str := ["source", "taken", "signs", "size", "text", "k"]
abbrev P__law_name : List Str := ["source", "taken"]
theorem sc__law_name : FnScope N__law_name P__law_name (defScope s__law_name) := ⟨rfl, rfl, rfl, by decide +kernel, rfl, by decide +kernel, by decide +kernel⟩
def d__law_name : He.DefD := ⟨("_law_name", none), "_law_name", "_law_name", defArgs s__law_name, defBody s__law_name, defScope s__law_name, [], []⟩
abbrev s__law_names : Stmt := top 7
abbrev N__law_names : List Str := ["source", "many", "names", "k"]
abbrev P__law_names : List Str := ["source", "many"]
theorem sc__law_names : FnScope N__law_names P__law_names (defScope s__law_names) := ⟨rfl, rfl, rfl, by decide +kernel, rfl, by decide +kernel, by decide +kernel⟩
def d__law_names : He.DefD := ⟨("_law_names", none), "_law_names", "_law_names", defArgs s__law_names, defBody s__law_names, defScope s__law_names, [], []⟩
abbrev s__law_whole : Stmt := top 8
abbrev N__law_whole : List Str := ["number"]
abbrev P__law_whole : List Str := ["number"]
theorem sc__law_whole : FnScope N__law_whole P__law_whole (defScope s__law_whole) := ⟨rfl, rfl, rfl, by decide +kernel, rfl, by decide +kernel, by decide +kernel⟩
def d__law_whole : He.DefD := ⟨("_law_whole", none), "_law_whole", "_law_whole", defArgs s__law_whole, defBody s__law_whole, defScope s__law_whole, [], []⟩
abbrev s__law_same : Stmt := top 9
abbrev N__law_same : List Str := ["actual", "expected", "k"]
abbrev P__law_same : List Str := ["actual", "expected"]
theorem sc__law_same : FnScope N__law_same P__law_same (defScope s__law_same) := ⟨rfl, rfl, rfl, by decide +kernel, rfl, by decide +kernel, by decide +kernel⟩
def d__law_same : He.DefD := ⟨("_law_same", none), "_law_same", "_law_same", defArgs s__law_same, defBody s__law_same, defScope s__law_same, [], []⟩
abbrev s__law_form : Stmt := top 10
abbrev N__law_form : List Str := ["case", "free", "one", "codes", "pick"]
abbrev P__law_form : List Str := ["case"]
theorem sc__law_form : FnScope N__law_form P__law_form (defScope s__law_form) := ⟨rfl, rfl, rfl, by decide +kernel, rfl, by decide +kernel, by decide +kernel⟩
def d__law_form : He.DefD := ⟨("_law_form", none), "_law_form", "_law_form", defArgs s__law_form, defBody s__law_form, defScope s__law_form, [], []⟩
abbrev s__law_seen : Stmt := top 11
abbrev N__law_seen : List Str := ["case"]
abbrev P__law_seen : List Str := ["case"]
theorem sc__law_seen : FnScope N__law_seen P__law_seen (defScope s__law_seen) := ⟨rfl, rfl, rfl, by decide +kernel, rfl, by decide +kernel, by decide +kernel⟩
def d__law_seen : He.DefD := ⟨("_law_seen", none), "_law_seen", "_law_seen", defArgs s__law_seen, defBody s__law_seen, defScope s__law_seen, [], []⟩
abbrev s__law_drawn_points : Stmt := top 12
abbrev N__law_drawn_points : List Str := ["source", "marks", "most", "room", "points", "k", "base", "free", "j"]
abbrev P__law_drawn_points : List Str := ["source", "marks", "most"]
theorem sc__law_drawn_points : FnScope N__law_drawn_points P__law_drawn_points (defScope s__law_drawn_points) := ⟨rfl, rfl, rfl, by decide +kernel, rfl, by decide +kernel, by decide +kernel⟩
def d__law_drawn_points : He.DefD := ⟨("_law_drawn_points", none), "_law_drawn_points", "_law_drawn_points", defArgs s__law_drawn_points, defBody s__law_drawn_points, defScope s__law_drawn_points, [], []⟩
abbrev s__law_drawn : Stmt := top 13
abbrev N__law_drawn : List Str := ["source", "points", "names", "widths", "atoms", "k", "which", "j", "groups", "pick"]
abbrev P__law_drawn : List Str := ["source"]
theorem sc__law_drawn : FnScope N__law_drawn P__law_drawn (defScope s__law_drawn) := ⟨rfl, rfl, rfl, by decide +kernel, rfl, by decide +kernel, by decide +kernel⟩
def d__law_drawn : He.DefD := ⟨("_law_drawn", none), "_law_drawn", "_law_drawn", defArgs s__law_drawn, defBody s__law_drawn, defScope s__law_drawn, [], []⟩
abbrev s__law_near : Stmt := top 14
abbrev N__law_near : List Str := ["source", "plain", "points", "atoms", "groups", "pick", "turn", "marks", "k", "last", "changed"]
abbrev P__law_near : List Str := ["source", "plain"]
theorem sc__law_near : FnScope N__law_near P__law_near (defScope s__law_near) := ⟨rfl, rfl, rfl, by decide +kernel, rfl, by decide +kernel, by decide +kernel⟩
def d__law_near : He.DefD := ⟨("_law_near", none), "_law_near", "_law_near", defArgs s__law_near, defBody s__law_near, defScope s__law_near, [], []⟩
abbrev s__law_ordered : Stmt := top 15
abbrev N__law_ordered : List Str := ["plain"]
abbrev P__law_ordered : List Str := ["plain"]
theorem sc__law_ordered : FnScope N__law_ordered P__law_ordered (defScope s__law_ordered) := ⟨rfl, rfl, rfl, by decide +kernel, rfl, by decide +kernel, by decide +kernel⟩
def d__law_ordered : He.DefD := ⟨("_law_ordered", none), "_law_ordered", "_law_ordered", defArgs s__law_ordered, defBody s__law_ordered, defScope s__law_ordered, [], []⟩
abbrev s__law_is_case : Stmt := top 16
abbrev N__law_is_case : List Str := ["case", "plain", "due", "one"]
abbrev P__law_is_case : List Str := ["case", "plain"]
theorem sc__law_is_case : FnScope N__law_is_case P__law_is_case (defScope s__law_is_case) := ⟨rfl, rfl, rfl, by decide +kernel, rfl, by decide +kernel, by decide +kernel⟩
def d__law_is_case : He.DefD := ⟨("_law_is_case", none), "_law_is_case", "_law_is_case", defArgs s__law_is_case, defBody s__law_is_case, defScope s__law_is_case, [], []⟩
abbrev s_law : Stmt := top 17
abbrev N_law : List Str := ["script", "source", "plain", "other", "lists", "first", "second", "low", "high", "again", "bare"]
abbrev P_law : List Str := ["script"]
theorem sc_law : FnScope N_law P_law (defScope s_law) := ⟨rfl, rfl, rfl, by decide +kernel, rfl, by decide +kernel, by decide +kernel⟩
def d_law : He.DefD := ⟨("law", none), "law", "law", defArgs s_law, defBody s_law, defScope s_law, [], []⟩
abbrev s_Case_DinitD : Stmt := inClass (top 2) 0
abbrev N_Case_DinitD : List Str := ["self", "points", "atoms", "groups", "pick", "name", "indexes", "codes", "point", "free"]
abbrev P_Case_DinitD : List Str := ["self", "points", "atoms", "groups", "pick"]
theorem sc_Case_DinitD : FnScope N_Case_DinitD P_Case_DinitD (defScope s_Case_DinitD) := ⟨rfl, rfl, rfl, by decide +kernel, rfl, by decide +kernel, by decide +kernel⟩
def d_Case_DinitD : He.DefD := ⟨("Case", some "__init__"), "__init__", "Case.__init__", defArgs s_Case_DinitD, defBody s_Case_DinitD, defScope s_Case_DinitD, [(.adr (He.dflAt ("Case", some "__init__") 0)), .non], []⟩
abbrev s_Case_free : Stmt := inClass (top 2) 1
abbrev N_Case_free : List Str := ["self"]
abbrev P_Case_free : List Str := ["self"]
theorem sc_Case_free : FnScope N_Case_free P_Case_free (defScope s_Case_free) := ⟨rfl, rfl, rfl, by decide +kernel, rfl, by decide +kernel, by decide +kernel⟩
def d_Case_free : He.DefD := ⟨("Case", some "free"), "free", "Case.free", defArgs s_Case_free, defBody s_Case_free, defScope s_Case_free, [], []⟩
abbrev s_Case_DeqD : Stmt := inClass (top 2) 2
abbrev N_Case_DeqD : List Str := ["self", "other"]
abbrev P_Case_DeqD : List Str := ["self", "other"]
theorem sc_Case_DeqD : FnScope N_Case_DeqD P_Case_DeqD (defScope s_Case_DeqD) := ⟨rfl, rfl, rfl, by decide +kernel, rfl, by decide +kernel, by decide +kernel⟩
def d_Case_DeqD : He.DefD := ⟨("Case", some "__eq__"), "__eq__", "Case.__eq__", defArgs s_Case_DeqD, defBody s_Case_DeqD, defScope s_Case_DeqD, [], []⟩
abbrev s_Case_DltD : Stmt := inClass (top 2) 3
abbrev N_Case_DltD : List Str := ["self", "other"]
abbrev P_Case_DltD : List Str := ["self", "other"]
theorem sc_Case_DltD : FnScope N_Case_DltD P_Case_DltD (defScope s_Case_DltD) := ⟨rfl, rfl, rfl, by decide +kernel, rfl, by decide +kernel, by decide +kernel⟩
def d_Case_DltD : He.DefD := ⟨("Case", some "__lt__"), "__lt__", "Case.__lt__", defArgs s_Case_DltD, defBody s_Case_DltD, defScope s_Case_DltD, [], []⟩
def owned : List Str := ["Case"]
def xbK (K : PySem.W.Frag) : Bool := true && (ownedB K owned && (emptyB K (He.dflAt d_Case_DinitD.at_ 0 K)))
def fa : List He.Fa := [.glo "_law_source", .glo "_law_draw", .glo "_law_name", .glo "_law_names", .glo "_law_whole", .glo "_law_same", .glo "_law_form", .glo "_law_seen", .glo "_law_drawn_points", .glo "_law_drawn", .glo "_law_near", .glo "_law_ordered", .glo "_law_is_case", .glo "law", .glo "Case", .free "NotImplemented", .free "bool", .free "int", .free "isinstance", .free "len", .free "list", .free "min", .free "property", .free "range", .free "sorted", .free "str", .free "tuple", .cls "Case", .mkr "Case", .noat "Case" "points", .noat "Case" "atoms", .noat "Case" "groups", .noat "Case" "pick", .noat "Case" "form", .meth "Case" "__eq__", .meth "Case" "__lt__"]
def fn : List He.DefD := [d__law_source, d__law_draw, d__law_name, d__law_names, d__law_whole, d__law_same, d__law_form, d__law_seen, d__law_drawn_points, d__law_drawn, d__law_near, d__law_ordered, d__law_is_case, d_law, d_Case_DinitD, d_Case_DeqD, d_Case_DltD]
def pr : List He.DefD := [d_Case_free]
/-- what the top has written -/
structure Txt (K : PySem.W.Frag) (mg : Str → Option Value) : Prop where
  ex : ∃ h : Heap, K.In h ∧ h.Ns mainGlobals mg
  c : He.SaysD fa fn K
  xb : xbK K = true
  pb : (pr.all fun d => propB K d) = true
  pe : (pr.map fun d => fnP K d.at_) = pr.map He.DefD.val
theorem Txt.g__law_source {K : PySem.W.Frag} {mg : Str → Option Value} (T : Txt K mg) : mg "_law_source" = some (.ref (He.ga K "_law_source")) := by
  obtain ⟨h, X, G⟩ := T.ex
  exact He.glo_ok X G (T.c.fact 0 rfl)
theorem Txt.g__law_draw {K : PySem.W.Frag} {mg : Str → Option Value} (T : Txt K mg) : mg "_law_draw" = some (.ref (He.ga K "_law_draw")) := by
  obtain ⟨h, X, G⟩ := T.ex
  exact He.glo_ok X G (T.c.fact 1 rfl)
theorem Txt.g__law_name {K : PySem.W.Frag} {mg : Str → Option Value} (T : Txt K mg) : mg "_law_name" = some (.ref (He.ga K "_law_name")) := by
  obtain ⟨h, X, G⟩ := T.ex
  exact He.glo_ok X G (T.c.fact 2 rfl)
theorem Txt.g__law_names {K : PySem.W.Frag} {mg : Str → Option Value} (T : Txt K mg) : mg "_law_names" = some (.ref (He.ga K "_law_names")) := by
  obtain ⟨h, X, G⟩ := T.ex
  exact He.glo_ok X G (T.c.fact 3 rfl)
theorem Txt.g__law_whole {K : PySem.W.Frag} {mg : Str → Option Value} (T : Txt K mg) : mg "_law_whole" = some (.ref (He.ga K "_law_whole")) := by
  obtain ⟨h, X, G⟩ := T.ex
  exact He.glo_ok X G (T.c.fact 4 rfl)
theorem Txt.g__law_same {K : PySem.W.Frag} {mg : Str → Option Value} (T : Txt K mg) : mg "_law_same" = some (.ref (He.ga K "_law_same")) := by
  obtain ⟨h, X, G⟩ := T.ex
  exact He.glo_ok X G (T.c.fact 5 rfl)
theorem Txt.g__law_form {K : PySem.W.Frag} {mg : Str → Option Value} (T : Txt K mg) : mg "_law_form" = some (.ref (He.ga K "_law_form")) := by
  obtain ⟨h, X, G⟩ := T.ex
  exact He.glo_ok X G (T.c.fact 6 rfl)
theorem Txt.g__law_seen {K : PySem.W.Frag} {mg : Str → Option Value} (T : Txt K mg) : mg "_law_seen" = some (.ref (He.ga K "_law_seen")) := by
  obtain ⟨h, X, G⟩ := T.ex
  exact He.glo_ok X G (T.c.fact 7 rfl)
theorem Txt.g__law_drawn_points {K : PySem.W.Frag} {mg : Str → Option Value} (T : Txt K mg) : mg "_law_drawn_points" = some (.ref (He.ga K "_law_drawn_points")) := by
  obtain ⟨h, X, G⟩ := T.ex
  exact He.glo_ok X G (T.c.fact 8 rfl)
theorem Txt.g__law_drawn {K : PySem.W.Frag} {mg : Str → Option Value} (T : Txt K mg) : mg "_law_drawn" = some (.ref (He.ga K "_law_drawn")) := by
  obtain ⟨h, X, G⟩ := T.ex
  exact He.glo_ok X G (T.c.fact 9 rfl)
theorem Txt.g__law_near {K : PySem.W.Frag} {mg : Str → Option Value} (T : Txt K mg) : mg "_law_near" = some (.ref (He.ga K "_law_near")) := by
  obtain ⟨h, X, G⟩ := T.ex
  exact He.glo_ok X G (T.c.fact 10 rfl)
theorem Txt.g__law_ordered {K : PySem.W.Frag} {mg : Str → Option Value} (T : Txt K mg) : mg "_law_ordered" = some (.ref (He.ga K "_law_ordered")) := by
  obtain ⟨h, X, G⟩ := T.ex
  exact He.glo_ok X G (T.c.fact 11 rfl)
theorem Txt.g__law_is_case {K : PySem.W.Frag} {mg : Str → Option Value} (T : Txt K mg) : mg "_law_is_case" = some (.ref (He.ga K "_law_is_case")) := by
  obtain ⟨h, X, G⟩ := T.ex
  exact He.glo_ok X G (T.c.fact 12 rfl)
theorem Txt.g_law {K : PySem.W.Frag} {mg : Str → Option Value} (T : Txt K mg) : mg "law" = some (.ref (He.ga K "law")) := by
  obtain ⟨h, X, G⟩ := T.ex
  exact He.glo_ok X G (T.c.fact 13 rfl)
theorem Txt.g_Case {K : PySem.W.Frag} {mg : Str → Option Value} (T : Txt K mg) : mg "Case" = some (.ref (He.ga K "Case")) := by
  obtain ⟨h, X, G⟩ := T.ex
  exact He.glo_ok X G (T.c.fact 14 rfl)
theorem Txt.f_NotImplemented {K : PySem.W.Frag} {mg : Str → Option Value} (T : Txt K mg) : mg "NotImplemented" = none := by
  obtain ⟨h, X, G⟩ := T.ex
  exact He.free_ok X G (T.c.fact 15 rfl)
theorem Txt.f_bool {K : PySem.W.Frag} {mg : Str → Option Value} (T : Txt K mg) : mg "bool" = none := by
  obtain ⟨h, X, G⟩ := T.ex
  exact He.free_ok X G (T.c.fact 16 rfl)
theorem Txt.f_int {K : PySem.W.Frag} {mg : Str → Option Value} (T : Txt K mg) : mg "int" = none := by
  obtain ⟨h, X, G⟩ := T.ex
  exact He.free_ok X G (T.c.fact 17 rfl)
theorem Txt.f_isinstance {K : PySem.W.Frag} {mg : Str → Option Value} (T : Txt K mg) : mg "isinstance" = none := by
  obtain ⟨h, X, G⟩ := T.ex
  exact He.free_ok X G (T.c.fact 18 rfl)
theorem Txt.f_len {K : PySem.W.Frag} {mg : Str → Option Value} (T : Txt K mg) : mg "len" = none := by
  obtain ⟨h, X, G⟩ := T.ex
  exact He.free_ok X G (T.c.fact 19 rfl)
theorem Txt.f_list {K : PySem.W.Frag} {mg : Str → Option Value} (T : Txt K mg) : mg "list" = none := by
  obtain ⟨h, X, G⟩ := T.ex
  exact He.free_ok X G (T.c.fact 20 rfl)
theorem Txt.f_min {K : PySem.W.Frag} {mg : Str → Option Value} (T : Txt K mg) : mg "min" = none := by
  obtain ⟨h, X, G⟩ := T.ex
  exact He.free_ok X G (T.c.fact 21 rfl)
theorem Txt.f_property {K : PySem.W.Frag} {mg : Str → Option Value} (T : Txt K mg) : mg "property" = none := by
  obtain ⟨h, X, G⟩ := T.ex
  exact He.free_ok X G (T.c.fact 22 rfl)
theorem Txt.f_range {K : PySem.W.Frag} {mg : Str → Option Value} (T : Txt K mg) : mg "range" = none := by
  obtain ⟨h, X, G⟩ := T.ex
  exact He.free_ok X G (T.c.fact 23 rfl)
theorem Txt.f_sorted {K : PySem.W.Frag} {mg : Str → Option Value} (T : Txt K mg) : mg "sorted" = none := by
  obtain ⟨h, X, G⟩ := T.ex
  exact He.free_ok X G (T.c.fact 24 rfl)
theorem Txt.f_str {K : PySem.W.Frag} {mg : Str → Option Value} (T : Txt K mg) : mg "str" = none := by
  obtain ⟨h, X, G⟩ := T.ex
  exact He.free_ok X G (T.c.fact 25 rfl)
theorem Txt.f_tuple {K : PySem.W.Frag} {mg : Str → Option Value} (T : Txt K mg) : mg "tuple" = none := by
  obtain ⟨h, X, G⟩ := T.ex
  exact He.free_ok X G (T.c.fact 26 rfl)
theorem Txt.cls_Case {K : PySem.W.Frag} {mg : Str → Option Value} (T : Txt K mg) : Cls K (He.ga K "Case") := He.cls_ok (T.c.fact 27 rfl)
theorem Txt.mk_Case {K : PySem.W.Frag} {mg : Str → Option Value} (T : Txt K mg) : Mk K (He.ga K "Case") (He.ma K (He.ga K "Case") "__init__") := He.mkr_ok (T.c.fact 28 rfl)
theorem Txt.na_Case_points {K : PySem.W.Frag} {mg : Str → Option Value} (T : Txt K mg) : NoAttr K (He.ga K "Case") "points" := He.noat_ok (T.c.fact 29 rfl)
theorem Txt.na_Case_atoms {K : PySem.W.Frag} {mg : Str → Option Value} (T : Txt K mg) : NoAttr K (He.ga K "Case") "atoms" := He.noat_ok (T.c.fact 30 rfl)
theorem Txt.na_Case_groups {K : PySem.W.Frag} {mg : Str → Option Value} (T : Txt K mg) : NoAttr K (He.ga K "Case") "groups" := He.noat_ok (T.c.fact 31 rfl)
theorem Txt.na_Case_pick {K : PySem.W.Frag} {mg : Str → Option Value} (T : Txt K mg) : NoAttr K (He.ga K "Case") "pick" := He.noat_ok (T.c.fact 32 rfl)
theorem Txt.na_Case_form {K : PySem.W.Frag} {mg : Str → Option Value} (T : Txt K mg) : NoAttr K (He.ga K "Case") "form" := He.noat_ok (T.c.fact 33 rfl)
theorem Txt.me_Case_DeqD {K : PySem.W.Frag} {mg : Str → Option Value} (T : Txt K mg) : Meth K (He.ga K "Case") "__eq__" (He.ma K (He.ga K "Case") "__eq__") := He.meth_ok (T.c.fact 34 rfl)
theorem Txt.me_Case_DltD {K : PySem.W.Frag} {mg : Str → Option Value} (T : Txt K mg) : Meth K (He.ga K "Case") "__lt__" (He.ma K (He.ga K "Case") "__lt__") := He.meth_ok (T.c.fact 35 rfl)
theorem Txt.dfl_Case_DinitD_0 {K : PySem.W.Frag} {mg : Str → Option Value} (T : Txt K mg) (H : Hp) : SqT K H (He.dflAt d_Case_DinitD.at_ 0 K) [] := emptyB_ok (He.ba (He.ba T.xb).2).2 H
theorem Txt.own_Case {K : PySem.W.Frag} {mg : Str → Option Value} (T : Txt K mg) : OwnD K (He.ga K "Case") ∧ ∀ y ∈ owned, PySem.W.kitOne K (.ref (He.ga K "Case")) (.ref (He.ga K y)) = some (decide ("Case" = y)) := ownedB_ok (He.ba (He.ba T.xb).2).1 (by decide)
theorem Txt.P_Case_free {K : PySem.W.Frag} {mg : Str → Option Value} (T : Txt K mg) : ∃ fd, PropOf K (He.ga K "Case") "free" (He.fAd K d_Case_free.at_) (gAd K d_Case_free.at_) ∧ FunD K d_Case_free.name d_Case_free.qual (defArgs s_Case_free) (defBody s_Case_free) (defScope s_Case_free) (d_Case_free.dvs K) (d_Case_free.kws K) (gAd K d_Case_free.at_) fd := by
  have e := congrArg (fun l => l[0]?) T.pe
  exact prop_ok (d := d_Case_free) rfl (Option.some.inj e) (List.all_eq_true.mp T.pb d_Case_free (by simp [pr]))
theorem Txt.F__law_source {K : PySem.W.Frag} {mg : Str → Option Value} (T : Txt K mg) : ∃ fd, FunD K d__law_source.name d__law_source.qual (defArgs s__law_source) (defBody s__law_source) (defScope s__law_source) (d__law_source.dvs K) (d__law_source.kws K) (He.fAd K d__law_source.at_) fd := T.c.def_ 0 (d := d__law_source) rfl
theorem Txt.F__law_draw {K : PySem.W.Frag} {mg : Str → Option Value} (T : Txt K mg) : ∃ fd, FunD K d__law_draw.name d__law_draw.qual (defArgs s__law_draw) (defBody s__law_draw) (defScope s__law_draw) (d__law_draw.dvs K) (d__law_draw.kws K) (He.fAd K d__law_draw.at_) fd := T.c.def_ 1 (d := d__law_draw) rfl
theorem Txt.F__law_name {K : PySem.W.Frag} {mg : Str → Option Value} (T : Txt K mg) : ∃ fd, FunD K d__law_name.name d__law_name.qual (defArgs s__law_name) (defBody s__law_name) (defScope s__law_name) (d__law_name.dvs K) (d__law_name.kws K) (He.fAd K d__law_name.at_) fd := T.c.def_ 2 (d := d__law_name) rfl
theorem Txt.F__law_names {K : PySem.W.Frag} {mg : Str → Option Value} (T : Txt K mg) : ∃ fd, FunD K d__law_names.name d__law_names.qual (defArgs s__law_names) (defBody s__law_names) (defScope s__law_names) (d__law_names.dvs K) (d__law_names.kws K) (He.fAd K d__law_names.at_) fd := T.c.def_ 3 (d := d__law_names) rfl
theorem Txt.F__law_whole {K : PySem.W.Frag} {mg : Str → Option Value} (T : Txt K mg) : ∃ fd, FunD K d__law_whole.name d__law_whole.qual (defArgs s__law_whole) (defBody s__law_whole) (defScope s__law_whole) (d__law_whole.dvs K) (d__law_whole.kws K) (He.fAd K d__law_whole.at_) fd := T.c.def_ 4 (d := d__law_whole) rfl
theorem Txt.F__law_same {K : PySem.W.Frag} {mg : Str → Option Value} (T : Txt K mg) : ∃ fd, FunD K d__law_same.name d__law_same.qual (defArgs s__law_same) (defBody s__law_same) (defScope s__law_same) (d__law_same.dvs K) (d__law_same.kws K) (He.fAd K d__law_same.at_) fd := T.c.def_ 5 (d := d__law_same) rfl
theorem Txt.F__law_form {K : PySem.W.Frag} {mg : Str → Option Value} (T : Txt K mg) : ∃ fd, FunD K d__law_form.name d__law_form.qual (defArgs s__law_form) (defBody s__law_form) (defScope s__law_form) (d__law_form.dvs K) (d__law_form.kws K) (He.fAd K d__law_form.at_) fd := T.c.def_ 6 (d := d__law_form) rfl
theorem Txt.F__law_seen {K : PySem.W.Frag} {mg : Str → Option Value} (T : Txt K mg) : ∃ fd, FunD K d__law_seen.name d__law_seen.qual (defArgs s__law_seen) (defBody s__law_seen) (defScope s__law_seen) (d__law_seen.dvs K) (d__law_seen.kws K) (He.fAd K d__law_seen.at_) fd := T.c.def_ 7 (d := d__law_seen) rfl
theorem Txt.F__law_drawn_points {K : PySem.W.Frag} {mg : Str → Option Value} (T : Txt K mg) : ∃ fd, FunD K d__law_drawn_points.name d__law_drawn_points.qual (defArgs s__law_drawn_points) (defBody s__law_drawn_points) (defScope s__law_drawn_points) (d__law_drawn_points.dvs K) (d__law_drawn_points.kws K) (He.fAd K d__law_drawn_points.at_) fd := T.c.def_ 8 (d := d__law_drawn_points) rfl
theorem Txt.F__law_drawn {K : PySem.W.Frag} {mg : Str → Option Value} (T : Txt K mg) : ∃ fd, FunD K d__law_drawn.name d__law_drawn.qual (defArgs s__law_drawn) (defBody s__law_drawn) (defScope s__law_drawn) (d__law_drawn.dvs K) (d__law_drawn.kws K) (He.fAd K d__law_drawn.at_) fd := T.c.def_ 9 (d := d__law_drawn) rfl
theorem Txt.F__law_near {K : PySem.W.Frag} {mg : Str → Option Value} (T : Txt K mg) : ∃ fd, FunD K d__law_near.name d__law_near.qual (defArgs s__law_near) (defBody s__law_near) (defScope s__law_near) (d__law_near.dvs K) (d__law_near.kws K) (He.fAd K d__law_near.at_) fd := T.c.def_ 10 (d := d__law_near) rfl
theorem Txt.F__law_ordered {K : PySem.W.Frag} {mg : Str → Option Value} (T : Txt K mg) : ∃ fd, FunD K d__law_ordered.name d__law_ordered.qual (defArgs s__law_ordered) (defBody s__law_ordered) (defScope s__law_ordered) (d__law_ordered.dvs K) (d__law_ordered.kws K) (He.fAd K d__law_ordered.at_) fd := T.c.def_ 11 (d := d__law_ordered) rfl
theorem Txt.F__law_is_case {K : PySem.W.Frag} {mg : Str → Option Value} (T : Txt K mg) : ∃ fd, FunD K d__law_is_case.name d__law_is_case.qual (defArgs s__law_is_case) (defBody s__law_is_case) (defScope s__law_is_case) (d__law_is_case.dvs K) (d__law_is_case.kws K) (He.fAd K d__law_is_case.at_) fd := T.c.def_ 12 (d := d__law_is_case) rfl
theorem Txt.F_law {K : PySem.W.Frag} {mg : Str → Option Value} (T : Txt K mg) : ∃ fd, FunD K d_law.name d_law.qual (defArgs s_law) (defBody s_law) (defScope s_law) (d_law.dvs K) (d_law.kws K) (He.fAd K d_law.at_) fd := T.c.def_ 13 (d := d_law) rfl
theorem Txt.F_Case_DinitD {K : PySem.W.Frag} {mg : Str → Option Value} (T : Txt K mg) : ∃ fd, FunD K d_Case_DinitD.name d_Case_DinitD.qual (defArgs s_Case_DinitD) (defBody s_Case_DinitD) (defScope s_Case_DinitD) (d_Case_DinitD.dvs K) (d_Case_DinitD.kws K) (He.fAd K d_Case_DinitD.at_) fd := T.c.def_ 14 (d := d_Case_DinitD) rfl
theorem Txt.F_Case_DeqD {K : PySem.W.Frag} {mg : Str → Option Value} (T : Txt K mg) : ∃ fd, FunD K d_Case_DeqD.name d_Case_DeqD.qual (defArgs s_Case_DeqD) (defBody s_Case_DeqD) (defScope s_Case_DeqD) (d_Case_DeqD.dvs K) (d_Case_DeqD.kws K) (He.fAd K d_Case_DeqD.at_) fd := T.c.def_ 15 (d := d_Case_DeqD) rfl
theorem Txt.F_Case_DltD {K : PySem.W.Frag} {mg : Str → Option Value} (T : Txt K mg) : ∃ fd, FunD K d_Case_DltD.name d_Case_DltD.qual (defArgs s_Case_DltD) (defBody s_Case_DltD) (defScope s_Case_DltD) (d_Case_DltD.dvs K) (d_Case_DltD.kws K) (He.fAd K d_Case_DltD.at_) fd := T.c.def_ 16 (d := d_Case_DltD) rfl
section
variable {P : Program} {w : World} {K : PySem.W.Frag} {mg : Str → Option Value} {base : Heap}
theorem merge_src {c : Addr} {a l m d : Int} : mergeK [] (srcK c a l m d) = srcK c a l m d := by
  obtain ⟨h1, h2, h3, h4, h5, h6, h7, h8, h9, h10⟩ := kne
  unfold mergeK srcK putK
  simp [h1, h2, h3, h4, h5, h6, h7, h8, h9, h10]
theorem ok_source (T : Txt K mg) : Cal P w K mg base CX0 1 "_law_source" P__law_source [] (spSource K) := by
  refine Cal.of T.F__law_source T.g__law_source (fun fd F => F.ok sc__law_source (fun vs H Q E h => ?_) (fun cdv A outer s H vs Q E hr h => ?_)) (fun _ _ _ _ _ _ us hl => match us, hl with | [_], _ => rfl)
  · obtain ⟨a, ns, rfl, _⟩ := h
    rfl
  · obtain ⟨a, ns, rfl, hS, k⟩ := h
    refine ⟨_, PSs.nox (pss_one (ps_ret (pe_disp (pps_cons pe_str (pe_callTy call_list_of (by rfl) T.f_list (by decide +kernel) (pa_cons (pv 0) pa_nil)) (pps_cons pe_str pe_int (pps_cons pe_str pe_int (pps_cons pe_str pe_int (pps_cons pe_str pe_int pps_nil))))) (by rfl) (by rfl) (fun z => by cases z) (by decide)))), ?_⟩
    intro p hp
    refine ⟨_, rfl, a, ns.map V.int, rfl, Or.inl ((same_new (Same.refl H) hp).seq hS), fun l hl => ?_⟩
    have npl : p ≠ l := fun e => by rw [e, upd_same] at hl; cases hl
    refine ⟨by rw [upd_ne npl, upd_same], srcK l 0 0 0 0, rfl, by show 5 ≤ 15; decide, ?_⟩
    refine k p l _ hp ((same_new (Same.refl H) hp).free hl) ⟨ns, 0, 0, 0, 0, ?_, ?_, by decide⟩ ?_
    · rw [merge_src, upd_same]
    · rw [upd_ne npl.symm, upd_same]
    · exact same_mut (same_new (same_new (Same.refl H) hp) hl) hp
theorem ok_draw (T : Txt K mg) : Cal P w K mg base CX0 1 "_law_draw" P__law_draw [] spDraw := by
  refine Cal.of T.F__law_draw T.g__law_draw (fun fd F => F.ok sc__law_draw (fun vs H Q E h => ?_) (fun cdv A outer s0 H vs Q E hr h => ?_)) (fun _ _ _ _ _ _ us hl => match us, hl with | [_, _], _ => rfl)
  · obtain ⟨s, c, many, rfl, _⟩ := h
    rfl
  · obtain ⟨s, c, many, rfl, S, hm0, hm1, k⟩ := h
    have ncs := S.ne
    obtain ⟨ns, a, l, m, d, hs, hc, ha⟩ := S.ex
    refine ⟨_, PSs.nox (C8.pss_cut (ps_if (PW.pt (pw_and (pt_cmpR op_eq (pe_dget (hu_of hr) (pv 0) pe_str (fun _ _ => rfl)) pe_int (nomark _)) (pw_and1 (pt_cmpR op_eq (pe_dget (hu_of hr) (pv 0) pe_str (fun _ _ => rfl)) pe_int (nomark _))))) (pss_cons (ps_if (pt_cmpR op_ge (pe_dget (hu_of hr) (pv 0) pe_str (fun _ _ => rfl)) (pe_callB call_len (by rfl) T.f_len (by decide +kernel) (pa_cons (pe_dget (hu_of hr) (pv 0) pe_str (fun _ _ => rfl)) pa_nil)) (nomark _)) (pss_one (ps_ret pe_int))
    pss_nil)
    (pss_cons (ps_set (i := 2) sc__law_draw.nd rfl (Or.inl rfl) (pe_ix ix_list (pe_dget (hu_of hr) (pv 0) pe_str (fun _ _ => rfl)) (pe_dget (hu_of hr) (pv 0) pe_str (fun _ _ => rfl)) (fun _ _ => rfl)))
    (pss_cons (ps_dput (hu_of hr) (pv 0) pe_str (pe_op op_add (pe_dget (hu_of hr) (pv 0) pe_str (fun _ _ => rfl)) pe_int) rfl)
    (C8.pss_cut (ps_if (pt_cmpR op_lt (pv 2) pe_int (nomark _)) (pss_one (ps_set (i := 2) sc__law_draw.nd rfl (Or.inl rfl) (pe_op op_sub (pe_un un_neg (pv 2)) pe_int)))
    pss_nil)
    (pss_one (ps_if (pt_cmpR op_ge (pv 2) (pe_op op_pow pe_int pe_int) (nomark _)) (pss_one (ps_dput (hu_of hr) (pv 0) pe_str (pv 2) rfl))
    (pss_cons (ps_dput (hu_of hr) (pv 0) pe_str (pv 2) rfl)
    (pss_one (ps_dput (hu_of hr) (pv 0) pe_str pe_int rfl)))))))))
    pss_nil)
    (pss_cons (ps_if (pt_cmpR op_gt (pe_dget (hu_of hr) (pv 0) pe_str (fun _ _ => rfl)) pe_int (nomark _)) (pss_cons (ps_set (i := 3) sc__law_draw.nd rfl (Or.inl rfl) (pe_op op_mod (pe_callTy call_int1 (by rfl) T.f_int (by decide +kernel) (pa_cons (pe_dget (hu_of hr) (pv 0) pe_str (fun _ _ => rfl)) pa_nil)) (pv 1)))
    (pss_cons (ps_dput (hu_of hr) (pv 0) pe_str (pe_op op_fdivW (pe_callTy call_int1 (by rfl) T.f_int (by decide +kernel) (pa_cons (pe_dget (hu_of hr) (pv 0) pe_str (fun _ _ => rfl)) pa_nil)) (pv 1)) rfl)
    (pss_one (ps_ret (pv 3)))))
    pss_nil)
    (pss_cons (ps_set (i := 4) sc__law_draw.nd rfl (Or.inl rfl) (pe_dget (hu_of hr) (pv 0) pe_str (fun _ _ => rfl)))
    (pss_cons (ps_dput (hu_of hr) (pv 0) pe_str (pe_op op_sub (pv 4) pe_int) rfl)
    (pss_cons (ps_set (i := 5) sc__law_draw.nd rfl (Or.inl rfl) (pe_op op_mod (pe_callTy call_int1 (by rfl) T.f_int (by decide +kernel) (pa_cons (pe_op op_add (pe_op op_add (pe_op op_mul (pe_dget (hu_of hr) (pv 0) pe_str (fun _ _ => rfl)) pe_int) (pe_op op_mul (pv 4) pe_int)) (pe_op op_mul (pe_dget (hu_of hr) (pv 0) pe_str (fun _ _ => rfl)) pe_int)) pa_nil)) pe_int))
    (pss_cons (ps_set (i := 6) sc__law_draw.nd rfl (Or.inl rfl) (pe_op op_mod (pe_callTy call_int1 (by rfl) T.f_int (by decide +kernel) (pa_cons (pe_op op_add (pe_op op_add (pe_op op_mul (pv 5) (pv 5)) (pe_op op_mul (pv 5) pe_int)) (pe_op op_mul (pv 4) pe_int)) pa_nil)) pe_int))
    (pss_one (ps_ret (pe_op op_mod (pe_callTy call_int1 (by rfl) T.f_int (by decide +kernel) (pa_cons (pv 6) pa_nil)) (pv 1)))))))))), ?_⟩
    refine ⟨fun σ' H' => ∃ cv a l m d, σ' = [some (.ref s), some (.int many), cv, none, none, none, none] ∧ H' s = some (.dK (srcK c a l m d)) ∧ 0 ≤ a ∧ But s H H', ?_, ?_⟩
    · refine ⟨_, rfl, s, _, rfl, g_left hs, rfl, _, rfl, ifI (fun e1 => ?_) (fun e1 => ?_)⟩
      · refine ⟨_, rfl, s, _, rfl, g_mixed hs, rfl, _, rfl, ifI (fun e2 => ?_) (fun e2 => ?_)⟩
        · refine ⟨_, rfl, s, _, rfl, g_at hs, _, rfl, s, _, rfl, g_cells hs, _, _, rfl, .inl ⟨_, SqL.of hc, rfl⟩, _, _, rfl, rfl, _, rfl, ifD (fun e3 => ?_) (fun e3 => ?_)⟩
          · exact k 0 H (Int.le_refl 0) hm0 ⟨ns, a, l, m, d, hs, hc, ha⟩ (But.refl H)
          · rw [List.length_map] at e3
            have hlt : a.toNat < ns.length := by omega
            obtain ⟨cell, hcell⟩ : ∃ z, ns[a.toNat]? = some z := ⟨_, List.getElem?_eq_getElem hlt⟩
            refine ⟨_, rfl, s, _, rfl, g_cells hs, _, rfl, s, _, rfl, g_at hs, c, _, a, .int cell, rfl, rfl, SqL.of hc, atNat (n := a.toNat) (by rw [List.getElem?_map, hcell]; rfl) (by omega), ?_⟩
            refine ⟨_, rfl, s, _, rfl, g_at hs, _, _, rfl, rfl, _, rfl, s, _, rfl, p_at hs, ?_⟩
            have hs1 : (upd H s (.dK (srcK c (a + 1) l m d))) s = some (.dK (srcK c (a + 1) l m d)) := upd_same
            have b1 : But s H (upd H s (.dK (srcK c (a + 1) l m d))) := But.upd
            refine ⟨fun σ' H' => ∃ cv : Int, σ' = [some (.ref s), some (.int many), some (.int cv), none, none, none, none] ∧ H' = upd H s (.dK (srcK c (a + 1) l m d)), ?_, ?_⟩
            · refine ⟨_, rfl, _, _, rfl, rfl, _, rfl, ifD (fun e4 => ?_) (fun e4 => ?_)⟩
              · exact ⟨_, rfl, _, rfl, _, _, rfl, rfl, _, rfl, rfl⟩
              · exact ⟨_, rfl, rfl⟩
            · rintro σ' H' ⟨cv, rfl, rfl⟩
              refine ⟨_, rfl, _, _, rfl, rfl, ⟨by decide, by decide, by decide⟩, _, _, rfl, rfl, _, rfl, ifD (fun e5 => ?_) (fun e5 => ?_)⟩
              · exact ⟨_, rfl, _, rfl, s, _, rfl, p_left hs1, _, _, _, _, _, rfl, upd_same, by omega, b1.trans But.upd⟩
              · exact ⟨_, rfl, _, rfl, s, _, rfl, p_seed hs1, _, rfl, s, _, rfl, p_mixed upd_same, _, _, _, _, _, rfl, upd_same, by omega, (b1.trans But.upd).trans But.upd⟩
        · exact ⟨_, _, _, _, _, rfl, hs, ha, But.refl H⟩
      · exact ⟨_, _, _, _, _, rfl, hs, ha, But.refl H⟩
    · rintro σ' H' ⟨cv, a, l, m, d, rfl, hs', ha', b'⟩
      have hc' : H' c = some (.lst (ns.map V.int)) := b' _ _ ncs hc
      refine ⟨_, rfl, s, _, rfl, g_left hs', _, _, rfl, rfl, _, rfl, ifD (fun e6 => ?_) (fun e6 => ?_)⟩
      · refine ⟨_, rfl, s, _, rfl, g_left hs', .inl ⟨_, rfl, _, rfl, _, _, rfl, rfl, hm0, ?_⟩⟩
        refine ⟨_, rfl, s, _, rfl, g_left hs', .inl ⟨_, rfl, _, rfl, _, _, rfl, rfl, wide_div hm0 (b := 200) (by omega) (by decide) (by decide), _, rfl, s, _, rfl, p_left hs', _, rfl, ?_⟩⟩
        refine k _ _ (Int.emod_nonneg _ (by omega)) (Int.emod_lt_of_pos _ hm0) ⟨ns, _, _, _, _, upd_same, But.upd _ _ ncs hc', ha'⟩ (b'.trans But.upd)
      · refine ⟨_, rfl, s, _, rfl, g_mixed hs', ?_⟩
        refine ⟨_, rfl, _, _, rfl, rfl, _, rfl, s, _, rfl, p_mixed hs', ?_⟩
        refine ⟨_, rfl, s, _, rfl, g_seed upd_same, _, _, rfl, rfl, .inr ⟨by decide, by decide⟩, _, rfl, _, _, rfl, rfl, .inr ⟨by decide, by decide⟩, _, _, rfl, rfl, _, rfl, s, _, rfl, g_at upd_same, _, _, rfl, rfl, .inr ⟨by decide, by decide⟩, _, _, rfl, rfl, .inl ⟨_, rfl, _, _, rfl, rfl, (by show (0 : Int) < 2147483647; decide), ?_⟩⟩
        have f0 : 0 ≤ (d * 48271 + m * 69621 + a * 16807) % 2147483647 := Int.emod_nonneg _ (by decide)
        have f1 : (d * 48271 + m * 69621 + a * 16807) % 2147483647 < 2147483647 := Int.emod_lt_of_pos _ (by decide)
        refine ⟨_, rfl, _, rfl, _, _, rfl, rfl, .inl ⟨Int.lt_of_lt_of_le (by decide) f0, Int.lt_trans f1 (by decide)⟩, _, rfl, _, _, rfl, rfl, .inr ⟨by decide, by decide⟩, _, _, rfl, rfl, _, rfl, _, _, rfl, rfl, .inr ⟨by decide, by decide⟩, _, _, rfl, rfl, .inl ⟨_, rfl, _, _, rfl, rfl, (by show (0 : Int) < 2147483399; decide), ?_⟩⟩
        refine ⟨_, rfl, .inl ⟨_, rfl, _, rfl, _, _, rfl, rfl, hm0, ?_⟩⟩
        exact k _ _ (Int.emod_nonneg _ (by omega)) (Int.emod_lt_of_pos _ hm0) ⟨ns, _, _, _, _, upd_same, But.upd _ _ ncs hc', ha'⟩ (b'.trans But.upd)
end
def spName (K : PySem.W.Frag) : Sp := fun vs H Q _ => ∃ (s c l : Addr) (zs : List Str), vs = [.ref s, .ref l] ∧ Src H s c ∧ H l = some (.lst (zs.map V.str)) ∧ l ≠ s ∧ zs.length ≤ 1000 ∧ ∀ (z : Str) H', z.length ≤ 3000 → Src H' s c → But s H H' → Q (.str z) H'
theorem Src.has {H : Hp} {s c : Addr} (S : Src H s c) : ∃ u, H s = some u := by
  obtain ⟨ns, a, l, m, d, hs, _⟩ := S.ex
  exact ⟨_, hs⟩
theorem atI_nat' {α : Type} {xs : List α} {i : Int} {v : α} {n : Nat} (h : xs[n]? = some v) (e : i = (n : Int)) : atI xs i = some v := by
  subst e
  exact atI_nat h
section
variable {P : Program} {w : World} {K : PySem.W.Frag} {mg : Str → Option Value} {base : Heap}
theorem ok_name (T : Txt K mg) : Cal P w K mg base CX0 2 "_law_name" P__law_name [] (spName K) := by
  have C__law_draw := ok_draw (P := P) (w := w) (base := base) T
  refine Cal.of T.F__law_name T.g__law_name (fun fd F => F.ok sc__law_name (fun vs H Q E h => ?_) (fun cdv A outer s0 H vs Q E hr h => ?_)) (fun _ _ _ _ _ _ us hl => match us, hl with | [_, _], _ => rfl)
  · obtain ⟨s, c, l, zs, rfl, _⟩ := h
    rfl
  · obtain ⟨s, c, l, zs, rfl, S, hl, nls, hz, k⟩ := h
    refine ⟨_, PSs.nox (pss_cons (ps_set (i := 2) sc__law_name.nd rfl (Or.inl rfl) pe_str)
    (pss_cons (ps_set (i := 3) sc__law_name.nd rfl (Or.inl rfl) (pe_op op_add pe_int (pc_call C__law_draw (hr.mono (by first | decide | omega)) pass0 (pa_cons (pv 0) (pa_cons pe_int pa_nil)))))
    (pss_cons (ps_set (i := 4) sc__law_name.nd rfl (Or.inl rfl) (pe_ix ix_str (pv 2) (pc_call C__law_draw (hr.mono (by first | decide | omega)) pass0 (pa_cons (pv 0) (pa_cons pe_int pa_nil))) (fun _ _ => rfl)))
    (pss_cons (ps_for PassesOwn.never rfl (pi_range1 (by rfl) T.f_range (pa_cons (pe_op op_sub (pv 3) pe_int) pa_nil)) (pg_name (i := 5) sc__law_name.nd rfl (Or.inl rfl))
    (pss_one (ps_set (i := 4) sc__law_name.nd rfl (Or.inl rfl) (pe_op op_add_str (pv 4) (pe_ix ix_str (pv 2) (pc_call C__law_draw (hr.mono (by first | decide | omega)) pass0 (pa_cons (pv 0) (pa_cons pe_int pa_nil))) (fun _ _ => rfl))))))
    (C8.pss_cut (ps_if (pt_cmpR op_in_seq (pv 4) (pe_lst (pa_cons pe_str (pa_cons pe_str (pa_cons pe_str (pa_cons pe_str (pa_cons pe_str (pa_cons pe_str (pa_cons pe_str (pa_cons pe_str pa_nil))))))))) rfl) (pss_one (ps_set (i := 4) sc__law_name.nd rfl (Or.inl rfl) (pe_op op_add_str pe_str (pv 4))))
    pss_nil)
    (pss_cons (ps_if (pt_cmpR op_notIn_seq (pv 4) (pv 1) rfl) (pss_one (ps_ret (pv 4)))
    pss_nil)
    (pss_cons (ps_for PassesOwn.never rfl (pi_range1 (by rfl) T.f_range (pa_cons pe_int pa_nil)) (pg_name (i := 5) sc__law_name.nd rfl (Or.inl rfl))
    (pss_one (ps_if (pt_cmpR op_notIn_seq (pe_op op_add_str (pe_slice sl_str (pv 4) po_none (po_some pe_int)) (pe_callTy call_str_int (by rfl) T.f_str (by decide +kernel) (pa_cons (pv 5) pa_nil))) (pv 1) rfl) (pss_one (ps_ret (pe_op op_add_str (pe_slice sl_str (pv 4) po_none (po_some pe_int)) (pe_callTy call_str_int (by rfl) T.f_str (by decide +kernel) (pa_cons (pv 5) pa_nil)))))
    pss_nil)))
    (pss_one (ps_ret (pv 4)))))))))), ?_⟩
    have sg : ("abcdefghijklmnopqrstuvwxyz0123456789" : Str).cps.toList.length = 36 := by decide +kernel
    have sl : ("abcdefghijklmnopqrstuvwxyz0123456789" : Str).length ≤ sizeLine := sz (by decide +kernel)
    have chr : ∀ {r : Int}, 0 ≤ r → r < 36 → ∃ c, atI ("abcdefghijklmnopqrstuvwxyz0123456789" : Str).cps.toList r = some c := fun {r} h0 h1 => by
      refine ⟨_, atI_nat' (n := r.toNat) (List.getElem?_eq_getElem (by omega)) (by omega)⟩
    have one : ∀ c : Nat, (⟨#[c]⟩ : Str).length = 1 := fun c => rfl
    have lapp : ∀ x y : Str, (x ++ y).length = x.length + y.length := PySem.Str.length_append
    have fall : (zs.map V.str).all flatV = true := by
      rw [List.all_eq_true]
      intro x hx
      obtain ⟨z, _, rfl⟩ := List.mem_map.mp hx
      rfl
    refine ⟨_, rfl, s, c, 8, rfl, S, by decide, by decide, fun r1 H1 a1 b1 S1 e1 => ⟨_, _, rfl, rfl, ?_⟩⟩
    refine ⟨_, rfl, _, rfl, s, c, 26, rfl, S1, by decide, by decide, fun r2 H2 a2 b2 S2 e2 => ?_⟩
    obtain ⟨c2, hc2⟩ := chr a2 (by omega)
    refine ⟨_, r2, c2, rfl, rfl, sl, hc2, ?_⟩
    refine ⟨_, rfl, _, _, rfl, rfl, _, rfl, by omega, by omega, for_range (lo := 0) (n := (1 + r1 - 1).toNat) (fun i σ' H' => ∃ (z : Str) (v5 : Option V), σ' = [some (.ref s), some (.ref l), some (.str "abcdefghijklmnopqrstuvwxyz0123456789"), some (.int (1 + r1)), some (.str z), v5] ∧ z.length = i + 1 ∧ Src H' s c ∧ But s H H') ⟨⟨#[c2]⟩, _, rfl, rfl, S2, e1.trans e2⟩ ?_ ?_⟩
    · rintro i σ' H3 hi ⟨z, v5, rfl, hlz, S3, e3⟩
      refine ⟨_, rfl, _, rfl, _, rfl, s, c, 36, rfl, S3, by decide, by decide, fun r4 H4 a4 b4 S4 e4 => ?_⟩
      obtain ⟨c4, hc4⟩ := chr a4 b4
      refine ⟨_, r4, c4, rfl, rfl, sl, hc4, _, _, rfl, rfl, sz (by rw [one]; omega), _, _, rfl, by rw [lapp, one, hlz], S4, e3.trans e4⟩
    · rintro σ' H3 ⟨z, v5, rfl, hlz, S3, e3⟩
      refine ⟨fun σ' H' => ∃ (z : Str), σ' = [some (.ref s), some (.ref l), some (.str "abcdefghijklmnopqrstuvwxyz0123456789"), some (.int (1 + r1)), some (.str z), v5] ∧ z.length ≤ 9 ∧ Src H' s c ∧ But s H H', ?_, ?_⟩
      · refine ⟨_, rfl, by show 8 ≤ sizeLine; decide, fun q nq => ⟨q, _, rfl, .inl (SqL.of upd_same), rfl, rfl, _, rfl, ?_⟩⟩
        refine ifB (fun _ => ?_) (fun _ => ?_)
        · refine ⟨_, rfl, _, _, rfl, rfl, sz ?_, _, rfl, ?_, S3.new nq, e3.new nq S3.has⟩
          · have : ("q" : Str).length = 1 := by decide +kernel
            omega
          · have : ("q" : Str).length = 1 := by decide +kernel
            rw [lapp]
            omega
        · exact ⟨z, rfl, by omega, S3.new nq, e3.new nq S3.has⟩
      · rintro σ' H4 ⟨z, rfl, hlz, S4, e4⟩
        have hl4 := e4 _ _ nls hl
        refine ⟨_, rfl, _, rfl, l, _, rfl, .inl (SqL.of hl4), rfl, fall, _, rfl, ?_⟩
        refine ifB (fun _ => ⟨_, rfl, k z H4 (by omega) S4 e4⟩) (fun _ => ?_)
        refine ⟨10, rfl, by decide, by decide, for_range (lo := 0) (n := 10) (fun i σ' H' => H' = H4 ∧ ∃ v5 : Option V, σ' = [some (.ref s), some (.ref l), some (.str "abcdefghijklmnopqrstuvwxyz0123456789"), some (.int (1 + r1)), some (.str z), v5]) ⟨rfl, _, rfl⟩ ?_ ?_⟩
        · rintro i σ' H' hi ⟨rfl, v5, rfl⟩
          have l1 := cutS_length z none (some 7)
          have l2 : (Str.ofString (toString (0 + (i : Int)))).length ≤ 1921 := int_text_len_1921 (Nat.lt_of_lt_of_le (PySem.Flt.log2_lt_of (k := 10) (by decide) (by omega)) (by decide))
          have lg : (0 + (i : Int)).natAbs.log2 < 1920 := Nat.lt_of_lt_of_le (PySem.Flt.log2_lt_of (k := 10) (by decide) (by omega)) (by decide)
          refine ⟨_, rfl, 7, rfl, z, rfl, sz (by omega), _, rfl, _, rfl, lg, _, _, rfl, rfl, sz (by omega), _, rfl, l, _, rfl, .inl (SqL.of hl4), rfl, fall, _, rfl, ?_⟩
          refine ifB (fun _ => ?_) (fun _ => ⟨rfl, _, rfl⟩)
          exact ⟨_, rfl, 7, rfl, z, rfl, sz (by omega), _, rfl, _, rfl, lg, _, _, rfl, rfl, sz (by omega), k _ H' (by rw [lapp]; omega) S4 e4⟩
        · rintro σ' H' ⟨rfl, v5, rfl⟩
          exact ⟨_, rfl, k z H' (by omega) S4 e4⟩
end
section
variable {P : Program} {w : World} {K : PySem.W.Frag} {mg : Str → Option Value} {base : Heap}
theorem ok_whole (T : Txt K mg) : Cal P w K mg base CX0 1 "_law_whole" P__law_whole [] spWhole := by
  refine Cal.of T.F__law_whole T.g__law_whole (fun fd F => F.ok sc__law_whole (fun vs H Q E h => ?_) (fun cdv A outer s0 H vs Q E hr h => ?_)) (fun _ _ _ _ _ _ us hl => match us, hl with | [_], _ => rfl)
  · obtain ⟨i, rfl, _⟩ := h
    rfl
  · obtain ⟨i, rfl, k⟩ := h
    refine ⟨_, PSs.nox (pss_one (ps_ret (pe_and (pe_callB call_isi (by rfl) T.f_isinstance (by decide +kernel) (pa_cons (pv 0) (pa_cons (pe_bltn (v := .ty "int") (u := .type "int") (by rfl) T.f_int (by decide +kernel) rfl) pa_nil))) (pe_one (pe_not (pe_callB call_isi (by rfl) T.f_isinstance (by decide +kernel) (pa_cons (pv 0) (pa_cons (pe_bltn (v := .ty "bool") (u := .type "bool") (by rfl) T.f_bool (by decide +kernel) rfl) pa_nil)))))))), ?_⟩
    exact ⟨_, rfl, _, _, _, _, _, rfl, .ty _, .base (.int i), kit_ty kt_int_int, _, rfl, iteT ⟨_, rfl, _, _, _, _, _, rfl, .ty _, .base (.int i), kit_ty kt_int_bool, _, rfl, k⟩⟩
end
section
variable {P : Program} {w : World} {K : PySem.W.Frag} {mg : Str → Option Value} {base : Heap}
theorem ok_same (T : Txt K mg) : ∀ n, Cal P w K mg base CX0 (n + 2) "_law_same" P__law_same [] (spSame K n) := by
  have C__law_whole := ok_whole (P := P) (w := w) (base := base) T
  intro n
  induction n with
  | zero =>
    refine Cal.of T.F__law_same T.g__law_same (fun fd F => F.ok sc__law_same (fun vs H Q E h => ?_) (fun cdv A outer s0 H vs Q E hr h => ?_)) (fun _ _ _ _ _ _ us hl => match us, hl with | [_, _], _ => rfl)
    all_goals (obtain ⟨x, y, d, _, _, _, h, _⟩ := h; exact Bool.noConfusion (show false = true from h))
  | succ n C__law_same =>
    refine Cal.of T.F__law_same T.g__law_same (fun fd F => F.ok sc__law_same (fun vs H Q E h => ?_) (fun cdv A outer s0 H vs Q E hr h => ?_)) (fun _ _ _ _ _ _ us hl => match us, hl with | [_, _], _ => rfl)
    · obtain ⟨x, y, d, rfl, _⟩ := h
      rfl
    · obtain ⟨x, y, d, rfl, hx, hy, hd, k⟩ := h
      refine ⟨_, PSs.nox (pss_cons (ps_if (PW.pt (pw_or (pt_val (pe_callB call_isi (by rfl) T.f_isinstance (by decide +kernel) (pa_cons (pv 1) (pa_cons (pe_bltn (v := .ty "bool") (u := .type "bool") (by rfl) T.f_bool (by decide +kernel) rfl) pa_nil)))) (pw_or (pt_cmpR op_isN (pv 1) pe_non (nomark _)) (pw_or1 (pt_val (pe_callB call_isi (by rfl) T.f_isinstance (by decide +kernel) (pa_cons (pv 1) (pa_cons (pe_bltn (v := .ty "str") (u := .type "str") (by rfl) T.f_str (by decide +kernel) rfl) pa_nil)))))))) (pss_one (ps_ret (pe_and (pe_cmpR op_eq (pe_callB call_isi (by rfl) T.f_isinstance (by decide +kernel) (pa_cons (pv 0) (pa_cons (pe_bltn (v := .ty "bool") (u := .type "bool") (by rfl) T.f_bool (by decide +kernel) rfl) pa_nil))) (pe_callB call_isi (by rfl) T.f_isinstance (by decide +kernel) (pa_cons (pv 1) (pa_cons (pe_bltn (v := .ty "bool") (u := .type "bool") (by rfl) T.f_bool (by decide +kernel) rfl) pa_nil))) (nomark _)) (pe_one (pe_cmpR op_eq (pv 0) (pv 1) (nomark _))))))
    pss_nil)
    (pss_cons (ps_if (pt_val (pe_callB call_isi (by rfl) T.f_isinstance (by decide +kernel) (pa_cons (pv 1) (pa_cons (pe_bltn (v := .ty "int") (u := .type "int") (by rfl) T.f_int (by decide +kernel) rfl) pa_nil)))) (pss_one (ps_ret (pe_and (pc_call C__law_whole (hr.mono (by first | decide | omega)) pass0 (pa_cons (pv 0) pa_nil)) (pe_one (pe_cmpR op_eq (pv 0) (pv 1) (nomark _))))))
    pss_nil)
    (pss_cons (ps_if (PW.pt (pw_or (pt_cmpR op_ne (pe_callB call_isi (by rfl) T.f_isinstance (by decide +kernel) (pa_cons (pv 1) (pa_cons (pe_bltn (v := .ty "tuple") (u := .type "tuple") (by rfl) T.f_tuple (by decide +kernel) rfl) pa_nil))) (pe_callB call_isi (by rfl) T.f_isinstance (by decide +kernel) (pa_cons (pv 0) (pa_cons (pe_bltn (v := .ty "tuple") (u := .type "tuple") (by rfl) T.f_tuple (by decide +kernel) rfl) pa_nil))) (nomark _)) (pw_or1 (pt_cmpR op_ne (pe_callB call_isi (by rfl) T.f_isinstance (by decide +kernel) (pa_cons (pv 1) (pa_cons (pe_bltn (v := .ty "list") (u := .type "list") (by rfl) T.f_list (by decide +kernel) rfl) pa_nil))) (pe_callB call_isi (by rfl) T.f_isinstance (by decide +kernel) (pa_cons (pv 0) (pa_cons (pe_bltn (v := .ty "list") (u := .type "list") (by rfl) T.f_list (by decide +kernel) rfl) pa_nil))) (nomark _))))) (pss_one (ps_ret pe_bl))
    pss_nil)
    (pss_cons (ps_if (pt_cmpR op_ne (pe_callB call_len (by rfl) T.f_len (by decide +kernel) (pa_cons (pv 0) pa_nil)) (pe_callB call_len (by rfl) T.f_len (by decide +kernel) (pa_cons (pv 1) pa_nil)) (nomark _)) (pss_one (ps_ret pe_bl))
    pss_nil)
    (pss_cons (ps_for PassesOwn.never rfl (pi_range1 (by rfl) T.f_range (pa_cons (pe_callB call_len (by rfl) T.f_len (by decide +kernel) (pa_cons (pv 1) pa_nil)) pa_nil)) (pg_name (i := 2) sc__law_same.nd rfl (Or.inl rfl))
    (pss_one (ps_if (pt_not (pt_val (pc_call C__law_same (hr.mono (by first | decide | omega)) pass0 (pa_cons (pe_ix ix_seq (pv 0) (pv 2) (fun _ _ => rfl)) (pa_cons (pe_ix ix_seq (pv 1) (pv 2) (fun _ _ => rfl)) pa_nil))))) (pss_one (ps_ret pe_bl))
    pss_nil)))
    (pss_one (ps_ret pe_bl))))))), ?_⟩
      cases d with
      | none =>
        cases hx
        cases hy
        refine ⟨_, rfl, ⟨_, _, _, _, _, rfl, .ty _, (.base .non), kit_ty kt_NoneType_bool, _, rfl, iteF ⟨_, rfl, rfl, _, rfl, iteT (iteT ?_)⟩⟩⟩
        exact ⟨_, rfl, ⟨_, _, _, _, _, rfl, .ty _, (.base .non), kit_ty kt_NoneType_bool, _, rfl, ⟨_, _, _, _, _, rfl, .ty _, (.base .non), kit_ty kt_NoneType_bool, rfl, _, rfl, iteT ⟨_, rfl, _, rfl, rfl, k⟩⟩⟩⟩
      | bool b =>
        cases hx
        cases hy
        refine ⟨_, rfl, ⟨_, _, _, _, _, rfl, .ty _, (.base (.bl b)), kit_ty kt_bool_bool, _, rfl, iteT (iteT ?_)⟩⟩
        refine ⟨_, rfl, ⟨_, _, _, _, _, rfl, .ty _, (.base (.bl b)), kit_ty kt_bool_bool, _, rfl, ⟨_, _, _, _, _, rfl, .ty _, (.base (.bl b)), kit_ty kt_bool_bool, rfl, _, rfl, iteT ⟨_, rfl, _, rfl, rfl, ?_⟩⟩⟩⟩
        rw [decide_eq_true rfl]
        exact k
      | int i =>
        cases hx
        cases hy
        refine ⟨_, rfl, ⟨_, _, _, _, _, rfl, .ty _, (.base (.int i)), kit_ty kt_int_bool, _, rfl, iteF ⟨_, rfl, rfl, _, rfl, ifF (decide_eq_false fun e => nomatch e) ⟨_, rfl, ⟨_, _, _, _, _, rfl, .ty _, (.base (.int i)), kit_ty kt_int_str, _, rfl, iteF ?_⟩⟩⟩⟩⟩
        refine ⟨_, rfl, ⟨_, _, _, _, _, rfl, .ty _, (.base (.int i)), kit_ty kt_int_int, _, rfl, iteT ⟨_, rfl, i, rfl, _, rfl, iteT ⟨_, rfl, _, rfl, rfl, ?_⟩⟩⟩⟩
        rw [decide_eq_true rfl]
        exact k
      | str z =>
        cases hx
        cases hy
        refine ⟨_, rfl, ⟨_, _, _, _, _, rfl, .ty _, (.base (.str z)), kit_ty kt_str_bool, _, rfl, iteF ⟨_, rfl, rfl, _, rfl, ifF (decide_eq_false fun e => nomatch e) ⟨_, rfl, ⟨_, _, _, _, _, rfl, .ty _, (.base (.str z)), kit_ty kt_str_str, _, rfl, iteT ?_⟩⟩⟩⟩⟩
        refine ⟨_, rfl, ⟨_, _, _, _, _, rfl, .ty _, (.base (.str z)), kit_ty kt_str_bool, _, rfl, ⟨_, _, _, _, _, rfl, .ty _, (.base (.str z)), kit_ty kt_str_bool, rfl, _, rfl, iteT ⟨_, rfl, _, rfl, rfl, ?_⟩⟩⟩⟩
        rw [decide_eq_true rfl]
        exact k
      | list ds =>
        cases hx with
        | lst hxs hxa =>
          cases hy with
          | lst hys hya =>
            rename_i a xs b ys
            obtain ⟨hl, hall⟩ := Bool.and_eq_true_iff.mp (show (decide (ds.length ≤ 100000) && ds.all (okD n)) = true from hd)
            have hl := of_decide_eq_true hl
            have ta := tyx_l hxs
            have tb := tyx_l hys
            refine ⟨_, rfl, ⟨_, _, _, _, _, rfl, .ty _, tb, kit_ty kt_list_bool, _, rfl, iteF ⟨_, rfl, rfl, _, rfl, ifF (decide_eq_false fun e => nomatch e) ⟨_, rfl, ⟨_, _, _, _, _, rfl, .ty _, tb, kit_ty kt_list_str, _, rfl, iteF ?_⟩⟩⟩⟩⟩
            refine ⟨_, rfl, ⟨_, _, _, _, _, rfl, .ty _, tb, kit_ty kt_list_int, _, rfl, iteF ?_⟩⟩
            refine ⟨_, rfl, ⟨_, _, _, _, _, rfl, .ty _, tb, kit_ty kt_list_tuple, _, rfl, ⟨_, _, _, _, _, rfl, .ty _, ta, kit_ty kt_list_tuple, rfl, _, rfl, iteF ⟨_, rfl, ⟨_, _, _, _, _, rfl, .ty _, tb, kit_ty kt_list_list, _, rfl, ⟨_, _, _, _, _, rfl, .ty _, ta, kit_ty kt_list_list, rfl, _, rfl, iteF ?_⟩⟩⟩⟩⟩⟩
            refine ⟨_, rfl, _, _, rfl, .inl ⟨_, hxs, (dp_len hxa).symm⟩, _, rfl, _, _, rfl, .inl ⟨_, hys, (dp_len hya).symm⟩, rfl, _, rfl, ?_⟩
            rw [decide_eq_true rfl]
            refine iteF ⟨_, rfl, _, _, rfl, .inl ⟨_, hys, (dp_len hya).symm⟩, _, rfl, by omega, by omega, ?_⟩
            refine for_range (lo := 0) (n := (((ds.length : Nat) : Int) - 0).toNat) (fun i σ' H' => ∃ v, σ' = [some (.ref a), some (.ref b), v] ∧ H' = H) ⟨_, rfl, rfl⟩ ?_ ?_
            · rintro i σ' H' hi ⟨v, rfl, rfl⟩
              have hid : i < ds.length := by omega
              obtain ⟨dx, hdx⟩ : ∃ d, ds[i]? = some d := ⟨_, List.getElem?_eq_getElem hid⟩
              obtain ⟨x1, hx1, hx2⟩ := dp_get hxa hdx
              obtain ⟨y1, hy1, hy2⟩ := dp_get hya hdx
              have ok1 := List.all_eq_true.mp hall dx (List.mem_of_getElem? hdx)
              refine ⟨_, rfl, _, rfl, .inl ⟨a, xs, _, x1, rfl, rfl, hxs, atNat (n := i) hx1 (by omega), _, rfl, _, rfl, .inl ⟨b, ys, _, y1, rfl, rfl, hys, atNat (n := i) hy1 (by omega), x1, y1, dx, rfl, hx2, hy2, ok1, _, rfl, iteF ?_⟩⟩⟩
              exact ⟨_, rfl, rfl⟩
            · rintro σ' H' ⟨v, rfl, rfl⟩
              exact k
      | tuple ds =>
        cases hx with
        | tup hxs hxa =>
          cases hy with
          | tup hys hya =>
            rename_i a xs b ys
            obtain ⟨hl, hall⟩ := Bool.and_eq_true_iff.mp (show (decide (ds.length ≤ 100000) && ds.all (okD n)) = true from hd)
            have hl := of_decide_eq_true hl
            have ta := tyx_t hxs
            have tb := tyx_t hys
            refine ⟨_, rfl, ⟨_, _, _, _, _, rfl, .ty _, tb, kit_ty kt_tuple_bool, _, rfl, iteF ⟨_, rfl, rfl, _, rfl, ifF (decide_eq_false fun e => nomatch e) ⟨_, rfl, ⟨_, _, _, _, _, rfl, .ty _, tb, kit_ty kt_tuple_str, _, rfl, iteF ?_⟩⟩⟩⟩⟩
            refine ⟨_, rfl, ⟨_, _, _, _, _, rfl, .ty _, tb, kit_ty kt_tuple_int, _, rfl, iteF ?_⟩⟩
            refine ⟨_, rfl, ⟨_, _, _, _, _, rfl, .ty _, tb, kit_ty kt_tuple_tuple, _, rfl, ⟨_, _, _, _, _, rfl, .ty _, ta, kit_ty kt_tuple_tuple, rfl, _, rfl, iteF ⟨_, rfl, ⟨_, _, _, _, _, rfl, .ty _, tb, kit_ty kt_tuple_list, _, rfl, ⟨_, _, _, _, _, rfl, .ty _, ta, kit_ty kt_tuple_list, rfl, _, rfl, iteF ?_⟩⟩⟩⟩⟩⟩
            refine ⟨_, rfl, _, _, rfl, .inr ⟨_, hxs, (dp_len hxa).symm⟩, _, rfl, _, _, rfl, .inr ⟨_, hys, (dp_len hya).symm⟩, rfl, _, rfl, ?_⟩
            rw [decide_eq_true rfl]
            refine iteF ⟨_, rfl, _, _, rfl, .inr ⟨_, hys, (dp_len hya).symm⟩, _, rfl, by omega, by omega, ?_⟩
            refine for_range (lo := 0) (n := (((ds.length : Nat) : Int) - 0).toNat) (fun i σ' H' => ∃ v, σ' = [some (.ref a), some (.ref b), v] ∧ H' = H) ⟨_, rfl, rfl⟩ ?_ ?_
            · rintro i σ' H' hi ⟨v, rfl, rfl⟩
              have hid : i < ds.length := by omega
              obtain ⟨dx, hdx⟩ : ∃ d, ds[i]? = some d := ⟨_, List.getElem?_eq_getElem hid⟩
              obtain ⟨x1, hx1, hx2⟩ := dp_get hxa hdx
              obtain ⟨y1, hy1, hy2⟩ := dp_get hya hdx
              have ok1 := List.all_eq_true.mp hall dx (List.mem_of_getElem? hdx)
              refine ⟨_, rfl, _, rfl, .inr (.inl ⟨a, xs, _, x1, rfl, rfl, hxs, atNat (n := i) hx1 (by omega), _, rfl, _, rfl, .inr (.inl ⟨b, ys, _, y1, rfl, rfl, hys, atNat (n := i) hy1 (by omega), x1, y1, dx, rfl, hx2, hy2, ok1, _, rfl, iteF ?_⟩)⟩)⟩
              exact ⟨_, rfl, rfl⟩
            · rintro σ' H' ⟨v, rfl, rfl⟩
              exact k
      | dict kvs => exact Bool.noConfusion (show false = true from hd)
end
def ptV : Option Int → V
  | none => .non
  | some i => .int i
def dAtom (a : Str × List Int) : PyData := .tuple [.str a.1, .tuple (a.2.map .int)]
def codeD : Option Int → PyData
  | none => .tuple []
  | some i => .tuple [.int i]
def pickI : Option Int → Int
  | none => -1
  | some i => i
def caseF (p a g k f : V) : List (Str × V) := [("points", p), ("atoms", a), ("groups", g), ("pick", k), ("form", f)]
def sortA (as : List (Str × List Int)) : List PyData := (as.map dAtom).mergeSort fun x y => !PySem.W.dataLt y x
/-- a case -/
structure IsCase (K : PySem.W.Frag) (H : Hp) (x : Addr) (ps : List (Option Int)) (as : List (Str × List Int)) (gs : List Int) (pk : Option Int) : Prop where
  ex : ∃ (dx p a g f c : Addr), H x = some (.ins (He.ga K "Case") dx (caseF (.ref p) (.ref a) (.ref g) (ptV pk) (.ref f))) ∧ SqT K H p (ps.map ptV) ∧ Dp K H (.ref a) (.tuple (sortA as)) ∧ SqT K H g (gs.map V.int) ∧
    SqT K H f [.int ((ps.countP Option.isNone : Nat) : Int), .ref c, .ref a, .ref g, .int (pickI pk)] ∧ Dp K H (.ref c) (.tuple (ps.map codeD))
/-- the atoms that are handed in -/
structure AtA (K : PySem.W.Frag) (H : Hp) (a : Addr) (as : List (Str × List Int)) : Prop where
  ex : ∃ xs : List V, Sq K H a xs ∧ xs.length = as.length ∧ ∀ (j : Nat) (x : V), xs[j]? = some x → ∃ (z : Str) (is : List Int) (t i : Addr), as[j]? = some (z, is) ∧ x = .ref t ∧ SqT K H t [.str z, .ref i] ∧ Sq K H i (is.map V.int)
theorem AtA.same {K : PySem.W.Frag} {H H' : Hp} {a : Addr} {as : List (Str × List Int)} (h : AtA K H a as) (e : Same H H') : AtA K H' a as := by
  obtain ⟨xs, h1, h2, h3⟩ := h.ex
  refine ⟨xs, h1.same e, h2, fun j x hx => ?_⟩
  obtain ⟨z, is, t, i, q1, q2, q3, q4⟩ := h3 j x hx
  exact ⟨z, is, t, i, q1, q2, same_tup e q3, q4.same e⟩
def spCase (K : PySem.W.Frag) : Sp := fun vs H Q _ => ∃ (x dx p a g : Addr) (ps : List (Option Int)) (as : List (Str × List Int)) (gs : List Int) (pk : Option Int), vs = [.ref x, .ref p, .ref a, .ref g, ptV pk] ∧ H x = some (.ins (He.ga K "Case") dx []) ∧
  Sq K H p (ps.map ptV) ∧ AtA K H a as ∧ Sq K H g (gs.map V.int) ∧ ps.length ≤ 1000 ∧ as.length ≤ 1000 ∧ (∀ y, H y ≠ none → True) ∧ ∀ H', IsCase K H' x ps as gs pk → But x H H' → Q .non H'
theorem but_sqT {s : Addr} {K : PySem.W.Frag} {H H' : Hp} {a : Addr} {xs : List V} {C dx : Addr} {fs : List (Str × V)} (e : But s H H') (hs : H s = some (.ins C dx fs)) (h : SqT K H a xs) : SqT K H' a xs := by
  rcases h with (h | ⟨u, h⟩) | h
  · exact .inl (.inl (e _ _ (ne_of h hs (by intro z; cases z)) h))
  · exact .inl (.inr ⟨u, e _ _ (ne_of h hs (by intro z; cases z)) h⟩)
  · exact .inr h
theorem but_sqL {s : Addr} {K : PySem.W.Frag} {H H' : Hp} {a : Addr} {xs : List V} {C dx : Addr} {fs : List (Str × V)} (e : But s H H') (hs : H s = some (.ins C dx fs)) (h : SqL K H a xs) : SqL K H' a xs := by
  rcases h with (h | ⟨u, h⟩) | h
  · exact .inl (.inl (e _ _ (ne_of h hs (by intro z; cases z)) h))
  · exact .inl (.inr ⟨u, e _ _ (ne_of h hs (by intro z; cases z)) h⟩)
  · exact .inr h
theorem but_sq {s : Addr} {K : PySem.W.Frag} {H H' : Hp} {a : Addr} {xs : List V} {C dx : Addr} {fs : List (Str × V)} (e : But s H H') (hs : H s = some (.ins C dx fs)) (h : Sq K H a xs) : Sq K H' a xs := h.imp (but_sqL e hs) (but_sqT e hs)
mutual
theorem but_dp {s : Addr} {K : PySem.W.Frag} {H H' : Hp} {C dx : Addr} {fs : List (Str × V)} (e : But s H H') (hs : H s = some (.ins C dx fs)) : ∀ {v : V} {d : PyData}, Dp K H v d → Dp K H' v d
  | _, _, .non => .non
  | _, _, .bl b => .bl b
  | _, _, .int i => .int i
  | _, _, .str x => .str x
  | _, _, .lst h t => .lst (but_sqL e hs h) (but_dpAll e hs t)
  | _, _, .tup h t => .tup (but_sqT e hs h) (but_dpAll e hs t)
theorem but_dpAll {s : Addr} {K : PySem.W.Frag} {H H' : Hp} {C dx : Addr} {fs : List (Str × V)} (e : But s H H') (hs : H s = some (.ins C dx fs)) : ∀ {vs : List V} {ds : List PyData}, DpAll K H vs ds → DpAll K H' vs ds
  | _, _, .nil => .nil
  | _, _, .cons h t => .cons (but_dp e hs h) (but_dpAll e hs t)
end
theorem AtA.but {s : Addr} {K : PySem.W.Frag} {H H' : Hp} {a : Addr} {as : List (Str × List Int)} {C dx : Addr} {fs : List (Str × V)} (h : AtA K H a as) (e : But s H H') (hs : H s = some (.ins C dx fs)) : AtA K H' a as := by
  obtain ⟨xs, h1, h2, h3⟩ := h.ex
  refine ⟨xs, but_sq e hs h1, h2, fun j x hx => ?_⟩
  obtain ⟨z, is, t, i, q1, q2, q3, q4⟩ := h3 j x hx
  exact ⟨z, is, t, i, q1, q2, but_sqT e hs q3, but_sq e hs q4⟩
theorem noL_ints (is : List Int) : (is.map PyData.int).all (noL 1) = true := by
  rw [List.all_eq_true]
  intro d hd
  obtain ⟨i, _, rfl⟩ := List.mem_map.mp hd
  rfl
theorem noL_atom (a : Str × List Int) : noL 3 (dAtom a) = true := by
  show ([PyData.str a.1, PyData.tuple (a.2.map .int)].all (noL 2)) = true
  show (true && ((a.2.map PyData.int).all (noL 1) && true)) = true
  rw [noL_ints]
  rfl
theorem noL_atoms {as bs : List (Str × List Int)} : (as.map dAtom ++ bs.map dAtom).all (noL 3) = true := by
  rw [List.all_eq_true]
  intro d hd
  rcases List.mem_append.mp hd with h | h
  · obtain ⟨a, _, rfl⟩ := List.mem_map.mp h
    exact noL_atom a
  · obtain ⟨a, _, rfl⟩ := List.mem_map.mp h
    exact noL_atom a
theorem noL_code (o : Option Int) : noL 3 (codeD o) = true := by cases o <;> rfl
theorem noL_codes {as bs : List (Option Int)} : (as.map codeD ++ bs.map codeD).all (noL 3) = true := by
  rw [List.all_eq_true]
  intro d hd
  rcases List.mem_append.mp hd with h | h
  · obtain ⟨a, _, rfl⟩ := List.mem_map.mp h
    exact noL_code a
  · obtain ⟨a, _, rfl⟩ := List.mem_map.mp h
    exact noL_code a
theorem allAlike_atoms (as : List (Str × List Int)) : PySem.W.AllAlike (as.map dAtom) := PySem.W.AllAlike.of fun a b => by
  have h : ∀ xs ys : List Int, PySem.W.alikeAll (xs.map PyData.int) (ys.map PyData.int) = true := by
    intro xs
    induction xs with
    | nil => intro ys; rfl
    | cons x xs ih =>
      intro ys
      cases ys with
      | nil => rfl
      | cons y ys =>
        show (PySem.W.alike (.int x) (.int y) && PySem.W.alikeAll (xs.map PyData.int) (ys.map PyData.int)) = true
        rw [ih]
        rfl
  show (PySem.W.alike (.str a.1) (.str b.1) && (PySem.W.alike (.tuple (a.2.map .int)) (.tuple (b.2.map .int)) && true)) = true
  show (true && (PySem.W.alikeAll (a.2.map PyData.int) (b.2.map PyData.int) && true)) = true
  rw [h]
  rfl
theorem sortable_atoms (as : List (Str × List Int)) : PySem.W.Sortable (as.map dAtom) := PySem.W.Sortable.tuples fun a => ⟨_, _, rfl⟩
theorem depth_atoms (as : List (Str × List Int)) : ∀ d ∈ as.map dAtom, d.depth ≤ 100 := by
  intro d hd
  obtain ⟨a, _, rfl⟩ := List.mem_map.mp hd
  have h : ∀ is : List Int, PyData.depthAll (is.map PyData.int) = 0 := by
    intro is
    induction is with
    | nil => rfl
    | cons i is ih =>
      show max (PyData.depth (.int i)) (PyData.depthAll (is.map PyData.int)) = 0
      rw [ih]
      rfl
  show max (PyData.depth (.str a.1)) (max (PyData.depthAll (a.2.map PyData.int) + 1) 0) + 1 ≤ 100
  rw [h]
  show max 0 (max (0 + 1) 0) + 1 ≤ 100
  decide
section
variable {P : Program} {w : World} {K : PySem.W.Frag} {mg : Str → Option Value} {base : Heap}
theorem ok_caseF (T : Txt K mg) {fd : FuncData} (F : FunD K d_Case_DinitD.name d_Case_DinitD.qual (defArgs s_Case_DinitD) (defBody s_Case_DinitD) (defScope s_Case_DinitD) (d_Case_DinitD.dvs K) (d_Case_DinitD.kws K) (He.fAd K d_Case_DinitD.at_) fd) : FnOk P w K mg base CX0 2 (He.fAd K d_Case_DinitD.at_) fd P_Case_DinitD (spCase K) := by
  refine F.ok sc_Case_DinitD (fun vs H Q E h => ?_) (fun cdv A outer s0 H vs Q E hr h => ?_)
  · obtain ⟨x, dx, p, a, g, ps, as, gs, pk, rfl, _⟩ := h
    rfl
  · obtain ⟨x, dx, p, a, g, ps, as, gs, pk, rfl, hx, hp, ha, hg, lp, la, _, k⟩ := h
    refine ⟨_, PSs.nox (pss_cons (ps_fld (pv 0) (pe_callTy (call_tupA (K := K) rfl) (by rfl) T.f_tuple (by decide +kernel) (pa_cons (pv 1) pa_nil)) rfl)
    (pss_cons (ps_fld (pv 0) (pe_callTy (call_tupA (K := K) rfl) (by rfl) T.f_tuple (by decide +kernel) (pa_cons (pe_callB (cr_sortedDR hr) (by rfl) T.f_sorted (by decide +kernel) (pa_cons (pe_lc (own := [("name", 5), ("indexes", 6)]) (g := (gTup K 2 (gCons (gName 5) (gCons (gName 6) gNil)))) (tt := tYes) rfl sc_Case_DinitD.nd (pi_seq (pv 2)) (blkOk_by (N := N_Case_DinitD) (sc := defScope s_Case_DinitD) (by decide +kernel)) (fun _ _ _ _ _ => (pg_tup rfl (pgs_cons (pg_name (i := 5) sc_Case_DinitD.nd rfl (Or.inl rfl)) (pgs_cons (pg_name (i := 6) sc_Case_DinitD.nd rfl (Or.inl rfl)) pgs_nil)))) (fun _ _ _ _ _ => pts_nil) (fun _ _ _ _ _ => (pe_tup (pa_cons (pv 5) (pa_cons (pe_callTy (call_tupA (K := K) rfl) (by rfl) T.f_tuple (by decide +kernel) (pa_cons (pv 6) pa_nil)) pa_nil))))) pa_nil)) pa_nil)) rfl)
    (pss_cons (ps_fld (pv 0) (pe_callTy (call_tupA (K := K) rfl) (by rfl) T.f_tuple (by decide +kernel) (pa_cons (pv 3) pa_nil)) rfl)
    (pss_cons (ps_fld (pv 0) (pv 4) rfl)
    (pss_cons (ps_set (i := 7) sc_Case_DinitD.nd rfl (Or.inl rfl) (pe_callTy (call_tupA (K := K) rfl) (by rfl) T.f_tuple (by decide +kernel) (pa_cons (pe_lc (own := [("point", 8)]) (g := (gName 8)) (tt := tYes) rfl sc_Case_DinitD.nd (pi_tup (pe_fld (pv 0) rfl)) (blkOk_by (N := N_Case_DinitD) (sc := defScope s_Case_DinitD) (by decide +kernel)) (fun _ _ _ _ _ => (pg_name (i := 8) sc_Case_DinitD.nd rfl (Or.inl rfl))) (fun _ _ _ _ _ => pts_nil) (fun _ _ _ _ _ => (pe_ifExp (pt_cmpR op_isN (pv 8) pe_non (nomark _)) (pe_tup pa_nil) (pe_tup (pa_cons (pv 8) pa_nil))))) pa_nil)))
    (pss_cons (ps_set (i := 9) sc_Case_DinitD.nd rfl (Or.inl rfl) (pe_callB call_len_seq (by rfl) T.f_len (by decide +kernel) (pa_cons (pe_lc (own := [("point", 8)]) (g := (gName 8)) rfl sc_Case_DinitD.nd (pi_tup (pe_fld (pv 0) rfl)) (blkOk_by (N := N_Case_DinitD) (sc := defScope s_Case_DinitD) (by decide +kernel)) (fun _ _ _ _ _ => (pg_name (i := 8) sc_Case_DinitD.nd rfl (Or.inl rfl))) (fun _ _ _ _ _ => (pts_one (pt_cmpR op_isN (pv 8) pe_non (nomark _)))) (fun _ _ _ _ _ => (pv 8))) pa_nil)))
    (pss_one (ps_fld (pv 0) (pe_tup (pa_cons (pv 9) (pa_cons (pv 7) (pa_cons (pe_fld (pv 0) rfl) (pa_cons (pe_fld (pv 0) rfl) (pa_cons (pe_ifExp (pt_cmpR op_isN (pv 4) pe_non (nomark _)) (pe_un un_neg pe_int) (pv 4)) pa_nil)))))) rfl)))))))), ?_⟩
    -- points
    refine ⟨_, rfl, p, _, rfl, hp, fun p1 H1 hp1 s1 => ⟨_, rfl, x, _, dx, _, rfl, s1 _ _ hx, T.cls_Case, T.na_Case_points, by decide, ?_⟩⟩
    refine at_heap (fun H2 e2 => ?_)
    have hx1 := s1 _ _ hx
    have b2 : But x H1 H2 := by rw [e2]; exact But.upd
    have hx2 : H2 x = some (.ins (He.ga K "Case") dx [("points", .ref p1)]) := by rw [e2]; exact upd_same
    have bb2 : But x H H2 := (But.same s1).trans b2
    have hp2 := but_sqT b2 hx1 hp1
    have ha2 := (ha.same s1).but b2 hx1
    have hg2 := but_sq b2 hx1 (hg.same s1)
    clear e2 b2 hp1
    obtain ⟨xs, sa, lxs, hxs⟩ := ha2.ex
    -- atoms
    refine ⟨_, rfl, rseq sa fun J G hG wk => fun D nD => ?_⟩
    refine lc_it wk (fun i H' => Same H2 H' ∧ ∃ vs : List V, H' D = some (.lst vs) ∧ DpAll K H' vs ((as.take i).map dAtom)) ⟨same_new (Same.refl H2) nD, [], upd_same, .nil⟩ (fun i H' _ q => hG H' fun o e => q.1 _ _ e) ?_ ?_
    · rintro i y H3 _ hi ⟨s3, vs, hD, hdp⟩ ⟨rfl, hy⟩
      obtain ⟨z, is, t, ix, q1, rfl, q3, q4⟩ := hxs i _ hy
      refine ⟨t, _, rfl, same_tup s3 q3, rfl, _, _, rfl, _, _, rfl, rfl, rfl, ?_⟩
      have hD3 := hD
      refine ⟨_, rfl, _, rfl, ix, _, rfl, q4.same s3, fun q H5 hq s5 => ⟨by show 2 ≤ sizeLine; decide, fun t' nt => ?_⟩⟩
      have hD5 := s5 _ _ hD
      have hD6 : (upd H5 t' (.tup [.str z, .ref q])) D = some (.lst vs) := by rw [upd_ne (ne_of_none hD5 nt)]; exact hD5
      have s6 : Same H5 (upd H5 t' (.tup [.str z, .ref q])) := same_new (Same.refl H5) nt
      have lv : vs.length = i := by
        rw [dp_len hdp, List.length_map, List.length_take]
        have := wk.goes
        omega
      refine ⟨vs, hD6, szl (by omega), same_mut (fun b o e => s6 _ _ (s5 _ _ (s3 _ _ e))) nD, vs ++ [.ref t'], upd_same, ?_⟩
      have d1 : DpAll K (upd H5 t' (.tup [.str z, .ref q])) vs ((as.take i).map dAtom) := dpAll_same (fun b o e => s6 _ _ (s5 _ _ e)) hdp
      have d2 : Dp K (upd H5 t' (.tup [.str z, .ref q])) (.ref t') (dAtom (z, is)) := .tup (SqT.of upd_same) (.cons (.str z) (.cons (.tup (same_tup s6 hq) (dp_ints is)) .nil))
      rw [take_snoc q1, List.map_append]
      exact dpAll_lst hD6 (n := 3) noL_atoms (dpAll_snoc d2 d1)
    · rintro H3 ⟨s3, vs, hD, hdp⟩
      have e3 : (as.take xs.length).map dAtom = as.map dAtom := by rw [lxs, List.take_length]
      rw [e3] at hdp
      obtain ⟨bs, z1, z2, z3⟩ := dpAll_zip hdp
      refine ⟨D, bs, rfl, by rw [z1]; exact SqL.of hD, z3, by rw [z2]; exact allAlike_atoms as, by rw [z2]; exact sortable_atoms as, fun b hb => depth_atoms as _ (by rw [← z2]; exact List.mem_map_of_mem hb), fun p2 np2 => ?_⟩
      have hws := sorted_dp z2 z3
      generalize (bs.mergeSort (PySem.W.dataLe false Prod.snd)).map Prod.fst = ws at hws
      refine ⟨p2, ws, rfl, .inl (SqL.of upd_same), fun p3 H4 hp3 s4 => ?_⟩
      have sx3 : Same H2 H4 := fun b o e => s4 _ _ (by rw [upd_ne (ne_of_none (s3 _ _ e) np2)]; exact s3 _ _ e)
      have da4 : Dp K H4 (.ref p3) (.tuple (sortA as)) := .tup hp3 (dpAll_same (fun b o e => s4 _ _ (by rw [upd_ne (ne_of_none e np2)]; exact e)) hws)
      have hx4 := sx3 _ _ hx2
      have bb4 : But x H H4 := bb2.trans (But.same sx3)
      have hp4 := same_tup sx3 hp2
      have hg4 := hg2.same sx3
      refine ⟨_, rfl, x, _, dx, _, rfl, hx4, T.cls_Case, T.na_Case_atoms, by show 1 < 1000; decide, ?_⟩
      refine at_heap (fun H5 e5 => ?_)
      have b5 : But x H4 H5 := by rw [e5]; exact But.upd
      have hx5 : H5 x = some (.ins (He.ga K "Case") dx [("points", .ref p1), ("atoms", .ref p3)]) := by rw [e5]; exact upd_same
      have bb5 := bb4.trans b5
      have hp5 := but_sqT b5 hx4 hp4
      have hg5 := but_sq b5 hx4 hg4
      have da5 := but_dp b5 hx4 da4
      clear e5 b5 hp4 hg4 da4 hx4 bb4
      -- groups
      refine ⟨_, rfl, g, _, rfl, hg5, fun g1 H6 hg6 s6 => ⟨_, rfl, x, _, dx, _, rfl, s6 _ _ hx5, T.cls_Case, T.na_Case_groups, by show 2 < 1000; decide, ?_⟩⟩
      refine at_heap (fun H7 e7 => ?_)
      have hx6 := s6 _ _ hx5
      have b7 : But x H6 H7 := by rw [e7]; exact But.upd
      have hx7 : H7 x = some (.ins (He.ga K "Case") dx [("points", .ref p1), ("atoms", .ref p3), ("groups", .ref g1)]) := by rw [e7]; exact upd_same
      have bb7 := (bb5.trans (But.same s6)).trans b7
      have hp7 := but_sqT b7 hx6 (same_tup s6 hp5)
      have hg7 := but_sqT b7 hx6 hg6
      have da7 := but_dp b7 hx6 (dp_same s6 da5)
      clear e7 b7 hp5 hg5 da5 bb5
      -- pick
      refine ⟨_, rfl, _, rfl, x, _, dx, _, rfl, hx7, T.cls_Case, T.na_Case_pick, by show 3 < 1000; decide, ?_⟩
      refine at_heap (fun H8 e8 => ?_)
      have b8 : But x H7 H8 := by rw [e8]; exact But.upd
      have hx8 : H8 x = some (.ins (He.ga K "Case") dx [("points", .ref p1), ("atoms", .ref p3), ("groups", .ref g1), ("pick", ptV pk)]) := by rw [e8]; exact upd_same
      have bb8 := bb7.trans b8
      have hp8 := but_sqT b8 hx7 hp7
      have hg8 := but_sqT b8 hx7 hg7
      have da8 := but_dp b8 hx7 da7
      clear e8 b8 hp7 hg7 da7 bb7
      -- codes
      refine ⟨_, rfl, x, _, dx, _, _, rfl, hx8, T.cls_Case, T.na_Case_points, rfl, p1, rfl, ⟨_, hp8⟩, fun D2 nD2 => ?_⟩
      refine lc_it (walk_tup (xs := ps.map ptV)) (fun i H' => Same H8 H' ∧ ∃ vs : List V, H' D2 = some (.lst vs) ∧ DpAll K H' vs ((ps.take i).map codeD)) ⟨same_new (Same.refl H8) nD2, [], upd_same, .nil⟩ (fun i H' _ q => same_tup q.1 hp8) ?_ ?_
      · rintro i y _ H9 hi ⟨s9, vs, hD, hdp⟩ ⟨rfl, hy⟩
        obtain ⟨o, ho, rfl⟩ := map_get hy
        have lv : vs.length = i := by
          rw [dp_len hdp, List.length_map, List.length_take]
          rw [List.length_map] at hi
          omega
        rw [List.length_map] at hi
        have fin : ∀ {t' : Addr} {l : List V}, H9 t' = none → Dp K (upd H9 t' (.tup l)) (.ref t') (codeD o) → (upd H9 t' (.tup l)) D2 = some (.lst vs) ∧ Same H8 (upd (upd H9 t' (.tup l)) D2 (.lst (vs ++ [.ref t']))) ∧
            ∃ vs' : List V, (upd (upd H9 t' (.tup l)) D2 (.lst (vs ++ [.ref t']))) D2 = some (.lst vs') ∧ DpAll K (upd (upd H9 t' (.tup l)) D2 (.lst (vs ++ [.ref t']))) vs' ((ps.take (i + 1)).map codeD) := by
          intro t' l nt d
          have hD6 : (upd H9 t' (.tup l)) D2 = some (.lst vs) := by rw [upd_ne (ne_of_none hD nt)]; exact hD
          have s6 : Same H9 (upd H9 t' (.tup l)) := same_new (Same.refl H9) nt
          refine ⟨hD6, same_mut (fun b o e => s6 _ _ (s9 _ _ e)) nD2, _, upd_same, ?_⟩
          rw [take_snoc ho, List.map_append]
          exact dpAll_lst hD6 (n := 3) noL_codes (dpAll_snoc d (dpAll_same s6 hdp))
        cases o with
        | none =>
          refine ⟨rfl, _, rfl, rfl, _, rfl, by show 0 ≤ sizeLine; decide, fun t' nt => ?_⟩
          obtain ⟨f1, f2, f3⟩ := fin nt (show Dp K _ _ (.tuple []) from .tup (SqT.of upd_same) .nil)
          exact ⟨vs, f1, szl (by omega), f2, f3⟩
        | some j =>
          refine ⟨rfl, _, rfl, rfl, _, rfl, _, rfl, by show 1 ≤ sizeLine; decide, fun t' nt => ?_⟩
          obtain ⟨f1, f2, f3⟩ := fin nt (show Dp K _ _ (.tuple [.int j]) from .tup (SqT.of upd_same) (.cons (.int j) .nil))
          exact ⟨vs, f1, szl (by omega), f2, f3⟩
      · rintro H9 ⟨s9, vs, hD, hdp⟩
        have e3 : (ps.take (ps.map ptV).length).map codeD = ps.map codeD := by rw [List.length_map, List.take_length]
        rw [e3] at hdp
        refine ⟨D2, vs, rfl, .inl (SqL.of hD), fun c1 H10 hc s10 => ?_⟩
        have dc : Dp K H10 (.ref c1) (.tuple (ps.map codeD)) := .tup hc (dpAll_same s10 hdp)
        have t10 : Same H8 H10 := fun b o e => s10 _ _ (s9 _ _ e)
        have hx10 := t10 _ _ hx8
        have hp10 := same_tup t10 hp8
        -- free
        refine ⟨_, rfl, x, _, dx, _, _, rfl, hx10, T.cls_Case, T.na_Case_points, rfl, p1, rfl, ⟨_, hp10⟩, fun D3 nD3 => ?_⟩
        refine lc_it (walk_tup (xs := ps.map ptV)) (fun i H' => Same H10 H' ∧ ∃ vs : List V, H' D3 = some (.lst vs) ∧ vs.length = (ps.take i).countP Option.isNone) ⟨same_new (Same.refl H10) nD3, [], upd_same, rfl⟩ (fun i H' _ q => same_tup q.1 hp10) ?_ ?_
        · rintro i y _ H11 hi ⟨s11, vs3, hD3, hv3⟩ ⟨rfl, hy⟩
          obtain ⟨o, ho, rfl⟩ := map_get hy
          rw [List.length_map] at hi
          have ec : (ps.take (i + 1)).countP Option.isNone = (ps.take i).countP Option.isNone + (if o.isNone = true then 1 else 0) := by
            rw [take_snoc ho, List.countP_append, List.countP_singleton]
          have : (ps.take i).countP Option.isNone ≤ (ps.take i).length := List.countP_le_length
          rw [List.length_take] at this
          refine ⟨rfl, _, rfl, rfl, _, rfl, ?_⟩
          cases o with
          | none => exact ⟨_, rfl, vs3, hD3, szl (by omega), same_mut s11 nD3, _, upd_same, by rw [List.length_append, hv3, ec]; rfl⟩
          | some j => exact ⟨s11, vs3, hD3, by rw [hv3, ec]; rfl⟩
        · rintro H11 ⟨s11, vs3, hD3, hv3⟩
          rw [List.length_map, List.take_length] at hv3
          refine ⟨D3, vs3, rfl, .inl (SqL.of hD3), ?_⟩
          rw [hv3]
          have hx11 := s11 _ _ hx10
          have t11 : Same H8 H11 := fun b o e => s11 _ _ (t10 _ _ e)
          have end_ : ∀ (fr : Addr) (H12 : Hp), H11 fr = none → H12 = upd H11 fr (.tup [.int ((ps.countP Option.isNone : Nat) : Int), .ref c1, .ref p3, .ref g1, .int (pickI pk)]) →
              Q .non (upd H12 x (.ins (He.ga K "Case") dx (caseF (.ref p1) (.ref p3) (.ref g1) (ptV pk) (.ref fr)))) ∧ H12 x = some (.ins (He.ga K "Case") dx [("points", .ref p1), ("atoms", .ref p3), ("groups", .ref g1), ("pick", ptV pk)]) := by
            intro fr H12 nf e12
            have s12 : Same H11 H12 := by rw [e12]; exact same_new (Same.refl H11) nf
            have hf12 : SqT K H12 fr [.int ((ps.countP Option.isNone : Nat) : Int), .ref c1, .ref p3, .ref g1, .int (pickI pk)] := by rw [e12]; exact SqT.of upd_same
            have t12 : Same H8 H12 := fun b o e => s12 _ _ (t11 _ _ e)
            have hx12 := t12 _ _ hx8
            have bu : But x H12 (upd H12 x (.ins (He.ga K "Case") dx (caseF (.ref p1) (.ref p3) (.ref g1) (ptV pk) (.ref fr)))) := But.upd
            refine ⟨k _ ⟨dx, p1, p3, g1, fr, c1, upd_same, but_sqT bu hx12 (same_tup t12 hp8), but_dp bu hx12 (dp_same t12 da8), but_sqT bu hx12 (same_tup t12 hg8), but_sqT bu hx12 hf12, but_dp bu hx12 (dp_same (fun b o e => s12 _ _ (s11 _ _ e)) dc)⟩ ((bb8.trans (But.same t12)).trans bu), hx12⟩
          refine ⟨_, rfl, _, rfl, _, rfl, x, _, dx, _, _, rfl, hx11, T.cls_Case, T.na_Case_atoms, rfl, _, rfl, x, _, dx, _, _, rfl, hx11, T.cls_Case, T.na_Case_groups, rfl, ?_⟩
          cases pk with
          | none =>
            refine ⟨_, rfl, rfl, _, rfl, _, rfl, by show 5 ≤ sizeLine; decide, fun fr nf => ?_⟩
            obtain ⟨q1, q2⟩ := end_ fr _ nf rfl
            exact ⟨_, rfl, x, _, dx, _, rfl, q2, T.cls_Case, T.na_Case_form, by show 4 < 1000; decide, q1⟩
          | some j =>
            refine ⟨_, rfl, rfl, _, rfl, _, rfl, by show 5 ≤ sizeLine; decide, fun fr nf => ?_⟩
            obtain ⟨q1, q2⟩ := end_ fr _ nf rfl
            exact ⟨_, rfl, x, _, dx, _, rfl, q2, T.cls_Case, T.na_Case_form, by show 4 < 1000; decide, q1⟩
/-- Case(points, atoms) -/
theorem ok_Case (T : Txt K mg) : CalI P w K mg base CX0 2 "Case" (He.ga K "Case") P_Case_DinitD [.ref (He.dflAt d_Case_DinitD.at_ 0 K), .non] (spCase K) := by
  obtain ⟨fd, F⟩ := T.F_Case_DinitD
  have ok := ok_caseF (P := P) (w := w) (base := base) T F
  obtain ⟨ds0, v0, b0⟩ := F.binds1 (ps := P_Case_DinitD) 3 0 (by intro z; cases z) rfl (fun T kV doc pm an cdv ct us its hu hi => match us, its, hu, hi with | [_, _, _], [_, _], _, _ => ⟨_, rfl, by kernel_rfl⟩)
  exact ⟨T.g_Case, _, fd, _, T.mk_Case, ok, b0, v0⟩
end
/-- what is neither a list nor a dict stays -/
def Firm (H H' : Hp) : Prop := ∀ a o, H a = some o → (∀ l, o ≠ .lst l) → (∀ d, o ≠ .dK d) → H' a = some o
theorem Firm.refl (H : Hp) : Firm H H := fun _ _ e _ _ => e
theorem Firm.trans {H H1 H2 : Hp} (a : Firm H H1) (b : Firm H1 H2) : Firm H H2 := fun x o e l d => b x o (a x o e l d) l d
theorem Firm.same {H H' : Hp} (e : Same H H') : Firm H H' := fun a o h _ _ => e a o h
theorem Firm.but {H H' : Hp} {s c : Addr} (S : Src H s c) (e : But s H H') : Firm H H' := fun a o h _ d => by
  obtain ⟨ns, at_, l, m, sd, hs, _⟩ := S.ex
  refine e a o (fun z => ?_) h
  rw [z, hs] at h
  exact d _ (Option.some.inj h).symm
theorem Firm.lst {H : Hp} {D : Addr} {xs ys : List V} (hD : H D = some (.lst xs)) : Firm H (upd H D (.lst ys)) := fun a o h l _ => by
  rw [upd_ne (ne_of h hD fun z => l _ z)]
  exact h
theorem Firm.tup {K : PySem.W.Frag} {H H' : Hp} {a : Addr} {xs : List V} (e : Firm H H') (h : SqT K H a xs) : SqT K H' a xs := by
  rcases h with (h | ⟨u, h⟩) | h
  · exact .inl (.inl (e _ _ h (fun _ z => by cases z) (fun _ z => by cases z)))
  · exact .inl (.inr ⟨u, e _ _ h (fun _ z => by cases z) (fun _ z => by cases z)⟩)
  · exact .inr h
mutual
theorem dp_firm {K : PySem.W.Frag} {H H' : Hp} (e : Firm H H') : ∀ {n : Nat} {v : V} {d : PyData}, noL n d = true → Dp K H v d → Dp K H' v d
  | 0, _, _, z, _ => by cases z
  | _ + 1, _, _, _, .non => .non
  | _ + 1, _, _, _, .bl b => .bl b
  | _ + 1, _, _, _, .int i => .int i
  | _ + 1, _, _, _, .str x => .str x
  | _ + 1, _, _, z, .lst h t => by cases z
  | n + 1, _, _, z, .tup h t => .tup (e.tup h) (dpAll_firm e (show List.all _ (noL n) = true from z) t)
theorem dpAll_firm {K : PySem.W.Frag} {H H' : Hp} (e : Firm H H') : ∀ {n : Nat} {vs : List V} {ds : List PyData}, ds.all (noL n) = true → DpAll K H vs ds → DpAll K H' vs ds
  | _, _, _, _, .nil => .nil
  | _, _, _, z, .cons h t => by
    rw [List.all_cons, Bool.and_eq_true] at z
    exact .cons (dp_firm e z.1 h) (dpAll_firm e z.2 t)
end
theorem noL_sortA (as : List (Str × List Int)) : noL 4 (.tuple (sortA as)) = true := by
  show (sortA as).all (noL 3) = true
  rw [List.all_eq_true]
  intro d hd
  obtain ⟨a, _, rfl⟩ := List.mem_map.mp (List.mem_mergeSort.mp hd)
  exact noL_atom a
theorem noL_codeT (ps : List (Option Int)) : noL 4 (.tuple (ps.map codeD)) = true := by
  show (ps.map codeD).all (noL 3) = true
  rw [List.all_eq_true]
  intro d hd
  obtain ⟨a, _, rfl⟩ := List.mem_map.mp hd
  exact noL_code a
theorem IsCase.firm {K : PySem.W.Frag} {H H' : Hp} {x : Addr} {ps : List (Option Int)} {as : List (Str × List Int)} {gs : List Int} {pk : Option Int} (h : IsCase K H x ps as gs pk) (e : Firm H H') : IsCase K H' x ps as gs pk := by
  obtain ⟨dx, p, a, g, f, c, h1, h2, h3, h4, h5, h6⟩ := h.ex
  exact ⟨dx, p, a, g, f, c, e _ _ h1 (fun _ z => by cases z) (fun _ z => by cases z), e.tup h2, dp_firm e (noL_sortA as) h3, e.tup h4, e.tup h5, dp_firm e (noL_codeT ps) h6⟩
theorem Src.lst {H : Hp} {s c D : Addr} {xs ys : List V} (S : Src H s c) (hD : H D = some (.lst xs)) : D ≠ c → Src (upd H D (.lst ys)) s c := fun n => by
  obtain ⟨ns, at_, l, m, sd, hs, hc, ha⟩ := S.ex
  exact S.put (ne_of hD hs (by intro z; cases z)) n
theorem noL_depth : ∀ {n : Nat} {d : PyData}, noL n d = true → d.depth ≤ n
  | 0, _, z => by cases z
  | n + 1, .none, _ => Nat.zero_le _
  | n + 1, .bool _, _ => Nat.zero_le _
  | n + 1, .int _, _ => Nat.zero_le _
  | n + 1, .str _, _ => Nat.zero_le _
  | n + 1, .list _, z => by cases z
  | n + 1, .dict _, z => by cases z
  | n + 1, .tuple ds, z => by
    have z : ds.all (noL n) = true := z
    have : ∀ l : List PyData, l.all (noL n) = true → PyData.depthAll l ≤ n := by
      intro l
      induction l with
      | nil => intro _; exact Nat.zero_le _
      | cons x l ih =>
        intro h
        rw [List.all_cons, Bool.and_eq_true] at h
        show max (PyData.depth x) (PyData.depthAll l) ≤ n
        have := noL_depth h.1
        have := ih h.2
        omega
    have := this ds z
    show PyData.depthAll ds + 1 ≤ n + 1
    omega
theorem noL_plain : ∀ {n : Nat} {d : PyData}, noL n d = true → d.plain = true
  | 0, _, z => by cases z
  | n + 1, .none, _ => rfl
  | n + 1, .bool _, _ => rfl
  | n + 1, .int _, _ => rfl
  | n + 1, .str _, _ => rfl
  | n + 1, .list _, z => by cases z
  | n + 1, .dict _, z => by cases z
  | n + 1, .tuple ds, z => by
    have z : ds.all (noL n) = true := z
    have : ∀ l : List PyData, l.all (noL n) = true → PyData.plainAll l = true := by
      intro l
      induction l with
      | nil => intro _; rfl
      | cons x l ih =>
        intro h
        rw [List.all_cons, Bool.and_eq_true] at h
        show (PyData.plain x && PyData.plainAll l) = true
        rw [noL_plain h.1, ih h.2]
        rfl
    exact this ds z
def formD (ps : List (Option Int)) (ds : List PyData) (gs : List Int) (pk : Option Int) : PyData := .tuple [.int ((ps.countP Option.isNone : Nat) : Int), .tuple (ps.map codeD), .tuple ds, .tuple (gs.map .int), .int (pickI pk)]
theorem alike_ints : ∀ xs ys : List Int, PySem.W.alikeAll (xs.map PyData.int) (ys.map PyData.int) = true
  | [], _ => rfl
  | _ :: _, [] => rfl
  | x :: xs, y :: ys => by
    show (PySem.W.alike (.int x) (.int y) && PySem.W.alikeAll (xs.map PyData.int) (ys.map PyData.int)) = true
    rw [alike_ints xs ys]
    rfl
theorem alike_dAtom (a b : Str × List Int) : PySem.W.alike (dAtom a) (dAtom b) = true := by
  show (PySem.W.alike (.str a.1) (.str b.1) && (PySem.W.alike (.tuple (a.2.map .int)) (.tuple (b.2.map .int)) && true)) = true
  show (true && (PySem.W.alikeAll (a.2.map PyData.int) (b.2.map PyData.int) && true)) = true
  rw [alike_ints]
  rfl
theorem alike_code (a b : Option Int) : PySem.W.alike (codeD a) (codeD b) = true := by cases a <;> cases b <;> rfl
theorem alikeAll_of {p : PyData → Prop} (h : ∀ x y, p x → p y → PySem.W.alike x y = true) : ∀ {xs ys : List PyData}, (∀ x ∈ xs, p x) → (∀ y ∈ ys, p y) → PySem.W.alikeAll xs ys = true
  | [], _, _, _ => rfl
  | _ :: _, [], _, _ => rfl
  | x :: xs, y :: ys, hx, hy => by
    show (PySem.W.alike x y && PySem.W.alikeAll xs ys) = true
    rw [h x y (hx x List.mem_cons_self) (hy y List.mem_cons_self), alikeAll_of h (fun z hz => hx z (List.mem_cons_of_mem _ hz)) fun z hz => hy z (List.mem_cons_of_mem _ hz)]
    rfl
/-- data that are atoms -/
def IsAt (d : PyData) : Prop := ∃ a : Str × List Int, d = dAtom a
theorem isAt_map {as : List (Str × List Int)} : ∀ d ∈ as.map dAtom, IsAt d := fun d h => by
  obtain ⟨a, _, rfl⟩ := List.mem_map.mp h
  exact ⟨a, rfl⟩
theorem isAt_sort {as : List (Str × List Int)} : ∀ d ∈ sortA as, IsAt d := fun d h => isAt_map d (List.mem_mergeSort.mp h)
theorem alike_form {ps qs : List (Option Int)} {ds es : List PyData} {gs hs : List Int} {pk qk : Option Int} (hd : ∀ d ∈ ds, IsAt d) (he : ∀ d ∈ es, IsAt d) : PySem.W.alike (formD ps ds gs pk) (formD qs es hs qk) = true := by
  have h1 : PySem.W.alikeAll (ps.map codeD) (qs.map codeD) = true := alikeAll_of (p := fun d => ∃ o, d = codeD o) (fun x y ⟨a, ha⟩ ⟨b, hb⟩ => by rw [ha, hb]; exact alike_code a b)
    (fun x hx => by obtain ⟨a, _, rfl⟩ := List.mem_map.mp hx; exact ⟨a, rfl⟩) (fun x hx => by obtain ⟨a, _, rfl⟩ := List.mem_map.mp hx; exact ⟨a, rfl⟩)
  have h2 : PySem.W.alikeAll ds es = true := alikeAll_of (p := IsAt) (fun x y ⟨a, ha⟩ ⟨b, hb⟩ => by rw [ha, hb]; exact alike_dAtom a b) hd he
  show (true && (PySem.W.alikeAll (ps.map codeD) (qs.map codeD) && (PySem.W.alikeAll ds es && (PySem.W.alikeAll (gs.map PyData.int) (hs.map PyData.int) && (true && true))))) = true
  rw [h1, h2, alike_ints]
  rfl
theorem noL_form {ps : List (Option Int)} {ds : List PyData} {gs : List Int} {pk : Option Int} (hd : ∀ d ∈ ds, IsAt d) : noL 5 (formD ps ds gs pk) = true := by
  have h1 : noL 4 (.tuple ds) = true := by
    show ds.all (noL 3) = true
    rw [List.all_eq_true]
    intro d h
    obtain ⟨a, rfl⟩ := hd d h
    exact noL_atom a
  have h2 : (gs.map PyData.int).all (noL 3) = true := by
    rw [List.all_eq_true]
    intro d h
    obtain ⟨i, _, rfl⟩ := List.mem_map.mp h
    rfl
  show (true && (noL 4 (.tuple (ps.map codeD)) && (noL 4 (.tuple ds) && ((gs.map PyData.int).all (noL 3) && (true && true))))) = true
  rw [noL_codeT, h1, h2]
  rfl
theorem IsCase.form {K : PySem.W.Frag} {H : Hp} {x : Addr} {ps : List (Option Int)} {as : List (Str × List Int)} {gs : List Int} {pk : Option Int} (h : IsCase K H x ps as gs pk) :
    ∃ (dx p a g f : Addr), H x = some (.ins (He.ga K "Case") dx (caseF (.ref p) (.ref a) (.ref g) (ptV pk) (.ref f))) ∧ Dp K H (.ref f) (formD ps (sortA as) gs pk) := by
  obtain ⟨dx, p, a, g, f, c, h1, h2, h3, h4, h5, h6⟩ := h.ex
  exact ⟨dx, p, a, g, f, h1, .tup h5 (.cons (.int _) (.cons h6 (.cons h3 (.cons (.tup h4 (dp_ints gs)) (.cons (.int _) .nil)))))⟩
def spEqC (K : PySem.W.Frag) (f : PyData → PyData → Bool) : Sp := fun vs H Q _ => ∃ (x y : Addr) (ps qs : List (Option Int)) (as bs : List (Str × List Int)) (gs hs : List Int) (pk qk : Option Int), vs = [.ref x, .ref y] ∧ IsCase K H x ps as gs pk ∧ IsCase K H y qs bs hs qk ∧ Q (.bl (f (formD ps (sortA as) gs pk) (formD qs (sortA bs) hs qk))) H
section
variable {P : Program} {w : World} {K : PySem.W.Frag} {mg : Str → Option Value} {base : Heap}
theorem ok_Case4 (T : Txt K mg) : CalI P w K mg base CX0 2 "Case" (He.ga K "Case") P_Case_DinitD [] (spCase K) := by
  obtain ⟨fd, F⟩ := T.F_Case_DinitD
  have ok := ok_caseF (P := P) (w := w) (base := base) T F
  obtain ⟨ds0, v0, b0⟩ := F.binds1 (ps := P_Case_DinitD) 5 2 (by intro z; cases z) rfl (fun T kV doc pm an cdv ct us its hu hi => match us, its, hu, hi with | [_, _, _, _, _], [_, _], _, _ => ⟨_, rfl, by kernel_rfl⟩)
  exact ⟨T.g_Case, _, fd, _, T.mk_Case, ok, b0, v0⟩
theorem ok_eqC (T : Txt K mg) : CalM P w K mg base CX0 1 (He.ga K "Case") "__eq__" P_Case_DeqD [] (spEqC K PyData.eqv) := by
  refine CalM.of T.F_Case_DeqD T.cls_Case T.me_Case_DeqD (fun fd F => F.ok sc_Case_DeqD (fun vs H Q E h => ?_) (fun cdv A outer s0 H vs Q E hr h => ?_)) (fun _ _ _ _ _ _ us hl => match us, hl with | [_, _], _ => rfl)
  · obtain ⟨x, y, ps, qs, as, bs, gs, hs, pk, qk, rfl, _⟩ := h
    rfl
  · obtain ⟨x, y, ps, qs, as, bs, gs, hs, pk, qk, rfl, hx, hy, k⟩ := h
    refine ⟨_, PSs.nox (pss_one (ps_ret (pe_and (pe_callB call_isi (by rfl) T.f_isinstance (by decide +kernel) (pa_cons (pv 1) (pa_cons (pe_glob (v := .ref (He.ga K "Case")) rfl T.g_Case rfl) pa_nil))) (pe_one (pe_cmpR (op_eqP hr.units) (pe_fld (pv 0) rfl) (pe_fld (pv 1) rfl) (nomark _)))))), ?_⟩
    obtain ⟨dx, p, a, g, f, hx1, df⟩ := hx.form
    obtain ⟨dy, p2, a2, g2, f2, hy1, df2⟩ := hy.form
    refine ⟨_, rfl, _, _, _, _, _, rfl, .own _, tyx_ins hy1 T.cls_Case T.own_Case.1, T.own_Case.1.is, _, rfl, iteT ?_⟩
    exact ⟨_, rfl, x, _, dx, _, _, rfl, hx1, T.cls_Case, T.na_Case_form, rfl, _, rfl, y, _, dy, _, _, rfl, hy1, T.cls_Case, T.na_Case_form, rfl, _, _, df, df2, noL_plain (noL_form isAt_sort), noL_plain (noL_form isAt_sort), Nat.le_trans (noL_depth (noL_form isAt_sort)) (by decide), k⟩
theorem ok_ltC (T : Txt K mg) : CalM P w K mg base CX0 1 (He.ga K "Case") "__lt__" P_Case_DltD [] (spEqC K PySem.W.dataLt) := by
  refine CalM.of T.F_Case_DltD T.cls_Case T.me_Case_DltD (fun fd F => F.ok sc_Case_DltD (fun vs H Q E h => ?_) (fun cdv A outer s0 H vs Q E hr h => ?_)) (fun _ _ _ _ _ _ us hl => match us, hl with | [_, _], _ => rfl)
  · obtain ⟨x, y, ps, qs, as, bs, gs, hs, pk, qk, rfl, _⟩ := h
    rfl
  · obtain ⟨x, y, ps, qs, as, bs, gs, hs, pk, qk, rfl, hx, hy, k⟩ := h
    refine ⟨_, PSs.nox (pss_cons (ps_if (pt_not (pt_val (pe_callB call_isi (by rfl) T.f_isinstance (by decide +kernel) (pa_cons (pv 1) (pa_cons (pe_glob (v := .ref (He.ga K "Case")) rfl T.g_Case rfl) pa_nil))))) (pss_one (ps_ret pe_no))
    pss_nil)
    (pss_one (ps_ret (pe_cmpR (op_ltD hr.units) (pe_fld (pv 0) rfl) (pe_fld (pv 1) rfl) (nomark _))))), ?_⟩
    obtain ⟨dx, p, a, g, f, hx1, df⟩ := hx.form
    obtain ⟨dy, p2, a2, g2, f2, hy1, df2⟩ := hy.form
    refine ⟨_, rfl, _, _, _, _, _, rfl, .own _, tyx_ins hy1 T.cls_Case T.own_Case.1, T.own_Case.1.is, _, rfl, iteF ?_⟩
    exact ⟨_, rfl, x, _, dx, _, _, rfl, hx1, T.cls_Case, T.na_Case_form, rfl, _, rfl, y, _, dy, _, _, rfl, hy1, T.cls_Case, T.na_Case_form, rfl, _, _, df, df2, alike_form isAt_sort isAt_sort, PyData.noConfusion, Nat.le_trans (noL_depth (noL_form isAt_sort)) (by decide), k⟩
end
/-- what the law draws: points, atoms, groups, pick -/
structure PlT (K : PySem.W.Frag) (H : Hp) (v : Addr) (ps : List (Option Int)) (ds : List PyData) (gs : List Int) (pk : Option Int) : Prop where
  ex : ∃ p a g : Addr, SqT K H v [.ref p, .ref a, .ref g, ptV pk] ∧ SqT K H p (ps.map ptV) ∧ Dp K H (.ref a) (.tuple ds) ∧ SqT K H g (gs.map V.int)
  at_ : ∀ d ∈ ds, IsAt d
theorem noL_ats {ds : List PyData} (h : ∀ d ∈ ds, IsAt d) : noL 4 (.tuple ds) = true := by
  show ds.all (noL 3) = true
  rw [List.all_eq_true]
  intro d hd
  obtain ⟨a, rfl⟩ := h d hd
  exact noL_atom a
theorem PlT.firm {K : PySem.W.Frag} {H H' : Hp} {v : Addr} {ps : List (Option Int)} {ds : List PyData} {gs : List Int} {pk : Option Int} (h : PlT K H v ps ds gs pk) (e : Firm H H') : PlT K H' v ps ds gs pk := by
  obtain ⟨p, a, g, h1, h2, h3, h4⟩ := h.ex
  exact ⟨⟨p, a, g, e.tup h1, e.tup h2, dp_firm e (noL_ats h.at_) h3, e.tup h4⟩, h.at_⟩
theorem PlT.same {K : PySem.W.Frag} {H H' : Hp} {v : Addr} {ps : List (Option Int)} {ds : List PyData} {gs : List Int} {pk : Option Int} (h : PlT K H v ps ds gs pk) (e : Same H H') : PlT K H' v ps ds gs pk := h.firm (Firm.same e)
def ptD : Option Int → PyData
  | none => .none
  | some i => .int i
def seenD (ps : List (Option Int)) (ds : List PyData) (gs : List Int) (pk : Option Int) : PyData := .tuple [.tuple (ps.map ptD), .tuple ds, .tuple (gs.map .int), ptD pk]
theorem dp_pt {K : PySem.W.Frag} (H : Hp) (o : Option Int) : Dp K H (ptV o) (ptD o) := by
  cases o with
  | none => exact .non
  | some i => exact .int i
theorem dp_pts {K : PySem.W.Frag} (H : Hp) : ∀ ps : List (Option Int), DpAll K H (ps.map ptV) (ps.map ptD)
  | [] => .nil
  | o :: ps => .cons (dp_pt H o) (dp_pts H ps)
def spFree (K : PySem.W.Frag) : Sp := fun vs H Q _ => ∃ (x : Addr) (ps : List (Option Int)) (as : List (Str × List Int)) (gs : List Int) (pk : Option Int), vs = [.ref x] ∧ IsCase K H x ps as gs pk ∧ Q (.int ((ps.countP Option.isNone : Nat) : Int)) H
def spNames : Sp := fun vs H Q _ => ∃ (s c : Addr) (many : Int), vs = [.ref s, .int many] ∧ Src H s c ∧ 0 ≤ many ∧ many ≤ 10 ∧ ∀ (l : Addr) (zs : List Str) H', H l = none → H' l = some (.lst (zs.map V.str)) → zs.length = many.toNat → Src H' s c → But s H H' → Q (.ref l) H'
def spForm (K : PySem.W.Frag) : Sp := fun vs H Q _ => ∃ (t : Addr) (ps : List (Option Int)) (ds : List PyData) (gs : List Int) (pk : Option Int), vs = [.ref t] ∧ PlT K H t ps ds gs pk ∧ ps.length ≤ 1000 ∧ ∀ u H', Same H H' → Dp K H' (.ref u) (formD ps ds gs pk) → Q (.ref u) H'
def spSeen (K : PySem.W.Frag) : Sp := fun vs H Q _ => ∃ (x : Addr) (ps : List (Option Int)) (as : List (Str × List Int)) (gs : List Int) (pk : Option Int), vs = [.ref x] ∧ IsCase K H x ps as gs pk ∧ ∀ u H', Same H H' → Dp K H' (.ref u) (seenD ps (sortA as) gs pk) → Q (.ref u) H'
def spOrdered (K : PySem.W.Frag) : Sp := fun vs H Q _ => ∃ (t : Addr) (ps : List (Option Int)) (as : List (Str × List Int)) (gs : List Int) (pk : Option Int), vs = [.ref t] ∧ PlT K H t ps (as.map dAtom) gs pk ∧ as.length ≤ 1000 ∧ ∀ u H', Same H H' → PlT K H' u ps (sortA as) gs pk → Q (.ref u) H'
section
variable {P : Program} {w : World} {K : PySem.W.Frag} {mg : Str → Option Value} {base : Heap}
theorem ok_free (T : Txt K mg) : CalP P w K mg base CX0 1 (He.ga K "Case") "free" P_Case_free [] (spFree K) := by
  obtain ⟨fd, hp, F⟩ := T.P_Case_free
  have ok : FnOk P w K mg base CX0 1 (gAd K d_Case_free.at_) fd P_Case_free (spFree K) := by
    refine F.ok sc_Case_free (fun vs H Q E h => ?_) (fun cdv A outer s0 H vs Q E hr h => ?_)
    · obtain ⟨x, ps, as, gs, pk, rfl, _⟩ := h
      rfl
    · obtain ⟨x, ps, as, gs, pk, rfl, hx, k⟩ := h
      obtain ⟨dx, p, a, g, f, c, h1, h2, h3, h4, h5, h6⟩ := hx.ex
      refine ⟨_, PSs.nox (pss_one (ps_ret (pe_ix ix_tup (pe_fld (pv 0) rfl) pe_int (fun _ _ => rfl)))), ?_⟩
      exact ⟨_, rfl, x, _, dx, _, _, rfl, h1, T.cls_Case, T.na_Case_form, rfl, f, _, 0, _, rfl, rfl, h5, rfl, k⟩
  exact ⟨T.cls_Case, _, _, fd, [], hp, ok, F.bindsN (fun _ _ _ _ _ _ us hl => match us, hl with | [_], _ => rfl), .nil⟩
theorem ok_names (T : Txt K mg) : Cal P w K mg base CX0 3 "_law_names" P__law_names [] spNames := by
  have C__law_name := ok_name (P := P) (w := w) (base := base) T
  refine Cal.of T.F__law_names T.g__law_names (fun fd F => F.ok sc__law_names (fun vs H Q E h => ?_) (fun cdv A outer s0 H vs Q E hr h => ?_)) (fun _ _ _ _ _ _ us hl => match us, hl with | [_, _], _ => rfl)
  · obtain ⟨s, c, many, rfl, _⟩ := h
    rfl
  · obtain ⟨s, c, many, rfl, S, m0, m1, k⟩ := h
    refine ⟨_, PSs.nox (pss_cons (ps_set (i := 2) sc__law_names.nd rfl (Or.inl rfl) (pe_lst pa_nil))
    (pss_cons (ps_for PassesOwn.never rfl (pi_range1 (by rfl) T.f_range (pa_cons (pv 1) pa_nil)) (pg_name (i := 3) sc__law_names.nd rfl (Or.inl rfl))
    (pss_one (ps_expr (pe_bm PySem.F.plainAttrs_list PySem.F.slot_list_append PySem.F.type_list_append mt_append (pv 2) (pa_cons (pc_call C__law_name (hr.mono (by first | decide | omega)) pass0 (pa_cons (pv 0) (pa_cons (pv 2) pa_nil))) pa_nil)))))
    (pss_one (ps_ret (pv 2))))), ?_⟩
    refine ⟨Nat.zero_le _, fun l nl => ?_⟩
    have nls := S.apart nl
    have app : ∀ (zs : List Str) (z : Str), (zs.map V.str) ++ [V.str z] = (zs ++ [z]).map V.str := fun zs z => by rw [List.map_append]; rfl
    refine ⟨_, rfl, _, rfl, by omega, by omega, ?_⟩
    refine for_range (lo := 0) (n := many.toNat) (fun i σ' H' => ∃ (v3 : Option V) (zs : List Str), σ' = [some (.ref s), some (.int many), some (.ref l), v3] ∧ Src H' s c ∧ But s H H' ∧ H' l = some (.lst (zs.map V.str)) ∧ zs.length = i) ⟨none, [], rfl, S.new nl, (But.refl H).mut nl, upd_same, rfl⟩ ?_ ?_
    · rintro i σ' H1 hi ⟨v3, zs, rfl, S1, e1, hl1, lz⟩
      have lm : (zs.map V.str).length = zs.length := List.length_map _
      refine ⟨_, rfl, .inl ⟨rfl, _, SqL.of hl1⟩, _, rfl, _, rfl, s, c, l, zs, rfl, S1, hl1, nls.1, by omega, fun z H2 hz S2 e2 => ?_⟩
      have hl2 := e2 _ _ nls.1 hl1
      refine ⟨l, _, _, rfl, rfl, hl2, szl (by omega), _, zs ++ [z], rfl, S2.put nls.1 nls.2, (e1.trans e2).mut nl, by rw [upd_same, app], by rw [List.length_append, lz]; rfl⟩
    · rintro σ' H1 ⟨v3, zs, rfl, S1, e1, hl1, lz⟩
      exact ⟨_, rfl, k l zs H1 nl hl1 lz S1 e1⟩
theorem ok_form (T : Txt K mg) : Cal P w K mg base CX0 1 "_law_form" P__law_form [] (spForm K) := by
  refine Cal.of T.F__law_form T.g__law_form (fun fd F => F.ok sc__law_form (fun vs H Q E h => ?_) (fun cdv A outer s0 H vs Q E hr h => ?_)) (fun _ _ _ _ _ _ us hl => match us, hl with | [_], _ => rfl)
  · obtain ⟨t, ps, ds, gs, pk, rfl, _⟩ := h
    rfl
  · obtain ⟨t, ps, ds, gs, pk, rfl, hp, hl, k⟩ := h
    refine ⟨_, PSs.nox (pss_cons (ps_set (i := 1) sc__law_form.nd rfl (Or.inl rfl) (pe_callB call_len_seq (by rfl) T.f_len (by decide +kernel) (pa_cons (pe_lc (own := [("one", 2)]) (g := (gName 2)) rfl sc__law_form.nd (pi_tup (pe_ix ix_tup (pv 0) pe_int (fun _ _ => rfl))) (blkOk_by (N := N__law_form) (sc := defScope s__law_form) (by decide +kernel)) (fun _ _ _ _ _ => (pg_name (i := 2) sc__law_form.nd rfl (Or.inl rfl))) (fun _ _ _ _ _ => (pts_one (pt_cmpR op_isN (pv 2) pe_non (nomark _)))) (fun _ _ _ _ _ => (pv 2))) pa_nil)))
    (pss_cons (ps_set (i := 3) sc__law_form.nd rfl (Or.inl rfl) (pe_lst pa_nil))
    (pss_cons (ps_for PassesOwn.never rfl (pi_tup (pe_ix ix_tup (pv 0) pe_int (fun _ _ => rfl))) (pg_name (i := 2) sc__law_form.nd rfl (Or.inl rfl))
    (pss_one (ps_if (pt_cmpR op_isN (pv 2) pe_non (nomark _)) (pss_one (ps_expr (pe_bm PySem.F.plainAttrs_list PySem.F.slot_list_append PySem.F.type_list_append mt_append (pv 3) (pa_cons (pe_tup pa_nil) pa_nil))))
    (pss_one (ps_expr (pe_bm PySem.F.plainAttrs_list PySem.F.slot_list_append PySem.F.type_list_append mt_append (pv 3) (pa_cons (pe_tup (pa_cons (pv 2) pa_nil)) pa_nil)))))))
    (pss_cons (ps_set (i := 4) sc__law_form.nd rfl (Or.inl rfl) (pe_un un_neg pe_int))
    (C8.pss_cut (ps_if (pt_cmpR op_notN (pe_ix ix_tup (pv 0) pe_int (fun _ _ => rfl)) pe_non (nomark _)) (pss_one (ps_set (i := 4) sc__law_form.nd rfl (Or.inl rfl) (pe_ix ix_tup (pv 0) pe_int (fun _ _ => rfl))))
    pss_nil)
    (pss_one (ps_ret (pe_tup (pa_cons (pv 1) (pa_cons (pe_callTy (call_tupA (K := K) rfl) (by rfl) T.f_tuple (by decide +kernel) (pa_cons (pv 3) pa_nil)) (pa_cons (pe_ix ix_tup (pv 0) pe_int (fun _ _ => rfl)) (pa_cons (pe_ix ix_tup (pv 0) pe_int (fun _ _ => rfl)) (pa_cons (pv 4) pa_nil))))))))))))), ?_⟩
    obtain ⟨p, a, g, h1, h2, h3, h4⟩ := hp.ex
    have lm : (ps.map ptV).length = ps.length := List.length_map _
    refine ⟨_, rfl, t, _, 0, _, rfl, rfl, h1, rfl, p, rfl, ⟨_, h2⟩, fun D nD => ?_⟩
    refine lc_it (walk_tup (xs := ps.map ptV)) (fun i H' => Same H H' ∧ ∃ vs : List V, H' D = some (.lst vs) ∧ vs.length = (ps.take i).countP Option.isNone) ⟨same_new (Same.refl H) nD, [], upd_same, rfl⟩ (fun i H' _ q => same_tup q.1 h2) ?_ ?_
    · rintro i y _ H1 hi ⟨s1, vs, hD, hv⟩ ⟨rfl, hy⟩
      obtain ⟨o, ho, rfl⟩ := map_get hy
      have ec : (ps.take (i + 1)).countP Option.isNone = (ps.take i).countP Option.isNone + (if o.isNone = true then 1 else 0) := by
        rw [take_snoc ho, List.countP_append, List.countP_singleton]
      have : (ps.take i).countP Option.isNone ≤ (ps.take i).length := List.countP_le_length
      rw [List.length_take] at this
      refine ⟨rfl, _, rfl, rfl, _, rfl, ?_⟩
      cases o with
      | none => exact ⟨_, rfl, vs, hD, szl (by omega), same_mut s1 nD, _, upd_same, by rw [List.length_append, hv, ec]; rfl⟩
      | some j => exact ⟨s1, vs, hD, by rw [hv, ec]; rfl⟩
    · rintro H1 ⟨s1, vs, hD, hv⟩
      rw [lm, List.take_length] at hv
      refine ⟨D, _, rfl, .inl (SqL.of hD), ?_⟩
      rw [hv]
      refine ⟨Nat.zero_le _, fun l nl => ?_⟩
      have s2 : Same H (upd H1 l (.lst [])) := same_new s1 nl
      refine ⟨_, rfl, t, _, 0, _, rfl, rfl, same_tup s2 h1, rfl, p, rfl, ⟨_, same_tup s2 h2⟩, ?_⟩
      refine for_it (walk_tup (xs := ps.map ptV)) (fun i σ' H' => Same H1 H' ∧ (∃ vs : List V, H' l = some (.lst vs) ∧ DpAll K H' vs ((ps.take i).map codeD)) ∧ ∃ v2 : Option V, σ' = [some (.ref t), some (.int ((ps.countP Option.isNone : Nat) : Int)), v2, some (.ref l), none]) ⟨same_new (Same.refl H1) nl, ⟨[], upd_same, .nil⟩, _, rfl⟩ (fun i σ' H' _ q => same_tup q.1 (same_tup s1 h2)) ?_ ?_
      · rintro i y σ' _ H3 hi ⟨s3, ⟨vs, hl3, hdp⟩, v2, rfl⟩ ⟨rfl, hy⟩
        obtain ⟨o, ho, rfl⟩ := map_get hy
        have lv : vs.length ≤ i := by
          rw [dp_len hdp, List.length_map, List.length_take]
          omega
        rw [lm] at hi
        have fin : ∀ {t' : Addr} {xs : List V}, H3 t' = none → Dp K (upd H3 t' (.tup xs)) (.ref t') (codeD o) → (upd H3 t' (.tup xs)) l = some (.lst vs) ∧ Same H1 (upd (upd H3 t' (.tup xs)) l (.lst (vs ++ [.ref t']))) ∧
            ∃ vs' : List V, (upd (upd H3 t' (.tup xs)) l (.lst (vs ++ [.ref t']))) l = some (.lst vs') ∧ DpAll K (upd (upd H3 t' (.tup xs)) l (.lst (vs ++ [.ref t']))) vs' ((ps.take (i + 1)).map codeD) := by
          intro t' xs nt d
          have hD6 : (upd H3 t' (.tup xs)) l = some (.lst vs) := by rw [upd_ne (ne_of_none hl3 nt)]; exact hl3
          have s6 : Same H3 (upd H3 t' (.tup xs)) := same_new (Same.refl H3) nt
          refine ⟨hD6, same_mut (fun b o e => s6 _ _ (s3 _ _ e)) nl, _, upd_same, ?_⟩
          rw [take_snoc ho, List.map_append]
          exact dpAll_lst hD6 (n := 3) noL_codes (dpAll_snoc d (dpAll_same s6 hdp))
        refine ⟨_, rfl, rfl, _, rfl, ?_⟩
        cases o with
        | none =>
          refine ⟨_, rfl, .inl ⟨rfl, _, SqL.of hl3⟩, by show 0 ≤ sizeLine; decide, fun t' nt => ?_⟩
          obtain ⟨f1, f2, f3⟩ := fin nt (show Dp K _ _ (.tuple []) from .tup (SqT.of upd_same) .nil)
          exact ⟨l, _, _, rfl, rfl, f1, szl (by omega), f2, f3, _, rfl⟩
        | some j =>
          refine ⟨_, rfl, .inl ⟨rfl, _, SqL.of hl3⟩, _, rfl, by show 1 ≤ sizeLine; decide, fun t' nt => ?_⟩
          obtain ⟨f1, f2, f3⟩ := fin nt (show Dp K _ _ (.tuple [.int j]) from .tup (SqT.of upd_same) (.cons (.int j) .nil))
          exact ⟨l, _, _, rfl, rfl, f1, szl (by omega), f2, f3, _, rfl⟩
      · rintro σ' H3 ⟨s3, ⟨vs, hl3, hdp⟩, v2, rfl⟩
        rw [lm, List.take_length] at hdp
        have s03 : Same H H3 := fun b o e => s3 _ _ (s1 _ _ e)
        refine ⟨1, rfl, ⟨fun σ' H' => H' = H3 ∧ ∃ v2 : Option V, σ' = [some (.ref t), some (.int ((ps.countP Option.isNone : Nat) : Int)), v2, some (.ref l), some (.int (pickI pk))], ?_, ?_⟩⟩
        · refine ⟨_, rfl, t, _, 3, _, rfl, rfl, same_tup s03 h1, rfl, rfl, _, rfl, ?_⟩
          cases pk with
          | none => exact ⟨rfl, _, rfl⟩
          | some j => exact ⟨_, rfl, t, _, 3, _, rfl, rfl, same_tup s03 h1, rfl, rfl, _, rfl⟩
        · rintro σ' _ ⟨rfl, v2, rfl⟩
          refine ⟨_, rfl, _, rfl, l, _, rfl, .inl (SqL.of hl3), fun q H4 hq s4 => ?_⟩
          have s04 : Same H H4 := fun b o e => s4 _ _ (s03 _ _ e)
          refine ⟨_, rfl, t, _, 1, _, rfl, rfl, same_tup s04 h1, rfl, _, rfl, t, _, 2, _, rfl, rfl, same_tup s04 h1, rfl, _, rfl, by show 5 ≤ sizeLine; decide, fun u nu => ?_⟩
          have s5 : ∀ o : HO, Same H4 (upd H4 u o) := fun o => same_new (Same.refl H4) nu
          have s05 : ∀ o : HO, Same H (upd H4 u o) := fun o b o' e => s5 o _ _ (s04 _ _ e)
          exact k u _ (s05 _) (.tup (SqT.of upd_same) (.cons (.int _) (.cons (.tup (same_tup (s5 _) hq) (dpAll_same (s5 _) (dpAll_same s4 hdp))) (.cons (dp_same (s05 _) h3) (.cons (.tup (same_tup (s05 _) h4) (dp_ints gs)) (.cons (.int _) .nil))))))
theorem ok_seen (T : Txt K mg) : Cal P w K mg base CX0 1 "_law_seen" P__law_seen [] (spSeen K) := by
  refine Cal.of T.F__law_seen T.g__law_seen (fun fd F => F.ok sc__law_seen (fun vs H Q E h => ?_) (fun cdv A outer s0 H vs Q E hr h => ?_)) (fun _ _ _ _ _ _ us hl => match us, hl with | [_], _ => rfl)
  · obtain ⟨x, ps, as, gs, pk, rfl, _⟩ := h
    rfl
  · obtain ⟨x, ps, as, gs, pk, rfl, hx, k⟩ := h
    obtain ⟨dx, p, a, g, f, c, h1, h2, h3, h4, h5, h6⟩ := hx.ex
    refine ⟨_, PSs.nox (pss_one (ps_ret (pe_tup (pa_cons (pe_fld (pv 0) rfl) (pa_cons (pe_fld (pv 0) rfl) (pa_cons (pe_fld (pv 0) rfl) (pa_cons (pe_fld (pv 0) rfl) pa_nil))))))), ?_⟩
    refine ⟨_, rfl, x, _, dx, _, _, rfl, h1, T.cls_Case, T.na_Case_points, rfl, _, rfl, x, _, dx, _, _, rfl, h1, T.cls_Case, T.na_Case_atoms, rfl, _, rfl, x, _, dx, _, _, rfl, h1, T.cls_Case, T.na_Case_groups, rfl, _, rfl, x, _, dx, _, _, rfl, h1, T.cls_Case, T.na_Case_pick, rfl, by show 4 ≤ sizeLine; decide, fun u nu => ?_⟩
    have s1 : Same H (upd H u (.tup [.ref p, .ref a, .ref g, ptV pk])) := same_new (Same.refl H) nu
    exact k u _ s1 (.tup (SqT.of upd_same) (.cons (.tup (same_tup s1 h2) (dp_pts _ ps)) (.cons (dp_same s1 h3) (.cons (.tup (same_tup s1 h4) (dp_ints gs)) (.cons (dp_pt _ pk) .nil)))))
theorem ok_ordered (T : Txt K mg) : Cal P w K mg base CX0 1 "_law_ordered" P__law_ordered [] (spOrdered K) := by
  refine Cal.of T.F__law_ordered T.g__law_ordered (fun fd F => F.ok sc__law_ordered (fun vs H Q E h => ?_) (fun cdv A outer s0 H vs Q E hr h => ?_)) (fun _ _ _ _ _ _ us hl => match us, hl with | [_], _ => rfl)
  · obtain ⟨t, ps, as, gs, pk, rfl, _⟩ := h
    rfl
  · obtain ⟨t, ps, as, gs, pk, rfl, hp, hl, k⟩ := h
    refine ⟨_, PSs.nox (pss_one (ps_ret (pe_tup (pa_cons (pe_ix ix_tup (pv 0) pe_int (fun _ _ => rfl)) (pa_cons (pe_callTy (call_tupA (K := K) rfl) (by rfl) T.f_tuple (by decide +kernel) (pa_cons (pe_callB (cr_sortedDR hr) (by rfl) T.f_sorted (by decide +kernel) (pa_cons (pe_callTy call_list_of (by rfl) T.f_list (by decide +kernel) (pa_cons (pe_ix ix_tup (pv 0) pe_int (fun _ _ => rfl)) pa_nil)) pa_nil)) pa_nil)) (pa_cons (pe_ix ix_tup (pv 0) pe_int (fun _ _ => rfl)) (pa_cons (pe_ix ix_tup (pv 0) pe_int (fun _ _ => rfl)) pa_nil))))))), ?_⟩
    obtain ⟨p, a, g, h1, h2, h3, h4⟩ := hp.ex
    have ll : (as.map dAtom).length = as.length := List.length_map _
    cases h3 with
    | tup ha hda =>
      rename_i xs
      refine ⟨_, rfl, t, _, 0, _, rfl, rfl, h1, rfl, _, rfl, t, _, 1, _, rfl, rfl, h1, rfl, a, _, rfl, .inr ha, fun l nl => ?_⟩
      have s1 : Same H (upd H l (.lst xs)) := same_new (Same.refl H) nl
      generalize e1 : upd H l (.lst xs) = H1 at s1
      have hl1 : H1 l = some (.lst xs) := by rw [← e1]; exact upd_same
      clear e1
      obtain ⟨bs, z1, z2, z3⟩ := dpAll_zip (dpAll_same s1 hda)
      refine ⟨l, bs, rfl, by rw [z1]; exact SqL.of hl1, z3, by rw [z2]; exact allAlike_atoms as, by rw [z2]; exact sortable_atoms as, fun b hb => depth_atoms as _ (by rw [← z2]; exact List.mem_map_of_mem hb), fun p2 np2 => ?_⟩
      have hws := sorted_dp z2 z3
      generalize (bs.mergeSort (PySem.W.dataLe false Prod.snd)).map Prod.fst = ws at hws
      refine ⟨p2, ws, rfl, .inl (SqL.of upd_same), fun p3 H4 hp3 s4 => ?_⟩
      have sx3 : Same H H4 := fun b o e => s4 _ _ (by rw [upd_ne (ne_of_none (s1 _ _ e) np2)]; exact s1 _ _ e)
      have da4 : Dp K H4 (.ref p3) (.tuple (sortA as)) := .tup hp3 (dpAll_same (fun b o e => s4 _ _ (by rw [upd_ne (ne_of_none e np2)]; exact e)) hws)
      refine ⟨_, rfl, t, _, 2, _, rfl, rfl, same_tup sx3 h1, rfl, _, rfl, t, _, 3, _, rfl, rfl, same_tup sx3 h1, rfl, by show 4 ≤ sizeLine; decide, fun u nu => ?_⟩
      have s5 : ∀ o : HO, Same H4 (upd H4 u o) := fun o => same_new (Same.refl H4) nu
      have s05 : ∀ o : HO, Same H (upd H4 u o) := fun o b o' e => s5 o _ _ (sx3 _ _ e)
      exact k u _ (s05 _) ⟨⟨p, p3, g, SqT.of upd_same, same_tup (s05 _) h2, dp_same (s5 _) da4, same_tup (s05 _) h4⟩, isAt_sort⟩
end
/-- not too long -/
structure Sm (ps : List (Option Int)) (as : List (Str × List Int)) (gs : List Int) : Prop where
  p : ps.length ≤ 1000
  a : as.length ≤ 1000
  g : gs.length ≤ 1000
  i : ∀ x ∈ as, x.2.length ≤ 1000
theorem ok_intsT {n : Nat} {ns : List Int} (h : ns.length ≤ 1000) : okD (n + 2) (.tuple (ns.map PyData.int)) = true := by
  show (decide ((ns.map PyData.int).length ≤ 100000) && (ns.map PyData.int).all (okD (n + 1))) = true
  rw [okD_ints, List.length_map, decide_eq_true (show ns.length ≤ 100000 by omega)]
  rfl
theorem okD_atom {x : Str × List Int} (h : x.2.length ≤ 1000) : okD 3 (dAtom x) = true := by
  show (decide (2 ≤ 100000) && (true && (okD 2 (.tuple (x.2.map .int)) && true))) = true
  rw [ok_intsT h]
  rfl
theorem okD_ats {as : List (Str × List Int)} (h1 : as.length ≤ 1000) (h2 : ∀ x ∈ as, x.2.length ≤ 1000) : okD 4 (.tuple (sortA as)) = true := by
  show (decide ((sortA as).length ≤ 100000) && (sortA as).all (okD 3)) = true
  have e : (sortA as).length = as.length := by
    unfold sortA
    rw [List.length_mergeSort, List.length_map]
  have e2 : (sortA as).all (okD 3) = true := by
    rw [List.all_eq_true]
    intro d hd
    obtain ⟨a, ha, rfl⟩ := List.mem_map.mp (List.mem_mergeSort.mp hd)
    exact okD_atom (h2 a ha)
  rw [e, e2, decide_eq_true (show as.length ≤ 100000 by omega)]
  rfl
theorem okD_seen {ps : List (Option Int)} {as : List (Str × List Int)} {gs : List Int} {pk : Option Int} (h : Sm ps as gs) : okD 5 (seenD ps (sortA as) gs pk) = true := by
  have h1 : okD 4 (.tuple (ps.map ptD)) = true := by
    show (decide ((ps.map ptD).length ≤ 100000) && (ps.map ptD).all (okD 3)) = true
    have e2 : (ps.map ptD).all (okD 3) = true := by
      rw [List.all_eq_true]
      intro d hd
      obtain ⟨a, ha, rfl⟩ := List.mem_map.mp hd
      cases a <;> rfl
    have := h.p
    rw [e2, List.length_map, decide_eq_true (show ps.length ≤ 100000 by omega)]
    rfl
  have h3 : okD 4 (ptD pk) = true := by cases pk <;> rfl
  show (decide (4 ≤ 100000) && (okD 4 (.tuple (ps.map ptD)) && (okD 4 (.tuple (sortA as)) && (okD 4 (.tuple (gs.map .int)) && (okD 4 (ptD pk) && true))))) = true
  rw [h1, okD_ats h.a h.i, ok_intsT h.g, h3]
  rfl
theorem okD_form {ps : List (Option Int)} {as : List (Str × List Int)} {gs : List Int} {pk : Option Int} (h : Sm ps as gs) : okD 5 (formD ps (sortA as) gs pk) = true := by
  have h1 : okD 4 (.tuple (ps.map codeD)) = true := by
    show (decide ((ps.map codeD).length ≤ 100000) && (ps.map codeD).all (okD 3)) = true
    have e2 : (ps.map codeD).all (okD 3) = true := by
      rw [List.all_eq_true]
      intro d hd
      obtain ⟨a, ha, rfl⟩ := List.mem_map.mp hd
      cases a <;> rfl
    have := h.p
    rw [e2, List.length_map, decide_eq_true (show ps.length ≤ 100000 by omega)]
    rfl
  show (decide (5 ≤ 100000) && (true && (okD 4 (.tuple (ps.map codeD)) && (okD 4 (.tuple (sortA as)) && (okD 4 (.tuple (gs.map .int)) && (true && true)))))) = true
  rw [h1, okD_ats h.a h.i, ok_intsT h.g]
  rfl
theorem PlT.dp {K : PySem.W.Frag} {H : Hp} {v : Addr} {ps : List (Option Int)} {ds : List PyData} {gs : List Int} {pk : Option Int} (h : PlT K H v ps ds gs pk) : Dp K H (.ref v) (seenD ps ds gs pk) := by
  obtain ⟨p, a, g, h1, h2, h3, h4⟩ := h.ex
  exact .tup h1 (.cons (.tup h2 (dp_pts _ ps)) (.cons h3 (.cons (.tup h4 (dp_ints gs)) (.cons (dp_pt _ pk) .nil))))
def spIsCase (K : PySem.W.Frag) : Sp := fun vs H Q _ => ∃ (x t : Addr) (ps : List (Option Int)) (as : List (Str × List Int)) (gs : List Int) (pk : Option Int), vs = [.ref x, .ref t] ∧ IsCase K H x ps as gs pk ∧ PlT K H t ps (as.map dAtom) gs pk ∧ Sm ps as gs ∧ ∀ H', Same H H' → Q (.bl true) H'
section
variable {P : Program} {w : World} {K : PySem.W.Frag} {mg : Str → Option Value} {base : Heap}
theorem ok_isCase (T : Txt K mg) : Cal P w K mg base CX0 8 "_law_is_case" P__law_is_case [] (spIsCase K) := by
  have C__law_ordered := ok_ordered (P := P) (w := w) (base := base) T
  have C__law_seen := ok_seen (P := P) (w := w) (base := base) T
  have C__law_form := ok_form (P := P) (w := w) (base := base) T
  have C__law_same := ok_same (P := P) (w := w) (base := base) T 5
  have C_Case_free := ok_free (P := P) (w := w) (base := base) T
  refine Cal.of T.F__law_is_case T.g__law_is_case (fun fd F => F.ok sc__law_is_case (fun vs H Q E h => ?_) (fun cdv A outer s0 H vs Q E hr h => ?_)) (fun _ _ _ _ _ _ us hl => match us, hl with | [_, _], _ => rfl)
  · obtain ⟨x, t, ps, as, gs, pk, rfl, _⟩ := h
    rfl
  · obtain ⟨x, t, ps, as, gs, pk, rfl, hx, hp, hs, k⟩ := h
    have hsp := hs.p
    have hsa := hs.a
    refine ⟨_, PSs.nox (pss_cons (ps_set (i := 2) sc__law_is_case.nd rfl (Or.inl rfl) (pc_call C__law_ordered (hr.mono (by first | decide | omega)) pass0 (pa_cons (pv 1) pa_nil)))
    (pss_cons (ps_if (PW.pt (pw_or (pt_not (pt_val (pe_callB call_isi (by rfl) T.f_isinstance (by decide +kernel) (pa_cons (pv 0) (pa_cons (pe_glob (v := .ref (He.ga K "Case")) rfl T.g_Case rfl) pa_nil))))) (pw_or1 (pt_not (pt_val (pc_call C__law_same (hr.mono (by first | decide | omega)) pass0 (pa_cons (pc_call C__law_seen (hr.mono (by first | decide | omega)) pass0 (pa_cons (pv 0) pa_nil)) (pa_cons (pv 2) pa_nil)))))))) (pss_one (ps_ret pe_bl))
    pss_nil)
    (pss_cons (ps_if (pt_not (pt_val (pc_call C__law_same (hr.mono (by first | decide | omega)) pass0 (pa_cons (pe_fld (pv 0) rfl) (pa_cons (pc_call C__law_form (hr.mono (by first | decide | omega)) pass0 (pa_cons (pv 2) pa_nil)) pa_nil))))) (pss_one (ps_ret pe_bl))
    pss_nil)
    (pss_one (ps_ret (pc_call C__law_same (hr.mono (by first | decide | omega)) pass0 (pa_cons (pc_prop C_Case_free (hr.mono (by first | decide | omega)) pass0 (pv 0)) (pa_cons (pe_callB call_len_seq (by rfl) T.f_len (by decide +kernel) (pa_cons (pe_lc (own := [("one", 3)]) (g := (gName 3)) rfl sc__law_is_case.nd (pi_tup (pe_ix ix_tup (pv 2) pe_int (fun _ _ => rfl))) (blkOk_by (N := N__law_is_case) (sc := defScope s__law_is_case) (by decide +kernel)) (fun _ _ _ _ _ => (pg_name (i := 3) sc__law_is_case.nd rfl (Or.inl rfl))) (fun _ _ _ _ _ => (pts_one (pt_cmpR op_isN (pv 3) pe_non (nomark _)))) (fun _ _ _ _ _ => (pv 3))) pa_nil)) pa_nil)))))))), ?_⟩
    refine ⟨_, rfl, t, ps, as, gs, pk, rfl, hp, by omega, fun u H1 s1 hu => ?_⟩
    have hx1 := hx.firm (Firm.same s1)
    obtain ⟨dx, p0, a0, g0, f0, hy1, df⟩ := hx1.form
    refine ⟨_, rfl, _, _, _, _, _, rfl, .own _, tyx_ins hy1 T.cls_Case T.own_Case.1, T.own_Case.1.is, _, rfl, iteF ?_⟩
    refine ⟨_, rfl, x, ps, as, gs, pk, rfl, hx1, fun v H2 s2 hv => ?_⟩
    have hu2 := hu.same s2
    refine ⟨_, rfl, _, _, _, rfl, hv, hu2.dp, okD_seen hs, _, rfl, iteF ?_⟩
    have hx2 := hx1.firm (Firm.same s2)
    obtain ⟨dx, p0, a0, g0, f0, hy2, df2⟩ := hx2.form
    refine ⟨_, rfl, x, _, dx, _, _, rfl, hy2, T.cls_Case, T.na_Case_form, rfl, _, rfl, u, ps, _, gs, pk, rfl, hu2, by omega, fun q H3 s3 hq => ?_⟩
    refine ⟨_, _, _, rfl, dp_same s3 df2, hq, okD_form hs, _, rfl, iteF ?_⟩
    have hx3 := hx2.firm (Firm.same s3)
    obtain ⟨dx, p0, a0, g0, f0, hy3, df3⟩ := hx3.form
    obtain ⟨p, a, g, h1, h2, h3, h4⟩ := (hu2.same s3).ex
    have s03 : Same H H3 := fun b o e => s3 _ _ (s2 _ _ (s1 _ _ e))
    have lm : (ps.map ptV).length = ps.length := List.length_map _
    refine ⟨_, rfl, x, dx, _, rfl, hy3, ⟨x, ps, as, gs, pk, rfl, hx3, ?_⟩⟩
    refine ⟨_, rfl, u, _, 0, _, rfl, rfl, h1, rfl, p, rfl, ⟨_, h2⟩, fun D nD => ?_⟩
    refine lc_it (walk_tup (xs := ps.map ptV)) (fun i H' => Same H3 H' ∧ ∃ vs : List V, H' D = some (.lst vs) ∧ vs.length = (ps.take i).countP Option.isNone) ⟨same_new (Same.refl H3) nD, [], upd_same, rfl⟩ (fun i H' _ q => same_tup q.1 h2) ?_ ?_
    · rintro i y _ H4 hi ⟨s4, vs, hD, hv⟩ ⟨rfl, hy⟩
      obtain ⟨o, ho, rfl⟩ := map_get hy
      have ec : (ps.take (i + 1)).countP Option.isNone = (ps.take i).countP Option.isNone + (if o.isNone = true then 1 else 0) := by
        rw [take_snoc ho, List.countP_append, List.countP_singleton]
      have : (ps.take i).countP Option.isNone ≤ (ps.take i).length := List.countP_le_length
      rw [List.length_take] at this
      refine ⟨rfl, _, rfl, rfl, _, rfl, ?_⟩
      cases o with
      | none => exact ⟨_, rfl, vs, hD, szl (by omega), same_mut s4 nD, _, upd_same, by rw [List.length_append, hv, ec]; rfl⟩
      | some j => exact ⟨s4, vs, hD, by rw [hv, ec]; rfl⟩
    · rintro H4 ⟨s4, vs, hD, hv⟩
      rw [lm, List.take_length] at hv
      refine ⟨D, _, rfl, .inl (SqL.of hD), ?_⟩
      rw [hv]
      exact ⟨_, _, .int _, rfl, .int _, .int _, rfl, k H4 fun b o e => s4 _ _ (s03 _ _ e)⟩
end
/-- marks far enough apart -/
def Asc (ps : List (Option Int)) : Prop := ∀ (i j : Nat) (u v : Int), i < j → ps[i]? = some (some u) → ps[j]? = some (some v) → u + ((j : Int) - (i : Int)) ≤ v
def spPoints (K : PySem.W.Frag) : Sp := fun vs H Q _ => ∃ (s c : Addr) (marks most : Int), vs = [.ref s, .int marks, .int most] ∧ Src H s c ∧ 0 ≤ marks ∧ marks ≤ 10 ∧ 2 ≤ most ∧ most ≤ 20 ∧
  ∀ t ps H', SqT K H' t (ps.map ptV) → Asc ps → 1 ≤ ps.length → ps.length ≤ 100 → Src H' s c → But s H H' → Q (.ref t) H'
theorem src_neL {H : Hp} {s c o : Addr} {xs : List V} (S : Src H s c) (h : H o = some (.lst xs)) : o ≠ s := by
  obtain ⟨ns, a, l, m, d, hs, _⟩ := S.ex
  exact ne_of h hs (by intro z; cases z)
/-- what is drawn so far: where the next mark may stand -/
def Drawn (ps : List (Option Int)) (b : Int) : Prop := Asc ps ∧ ∀ (j : Nat) (v : Int), ps[j]? = some (some v) → v + ((ps.length : Int) - (j : Int)) ≤ b
theorem get_nones {n j : Nat} {v : Int} : (List.replicate n (none : Option Int))[j]? = some (some v) → False := fun h => by
  have := List.mem_of_getElem? h
  rw [List.mem_replicate] at this
  cases this.2
theorem drawn_nones {n : Nat} {b : Int} : Drawn (List.replicate n none) b := ⟨fun i j u v _ h _ => (get_nones h).elim, fun j v h => (get_nones h).elim⟩
theorem drawn_get {ps : List (Option Int)} {b : Int} {n j : Nat} {v : Int} (h : (ps ++ some b :: List.replicate n none)[j]? = some (some v)) : (j < ps.length ∧ ps[j]? = some (some v)) ∨ (j = ps.length ∧ v = b) := by
  rcases Nat.lt_or_ge j ps.length with z | z
  · rw [List.getElem?_append_left z] at h
    exact .inl ⟨z, h⟩
  · rw [List.getElem?_append_right z] at h
    cases q : j - ps.length with
    | zero =>
      rw [q] at h
      exact .inr ⟨by omega, (Option.some.inj (Option.some.inj h)).symm⟩
    | succ m =>
      rw [q] at h
      exact (get_nones (n := n) (j := m) h).elim
theorem drawn_more {ps : List (Option Int)} {b b' : Int} {n : Nat} (h : Drawn ps b) (hb : b + 1 + (n : Int) ≤ b') : Drawn (ps ++ some b :: List.replicate n none) b' := by
  refine ⟨fun i j u v hij hi hj => ?_, fun j v hj => ?_⟩
  · rcases drawn_get hi with ⟨z1, q1⟩ | ⟨z1, rfl⟩
    · rcases drawn_get hj with ⟨z2, q2⟩ | ⟨z2, rfl⟩
      · exact h.1 i j u v hij q1 q2
      · have := h.2 i u q1
        rw [z2]
        exact this
    · rcases drawn_get hj with ⟨z2, q2⟩ | ⟨z2, rfl⟩ <;> omega
  · rw [List.length_append, List.length_cons, List.length_replicate]
    rcases drawn_get hj with ⟨z1, q1⟩ | ⟨z1, rfl⟩
    · have := h.2 j v q1
      omega
    · omega
theorem ptV_nones (n : Nat) : (List.replicate n (none : Option Int)).map ptV = List.replicate n V.non := by
  rw [List.map_replicate]
  rfl
section
variable {P : Program} {w : World} {K : PySem.W.Frag} {mg : Str → Option Value} {base : Heap}
theorem ok_points (T : Txt K mg) : Cal P w K mg base CX0 2 "_law_drawn_points" P__law_drawn_points [] (spPoints K) := by
  have C__law_draw := ok_draw (P := P) (w := w) (base := base) T
  refine Cal.of T.F__law_drawn_points T.g__law_drawn_points (fun fd F => F.ok sc__law_drawn_points (fun vs H Q E h => ?_) (fun cdv A outer s0 H vs Q E hr h => ?_)) (fun _ _ _ _ _ _ us hl => match us, hl with | [_, _, _], _ => rfl)
  · obtain ⟨s, c, marks, most, rfl, _⟩ := h
    rfl
  · obtain ⟨s, c, marks, most, rfl, S, m0, m1, m2, m3, k⟩ := h
    refine ⟨_, PSs.nox (pss_cons (ps_set (i := 3) sc__law_drawn_points.nd rfl (Or.inl rfl) (pv 2))
    (pss_cons (ps_setLc (i := 4) (own := [("k", 5)]) (g := (gName 5)) (tt := tYes) rfl sc__law_drawn_points.nd rfl rfl (sw_true rfl rfl rfl (by decide +kernel)) (pi_range1 (by rfl) T.f_range (pa_cons (pc_call C__law_draw (hr.mono (by first | decide | omega)) pass0 (pa_cons (pv 0) (pa_cons pe_int pa_nil))) pa_nil)) (blkOk_by (N := N__law_drawn_points) (sc := defScope s__law_drawn_points) (by decide +kernel)) (fun _ _ _ _ _ => (pg_name (i := 5) sc__law_drawn_points.nd rfl (Or.inl rfl))) (fun _ _ _ _ _ => pts_nil) (fun _ _ _ _ _ => pe_non))
    (pss_cons (ps_set (i := 3) sc__law_drawn_points.nd rfl (Or.inl rfl) (pe_op op_sub (pv 3) (pe_callB call_len_seq (by rfl) T.f_len (by decide +kernel) (pa_cons (pv 4) pa_nil))))
    (pss_cons (ps_set (i := 6) sc__law_drawn_points.nd rfl (Or.inl rfl) (pe_op op_sub (pc_call C__law_draw (hr.mono (by first | decide | omega)) pass0 (pa_cons (pv 0) (pa_cons pe_int pa_nil))) pe_int))
    (C8.pss_cut (ps_if (pt_cmpR op_eq (pc_call C__law_draw (hr.mono (by first | decide | omega)) pass0 (pa_cons (pv 0) (pa_cons pe_int pa_nil))) pe_int (nomark _)) (pss_one (ps_set (i := 6) sc__law_drawn_points.nd rfl (Or.inl rfl) (pe_op op_sub (pc_call C__law_draw (hr.mono (by first | decide | omega)) pass0 (pa_cons (pv 0) (pa_cons (pe_op op_add (pe_op op_mul pe_int (pe_op op_pow pe_int pe_int)) pe_int) pa_nil))) (pe_op op_pow pe_int pe_int))))
    pss_nil)
    (pss_cons (ps_for PassesOwn.never rfl (pi_range1 (by rfl) T.f_range (pa_cons (pv 1) pa_nil)) (pg_name (i := 5) sc__law_drawn_points.nd rfl (Or.inl rfl))
    (pss_cons (ps_set (i := 7) sc__law_drawn_points.nd rfl (Or.inl rfl) (pe_callB (call_min2 rfl) (by rfl) T.f_min (by decide +kernel) (pa_cons (pc_call C__law_draw (hr.mono (by first | decide | omega)) pass0 (pa_cons (pv 0) (pa_cons pe_int pa_nil))) (pa_cons (pv 3) pa_nil))))
    (pss_cons (ps_set (i := 3) sc__law_drawn_points.nd rfl (Or.inl rfl) (pe_op op_sub (pv 3) (pv 7)))
    (pss_cons (ps_set (i := 4) sc__law_drawn_points.nd rfl (Or.inl rfl) (pe_op op_cat (pe_op op_cat (pv 4) (pe_lst (pa_cons (pv 6) pa_nil))) (pe_lc (own := [("j", 8)]) (g := (gName 8)) (tt := tYes) rfl sc__law_drawn_points.nd (pi_range1 (by rfl) T.f_range (pa_cons (pv 7) pa_nil)) (blkOk_by (N := N__law_drawn_points) (sc := defScope s__law_drawn_points) (by decide +kernel)) (fun _ _ _ _ _ => (pg_name (i := 8) sc__law_drawn_points.nd rfl (Or.inl rfl))) (fun _ _ _ _ _ => pts_nil) (fun _ _ _ _ _ => pe_non))))
    (pss_cons (ps_set (i := 6) sc__law_drawn_points.nd rfl (Or.inl rfl) (pe_op op_add (pe_op op_add (pe_op op_add (pv 6) pe_int) (pv 7)) (pe_ix ix_list (pe_lst (pa_cons pe_int (pa_cons pe_int (pa_cons pe_int (pa_cons pe_int pa_nil))))) (pc_call C__law_draw (hr.mono (by first | decide | omega)) pass0 (pa_cons (pv 0) (pa_cons pe_int pa_nil))) (fun _ _ => rfl))))
    (pss_one (ps_if (pt_cmpR op_eq (pc_call C__law_draw (hr.mono (by first | decide | omega)) pass0 (pa_cons (pv 0) (pa_cons pe_int pa_nil))) pe_int (nomark _)) (pss_one (ps_set (i := 6) sc__law_drawn_points.nd rfl (Or.inl rfl) (pe_op op_add (pv 6) (pc_call C__law_draw (hr.mono (by first | decide | omega)) pass0 (pa_cons (pv 0) (pa_cons (pe_op op_pow pe_int pe_int) pa_nil))))))
    pss_nil)))))))
    (C8.pss_cut (ps_if (pt_cmpR op_eq (pe_callB call_len_seq (by rfl) T.f_len (by decide +kernel) (pa_cons (pv 4) pa_nil)) pe_int (nomark _)) (pss_one (ps_set (i := 4) sc__law_drawn_points.nd rfl (Or.inl rfl) (pe_lst (pa_cons pe_non pa_nil))))
    pss_nil)
    (pss_one (ps_ret (pe_callTy (call_tupA (K := K) rfl) (by rfl) T.f_tuple (by decide +kernel) (pa_cons (pv 4) pa_nil))))))))))), ?_⟩
    refine ⟨_, rfl, _, rfl, s, c, 3, rfl, S, by decide, by decide, fun r1 H1 a1 b1 S1 e1 => ?_⟩
    refine ⟨r1, rfl, by omega, by omega, fun D nD => ?_⟩
    refine lc_it walk_range (fun i H' => Same H1 H' ∧ H' D = some (.lst (List.replicate i V.non))) ⟨same_new (Same.refl H1) nD, upd_same⟩ (fun i H' _ q => trivial) ?_ ?_
    · rintro i y H2 H3 hi ⟨s2, hD⟩ ⟨rfl, rfl⟩
      exact ⟨rfl, _, hD, szl (by rw [List.length_replicate]; omega), same_mut s2 nD, by rw [upd_same, ← List.replicate_succ']⟩
    · rintro H2 ⟨s2, hD⟩
      have S2 := S1.same s2
      have e2 : But s H H2 := e1.trans (But.same s2)
      have ll : (List.replicate r1.toNat V.non).length = r1.toNat := List.length_replicate
      refine ⟨_, rfl, _, rfl, D, _, rfl, .inl (SqL.of hD), _, _, rfl, rfl, _, rfl, s, c, 5, rfl, S2, by decide, by decide, fun r2 H3 a2 b2 S3 e3 => ⟨_, _, rfl, rfl, ?_⟩⟩
      rw [ll]
      have hD3 := e3 _ _ (src_neL S2 hD) hD
      refine ⟨fun σ' H' => ∃ b : Int, σ' = [some (.ref s), some (.int marks), some (.int most), some (.int (most - (r1.toNat : Int))), some (.ref D), none, some (.int b), none, none] ∧ Src H' s c ∧ But s H H' ∧ H' D = some (.lst (List.replicate r1.toNat V.non)), ?_, ?_⟩
      · refine ⟨_, rfl, s, c, 8, rfl, S3, by decide, by decide, fun r4 H4 a4 b4 S4 e4 => ?_⟩
        have hD4 := e4 _ _ (src_neL S3 hD3) hD3
        refine ⟨rfl, _, rfl, ifI (fun h => ?_) (fun h => ?_)⟩
        · refine ⟨_, rfl, _, _, rfl, rfl, ⟨by decide, by decide, by decide⟩, _, _, rfl, rfl, .inl ⟨by decide, by decide⟩, _, _, rfl, rfl, s, c, _, rfl, S4, by decide, by decide, fun r5 H5 a5 b5 S5 e5 => ?_⟩
          exact ⟨_, _, rfl, rfl, ⟨by decide, by decide, by decide⟩, _, _, rfl, rfl, _, rfl, S5, (e2.trans e3).trans (e4.trans e5), e5 _ _ (src_neL S4 hD4) hD4⟩
        · exact ⟨_, rfl, S4, (e2.trans e3).trans e4, hD4⟩
      · rintro σ' H4 ⟨b, rfl, S4, e4, hD4⟩
        rw [← ptV_nones] at hD4
        refine ⟨_, rfl, marks, rfl, by omega, by omega, for_range (lo := 0) (n := marks.toNat) (fun i σ' H' => ∃ (ps : List (Option Int)) (b room : Int) (p : Addr) (v5 v7 : Option V), σ' = [some (.ref s), some (.int marks), some (.int most), some (.int room), some (.ref p), v5, some (.int b), v7, none] ∧ Src H' s c ∧ But s H H' ∧ H' p = some (.lst (ps.map ptV)) ∧ Drawn ps b ∧ ps.length ≤ 2 + 3 * i ∧ 0 ≤ room)
          ⟨_, b, _, D, _, _, rfl, S4, e4, hD4, drawn_nones, by rw [List.length_replicate]; omega, by omega⟩ ?_ ?_⟩
        · rintro i σ' H5 hi ⟨ps, b, room, p, v5, v7, rfl, S5, e5, hp, hd, hl, hr0⟩
          refine ⟨_, rfl, s, c, 3, rfl, S5, by decide, by decide, fun f0 H7 hf1 b6 S7 e7' => ?_⟩
          have e6 := e5
          have e7 := e7'
          have hp7 := e7 _ _ (src_neL S5 hp) hp
          refine ⟨_, rfl, f0, room, rfl, ?_⟩
          obtain ⟨fr, hfr, h1, h2, h3⟩ : ∃ fr : Int, (if room < f0 then room else f0) = fr ∧ 0 ≤ fr ∧ fr ≤ 2 ∧ fr ≤ room := by
            refine ⟨_, rfl, ?_⟩
            split <;> omega
          rw [hfr]
          refine ⟨_, rfl, _, rfl, _, _, rfl, rfl, _, rfl, ?_⟩
          refine ⟨_, rfl, by show 1 ≤ sizeLine; decide, fun q1 nq1 => ?_⟩
          generalize h8 : upd H7 q1 (.lst [V.int b]) = H8
          have S8 : Src H8 s c := by rw [← h8]; exact S7.new nq1
          have e8 : But s H H8 := by rw [← h8]; exact (e6.trans e7).new nq1 S7.has
          have hp8 : H8 p = some (.lst (ps.map ptV)) := by rw [← h8, upd_ne (ne_of_none hp7 nq1)]; exact hp7
          have hq8 : H8 q1 = some (.lst [.int b]) := by rw [← h8]; exact upd_same
          clear h8
          refine ⟨p, q1, _, _, rfl, rfl, hp8, hq8, szl (by rw [List.length_map]; show ps.length + 1 ≤ _; omega), fun q2 nq2 => ?_⟩
          generalize h9 : upd H8 q2 (.lst (ps.map ptV ++ [V.int b])) = H9
          have S9 : Src H9 s c := by rw [← h9]; exact S8.new nq2
          have e9 : But s H H9 := by rw [← h9]; exact e8.new nq2 S8.has
          have hq9 : H9 q2 = some (.lst (ps.map ptV ++ [.int b])) := by rw [← h9]; exact upd_same
          clear h9
          refine ⟨_, rfl, fr, rfl, by omega, by omega, fun D2 nD2 => ?_⟩
          refine lc_it walk_range (fun i H' => Same H9 H' ∧ H' D2 = some (.lst (List.replicate i V.non))) ⟨same_new (Same.refl H9) nD2, upd_same⟩ (fun i H' _ q => trivial) ?_ ?_
          · rintro i y H10 H11 hi ⟨s2, hD⟩ ⟨rfl, rfl⟩
            exact ⟨rfl, _, hD, szl (by rw [List.length_replicate]; omega), same_mut s2 nD2, by rw [upd_same, ← List.replicate_succ']⟩
          rintro H10 ⟨s10, hD10⟩
          have S10 := S9.same s10
          have e10 : But s H H10 := e9.trans (But.same s10)
          have hq10 := s10 _ _ hq9
          refine ⟨q2, D2, _, _, rfl, rfl, hq10, hD10, sz (by rw [List.length_append, List.length_map, List.length_replicate]; show ps.length + 1 + _ ≤ _; omega), fun q3 nq3 => ?_⟩
          rw [List.append_assoc]
          generalize h11 : upd H10 q3 (.lst (ps.map ptV ++ ([V.int b] ++ List.replicate fr.toNat V.non))) = H11
          have S11 : Src H11 s c := by rw [← h11]; exact S10.new nq3
          have e11 : But s H H11 := by rw [← h11]; exact e10.new nq3 S10.has
          have hp11 : H11 q3 = some (.lst ((ps ++ some b :: List.replicate fr.toNat none).map ptV)) := by
            rw [← h11, upd_same, List.map_append, List.map_cons, ptV_nones]
            rfl
          clear h11
          have lq : (ps ++ some b :: List.replicate fr.toNat none).length ≤ 2 + 3 * (i + 1) := by
            rw [List.length_append, List.length_cons, List.length_replicate]
            omega
          refine ⟨_, rfl, _, _, rfl, rfl, _, rfl, _, _, rfl, rfl, by show 4 ≤ sizeLine; decide, fun q4 nq4 => ?_⟩
          generalize h12 : upd H11 q4 (.lst [V.int 0, V.int 0, V.int 1, V.int 2]) = H12
          have S12 : Src H12 s c := by rw [← h12]; exact S11.new nq4
          have e12 : But s H H12 := by rw [← h12]; exact e11.new nq4 S11.has
          have hp12 : H12 q3 = some (.lst ((ps ++ some b :: List.replicate fr.toNat none).map ptV)) := by rw [← h12, upd_ne (ne_of_none hp11 nq4)]; exact hp11
          have hq12 : H12 q4 = some (.lst [.int 0, .int 0, .int 1, .int 2]) := by rw [← h12]; exact upd_same
          clear h12
          refine ⟨_, rfl, s, c, 4, rfl, S12, by decide, by decide, fun r7 H13 a7 b7 S13 e13 => ?_⟩
          have hq13 := e13 _ _ (src_neL S12 hq12) hq12
          have hp13 := e13 _ _ (src_neL S12 hp12) hp12
          obtain ⟨g0, hg0, hg1, hg2⟩ : ∃ f0 : Int, atI [V.int 0, V.int 0, V.int 1, V.int 2] r7 = some (.int f0) ∧ 0 ≤ f0 ∧ f0 ≤ 2 := item_of (L := [0, 0, 1, 2]) (P := fun m => 0 ≤ m ∧ m ≤ 2) (by decide) a7 b7
          refine ⟨q4, _, r7, _, rfl, rfl, SqL.of hq13, hg0, _, _, rfl, rfl, ?_⟩
          have nn : (fr.toNat : Int) = fr := Int.toNat_of_nonneg h1
          have dr : ∀ z : Int, 0 ≤ z → Drawn (ps ++ some b :: List.replicate fr.toNat none) (b + 1 + fr + g0 + z) := fun z hz => drawn_more hd (by rw [nn]; omega)
          refine ⟨_, rfl, s, c, 8, rfl, S13, by decide, by decide, fun r8 H14 a8 b8 S14 e14 => ?_⟩
          have hp14 := e14 _ _ (src_neL S13 hp13) hp13
          have e14' := (e12.trans e13).trans e14
          refine ⟨rfl, _, rfl, ifI (fun h => ?_) (fun h => ?_)⟩
          · refine ⟨_, rfl, _, rfl, _, _, rfl, rfl, ⟨by decide, by decide, by decide⟩, s, c, _, rfl, S14, by decide, by decide, fun r9 H15 a9 b9 S15 e15 => ?_⟩
            have hp15 := e15 _ _ (src_neL S14 hp14) hp14
            exact ⟨_, _, rfl, rfl, _, _, room - fr, q3, _, _, rfl, S15, e14'.trans e15, hp15, dr r9 a9, lq, by omega⟩
          · exact ⟨_, _, room - fr, q3, _, _, rfl, S14, e14', hp14, by simpa using dr 0 (by omega), lq, by omega⟩
        · rintro σ' H5 ⟨ps, b, room, p, v5, v7, rfl, S5, e5, hp, hd, hl, hr0⟩
          have lm : (ps.map ptV).length = ps.length := List.length_map _
          refine ⟨fun σ' H' => ∃ (ps : List (Option Int)) (p : Addr) (v3 v5 v6 v7 : Option V), σ' = [some (.ref s), some (.int marks), some (.int most), v3, some (.ref p), v5, v6, v7, none] ∧ Src H' s c ∧ But s H H' ∧ H' p = some (.lst (ps.map ptV)) ∧ Asc ps ∧ 1 ≤ ps.length ∧ ps.length ≤ 100, ?_, ?_⟩
          · refine ⟨_, rfl, p, _, rfl, .inl (SqL.of hp), rfl, _, rfl, ifI (fun h => ?_) (fun h => ?_)⟩
            · refine ⟨by show 1 ≤ sizeLine; decide, fun q nq => ?_⟩
              exact ⟨[none], q, _, _, _, _, rfl, S5.new nq, e5.new nq S5.has, upd_same, (drawn_nones (n := 1) (b := 0)).1, by decide, by decide⟩
            · exact ⟨ps, p, _, _, _, _, rfl, S5, e5, hp, hd.1, by omega, by omega⟩
          · rintro σ' H6 ⟨ps, p, v3, v5, v6, v7, rfl, S6, e6, hp, ha, l1, l2⟩
            refine ⟨_, rfl, p, _, rfl, .inl (SqL.of hp), fun q H7 hq s7 => ?_⟩
            exact k q ps H7 hq ha l1 l2 (S6.same s7) (e6.trans (But.same s7))
end
/-- what is drawn: not empty, not long -/
structure DrOk (ps : List (Option Int)) (as : List (Str × List Int)) (gs : List Int) : Prop where
  p0 : 1 ≤ ps.length
  p1 : ps.length ≤ 200
  a0 : 2 ≤ as.length
  a1 : as.length ≤ 20
  i : ∀ x ∈ as, 1 ≤ x.2.length ∧ x.2.length ≤ 3
  g : gs.length ≤ 10
def spDrawn (K : PySem.W.Frag) : Sp := fun vs H Q _ => ∃ (s c : Addr), vs = [.ref s] ∧ Src H s c ∧ ∀ (t : Addr) (ps : List (Option Int)) (as : List (Str × List Int)) (gs : List Int) (pk : Option Int) H', PlT K H' t ps (as.map dAtom) gs pk → DrOk ps as gs → Src H' s c → But s H H' → Q (.ref t) H'
section
variable {P : Program} {w : World} {K : PySem.W.Frag} {mg : Str → Option Value} {base : Heap}
theorem ok_drawn (T : Txt K mg) : Cal P w K mg base CX0 4 "_law_drawn" P__law_drawn [] (spDrawn K) := by
  have C__law_draw := ok_draw (P := P) (w := w) (base := base) T
  have C__law_names := ok_names (P := P) (w := w) (base := base) T
  have C__law_drawn_points := ok_points (P := P) (w := w) (base := base) T
  refine Cal.of T.F__law_drawn T.g__law_drawn (fun fd F => F.ok sc__law_drawn (fun vs H Q E h => ?_) (fun cdv A outer s0 H vs Q E hr h => ?_)) (fun _ _ _ _ _ _ us hl => match us, hl with | [_], _ => rfl)
  · obtain ⟨s, c, rfl, _⟩ := h
    rfl
  · obtain ⟨s, c, rfl, S, k⟩ := h
    refine ⟨_, PSs.nox (pss_cons (ps_set (i := 1) sc__law_drawn.nd rfl (Or.inr rfl) (pc_call C__law_drawn_points (hr.mono (by first | decide | omega)) pass0 (pa_cons (pv 0) (pa_cons (pc_call C__law_draw (hr.mono (by first | decide | omega)) pass0 (pa_cons (pv 0) (pa_cons pe_int pa_nil))) (pa_cons pe_int pa_nil)))))
    (pss_cons (ps_set (i := 2) sc__law_drawn.nd rfl (Or.inl rfl) (pc_call C__law_names (hr.mono (by first | decide | omega)) pass0 (pa_cons (pv 0) (pa_cons pe_int pa_nil))))
    (pss_cons (ps_set (i := 3) sc__law_drawn.nd rfl (Or.inl rfl) (pe_lst (pa_cons (pe_op op_add pe_int (pc_call C__law_draw (hr.mono (by first | decide | omega)) pass0 (pa_cons (pv 0) (pa_cons pe_int pa_nil)))) (pa_cons (pe_op op_add pe_int (pc_call C__law_draw (hr.mono (by first | decide | omega)) pass0 (pa_cons (pv 0) (pa_cons pe_int pa_nil)))) pa_nil))))
    (pss_cons (ps_set (i := 4) sc__law_drawn.nd rfl (Or.inl rfl) (pe_lst pa_nil))
    (pss_cons (ps_for PassesOwn.never rfl (pi_range1 (by rfl) T.f_range (pa_cons (pe_op op_add pe_int (pc_call C__law_draw (hr.mono (by first | decide | omega)) pass0 (pa_cons (pv 0) (pa_cons pe_int pa_nil)))) pa_nil)) (pg_name (i := 5) sc__law_drawn.nd rfl (Or.inl rfl))
    (pss_cons (ps_set (i := 6) sc__law_drawn.nd rfl (Or.inl rfl) (pc_call C__law_draw (hr.mono (by first | decide | omega)) pass0 (pa_cons (pv 0) (pa_cons pe_int pa_nil))))
    (pss_one (ps_expr (pe_bm PySem.F.plainAttrs_list PySem.F.slot_list_append PySem.F.type_list_append mt_append (pv 4) (pa_cons (pe_tup (pa_cons (pe_ix ix_list (pv 2) (pv 6) (fun _ _ => rfl)) (pa_cons (pe_callTy (call_tupA (K := K) rfl) (by rfl) T.f_tuple (by decide +kernel) (pa_cons (pe_lc (own := [("j", 7)]) (g := (gName 7)) (tt := tYes) rfl sc__law_drawn.nd (pi_range1 (by rfl) T.f_range (pa_cons (pe_ix ix_list (pv 3) (pv 6) (fun _ _ => rfl)) pa_nil)) (blkOk_by (N := N__law_drawn) (sc := defScope s__law_drawn) (by decide +kernel)) (fun _ _ _ _ _ => (pg_name (i := 7) sc__law_drawn.nd rfl (Or.inl rfl))) (fun _ _ _ _ _ => pts_nil) (fun _ _ _ _ _ => (pc_call C__law_draw (hr.mono (by first | decide | omega)) pass0 (pa_cons (pv 0) (pa_cons (pe_callB (call_len_seqK (K := K) rfl) (by rfl) T.f_len (by decide +kernel) (pa_cons (pv 1) pa_nil)) pa_nil))))) pa_nil)) pa_nil))) pa_nil))))))
    (C8.pss_cut (ps_if (pt_cmpR op_ne (pc_call C__law_draw (hr.mono (by first | decide | omega)) pass0 (pa_cons (pv 0) (pa_cons pe_int pa_nil))) pe_int (nomark _)) (pss_one (ps_expr (pe_bm PySem.F.plainAttrs_list PySem.F.slot_list_append PySem.F.type_list_append mt_append (pv 4) (pa_cons (pe_ix ix_list (pv 4) pe_int (fun _ _ => rfl)) pa_nil))))
    pss_nil)
    (pss_cons (ps_set (i := 8) sc__law_drawn.nd rfl (Or.inl rfl) (pe_callTy (call_tupA (K := K) rfl) (by rfl) T.f_tuple (by decide +kernel) (pa_cons (pe_lc (own := [("j", 7)]) (g := (gName 7)) (tt := tYes) rfl sc__law_drawn.nd (pi_range1 (by rfl) T.f_range (pa_cons (pc_call C__law_draw (hr.mono (by first | decide | omega)) pass0 (pa_cons (pv 0) (pa_cons pe_int pa_nil))) pa_nil)) (blkOk_by (N := N__law_drawn) (sc := defScope s__law_drawn) (by decide +kernel)) (fun _ _ _ _ _ => (pg_name (i := 7) sc__law_drawn.nd rfl (Or.inl rfl))) (fun _ _ _ _ _ => pts_nil) (fun _ _ _ _ _ => (pc_call C__law_draw (hr.mono (by first | decide | omega)) pass0 (pa_cons (pv 0) (pa_cons (pe_callB (call_len_seqK (K := K) rfl) (by rfl) T.f_len (by decide +kernel) (pa_cons (pv 1) pa_nil)) pa_nil))))) pa_nil)))
    (pss_cons (ps_set (i := 9) sc__law_drawn.nd rfl (Or.inl rfl) pe_non)
    (C8.pss_cut (ps_if (pt_cmpR op_eq (pc_call C__law_draw (hr.mono (by first | decide | omega)) pass0 (pa_cons (pv 0) (pa_cons pe_int pa_nil))) pe_int (nomark _)) (pss_one (ps_set (i := 9) sc__law_drawn.nd rfl (Or.inl rfl) (pc_call C__law_draw (hr.mono (by first | decide | omega)) pass0 (pa_cons (pv 0) (pa_cons (pe_callB call_len_seq (by rfl) T.f_len (by decide +kernel) (pa_cons (pv 1) pa_nil)) pa_nil)))))
    pss_nil)
    (pss_one (ps_ret (pe_tup (pa_cons (pv 1) (pa_cons (pe_callTy (call_tupA (K := K) rfl) (by rfl) T.f_tuple (by decide +kernel) (pa_cons (pv 4) pa_nil)) (pa_cons (pv 8) (pa_cons (pv 9) pa_nil)))))))))))))))), ?_⟩
    refine ⟨_, rfl, _, rfl, s, c, 3, rfl, S, by decide, by decide, fun r1 H1 a1 b1 S1 e1 => ?_⟩
    refine ⟨s, c, r1, 4, rfl, S1, a1, by omega, by decide, by decide, fun t ps H2 ht _ l1 l2 S2 e2 => ?_⟩
    refine ⟨_, rfl, s, c, 2, rfl, S2, by decide, by decide, fun l zs H3 nl hl3 lz S3 e3 => ?_⟩
    have lm : (ps.map ptV).length = ps.length := List.length_map _
    have ls := src_neL S3 hl3
    have ht3 := (Firm.but S2 e3).tup ht
    refine ⟨_, rfl, s, c, 3, rfl, S3, by decide, by decide, fun r4 H4 a4 b4 S4 e4 => ⟨_, _, rfl, rfl, ?_⟩⟩
    refine ⟨_, rfl, s, c, 3, rfl, S4, by decide, by decide, fun r5 H5 a5 b5 S5 e5 => ⟨_, _, rfl, rfl, by show 2 ≤ sizeLine; decide, fun wl nwl => ?_⟩⟩
    have hl5 := e5 _ _ ls (e4 _ _ ls hl3)
    have ht5 := (Firm.but S4 e5).tup ((Firm.but S3 e4).tup ht3)
    have e05 : But s H H5 := (((e1.trans e2).trans e3).trans e4).trans e5
    generalize h6 : upd H5 wl (.lst [V.int (1 + r4), V.int (1 + r5)]) = H6
    have S6 : Src H6 s c := by rw [← h6]; exact S5.new nwl
    have e06 : But s H H6 := by rw [← h6]; exact e05.new nwl S5.has
    have s56 : Same H5 H6 := by rw [← h6]; exact same_new (Same.refl H5) nwl
    have hw6 : H6 wl = some (.lst [V.int (1 + r4), V.int (1 + r5)]) := by rw [← h6]; exact upd_same
    have hl6 := s56 _ _ hl5
    have ht6 := same_tup s56 ht5
    have ws := src_neL S6 hw6
    clear h6
    refine ⟨Nat.zero_le _, fun at_ nat_ => ?_⟩
    have ats := S6.apart nat_
    have S7 : Src (upd H6 at_ (.lst [])) s c := S6.new nat_
    refine ⟨_, rfl, s, c, 3, rfl, S7, by decide, by decide, fun r8 H8 a8 b8 S8 e8 => ⟨_, _, rfl, rfl, _, rfl, by omega, by omega, ?_⟩⟩
    have e68 : But s H6 H8 := ((But.refl H6).mut nat_).trans e8
    have hat8 := e8 _ _ ats.1 upd_same
    -- what holds beside the drawing
    have hold : ∀ {H' : Hp}, But s H6 H' → H' l = some (.lst (zs.map V.str)) ∧ H' wl = some (.lst [V.int (1 + r4), V.int (1 + r5)]) ∧ SqT K H' t (ps.map ptV) := fun e => ⟨e _ _ ls hl6, e _ _ ws hw6, (Firm.but S6 e).tup ht6⟩
    refine for_range (lo := 0) (n := (2 + r8).toNat) (fun i σ' H' => ∃ (v5 v6 v7 : Option V) (as : List (Str × List Int)) (vs : List V), σ' = [some (.ref s), some (.ref t), some (.ref l), some (.ref wl), some (.ref at_), v5, v6, v7, none, none] ∧ Src H' s c ∧ But s H6 H' ∧ H' at_ = some (.lst vs) ∧ DpAll K H' vs (as.map dAtom) ∧ as.length = i ∧ ∀ x ∈ as, 1 ≤ x.2.length ∧ x.2.length ≤ 3) ⟨none, none, none, [], [], rfl, S8, e68, hat8, .nil, rfl, fun x h => by cases h⟩ ?_ ?_
    · rintro i σ' H9 hi ⟨v5, v6, v7, as, vs, rfl, S9, e9, hat9, dp9, la, hb⟩
      refine ⟨_, rfl, s, c, 2, rfl, S9, by decide, by decide, fun r H10 ra rb S10 e10 => ?_⟩
      have hat10 := e10 _ _ ats.1 hat9
      have e610 := e9.trans e10
      obtain ⟨hl10, hw10, ht10⟩ := hold e610
      obtain ⟨z, hz⟩ : ∃ z, zs[r.toNat]? = some z := ⟨_, List.getElem?_eq_getElem (by rw [lz]; show r.toNat < 2; omega)⟩
      obtain ⟨wd, hwd, w1, w2⟩ : ∃ wd : Int, atI [V.int (1 + r4), V.int (1 + r5)] r = some (.int wd) ∧ 1 ≤ wd ∧ wd ≤ 3 := item_of (L := [1 + r4, 1 + r5]) (P := fun m => 1 ≤ m ∧ m ≤ 3) (by
        intro x hx
        rcases List.mem_cons.mp hx with rfl | hx
        · omega
        · rcases List.mem_cons.mp hx with rfl | hx
          · omega
          · cases hx) ra rb
      refine ⟨_, rfl, .inl ⟨rfl, _, SqL.of hat10⟩, _, rfl, _, rfl, l, _, r, _, rfl, rfl, SqL.of hl10, atNat (n := r.toNat) (get_map (f := V.str) hz) (by omega), _, rfl, _, rfl, wl, _, r, _, rfl, rfl, SqL.of hw10, hwd, _, rfl, by omega, by omega, fun D nD => ?_⟩
      have nDs := S10.apart nD
      have nDat : D ≠ at_ := fun q => by rw [q, hat10] at nD; cases nD
      refine lc_it walk_range (fun j H' => Src H' s c ∧ But s H10 H' ∧ ∃ ns : List Int, H' D = some (.lst (ns.map V.int)) ∧ ns.length = j) ⟨S10.new nD, (But.refl H10).mut nD, [], upd_same, rfl⟩ (fun i H' _ q => trivial) ?_ ?_
      · rintro j y H11 H12 hj ⟨S11, e11, ns, hD, ln⟩ ⟨rfl, rfl⟩
        obtain ⟨hl11, hw11, ht11⟩ := hold (e610.trans e11)
        refine ⟨rfl, _, rfl, _, rfl, t, _, rfl, .inr ht11, s, c, _, rfl, S11, by omega, by omega, fun r12 H12 _ _ S12 e12 => ?_⟩
        have hD12 := e12 _ _ nDs.1 hD
        exact ⟨_, hD12, szl (by rw [List.length_map]; omega), S12.put nDs.1 nDs.2, (e11.trans e12).mut nD, ns ++ [r12], by rw [upd_same, List.map_append]; rfl, by rw [List.length_append, ln]; rfl⟩
      · rintro H11 ⟨S11, e11, ns, hD, ln⟩
        have hat11 := e11 _ _ ats.1 hat10
        refine ⟨D, _, rfl, .inl (SqL.of hD), fun u H12 hu s12 => ⟨by show 2 ≤ sizeLine; decide, fun t' nt' => ?_⟩⟩
        have f10 : Firm H9 H10 := Firm.but S9 e10
        have f12 : Firm H9 H12 := (f10.trans (Firm.but S10 e11)).trans (Firm.same s12)
        have hat12 := s12 _ _ hat11
        have S12 := S11.same s12
        generalize h13 : upd H12 t' (.tup [V.str z, V.ref u]) = H13
        have s13 : Same H12 H13 := by rw [← h13]; exact same_new (Same.refl H12) nt'
        have ht13 : H13 t' = some (.tup [V.str z, V.ref u]) := by rw [← h13]; exact upd_same
        clear h13
        have hat13 := s13 _ _ hat12
        have S13 := S12.same s13
        have d13 : Dp K H13 (.ref t') (dAtom (z, ns)) := .tup (SqT.of ht13) (.cons (.str z) (.cons (.tup (same_tup s13 hu) (dp_ints ns)) .nil))
        have lvs : vs.length = i := by rw [dp_len dp9, List.length_map, la]
        have noA : ∀ as : List (Str × List Int), (as.map dAtom).all (noL 3) = true := fun as => by
          have := noL_atoms (as := as) (bs := [])
          simpa using this
        have dpv : DpAll K H13 vs (as.map dAtom) := dpAll_firm (f12.trans (Firm.same s13)) (noA as) dp9
        refine ⟨at_, _, _, rfl, rfl, hat13, szl (by omega), _, _, _, as ++ [(z, ns)], vs ++ [.ref t'], rfl, S13.put ats.1 ats.2, ?_, upd_same, ?_, by rw [List.length_append, la]; rfl, fun x hx => ?_⟩
        · exact (((e610.trans e11).trans (But.same s12)).trans (But.same s13)).mut nat_
        · rw [List.map_append]
          exact dpAll_firm (Firm.lst hat13) (by rw [← List.map_singleton, ← List.map_append]; exact noA _) (dpAll_snoc d13 dpv)
        · rcases List.mem_append.mp hx with hx | hx
          · exact hb x hx
          · rw [List.mem_singleton] at hx
            rw [hx]
            show 1 ≤ ns.length ∧ ns.length ≤ 3
            omega
    · rintro σ' H9 ⟨v5, v6, v7, as, vs, rfl, S9, e9, hat9, dp9, la, hb⟩
      have noA : ∀ as : List (Str × List Int), (as.map dAtom).all (noL 3) = true := fun as => by
        have := noL_atoms (as := as) (bs := [])
        simpa using this
      have lr : (2 + r8).toNat = 2 + r8.toNat := by omega
      rw [lr] at la
      refine ⟨fun σ' H' => ∃ (as : List (Str × List Int)) (vs : List V), σ' = [some (.ref s), some (.ref t), some (.ref l), some (.ref wl), some (.ref at_), v5, v6, v7, none, none] ∧ Src H' s c ∧ But s H6 H' ∧ H' at_ = some (.lst vs) ∧ DpAll K H' vs (as.map dAtom) ∧ 2 ≤ as.length ∧ as.length ≤ 20 ∧ ∀ x ∈ as, 1 ≤ x.2.length ∧ x.2.length ≤ 3, ?_, ?_⟩
      · refine ⟨_, rfl, s, c, 3, rfl, S9, by decide, by decide, fun r H10 ra rb S10 e10 => ?_⟩
        have hat10 := e10 _ _ ats.1 hat9
        have dp10 := dpAll_firm (Firm.but S9 e10) (noA as) dp9
        refine ⟨rfl, _, rfl, ifN (fun h => ?_) (fun h => ?_)⟩
        · obtain ⟨x0, hx0⟩ : ∃ x, as[0]? = some x := ⟨_, List.getElem?_eq_getElem (by omega)⟩
          obtain ⟨v0, hv0, dv0⟩ := dp_get dp10 (get_map (f := dAtom) hx0)
          have lvs : vs.length = as.length := by rw [dp_len dp10, List.length_map]
          refine ⟨_, rfl, .inl ⟨rfl, _, SqL.of hat10⟩, _, rfl, at_, _, 0, _, rfl, rfl, SqL.of hat10, atNat hv0 rfl, at_, _, _, rfl, rfl, hat10, szl (by omega), as ++ [x0], vs ++ [v0], rfl, S10.put ats.1 ats.2, (e9.trans e10).mut nat_, upd_same, ?_, by rw [List.length_append]; omega, by rw [List.length_append]; show as.length + 1 ≤ 20; omega, fun x hx => ?_⟩
          · rw [List.map_append]
            exact dpAll_firm (Firm.lst hat10) (n := 3) noL_atoms (dpAll_snoc dv0 dp10)
          · rcases List.mem_append.mp hx with hx | hx
            · exact hb x hx
            · rw [List.mem_singleton] at hx
              rw [hx]
              exact hb x0 (List.mem_of_getElem? hx0)
        · exact ⟨as, vs, rfl, S10, e9.trans e10, hat10, dp10, by omega, by omega, hb⟩
      · rintro σ' H10 ⟨as, vs, rfl, S10, e10, hat10, dp10, la0, la1, hb⟩
        have lvs : vs.length = as.length := by rw [dp_len dp10, List.length_map]
        refine ⟨_, rfl, s, c, 3, rfl, S10, by decide, by decide, fun r H11 ra rb S11 e11 => ⟨_, rfl, by omega, by omega, fun D nD => ?_⟩⟩
        have nDs := S11.apart nD
        have f1 : Firm H10 H11 := Firm.but S10 e11
        have hat11 := e11 _ _ ats.1 hat10
        have dp11 := dpAll_firm f1 (noA as) dp10
        refine lc_it walk_range (fun j H' => Src H' s c ∧ But s H11 H' ∧ ∃ ns : List Int, H' D = some (.lst (ns.map V.int)) ∧ ns.length = j) ⟨S11.new nD, (But.refl H11).mut nD, [], upd_same, rfl⟩ (fun i H' _ q => trivial) ?_ ?_
        · rintro j y H12 H13 hj ⟨S12, e12, ns, hD, ln⟩ ⟨rfl, rfl⟩
          obtain ⟨_, _, ht12⟩ := hold ((e10.trans e11).trans e12)
          refine ⟨rfl, _, rfl, _, rfl, t, _, rfl, .inr ht12, s, c, _, rfl, S12, by omega, by omega, fun r13 H13 _ _ S13 e13 => ?_⟩
          have hD13 := e13 _ _ nDs.1 hD
          exact ⟨_, hD13, szl (by rw [List.length_map]; omega), S13.put nDs.1 nDs.2, (e12.trans e13).mut nD, ns ++ [r13], by rw [upd_same, List.map_append]; rfl, by rw [List.length_append, ln]; rfl⟩
        · rintro H12 ⟨S12, e12, ns, hD, ln⟩
          refine ⟨D, _, rfl, .inl (SqL.of hD), fun g H13 hg s13 => ?_⟩
          have S13 := S12.same s13
          have f2 : Firm H11 H13 := (Firm.but S11 e12).trans (Firm.same s13)
          have hat13 := s13 _ _ (e12 _ _ ats.1 hat11)
          have dp13 := dpAll_firm f2 (noA as) dp11
          have e613 : But s H6 H13 := ((e10.trans e11).trans e12).trans (But.same s13)
          have lng : ns.length ≤ 10 := by omega
          refine ⟨fun σ' H' => ∃ pk : Option Int, σ' = [some (.ref s), some (.ref t), some (.ref l), some (.ref wl), some (.ref at_), v5, v6, v7, some (.ref g), some (ptV pk)] ∧ Src H' s c ∧ But s H13 H', ?_, ?_⟩
          · refine ⟨_, rfl, s, c, 2, rfl, S13, by decide, by decide, fun r14 H14 _ _ S14 e14 => ⟨rfl, _, rfl, ifI (fun h => ?_) (fun h => ?_)⟩⟩
            · obtain ⟨_, _, ht14⟩ := hold (e613.trans e14)
              exact ⟨_, rfl, _, rfl, t, _, rfl, .inr ht14, s, c, _, rfl, S14, by omega, by omega, fun r15 H15 _ _ S15 e15 => ⟨some r15, rfl, S15, e14.trans e15⟩⟩
            · exact ⟨none, rfl, S14, e14⟩
          · rintro σ' H14 ⟨pk, rfl, S14, e14⟩
            have hat14 := e14 _ _ ats.1 hat13
            have f3 : Firm H13 H14 := Firm.but S13 e14
            have dp14 := dpAll_firm f3 (noA as) dp13
            have hg14 := f3.tup hg
            refine ⟨_, rfl, _, rfl, at_, _, rfl, .inl (SqL.of hat14), fun a' H15 ha' s15 => ⟨_, rfl, _, rfl, by show 4 ≤ sizeLine; decide, fun u nu => ?_⟩⟩
            have e615 : But s H6 H15 := (e613.trans e14).trans (But.same s15)
            obtain ⟨_, _, ht15⟩ := hold e615
            have S15 := S14.same s15
            have s16 : ∀ o : HO, Same H15 (upd H15 u o) := fun o => same_new (Same.refl H15) nu
            refine k u ps as ns pk _ ⟨⟨t, a', g, SqT.of upd_same, same_tup (s16 _) ht15, .tup (same_tup (s16 _) ha') (dpAll_same (s16 _) (dpAll_same s15 dp14)), same_tup (s16 _) (same_tup s15 hg14)⟩, isAt_map⟩ ⟨l1, by omega, la0, la1, hb, lng⟩ (S15.new nu) ((e06.trans e615).new nu S15.has)
end
def isM (ps : List (Option Int)) (j : Nat) : Bool := ((ps[j]?).join).isSome
def natV (j : Nat) : V := .int (j : Int)
theorem isM_at {ps : List (Option Int)} {i : Nat} {o : Option Int} (h : ps[i]? = some o) : isM ps i = o.isSome := by
  unfold isM
  rw [h]
  cases o <;> rfl
def marksL (ps : List (Option Int)) : List Nat := (List.range ps.length).filter (isM ps)
theorem atI_last {α : Type} {xs : List α} {x : α} : atI (xs ++ [x]) (-1) = some x := by
  have : ixN (xs ++ [x]).length (-1) = some xs.length := by
    unfold ixN
    rw [if_neg (by decide), List.length_append, List.length_singleton, if_pos (by omega)]
    congr 1
    omega
  unfold atI
  rw [this]
  show (xs ++ [x])[xs.length]? = _
  rw [List.getElem?_append_right (Nat.le_refl _), Nat.sub_self]
  rfl
theorem catA {K : PySem.W.Frag} {H : Hp} {Q : VK} {a b : Addr} {xs ys : List V} (ha : SqT K H a xs) (hb : SqT K H b ys) (hz : xs.length + ys.length ≤ 100000) (k : ∀ q H', SqT K H' q (xs ++ ys) → Same H H' → Q (.ref q) H') : rCatA K (.ref a) (.ref b) H Q := by
  refine ⟨a, b, xs, ys, rfl, rfl, ha, hb, sz hz, fun e => ?_, fun _ e => ?_, fun _ _ p np => k p _ (SqT.of upd_same) (same_new (Same.refl H) np)⟩
  · subst e
    exact k b H hb (Same.refl H)
  · subst e
    rw [List.append_nil] at k
    exact k a H ha (Same.refl H)
theorem slA {K : PySem.W.Frag} {H : Hp} {Q : VK} {a : Addr} {xs : List V} {lo hi : Option Int} (ha : SqT K H a xs) (k : ∀ q H', SqT K H' q (cutV xs lo hi) → Same H H' → Q (.ref q) H') : rSlA K (.ref a) lo hi H Q := by
  refine ⟨a, xs, rfl, ha, fun e => ?_, fun _ p np => k p _ (SqT.of upd_same) (same_new (Same.refl H) np)⟩
  have : cutV xs lo hi = xs := by
    unfold cutV
    rw [e.1, e.2, List.drop_zero, Nat.sub_zero, List.take_length]
  rw [this] at k
  exact k a H ha (Same.refl H)
def cutG {α : Type} (xs : List α) (lo hi : Option Int) : List α := (xs.drop (HT.sIx xs.length 0 lo)).take (HT.sIx xs.length xs.length hi - HT.sIx xs.length 0 lo)
theorem cutG_map {α : Type} (f : α → V) (xs : List α) (lo hi : Option Int) : cutV (xs.map f) lo hi = (cutG xs lo hi).map f := by
  unfold cutV cutG
  rw [List.length_map, List.map_take, List.map_drop]
theorem cutG_mapD {α β : Type} (f : α → β) (xs : List α) (lo hi : Option Int) : cutG (xs.map f) lo hi = (cutG xs lo hi).map f := by
  unfold cutG
  rw [List.length_map, List.map_take, List.map_drop]
theorem cutG_len {α : Type} (xs : List α) (lo hi : Option Int) : (cutG xs lo hi).length ≤ xs.length := by
  unfold cutG
  rw [List.length_take, List.length_drop]
  omega
theorem cutG_mem {α : Type} {xs : List α} {lo hi : Option Int} {x : α} (h : x ∈ cutG xs lo hi) : x ∈ xs := List.mem_of_mem_drop (List.mem_of_mem_take h)
theorem dpAll_append {K : PySem.W.Frag} {H : Hp} {ws : List V} {es : List PyData} (h : DpAll K H ws es) : ∀ {vs : List V} {ds : List PyData}, DpAll K H vs ds → DpAll K H (vs ++ ws) (ds ++ es)
  | _, _, .nil => h
  | _, _, .cons a t => .cons a (dpAll_append h t)
theorem dpAll_take {K : PySem.W.Frag} {H : Hp} : ∀ {n : Nat} {vs : List V} {ds : List PyData}, DpAll K H vs ds → DpAll K H (vs.take n) (ds.take n)
  | 0, _, _, _ => by rw [List.take_zero, List.take_zero]; exact .nil
  | _ + 1, _, _, .nil => .nil
  | _ + 1, _, _, .cons a t => .cons a (dpAll_take t)
theorem dpAll_drop {K : PySem.W.Frag} {H : Hp} : ∀ {n : Nat} {vs : List V} {ds : List PyData}, DpAll K H vs ds → DpAll K H (vs.drop n) (ds.drop n)
  | 0, _, _, h => h
  | _ + 1, _, _, .nil => .nil
  | n + 1, _, _, .cons a t => dpAll_drop (n := n) t
theorem dpAll_cut {K : PySem.W.Frag} {H : Hp} {vs : List V} {ds : List PyData} {lo hi : Option Int} (h : DpAll K H vs ds) : DpAll K H (cutV vs lo hi) (cutG ds lo hi) := by
  have e := dp_len h
  unfold cutV cutG
  rw [← e]
  exact dpAll_take (dpAll_drop h)
theorem dpAll_rev {K : PySem.W.Frag} {H : Hp} : ∀ {vs : List V} {ds : List PyData}, DpAll K H vs ds → DpAll K H vs.reverse ds.reverse
  | _, _, .nil => .nil
  | _, _, .cons a t => by
    rw [List.reverse_cons, List.reverse_cons]
    exact dpAll_snoc a (dpAll_rev t)
theorem dpAll_snoc_inv {K : PySem.W.Frag} {H : Hp} {d : PyData} : ∀ {ds : List PyData} {vs : List V}, DpAll K H vs (ds ++ [d]) → ∃ ws v, vs = ws ++ [v] ∧ DpAll K H ws ds ∧ Dp K H v d
  | [], _, .cons a .nil => ⟨[], _, rfl, .nil, a⟩
  | _ :: ds, _, .cons a t => by
    obtain ⟨ws, v, rfl, h1, h2⟩ := dpAll_snoc_inv t
    exact ⟨_ :: ws, v, rfl, .cons a h1, h2⟩
theorem dp_intsInv {K : PySem.W.Frag} {H : Hp} : ∀ {ns : List Int} {vs : List V}, DpAll K H vs (ns.map PyData.int) → vs = ns.map V.int
  | [], _, .nil => rfl
  | _ :: _, _, .cons (.int _) t => by rw [dp_intsInv t]; rfl
theorem dp_atomInv {K : PySem.W.Frag} {H : Hp} {v : V} {x : Str × List Int} (h : Dp K H v (dAtom x)) : ∃ t i : Addr, v = .ref t ∧ SqT K H t [.str x.1, .ref i] ∧ SqT K H i (x.2.map V.int) := by
  cases h with
  | tup h1 h2 =>
    cases h2 with
    | cons a1 a2 =>
      cases a1
      cases a2 with
      | cons a3 a4 =>
        cases a4
        cases a3 with
        | tup b1 b2 => exact ⟨_, _, rfl, h1, by rw [dp_intsInv b2] at b1; exact b1⟩
def spNear (K : PySem.W.Frag) : Sp := fun vs H Q _ => ∃ (s c t : Addr) (ps : List (Option Int)) (as : List (Str × List Int)) (gs : List Int) (pk : Option Int), vs = [.ref s, .ref t] ∧ Src H s c ∧ PlT K H t ps (as.map dAtom) gs pk ∧ DrOk ps as gs ∧
  ∀ (u : Addr) (ps' : List (Option Int)) (as' : List (Str × List Int)) (gs' : List Int) (pk' : Option Int) H', PlT K H' u ps' (as'.map dAtom) gs' pk' → Sm ps' as' gs' → Src H' s c → But s H H' → Q (.ref u) H'
section
variable {P : Program} {w : World} {K : PySem.W.Frag} {mg : Str → Option Value} {base : Heap}
theorem ok_near (T : Txt K mg) : Cal P w K mg base CX0 2 "_law_near" P__law_near [] (spNear K) := by
  have C__law_draw := ok_draw (P := P) (w := w) (base := base) T
  refine Cal.of T.F__law_near T.g__law_near (fun fd F => F.ok sc__law_near (fun vs H Q E h => ?_) (fun cdv A outer s0 H vs Q E hr h => ?_)) (fun _ _ _ _ _ _ us hl => match us, hl with | [_, _], _ => rfl)
  · obtain ⟨s, c, t, ps, as, gs, pk, rfl, _⟩ := h
    rfl
  · obtain ⟨s, c, t, ps, as, gs, pk, rfl, S, hp, hd, k⟩ := h
    refine ⟨_, PSs.nox (pss_cons (ps_set (i := 2) sc__law_near.nd rfl (Or.inr rfl) (pe_ix ix_tup (pv 1) pe_int (fun _ _ => rfl)))
    (pss_cons (ps_set (i := 3) sc__law_near.nd rfl (Or.inl rfl) (pe_ix ix_tup (pv 1) pe_int (fun _ _ => rfl)))
    (pss_cons (ps_set (i := 4) sc__law_near.nd rfl (Or.inl rfl) (pe_ix ix_tup (pv 1) pe_int (fun _ _ => rfl)))
    (pss_cons (ps_set (i := 5) sc__law_near.nd rfl (Or.inl rfl) (pe_ix ix_tup (pv 1) pe_int (fun _ _ => rfl)))
    (pss_cons (ps_set (i := 6) sc__law_near.nd rfl (Or.inl rfl) (pc_call C__law_draw (hr.mono (by first | decide | omega)) pass0 (pa_cons (pv 0) (pa_cons pe_int pa_nil))))
    (pss_cons (ps_setLc (i := 7) (own := [("k", 8)]) (g := (gName 8)) rfl sc__law_near.nd rfl rfl (sw_true rfl rfl rfl (by decide +kernel)) (pi_range1 (by rfl) T.f_range (pa_cons (pe_callB call_len_seq (by rfl) T.f_len (by decide +kernel) (pa_cons (pv 2) pa_nil)) pa_nil)) (blkOk_by (N := N__law_near) (sc := defScope s__law_near) (by decide +kernel)) (fun _ _ _ _ _ => (pg_name (i := 8) sc__law_near.nd rfl (Or.inl rfl))) (fun _ _ _ _ _ => (pts_one (pt_cmpR op_notN (pe_ix (ix_tupK (K := K) rfl) (pv 2) (pv 8) (fun _ _ => rfl)) pe_non (nomark _)))) (fun _ _ _ _ _ => (pv 8)))
    (C8.pss_cut (ps_if (PW.pt (pw_and (pt_cmpR op_eq (pv 6) pe_int (nomark _)) (pw_and1 (pt_cmpR op_isN (pv 5) pe_non (nomark _))))) (pss_one (ps_set (i := 5) sc__law_near.nd rfl (Or.inl rfl) pe_int))
    (pss_one (ps_if (pt_cmpR op_eq (pv 6) pe_int (nomark _)) (pss_one (ps_set (i := 5) sc__law_near.nd rfl (Or.inl rfl) pe_non))
    (pss_one (ps_if (pt_cmpR op_eq (pv 6) pe_int (nomark _)) (pss_one (ps_set (i := 3) sc__law_near.nd rfl (Or.inl rfl) (pe_revT (pv 3))))
    (pss_one (ps_if (PW.pt (pw_and (pt_cmpR op_eq (pv 6) pe_int (nomark _)) (pw_and1 (pt_cmpR op_gt (pe_callB call_len_seq (by rfl) T.f_len (by decide +kernel) (pa_cons (pv 4) pa_nil)) pe_int (nomark _))))) (pss_one (ps_set (i := 4) sc__law_near.nd rfl (Or.inl rfl) (pe_slice sl_tupA (pv 4) (po_some pe_int) po_none)))
    (pss_one (ps_if (pt_cmpR op_eq (pv 6) pe_int (nomark _)) (pss_one (ps_set (i := 4) sc__law_near.nd rfl (Or.inl rfl) (pe_tup (pa_cons (pe_op op_sub (pe_callB call_len_seq (by rfl) T.f_len (by decide +kernel) (pa_cons (pv 2) pa_nil)) pe_int) pa_nil))))
    (pss_one (ps_if (pt_cmpR op_eq (pv 6) pe_int (nomark _)) (pss_one (ps_set (i := 3) sc__law_near.nd rfl (Or.inl rfl) (pe_op op_catA (pv 3) (pe_slice sl_tupA (pv 3) (po_some pe_int) (po_some pe_int)))))
    (pss_one (ps_if (PW.pt (pw_and (pt_cmpR op_eq (pv 6) pe_int (nomark _)) (pw_and1 (pt_cmpR op_gt (pe_callB call_len_seq (by rfl) T.f_len (by decide +kernel) (pa_cons (pv 7) pa_nil)) pe_int (nomark _))))) (pss_one (ps_set (i := 2) sc__law_near.nd rfl (Or.inr rfl) (pe_op op_catA (pe_op op_catA (pe_slice sl_tupA (pv 2) po_none (po_some (pe_ix ix_list (pv 7) (pe_un un_neg pe_int) (fun _ _ => rfl)))) (pe_tup (pa_cons (pe_op op_add (pe_ix ix_tup (pv 2) (pe_ix ix_list (pv 7) (pe_un un_neg pe_int) (fun _ _ => rfl)) (fun _ _ => rfl)) pe_int) pa_nil))) (pe_slice sl_tupA (pv 2) (po_some (pe_op op_add (pe_ix ix_list (pv 7) (pe_un un_neg pe_int) (fun _ _ => rfl)) pe_int)) po_none))))
    (pss_one (ps_if (pt_cmpR op_eq (pv 6) pe_int (nomark _)) (pss_one (ps_set (i := 2) sc__law_near.nd rfl (Or.inr rfl) (pe_op op_catA (pv 2) (pe_tup (pa_cons pe_non pa_nil)))))
    (pss_one (ps_if (pt_cmpR op_eq (pv 6) pe_int (nomark _)) (pss_cons (ps_set (i := 9) sc__law_near.nd rfl (Or.inl rfl) (pe_ix ix_tup (pv 3) (pe_un un_neg pe_int) (fun _ _ => rfl)))
    (pss_cons (ps_set (i := 10) sc__law_near.nd rfl (Or.inl rfl) (pe_op op_catA (pe_tup (pa_cons (pe_op op_mod (pe_callTy call_int1 (by rfl) T.f_int (by decide +kernel) (pa_cons (pe_op op_add (pe_ix ix_tup (pe_ix ix_tup (pv 9) pe_int (fun _ _ => rfl)) pe_int (fun _ _ => rfl)) pe_int) pa_nil)) (pe_callB call_len_seq (by rfl) T.f_len (by decide +kernel) (pa_cons (pv 2) pa_nil))) pa_nil)) (pe_slice sl_tupA (pe_ix ix_tup (pv 9) pe_int (fun _ _ => rfl)) (po_some pe_int) po_none)))
    (pss_one (ps_set (i := 3) sc__law_near.nd rfl (Or.inl rfl) (pe_op op_catA (pe_slice sl_tupA (pv 3) po_none (po_some (pe_un un_neg pe_int))) (pe_tup (pa_cons (pe_tup (pa_cons (pe_ix ix_tup (pv 9) pe_int (fun _ _ => rfl)) (pa_cons (pv 10) pa_nil))) pa_nil)))))))
    pss_nil)))))))))))))))))
    (pss_one (ps_ret (pe_tup (pa_cons (pv 2) (pa_cons (pv 3) (pa_cons (pv 4) (pa_cons (pv 5) pa_nil)))))))))))))), ?_⟩
    obtain ⟨p, a, g, h1, h2, h3, h4⟩ := hp.ex
    refine ⟨_, rfl, t, _, 0, _, rfl, rfl, h1, rfl, _, rfl, t, _, 1, _, rfl, rfl, h1, rfl, _, rfl, t, _, 2, _, rfl, rfl, h1, rfl, _, rfl, t, _, 3, _, rfl, rfl, h1, rfl, ?_⟩
    refine ⟨_, rfl, s, c, 7, rfl, S, by decide, by decide, fun r H1 ra rb S1 e1 => ?_⟩
    have f1 : Firm H H1 := Firm.but S e1
    have lm : (ps.map ptV).length = ps.length := List.length_map _
    have dp1 := hd.p1
    have dp0 := hd.p0
    have hp1 := f1.tup h2
    refine ⟨_, rfl, p, _, rfl, .inr hp1, _, rfl, by omega, by omega, fun D nD => ?_⟩
    refine lc_it walk_range (fun i H' => Same H1 H' ∧ H' D = some (.lst (((List.range i).filter (isM ps)).map natV))) ⟨same_new (Same.refl H1) nD, upd_same⟩ (fun i H' _ q => trivial) ?_ ?_
    · rintro i y H2 H3 hi ⟨s2, hD⟩ ⟨rfl, rfl⟩
      obtain ⟨o, ho⟩ : ∃ o, ps[i]? = some o := ⟨_, List.getElem?_eq_getElem (by omega)⟩
      have hlen := hd.p1
      have im := isM_at ho
      have er : (List.range (i + 1)).filter (isM ps) = (List.range i).filter (isM ps) ++ (if o.isSome then [i] else []) := by
        rw [List.range_succ, List.filter_append, List.filter_cons, im]
        cases o <;> rfl
      have ln : (((List.range i).filter (isM ps)).map natV).length ≤ i := by
        rw [List.length_map]
        have := List.length_filter_le (isM ps) (List.range i)
        rw [List.length_range] at this
        exact this
      have := hd.p1
      have hi2 : i < ps.length := by omega
      show gName 8 (V.int (0 + (i : Int))) _ _ _
      rw [Int.zero_add]
      refine ⟨rfl, _, rfl, _, rfl, p, _, _, _, rfl, rfl, same_tup s2 hp1, atNat (get_map (f := ptV) ho) rfl, rfl, _, rfl, ?_⟩
      cases o with
      | none =>
        rw [er]
        exact ⟨s2, by rw [hD]; simp⟩
      | some j =>
        rw [er]
        exact ⟨_, rfl, _, hD, szl (by omega), same_mut s2 nD, by rw [upd_same, List.map_append]; rfl⟩
    · rintro H2 ⟨s2, hD⟩
      rw [lm, Int.toNat_natCast] at hD
      have f2 : Firm H H2 := f1.trans (Firm.same s2)
      have S2 := S1.same s2
      have e2 : But s H H2 := e1.trans (But.same s2)
      have hp2 := f2.tup h2
      have hg2 := f2.tup h4
      have ha2 := dp_firm f2 (noL_ats isAt_map) h3
      have ht2 := f2.tup h1
      have sm : Sm ps as gs := ⟨by have := hd.p1; omega, by have := hd.a1; omega, by have := hd.g; omega, fun x hx => by have := (hd.i x hx).2; omega⟩
      have dp1 := hd.p1
      have da1 := hd.a1
      refine ⟨fun σ' H' => ∃ (p' a' g' : Addr) (ps' : List (Option Int)) (as' : List (Str × List Int)) (gs' : List Int) (pk' : Option Int) (v8 v9 v10 : Option V), σ' = [some (.ref s), some (.ref t), some (.ref p'), some (.ref a'), some (.ref g'), some (ptV pk'), some (.int r), some (.ref D), v8, v9, v10] ∧ Same H2 H' ∧ SqT K H' p' (ps'.map ptV) ∧ Dp K H' (.ref a') (.tuple (as'.map dAtom)) ∧ SqT K H' g' (gs'.map V.int) ∧ Sm ps' as' gs', ?_, ?_⟩
      · have cases7 : r = 0 ∨ r = 1 ∨ r = 2 ∨ r = 3 ∨ r = 4 ∨ r = 5 ∨ r = 6 := by omega
        rcases cases7 with rfl | rfl | rfl | rfl | rfl | rfl | rfl
        · refine ⟨_, rfl, rfl, _, rfl, ifT rfl ⟨_, rfl, rfl, _, rfl, ?_⟩⟩
          cases pk with
          | none => exact ⟨p, a, g, ps, as, gs, some 0, _, _, _, rfl, Same.refl H2, hp2, ha2, hg2, sm⟩
          | some j =>
            refine ⟨_, rfl, rfl, _, rfl, ifT rfl ?_⟩
            exact ⟨p, a, g, ps, as, gs, none, _, _, _, rfl, Same.refl H2, hp2, ha2, hg2, sm⟩
        · refine ⟨_, rfl, rfl, _, rfl, ifF rfl ?_⟩
          refine ⟨_, rfl, rfl, _, rfl, ifF rfl ?_⟩
          refine ⟨_, rfl, rfl, _, rfl, ifT rfl ?_⟩
          cases ha2 with
          | tup hsq hda =>
            rename_i vs
            refine ⟨_, rfl, a, _, rfl, hsq, fun q nq => ?_⟩
            have s3 := same_new (Same.refl H2) (o := .tup vs.reverse) nq
            refine ⟨p, q, g, ps, as.reverse, gs, pk, _, _, _, rfl, s3, same_tup s3 hp2, .tup (SqT.of upd_same) ?_, same_tup s3 hg2, sm.p, by rw [List.length_reverse]; exact sm.a, sm.g, fun x hx => sm.i x (List.mem_reverse.mp hx)⟩
            rw [List.map_reverse]
            exact dpAll_rev (dpAll_same s3 hda)
        · refine ⟨_, rfl, rfl, _, rfl, ifF rfl ?_⟩
          refine ⟨_, rfl, rfl, _, rfl, ifF rfl ?_⟩
          refine ⟨_, rfl, rfl, _, rfl, ifF rfl ?_⟩
          refine ⟨_, rfl, rfl, _, rfl, ifT rfl ?_⟩
          refine ⟨_, rfl, g, _, rfl, .inr hg2, _, _, rfl, rfl, _, rfl, ifD (fun h => ?_) (fun h => ?_)⟩
          · refine ⟨_, rfl, 1, rfl, ?_⟩
            delta tNoPart
            show rSlA K (.ref g) (some 1) none H2 _
            refine slA hg2 fun q H3 hq s3 => ?_
            rw [cutG_map] at hq
            exact ⟨p, a, q, ps, as, cutG gs (some 1) none, pk, _, _, _, rfl, s3, same_tup s3 hp2, dp_same s3 ha2, hq, sm.p, sm.a, Nat.le_trans (cutG_len _ _ _) sm.g, sm.i⟩
          · refine ⟨_, rfl, rfl, _, rfl, ifT rfl ?_⟩
            refine ⟨_, rfl, p, _, rfl, .inr hp2, _, _, rfl, rfl, by show 1 ≤ sizeLine; decide, fun q nq => ?_⟩
            have s3 := same_new (Same.refl H2) (o := .tup [V.int (((ps.map ptV).length : Int) - 1)]) nq
            exact ⟨p, a, q, ps, as, [((ps.map ptV).length : Int) - 1], pk, _, _, _, rfl, s3, same_tup s3 hp2, dp_same s3 ha2, SqT.of upd_same, sm.p, sm.a, by show 1 ≤ 1000; decide, sm.i⟩
        · refine ⟨_, rfl, rfl, _, rfl, ifF rfl ?_⟩
          refine ⟨_, rfl, rfl, _, rfl, ifF rfl ?_⟩
          refine ⟨_, rfl, rfl, _, rfl, ifF rfl ?_⟩
          refine ⟨_, rfl, rfl, _, rfl, ifF rfl ?_⟩
          refine ⟨_, rfl, rfl, _, rfl, ifF rfl ?_⟩
          refine ⟨_, rfl, rfl, _, rfl, ifT rfl ?_⟩
          cases ha2 with
          | tup hsq hda =>
            rename_i vs
            have lv := dp_len hda
            rw [List.length_map] at lv
            refine ⟨_, rfl, _, rfl, 1, rfl, 2, rfl, ?_⟩
            show rSlA K (.ref a) (some 1) (some 2) H2 _
            refine slA hsq fun q H3 hq s3 => catA (same_tup s3 hsq) hq ?_ fun q2 H4 hq2 s4 => ?_
            · have := cutV_length vs (some 1) (some 2)
              omega
            · have s24 : Same H2 H4 := fun b o e => s4 _ _ (s3 _ _ e)
              refine ⟨p, q2, g, ps, as ++ cutG as (some 1) (some 2), gs, pk, _, _, _, rfl, s24, same_tup s24 hp2, .tup hq2 ?_, same_tup s24 hg2, sm.p, ?_, sm.g, fun x hx => ?_⟩
              · rw [List.map_append, ← cutG_mapD]
                exact dpAll_append (dpAll_cut (dpAll_same s24 hda)) (dpAll_same s24 hda)
              · rw [List.length_append]
                have := cutG_len as (some 1) (some 2)
                omega
              · rcases List.mem_append.mp hx with hx | hx
                · exact sm.i x hx
                · exact sm.i x (cutG_mem hx)
        · refine ⟨_, rfl, rfl, _, rfl, ifF rfl ?_⟩
          refine ⟨_, rfl, rfl, _, rfl, ifF rfl ?_⟩
          refine ⟨_, rfl, rfl, _, rfl, ifF rfl ?_⟩
          refine ⟨_, rfl, rfl, _, rfl, ifF rfl ?_⟩
          refine ⟨_, rfl, rfl, _, rfl, ifF rfl ?_⟩
          refine ⟨_, rfl, rfl, _, rfl, ifF rfl ?_⟩
          refine ⟨_, rfl, rfl, _, rfl, ifT rfl ?_⟩
          refine ⟨_, rfl, D, _, rfl, .inl (SqL.of hD), _, _, rfl, rfl, _, rfl, ?_⟩
          rcases List.eq_nil_or_concat (marksL ps) with e | ⟨l, b, e⟩
          · refine ifF (by show decide ((0 : Int) < (((marksL ps).map natV).length : Int)) = false; rw [e]; rfl) ?_
            refine ⟨_, rfl, rfl, _, rfl, ifT rfl ?_⟩
            refine ⟨_, rfl, by show 1 ≤ sizeLine; decide, fun q nq => ?_⟩
            have s3 := same_new (Same.refl H2) (o := .tup [V.non]) nq
            refine catA (same_tup s3 hp2) (SqT.of upd_same) (by rw [lm]; show ps.length + 1 ≤ 100000; omega) fun q2 H4 hq2 s4 => ?_
            have s24 : Same H2 H4 := fun b o e => s4 _ _ (s3 _ _ e)
            exact ⟨q2, a, g, ps ++ [none], as, gs, pk, _, _, _, rfl, s24, by rw [List.map_append]; exact hq2, dp_same s24 ha2, same_tup s24 hg2, by rw [List.length_append]; show ps.length + 1 ≤ 1000; omega, sm.a, sm.g, sm.i⟩
          · rw [List.concat_eq_append] at e
            have hm : b ∈ marksL ps := by rw [e]; simp
            obtain ⟨v, hv⟩ : ∃ v, ps[b]? = some (some v) := by
              have hm := (List.mem_filter.mp hm).2
              unfold isM at hm
              cases e : ps[b]? with
              | none => rw [e] at hm; cases hm
              | some o =>
                rw [e] at hm
                cases o with
                | none => cases hm
                | some v => exact ⟨v, rfl⟩
            have hb : atI ((marksL ps).map natV) (-1) = some (.int (b : Int)) := by
              rw [e, List.map_append]
              exact atI_last
            refine ifT (decide_eq_true (by show (0 : Int) < (((marksL ps).map natV).length : Int); rw [e, List.length_map, List.length_append]; show (0 : Int) < ((l.length + 1 : Nat) : Int); omega)) ?_
            refine ⟨_, rfl, _, rfl, 1, rfl, D, _, -1, _, rfl, rfl, SqL.of hD, hb, _, rfl, ?_⟩
            show rSlA K (.ref p) none (some (b : Int)) H2 _
            refine slA hp2 fun q3 H3 hq3 s3 => ?_
            refine ⟨_, rfl, _, rfl, 1, rfl, D, _, -1, _, rfl, rfl, SqL.of (s3 _ _ hD), hb, p, _, _, _, rfl, rfl, same_tup s3 hp2, atNat (get_map (f := ptV) hv) rfl, _, _, rfl, rfl, by show 1 ≤ sizeLine; decide, fun q4 nq4 => ?_⟩
            have s4 := same_new (Same.refl H3) (o := .tup [V.int (v + 1)]) nq4
            generalize h4 : upd H3 q4 (.tup [V.int (v + 1)]) = H4 at s4
            have hq4 : H4 q4 = some (.tup [V.int (v + 1)]) := by rw [← h4]; exact upd_same
            have hp24 : Same H2 H4 := fun b o e => s4 _ _ (s3 _ _ e)
            have lc3 := cutV_length (ps.map ptV) none (some (b : Int))
            have lc6 := cutV_length (ps.map ptV) (some ((b : Int) + 1)) none
            refine catA (same_tup s4 hq3) (SqT.of hq4) (by show _ + 1 ≤ 100000; omega) fun q5 H5 hq5 s5 => ?_
            have s25 : Same H2 H5 := fun b o e => s5 _ _ (hp24 _ _ e)
            refine ⟨_, rfl, _, rfl, 1, rfl, D, _, -1, _, rfl, rfl, SqL.of (s25 _ _ hD), hb, _, _, rfl, rfl, _, rfl, ?_⟩
            delta tNoPart
            show rSlA K (.ref p) (some ((b : Int) + 1)) none H5 _
            refine slA (same_tup s25 hp2) fun q6 H6 hq6 s6 => catA (same_tup s6 hq5) hq6 (by rw [List.length_append]; show _ + 1 + _ ≤ 100000; omega) fun q7 H7 hq7 s7 => ?_
            have s27 : Same H2 H7 := fun b o e => s7 _ _ (s6 _ _ (s25 _ _ e))
            refine ⟨q7, a, g, cutG ps none (some (b : Int)) ++ [some (v + 1)] ++ cutG ps (some ((b : Int) + 1)) none, as, gs, pk, _, _, _, rfl, s27, ?_, dp_same s27 ha2, same_tup s27 hg2, ?_, sm.a, sm.g, sm.i⟩
            · rw [List.map_append, List.map_append, ← cutG_map, ← cutG_map]
              exact hq7
            · rw [List.length_append, List.length_append]
              have h1 := cutG_len ps none (some (b : Int))
              have h2 := cutG_len ps (some ((b : Int) + 1)) none
              show _ + 1 + _ ≤ 1000
              omega
        · refine ⟨_, rfl, rfl, _, rfl, ifF rfl ?_⟩
          refine ⟨_, rfl, rfl, _, rfl, ifF rfl ?_⟩
          refine ⟨_, rfl, rfl, _, rfl, ifF rfl ?_⟩
          refine ⟨_, rfl, rfl, _, rfl, ifF rfl ?_⟩
          refine ⟨_, rfl, rfl, _, rfl, ifF rfl ?_⟩
          refine ⟨_, rfl, rfl, _, rfl, ifF rfl ?_⟩
          refine ⟨_, rfl, rfl, _, rfl, ifF rfl ?_⟩
          refine ⟨_, rfl, rfl, _, rfl, ifF rfl ?_⟩
          refine ⟨_, rfl, rfl, _, rfl, ifT rfl ?_⟩
          obtain ⟨l, x, e⟩ : ∃ l x, as = l ++ [x] := by
            rcases List.eq_nil_or_concat as with e | ⟨l, x, e⟩
            · have := hd.a0
              rw [e] at this
              exact absurd this (by decide)
            · exact ⟨l, x, by rw [e, List.concat_eq_append]⟩
          have hx := hd.i x (by rw [e]; simp)
          cases ha2 with
          | tup hsq hda =>
            rename_i vs
            have lv := dp_len hda
            rw [List.length_map] at lv
            have hda' := hda
            rw [e, List.map_append] at hda'
            obtain ⟨ws, v, ev, hw, hv⟩ := dpAll_snoc_inv hda'
            obtain ⟨t', i', rfl, ht', hi'⟩ := dp_atomInv hv
            obtain ⟨n0, hn0⟩ : ∃ n, x.2[0]? = some n := ⟨_, List.getElem?_eq_getElem (by omega)⟩
            have hlast : atI vs (-1) = some (.ref t') := by rw [ev]; exact atI_last
            refine ⟨_, rfl, 1, rfl, a, _, -1, _, rfl, rfl, hsq, hlast, ?_⟩
            refine ⟨_, rfl, t', _, 1, _, rfl, rfl, ht', rfl, i', _, 0, _, rfl, rfl, hi', atNat (get_map (f := V.int) hn0) rfl, _, _, rfl, rfl, .inl ⟨_, rfl, _, rfl, p, _, rfl, .inr hp2, _, _, rfl, rfl, by rw [lm]; omega, by show 1 ≤ sizeLine; decide, fun q3 nq3 => ?_⟩⟩
            obtain ⟨nw, hnw⟩ : ∃ nw : Int, nw = (n0 + 1) % ((ps.map ptV).length : Int) := ⟨_, rfl⟩
            have s3 : Same H2 (upd H2 q3 (.tup [V.int ((n0 + 1) % ((ps.map ptV).length : Int))])) := same_new (Same.refl H2) nq3
            have hq3 : (upd H2 q3 (.tup [V.int ((n0 + 1) % ((ps.map ptV).length : Int))])) q3 = some (.tup [V.int nw]) := by rw [hnw]; exact upd_same
            refine ⟨_, rfl, t', _, 1, _, rfl, rfl, same_tup s3 ht', rfl, 1, rfl, ?_⟩
            delta tNoPart
            show rSlA K (.ref i') (some 1) none (upd H2 q3 (.tup [V.int ((n0 + 1) % ((ps.map ptV).length : Int))])) _
            have lc := cutV_length (x.2.map V.int) (some 1) none
            rw [List.length_map] at lc
            refine slA (same_tup s3 hi') fun q4 H4 hq4 s4 => catA (SqT.of (s4 _ _ hq3)) hq4 (by show 1 + _ ≤ 100000; omega) fun q5 H5 hq5 s5 => ?_
            have s25 : Same H2 H5 := fun b o e => s5 _ _ (s4 _ _ (s3 _ _ e))
            refine ⟨_, rfl, 1, rfl, -1, rfl, ?_⟩
            show rSlA K (.ref a) none (some (-1)) H5 _
            have lc2 := cutV_length vs none (some (-1))
            refine slA (same_tup s25 hsq) fun q6 H6 hq6 s6 => ?_
            have s26 : Same H2 H6 := fun b o e => s6 _ _ (s25 _ _ e)
            refine ⟨_, rfl, t', _, 0, _, rfl, rfl, same_tup s26 ht', rfl, _, rfl, by show 2 ≤ sizeLine; decide, fun q7 nq7 => ⟨by show 1 ≤ sizeLine; decide, fun q8 nq8 => ?_⟩⟩
            generalize h7' : upd H6 q7 (.tup [V.str x.1, V.ref q5]) = H7 at nq8
            have s7 : Same H6 H7 := by rw [← h7']; exact same_new (Same.refl H6) nq7
            have hq7 : H7 q7 = some (.tup [V.str x.1, V.ref q5]) := by rw [← h7']; exact upd_same
            generalize h8' : upd H7 q8 (.tup [V.ref q7]) = H8
            have s8 : Same H7 H8 := by rw [← h8']; exact same_new (Same.refl H7) nq8
            have hq8 : H8 q8 = some (.tup [V.ref q7]) := by rw [← h8']; exact upd_same
            refine catA (same_tup s8 (same_tup s7 hq6)) (SqT.of hq8) (by show _ + 1 ≤ 100000; omega) fun q9 H9 hq9 s9 => ?_
            have s69 : Same H6 H9 := fun b o e => s9 _ _ (s8 _ _ (s7 _ _ e))
            have s29 : Same H2 H9 := fun b o e => s69 _ _ (s26 _ _ e)
            have dz : Dp K H9 (.ref q7) (dAtom (x.1, nw :: cutG x.2 (some 1) none)) := by
              refine .tup (SqT.of (s9 _ _ (s8 _ _ hq7))) (.cons (.str _) (.cons (.tup (same_tup s69 (same_tup s6 hq5)) ?_) .nil))
              rw [cutG_map]
              exact dp_ints (nw :: cutG x.2 (some 1) none)
            refine ⟨p, q9, g, ps, cutG as none (some (-1)) ++ [(x.1, nw :: cutG x.2 (some 1) none)], gs, pk, _, _, _, rfl, s29, same_tup s29 hp2, .tup hq9 ?_, same_tup s29 hg2, sm.p, ?_, sm.g, fun y hy => ?_⟩
            · rw [List.map_append, ← cutG_mapD]
              exact dpAll_snoc dz (dpAll_cut (dpAll_same s29 hda))
            · rw [List.length_append]
              have := cutG_len as none (some (-1))
              show _ + 1 ≤ 1000
              omega
            · rcases List.mem_append.mp hy with hy | hy
              · exact sm.i y (cutG_mem hy)
              · rw [List.mem_singleton] at hy
                rw [hy]
                have := cutG_len x.2 (some 1) none
                show _ + 1 ≤ 1000
                omega
        · refine ⟨_, rfl, rfl, _, rfl, ifF rfl ?_⟩
          refine ⟨_, rfl, rfl, _, rfl, ifF rfl ?_⟩
          refine ⟨_, rfl, rfl, _, rfl, ifF rfl ?_⟩
          refine ⟨_, rfl, rfl, _, rfl, ifF rfl ?_⟩
          refine ⟨_, rfl, rfl, _, rfl, ifF rfl ?_⟩
          refine ⟨_, rfl, rfl, _, rfl, ifF rfl ?_⟩
          refine ⟨_, rfl, rfl, _, rfl, ifF rfl ?_⟩
          refine ⟨_, rfl, rfl, _, rfl, ifF rfl ?_⟩
          refine ⟨_, rfl, rfl, _, rfl, ifF rfl ?_⟩
          exact ⟨p, a, g, ps, as, gs, pk, _, _, _, rfl, Same.refl H2, hp2, ha2, hg2, sm⟩
      · rintro σ' H3 ⟨p', a', g', ps', as', gs', pk', v8, v9, v10, rfl, s3, hp3, ha3, hg3, sm3⟩
        have s03 : Same H1 H3 := fun b o e => s3 _ _ (s2 _ _ e)
        have S3 := S2.same s3
        refine ⟨_, rfl, _, rfl, _, rfl, _, rfl, by show 4 ≤ sizeLine; decide, fun u nu => ?_⟩
        have s4 : ∀ o : HO, Same H3 (upd H3 u o) := fun o => same_new (Same.refl H3) nu
        exact k u ps' as' gs' pk' _ ⟨⟨p', a', g', SqT.of upd_same, same_tup (s4 _) hp3, dp_same (s4 _) ha3, same_tup (s4 _) hg3⟩, isAt_map⟩ sm3 (S3.new nu) ((e2.trans (But.same s3)).new nu S3.has)
end
def spLaw (K : PySem.W.Frag) : Sp := fun vs H Q _ => ∃ (a : Addr) (ns : List Int), vs = [.ref a] ∧ SqL K H a (ns.map V.int) ∧ ∀ H', Q (.bl true) H'
theorem ata_of {K : PySem.W.Frag} {H : Hp} {a : Addr} {vs : List V} {as : List (Str × List Int)} (h : Sq K H a vs) (hd : DpAll K H vs (as.map dAtom)) : AtA K H a as := by
  have e := dp_len hd
  rw [List.length_map] at e
  refine ⟨vs, h, e, fun j x hx => ?_⟩
  have hj : j < vs.length := by
    rcases Nat.lt_or_ge j vs.length with z | z
    · exact z
    · rw [List.getElem?_eq_none z] at hx
      cases hx
  obtain ⟨d, hdj⟩ : ∃ d, as[j]? = some d := ⟨_, List.getElem?_eq_getElem (by omega)⟩
  obtain ⟨v, hv, dv⟩ := dp_get hd (get_map (f := dAtom) hdj)
  rw [hx] at hv
  cases hv
  obtain ⟨t, i, rfl, h1, h2⟩ := dp_atomInv dv
  exact ⟨d.1, d.2, t, i, hdj, rfl, h1, .inr h2⟩
theorem lt_self (d : PyData) : PySem.W.dataLt d d = false := PyProof.Rows.lex_irrefl _
theorem mkCase {K : PySem.W.Frag} {H : Hp} {E : XK} {Q : Addr → Hp → Prop} {p a g : Addr} {ps : List (Option Int)} {as : List (Str × List Int)} {gs : List Int} {pk : Option Int} (hp : Sq K H p (ps.map ptV)) (ha : AtA K H a as) (hg : Sq K H g (gs.map V.int)) (lp : ps.length ≤ 1000) (la : as.length ≤ 1000)
    (k : ∀ x H', IsCase K H' x ps as gs pk → Same H H' → Q x H') : ∀ x dx, H x = none → H dx = none → dx ≠ x → spCase K [.ref x, .ref p, .ref a, .ref g, ptV pk] (upd (upd H dx (.own x)) x (.ins (He.ga K "Case") dx [])) (fun v H2 => v = .non ∧ Q x H2) E := by
  intro x dx nx ndx nex
  have s10 : Same H (upd (upd H dx (.own x)) x (.ins (He.ga K "Case") dx [])) := fun y o e => by rw [upd_ne (ne_of_none e nx), upd_ne (ne_of_none e ndx)]; exact e
  exact ⟨x, dx, p, a, g, ps, as, gs, pk, rfl, upd_same, hp.same s10, ha.same s10, hg.same s10, lp, la, fun _ _ => trivial, fun H11 cx b11 => ⟨rfl, k x H11 cx fun y o e => b11 _ _ (ne_of_none e nx) (s10 _ _ e)⟩⟩
section
variable {P : Program} {w : World} {K : PySem.W.Frag} {mg : Str → Option Value} {base : Heap}
theorem ok_law (T : Txt K mg) {fd : FuncData} (F : FunD K d_law.name d_law.qual (defArgs s_law) (defBody s_law) (defScope s_law) (d_law.dvs K) (d_law.kws K) (He.fAd K d_law.at_) fd) : FnOk P w K mg base CX0 10 (He.ga K "law") fd P_law (spLaw K) := by
  have C__law_source := ok_source (P := P) (w := w) (base := base) T
  have C__law_drawn := ok_drawn (P := P) (w := w) (base := base) T
  have C__law_near := ok_near (P := P) (w := w) (base := base) T
  have M_Case_2 := ok_Case (P := P) (w := w) (base := base) T
  have M_Case := ok_Case4 (P := P) (w := w) (base := base) T
  have C__law_is_case := ok_isCase (P := P) (w := w) (base := base) T
  have C__law_same := ok_same (P := P) (w := w) (base := base) T 1
  have C__law_form := ok_form (P := P) (w := w) (base := base) T
  have C__law_ordered := ok_ordered (P := P) (w := w) (base := base) T
  have C_Case_DeqD := ok_eqC (P := P) (w := w) (base := base) T
  have C_Case_DltD := ok_ltC (P := P) (w := w) (base := base) T
  refine F.ok sc_law (fun vs H Q E h => ?_) (fun cdv A outer s0 H vs Q E hr h => ?_)
  · obtain ⟨a, ns, rfl, _⟩ := h
    rfl
  · obtain ⟨a, ns0, rfl, hS, k⟩ := h
    refine ⟨_, PSs.nox (pss_cons (ps_set (i := 1) sc_law.nd rfl (Or.inl rfl) (pc_call C__law_source (hr.mono (by first | decide | omega)) pass0 (pa_cons (pv 0) pa_nil)))
    (pss_cons (ps_set (i := 2) sc_law.nd rfl (Or.inl rfl) (pc_call C__law_drawn (hr.mono (by first | decide | omega)) pass0 (pa_cons (pv 1) pa_nil)))
    (pss_cons (ps_set (i := 3) sc_law.nd rfl (Or.inl rfl) (pc_call C__law_near (hr.mono (by first | decide | omega)) pass0 (pa_cons (pv 1) (pa_cons (pv 2) pa_nil))))
    (pss_cons (ps_set (i := 4) sc_law.nd rfl (Or.inl rfl) (pe_lst (pa_cons (pe_callTy call_list_of (by rfl) T.f_list (by decide +kernel) (pa_cons (pe_ix ix_tup (pv 2) pe_int (fun _ _ => rfl)) pa_nil)) (pa_cons (pe_callTy call_list_of (by rfl) T.f_list (by decide +kernel) (pa_cons (pe_ix ix_tup (pv 2) pe_int (fun _ _ => rfl)) pa_nil)) (pa_cons (pe_callTy call_list_of (by rfl) T.f_list (by decide +kernel) (pa_cons (pe_ix ix_tup (pv 2) pe_int (fun _ _ => rfl)) pa_nil)) pa_nil)))))
    (pss_cons (ps_set (i := 5) sc_law.nd rfl (Or.inl rfl) (pc_make M_Case (hr.mono (by first | decide | omega)) pass0 (pa_cons (pe_ix ix_list (pv 4) pe_int (fun _ _ => rfl)) (pa_cons (pe_ix ix_list (pv 4) pe_int (fun _ _ => rfl)) (pa_cons (pe_ix ix_list (pv 4) pe_int (fun _ _ => rfl)) (pa_cons (pe_ix ix_tup (pv 2) pe_int (fun _ _ => rfl)) pa_nil))))))
    (pss_cons (ps_set (i := 6) sc_law.nd rfl (Or.inl rfl) (pc_make M_Case (hr.mono (by first | decide | omega)) pass0 (pa_cons (pe_ix ix_tup (pv 3) pe_int (fun _ _ => rfl)) (pa_cons (pe_ix ix_tup (pv 3) pe_int (fun _ _ => rfl)) (pa_cons (pe_ix ix_tup (pv 3) pe_int (fun _ _ => rfl)) (pa_cons (pe_ix ix_tup (pv 3) pe_int (fun _ _ => rfl)) pa_nil))))))
    (pss_cons (ps_expr (pe_bm PySem.F.plainAttrs_list PySem.F.slot_list_append PySem.F.type_list_append mt_append (pe_ix ix_list (pv 4) pe_int (fun _ _ => rfl)) (pa_cons pe_non pa_nil)))
    (pss_cons (ps_expr (pe_bm PySem.F.plainAttrs_list PySem.F.slot_list_append PySem.F.type_list_append mt_append (pe_ix ix_list (pv 4) pe_int (fun _ _ => rfl)) (pa_cons (pe_ix ix_tup (pe_ix ix_tup (pv 2) pe_int (fun _ _ => rfl)) pe_int (fun _ _ => rfl)) pa_nil)))
    (pss_cons (ps_expr (pe_bm PySem.F.plainAttrs_list PySem.F.slot_list_append PySem.F.type_list_append mt_append (pe_ix ix_list (pv 4) pe_int (fun _ _ => rfl)) (pa_cons pe_int pa_nil)))
    (pss_cons (ps_if (PW.pt (pw_or (pt_not (pt_val (pc_call C__law_is_case (hr.mono (by first | decide | omega)) pass0 (pa_cons (pv 5) (pa_cons (pv 2) pa_nil))))) (pw_or1 (pt_not (pt_val (pc_call C__law_is_case (hr.mono (by first | decide | omega)) pass0 (pa_cons (pv 6) (pa_cons (pv 3) pa_nil)))))))) (pss_one (ps_ret pe_bl))
    pss_nil)
    (pss_cons (ps_set (i := 7) sc_law.nd rfl (Or.inl rfl) (pc_call C__law_form (hr.mono (by first | decide | omega)) pass0 (pa_cons (pc_call C__law_ordered (hr.mono (by first | decide | omega)) pass0 (pa_cons (pv 2) pa_nil)) pa_nil)))
    (pss_cons (ps_set (i := 8) sc_law.nd rfl (Or.inl rfl) (pc_call C__law_form (hr.mono (by first | decide | omega)) pass0 (pa_cons (pc_call C__law_ordered (hr.mono (by first | decide | omega)) pass0 (pa_cons (pv 3) pa_nil)) pa_nil)))
    (pss_cons (ps_if (PW.pt (pw_or (pt_not (pt_val (pc_call C__law_same (hr.mono (by first | decide | omega)) pass0 (pa_cons (pe_cmpR (op_cmpS C_Case_DeqD rfl (fun _ _ => rfl) (hr.mono (by first | decide | omega)) never0) (pv 5) (pv 6) (nomark _)) (pa_cons (pe_cmpR (op_eqP hr.units) (pv 7) (pv 8) (nomark _)) pa_nil))))) (pw_or1 (pt_not (pt_val (pc_call C__law_same (hr.mono (by first | decide | omega)) pass0 (pa_cons (pe_cmpR (op_cmpS C_Case_DeqD rfl (fun _ _ => rfl) (hr.mono (by first | decide | omega)) never0) (pv 6) (pv 5) (nomark _)) (pa_cons (pe_cmpR (op_eqP hr.units) (pv 7) (pv 8) (nomark _)) pa_nil)))))))) (pss_one (ps_ret pe_bl))
    pss_nil)
    (pss_cons (ps_if (PW.pt (pw_or (pt_not (pt_val (pc_call C__law_same (hr.mono (by first | decide | omega)) pass0 (pa_cons (pe_cmpR (op_cmpS C_Case_DltD rfl (fun _ _ => rfl) (hr.mono (by first | decide | omega)) never0) (pv 5) (pv 6) (nomark _)) (pa_cons (pe_cmpR (op_ltD hr.units) (pv 7) (pv 8) (nomark _)) pa_nil))))) (pw_or1 (pt_not (pt_val (pc_call C__law_same (hr.mono (by first | decide | omega)) pass0 (pa_cons (pe_cmpR (op_cmpS C_Case_DltD rfl (fun _ _ => rfl) (hr.mono (by first | decide | omega)) never0) (pv 6) (pv 5) (nomark _)) (pa_cons (pe_cmpR (op_ltD hr.units) (pv 8) (pv 7) (nomark _)) pa_nil)))))))) (pss_one (ps_ret pe_bl))
    pss_nil)
    (pss_cons (ps_set (i := 9) sc_law.nd rfl (Or.inl rfl) (pc_make M_Case (hr.mono (by first | decide | omega)) pass0 (pa_cons (pe_ix ix_tup (pv 2) pe_int (fun _ _ => rfl)) (pa_cons (pe_ix ix_tup (pv 2) pe_int (fun _ _ => rfl)) (pa_cons (pe_ix ix_tup (pv 2) pe_int (fun _ _ => rfl)) (pa_cons (pe_ix ix_tup (pv 2) pe_int (fun _ _ => rfl)) pa_nil))))))
    (pss_cons (ps_if (PW.pt (pw_or (pt_not (pt_val (pc_call C__law_same (hr.mono (by first | decide | omega)) pass0 (pa_cons (pe_cmpR (op_cmpS C_Case_DeqD rfl (fun _ _ => rfl) (hr.mono (by first | decide | omega)) never0) (pv 5) (pv 9) (nomark _)) (pa_cons pe_bl pa_nil))))) (pw_or1 (pt_not (pt_val (pc_call C__law_same (hr.mono (by first | decide | omega)) pass0 (pa_cons (pe_cmpR (op_cmpS C_Case_DltD rfl (fun _ _ => rfl) (hr.mono (by first | decide | omega)) never0) (pv 5) (pv 9) (nomark _)) (pa_cons pe_bl pa_nil)))))))) (pss_one (ps_ret pe_bl))
    pss_nil)
    (pss_cons (ps_set (i := 10) sc_law.nd rfl (Or.inl rfl) (pc_make M_Case_2 (hr.mono (by first | decide | omega)) pass0 (pa_cons (pe_ix ix_tup (pv 2) pe_int (fun _ _ => rfl)) (pa_cons (pe_callTy call_list_of (by rfl) T.f_list (by decide +kernel) (pa_cons (pe_ix ix_tup (pv 2) pe_int (fun _ _ => rfl)) pa_nil)) pa_nil))))
    (pss_one (ps_ret (pe_and (pc_call C__law_is_case (hr.mono (by first | decide | omega)) pass0 (pa_cons (pv 10) (pa_cons (pe_tup (pa_cons (pe_ix ix_tup (pv 2) pe_int (fun _ _ => rfl)) (pa_cons (pe_ix ix_tup (pv 2) pe_int (fun _ _ => rfl)) (pa_cons (pe_tup pa_nil) (pa_cons pe_non pa_nil))))) pa_nil))) (pe_one (pc_call C__law_is_case (hr.mono (by first | decide | omega)) pass0 (pa_cons (pv 5) (pa_cons (pv 2) pa_nil)))))))))))))))))))))))), ?_⟩
    refine ⟨_, rfl, a, ns0, rfl, hS, fun s c H1 _ _ S1 e1 => ?_⟩
    refine ⟨_, rfl, s, c, rfl, S1, fun t ps as gs pk H2 hp hd S2 e2 => ?_⟩
    refine ⟨_, rfl, _, rfl, s, c, t, ps, as, gs, pk, rfl, S2, hp, hd, fun u ps' as' gs' pk' H3 hu sm' S3 e3 => ?_⟩
    have sm : Sm ps as gs := ⟨by have := hd.p1; omega, by have := hd.a1; omega, by have := hd.g; omega, fun x hx => by have := (hd.i x hx).2; omega⟩
    have hp3 := hp.firm (Firm.but S2 e3)
    obtain ⟨p, a0, g, h1, h2, h3, h4⟩ := hp3.ex
    obtain ⟨vs, hsq, hda⟩ : ∃ vs, SqT K H3 a0 vs ∧ DpAll K H3 vs (as.map dAtom) := by
      cases h3 with
      | tup hsq hda => exact ⟨_, hsq, hda⟩
    refine ⟨_, rfl, t, _, 0, _, rfl, rfl, h1, rfl, p, _, rfl, .inr h2, fun l0 nl0 => ?_⟩
    generalize q4 : upd H3 l0 (.lst (ps.map ptV)) = H4
    have s4 : Same H3 H4 := by rw [← q4]; exact same_new (Same.refl H3) nl0
    have hl04 : H4 l0 = some (.lst (ps.map ptV)) := by rw [← q4]; exact upd_same
    clear q4
    refine ⟨_, rfl, t, _, 1, _, rfl, rfl, same_tup s4 h1, rfl, a0, _, rfl, .inr (same_tup s4 hsq), fun l1 nl1 => ?_⟩
    generalize q5 : upd H4 l1 (.lst vs) = H5
    have s5 : Same H4 H5 := by rw [← q5]; exact same_new (Same.refl H4) nl1
    have hl15 : H5 l1 = some (.lst vs) := by rw [← q5]; exact upd_same
    clear q5
    have s35 : Same H3 H5 := fun b o e => s5 _ _ (s4 _ _ e)
    refine ⟨_, rfl, t, _, 2, _, rfl, rfl, same_tup s35 h1, rfl, g, _, rfl, .inr (same_tup s35 h4), fun l2 nl2 => ?_⟩
    generalize q6 : upd H5 l2 (.lst (gs.map V.int)) = H6
    have s6 : Same H5 H6 := by rw [← q6]; exact same_new (Same.refl H5) nl2
    have hl26 : H6 l2 = some (.lst (gs.map V.int)) := by rw [← q6]; exact upd_same
    clear q6
    refine ⟨by show 3 ≤ sizeLine; decide, fun ll nll => ?_⟩
    generalize q7 : upd H6 ll (.lst [V.ref l0, V.ref l1, V.ref l2]) = H7
    have s7 : Same H6 H7 := by rw [← q7]; exact same_new (Same.refl H6) nll
    have hll7 : H7 ll = some (.lst [V.ref l0, V.ref l1, V.ref l2]) := by rw [← q7]; exact upd_same
    clear q7
    have s37 : Same H3 H7 := fun b o e => s7 _ _ (s6 _ _ (s35 _ _ e))
    have hl07 := s7 _ _ (s6 _ _ (s5 _ _ hl04))
    have hl17 := s7 _ _ (s6 _ _ hl15)
    have hl27 := s7 _ _ hl26
    have n01 : l0 ≠ l1 := ne_of_none hl04 nl1
    have n02 : l0 ≠ l2 := ne_of_none (s5 _ _ hl04) nl2
    have n12 : l1 ≠ l2 := ne_of_none hl15 nl2
    have n0l : l0 ≠ ll := ne_of_none (s6 _ _ (s5 _ _ hl04)) nll
    have n1l : l1 ≠ ll := ne_of_none (s6 _ _ hl15) nll
    have n2l : l2 ≠ ll := ne_of_none hl26 nll
    refine ⟨_, rfl, ll, _, 0, _, rfl, rfl, SqL.of hll7, rfl, _, rfl, ll, _, 1, _, rfl, rfl, SqL.of hll7, rfl, _, rfl, ll, _, 2, _, rfl, rfl, SqL.of hll7, rfl, _, rfl, t, _, 3, _, rfl, rfl, same_tup s37 h1, rfl, ?_⟩
    refine mkCase (.inl (SqL.of hl07)) (ata_of (.inl (SqL.of hl17)) (dpAll_same s37 hda)) (.inl (SqL.of hl27)) sm.p sm.a fun x H8 cx s8 => ?_
    have s38 : Same H3 H8 := fun b o e => s8 _ _ (s37 _ _ e)
    obtain ⟨p', a', g', h1', h2', h3', h4'⟩ := (hu.same s38).ex
    obtain ⟨vs', hsq', hda'⟩ : ∃ vs', SqT K H8 a' vs' ∧ DpAll K H8 vs' (as'.map dAtom) := by
      cases h3' with
      | tup hsq hda => exact ⟨_, hsq, hda⟩
    refine ⟨_, rfl, u, _, 0, _, rfl, rfl, h1', rfl, _, rfl, u, _, 1, _, rfl, rfl, h1', rfl, _, rfl, u, _, 2, _, rfl, rfl, h1', rfl, _, rfl, u, _, 3, _, rfl, rfl, h1', rfl, ?_⟩
    refine mkCase (.inr h2') (ata_of (.inr hsq') hda') (.inr h4') sm'.p sm'.a fun y H9 cy s9 => ?_
    have s89 : Same H7 H9 := fun b o e => s9 _ _ (s8 _ _ e)
    have hll9 := s89 _ _ hll7
    have hl09 := s89 _ _ hl07
    have hl19 := s89 _ _ hl17
    have hl29 := s89 _ _ hl27
    have lvs : vs.length = as.length := by rw [dp_len hda, List.length_map]
    have sp := sm.p
    have sa := sm.a
    have sg := sm.g
    refine ⟨_, rfl, ll, _, 0, _, rfl, rfl, SqL.of hll9, rfl, .inl ⟨rfl, _, SqL.of hl09⟩, l0, _, _, rfl, rfl, hl09, szl (by rw [List.length_map]; omega), ?_⟩
    generalize q10 : upd H9 l0 (.lst (ps.map ptV ++ [V.non])) = H10
    have f10 : Firm H9 H10 := by rw [← q10]; exact Firm.lst hl09
    have hll10 : H10 ll = some (.lst [V.ref l0, V.ref l1, V.ref l2]) := by rw [← q10, upd_ne n0l.symm]; exact hll9
    have hl110 : H10 l1 = some (.lst vs) := by rw [← q10, upd_ne n01.symm]; exact hl19
    have hl210 : H10 l2 = some (.lst (gs.map V.int)) := by rw [← q10, upd_ne n02.symm]; exact hl29
    clear q10
    have f310 : Firm H3 H10 := (Firm.same fun b o e => s9 _ _ (s38 _ _ e)).trans f10
    obtain ⟨v0, hv0⟩ : ∃ v, vs[0]? = some v := ⟨_, List.getElem?_eq_getElem (by have := hd.a0; omega)⟩
    refine ⟨_, rfl, ll, _, 1, _, rfl, rfl, SqL.of hll10, rfl, .inl ⟨rfl, _, SqL.of hl110⟩, _, rfl, t, _, 1, _, rfl, rfl, f310.tup h1, rfl, a0, _, 0, _, rfl, rfl, f310.tup hsq, atNat hv0 rfl, l1, _, _, rfl, rfl, hl110, szl (by omega), ?_⟩
    generalize q11 : upd H10 l1 (.lst (vs ++ [v0])) = H11
    have f11 : Firm H10 H11 := by rw [← q11]; exact Firm.lst hl110
    have hll11 : H11 ll = some (.lst [V.ref l0, V.ref l1, V.ref l2]) := by rw [← q11, upd_ne n1l.symm]; exact hll10
    have hl211 : H11 l2 = some (.lst (gs.map V.int)) := by rw [← q11, upd_ne n12.symm]; exact hl210
    clear q11
    refine ⟨_, rfl, ll, _, 2, _, rfl, rfl, SqL.of hll11, rfl, .inl ⟨rfl, _, SqL.of hl211⟩, l2, _, _, rfl, rfl, hl211, szl (by rw [List.length_map]; omega), ?_⟩
    generalize q12 : upd H11 l2 (.lst (gs.map V.int ++ [V.int 0])) = H12
    have f12 : Firm H11 H12 := by rw [← q12]; exact Firm.lst hl211
    clear q12
    have f912 : Firm H9 H12 := (f10.trans f11).trans f12
    have f312 : Firm H3 H12 := (f310.trans f11).trans f12
    have cx12 := (cx.firm (Firm.same s9)).firm f912
    have cy12 := cy.firm f912
    have hp12 := hp3.firm f312
    have hu12 := hu.firm f312
    refine ⟨_, rfl, _, rfl, x, t, ps, as, gs, pk, rfl, cx12, hp12, sm, fun H13 s13 => ⟨_, rfl, iteF ?_⟩⟩
    refine ⟨_, rfl, _, rfl, y, u, ps', as', gs', pk', rfl, cy12.firm (Firm.same s13), hu12.same s13, sm', fun H14 s14 => ⟨_, rfl, iteF ?_⟩⟩
    have s1214 : Same H12 H14 := fun b o e => s14 _ _ (s13 _ _ e)
    refine ⟨_, rfl, t, ps, as, gs, pk, rfl, hp12.same s1214, sm.a, fun o1 H15 s15 ho1 => ?_⟩
    refine ⟨o1, ps, _, gs, pk, rfl, ho1, sm.p, fun w1 H16 s16 hw1 => ?_⟩
    have s1216 : Same H12 H16 := fun b o e => s16 _ _ (s15 _ _ (s1214 _ _ e))
    refine ⟨_, rfl, u, ps', as', gs', pk', rfl, hu12.same s1216, sm'.a, fun o2 H17 s17 ho2 => ?_⟩
    refine ⟨o2, ps', _, gs', pk', rfl, ho2, sm'.p, fun w2 H18 s18 hw2 => ?_⟩
    have s1218 : Same H12 H18 := fun b o e => s18 _ _ (s17 _ _ (s1216 _ _ e))
    have hw1 := dp_same s18 (dp_same s17 hw1)
    have cx18 := cx12.firm (Firm.same s1218)
    have cy18 := cy12.firm (Firm.same s1218)
    obtain ⟨dx, _, _, _, _, hx18, _⟩ := cx18.form
    obtain ⟨dy, _, _, _, _, hy18, _⟩ := cy18.form
    have ix : ∀ {H'}, Same H18 H' → InsC (He.ga K "Case") H' (.ref x) := fun e => ⟨x, dx, _, rfl, e _ _ hx18⟩
    have iy : ∀ {H'}, Same H18 H' → InsC (He.ga K "Case") H' (.ref y) := fun e => ⟨y, dy, _, rfl, e _ _ hy18⟩
    have rr := Same.refl H18
    have pl1 := noL_plain (noL_form (ps := ps) (gs := gs) (pk := pk) (isAt_sort (as := as)))
    have pl2 := noL_plain (noL_form (ps := ps') (gs := gs') (pk := pk') (isAt_sort (as := as')))
    have de1 := Nat.le_trans (noL_depth (noL_form (ps := ps) (gs := gs) (pk := pk) (isAt_sort (as := as)))) (show 5 ≤ 60 by decide)
    have de2 := Nat.le_trans (noL_depth (noL_form (ps := ps') (gs := gs') (pk := pk') (isAt_sort (as := as')))) (show 5 ≤ 60 by decide)
    have al12 := alike_form (ps := ps) (qs := ps') (gs := gs) (hs := gs') (pk := pk) (qk := pk') (isAt_sort (as := as)) (isAt_sort (as := as'))
    have al21 := alike_form (ps := ps') (qs := ps) (gs := gs') (hs := gs) (pk := pk') (qk := pk) (isAt_sort (as := as')) (isAt_sort (as := as))
    have ec := PySem.W.eqv_comm (formD ps' (sortA as') gs' pk') (formD ps (sortA as) gs pk)
    refine ⟨_, rfl, _, rfl, ix rr, iy rr, ⟨x, y, ps, ps', as, as', gs, gs', pk, pk', rfl, cx18, cy18, ?_⟩⟩
    refine ⟨_, rfl, _, rfl, _, _, hw1, hw2, pl1, pl2, de1, _, _, .bool _, rfl, .bl _, .bl _, rfl, _, rfl, iteF ?_⟩
    refine ⟨_, rfl, _, rfl, iy rr, ix rr, ⟨y, x, ps', ps, as', as, gs', gs, pk', pk, rfl, cy18, cx18, ?_⟩⟩
    rw [ec]
    refine ⟨_, rfl, _, rfl, _, _, hw1, hw2, pl1, pl2, de1, _, _, .bool _, rfl, .bl _, .bl _, rfl, _, rfl, iteF ?_⟩
    refine ⟨_, rfl, _, rfl, ix rr, iy rr, ⟨x, y, ps, ps', as, as', gs, gs', pk, pk', rfl, cx18, cy18, ?_⟩⟩
    refine ⟨_, rfl, _, rfl, _, _, hw1, hw2, al12, PyData.noConfusion, de1, _, _, .bool _, rfl, .bl _, .bl _, rfl, _, rfl, iteF ?_⟩
    refine ⟨_, rfl, _, rfl, iy rr, ix rr, ⟨y, x, ps', ps, as', as, gs', gs, pk', pk, rfl, cy18, cx18, ?_⟩⟩
    refine ⟨_, rfl, _, rfl, _, _, hw2, hw1, al21, PyData.noConfusion, de2, _, _, .bool _, rfl, .bl _, .bl _, rfl, _, rfl, iteF ?_⟩
    -- again
    have hp18 := hp12.same s1218
    obtain ⟨p8, a8, g8, b1, b2, b3, b4⟩ := hp18.ex
    obtain ⟨vs8, hsq8, hda8⟩ : ∃ vs', SqT K H18 a8 vs' ∧ DpAll K H18 vs' (as.map dAtom) := by
      cases b3 with
      | tup hsq hda => exact ⟨_, hsq, hda⟩
    refine ⟨_, rfl, t, _, 0, _, rfl, rfl, b1, rfl, _, rfl, t, _, 1, _, rfl, rfl, b1, rfl, _, rfl, t, _, 2, _, rfl, rfl, b1, rfl, _, rfl, t, _, 3, _, rfl, rfl, b1, rfl, ?_⟩
    refine mkCase (.inr b2) (ata_of (.inr hsq8) hda8) (.inr b4) sm.p sm.a fun z H19 cz s19 => ?_
    have cx19 := cx18.firm (Firm.same s19)
    obtain ⟨dz, _, _, _, _, hz19, _⟩ := cz.form
    have er : PyData.eqv (formD ps (sortA as) gs pk) (formD ps (sortA as) gs pk) = true := SeqAt.eqv_refl_plain _ pl1
    have lr : PySem.W.dataLt (formD ps (sortA as) gs pk) (formD ps (sortA as) gs pk) = false := lt_self _
    refine ⟨_, rfl, _, rfl, ix s19, ⟨z, dz, _, rfl, hz19⟩, ⟨x, z, ps, ps, as, as, gs, gs, pk, pk, rfl, cx19, cz, ?_⟩⟩
    rw [er]
    refine ⟨_, _, .bool _, rfl, .bl _, .bl _, rfl, _, rfl, iteF ?_⟩
    refine ⟨_, rfl, _, rfl, ix s19, ⟨z, dz, _, rfl, hz19⟩, ⟨x, z, ps, ps, as, as, gs, gs, pk, pk, rfl, cx19, cz, ?_⟩⟩
    rw [lr]
    refine ⟨_, _, .bool _, rfl, .bl _, .bl _, rfl, _, rfl, iteF ?_⟩
    -- bare
    have b1 := same_tup s19 b1
    have b2 := same_tup s19 b2
    have hsq8 := same_tup s19 hsq8
    have hda8 := dpAll_same s19 hda8
    refine ⟨_, rfl, t, _, 0, _, rfl, rfl, b1, rfl, _, rfl, t, _, 1, _, rfl, rfl, b1, rfl, a8, _, rfl, .inr hsq8, fun lb nlb => ?_⟩
    have s20 : Same H19 (upd H19 lb (.lst vs8)) := same_new (Same.refl H19) nlb
    refine mkCase (pk := none) (gs := []) (.inr (same_tup s20 b2)) (ata_of (.inl (SqL.of upd_same)) (dpAll_same s20 hda8)) (.inr (T.dfl_Case_DinitD_0 _)) sm.p sm.a fun q H21 cq s21 => ?_
    have s1921 : Same H19 H21 := fun b o e => s21 _ _ (s20 _ _ e)
    have c1 := same_tup s1921 b1
    refine ⟨_, rfl, _, rfl, t, _, 0, _, rfl, rfl, c1, rfl, _, rfl, t, _, 1, _, rfl, rfl, c1, rfl, by show 0 ≤ sizeLine; decide, fun w3 nw3 => ⟨by show 4 ≤ sizeLine; decide, fun w4 nw4 => ?_⟩⟩
    generalize q22 : upd H21 w3 (.tup []) = H22 at nw4
    have s22 : Same H21 H22 := by rw [← q22]; exact same_new (Same.refl H21) nw3
    have hw3 : H22 w3 = some (.tup []) := by rw [← q22]; exact upd_same
    generalize q23 : upd H22 w4 (.tup [V.ref p8, V.ref a8, V.ref w3, V.non]) = H23
    have s23 : Same H22 H23 := by rw [← q23]; exact same_new (Same.refl H22) nw4
    have hw4 : H23 w4 = some (.tup [V.ref p8, V.ref a8, V.ref w3, V.non]) := by rw [← q23]; exact upd_same
    have s2123 : Same H21 H23 := fun b o e => s23 _ _ (s22 _ _ e)
    have s1923 : Same H19 H23 := fun b o e => s2123 _ _ (s1921 _ _ e)
    refine ⟨q, w4, ps, as, [], none, rfl, cq.firm (Firm.same s2123), ⟨⟨p8, a8, w3, SqT.of hw4, same_tup s1923 b2, .tup (same_tup s1923 hsq8) (dpAll_same s1923 hda8), SqT.of (s23 _ _ hw3)⟩, isAt_map⟩, ⟨sp, sa, Nat.zero_le _, sm.i⟩, fun H24 s24 => ?_⟩
    have s1824 : Same H18 H24 := fun b o e => s24 _ _ (s1923 _ _ (s19 _ _ e))
    exact ⟨_, rfl, iteT ⟨_, rfl, _, rfl, x, t, ps, as, gs, pk, rfl, cx18.firm (Firm.same s1824), hp18.same s1824, sm, fun H25 _ => k H25⟩⟩
end
abbrev R : PySem.W.OpenRow := PySem.W.OpenLaw.row PySem.Challenge.rw_mostsalike_k26_case_form_and_order
abbrev hk : PySem.W.Hook := hookP 6 fa fn pr xbK
def ob (s : PySem.W.SharedT) : AlP := obsP 6 fa fn pr xbK (HandSHeadRun.getT s)
theorem ob_eq (s : PySem.W.SharedT) : ob s = hk.obs s.abs := obsP_eq (HandSHeadRun.getT_eq s)
theorem run (w : World) : HandSHeadRun.RunEq R (PySem.W.view R.prog [17]) hk ob 20000 [("_wall" : Str), ("Case" : Str), ("_law_source" : Str), ("_law_draw" : Str), ("_law_name" : Str), ("_law_names" : Str), ("_law_whole" : Str), ("_law_same" : Str), ("_law_form" : Str), ("_law_seen" : Str), ("_law_drawn_points" : Str), ("_law_drawn" : Str), ("_law_near" : Str), ("_law_ordered" : Str), ("_law_is_case" : Str)] w := by
  intro os
  kernel_rfl
end My
open PySem PySem.W PySem.Calls PyProof.Rows
theorem PySem.Challenge.cw_mostsalike_k26_case_form_and_order_holds : PySem.Challenge.rw_mostsalike_k26_case_form_and_order.Holds := by
  w_on; o_law
  refine HandSHeadRun.head_any (r := OpenLaw.row PySem.Challenge.rw_mostsalike_k26_case_form_and_order) (q := view (OpenLaw.row PySem.Challenge.rw_mostsalike_k26_case_form_and_order).prog [17]) (H := My.hk) (ob := My.ob) (M := 20000) (loose := [("_wall" : Str), ("Case" : Str), ("_law_source" : Str), ("_law_draw" : Str), ("_law_name" : Str), ("_law_names" : Str), ("_law_whole" : Str), ("_law_same" : Str), ("_law_form" : Str), ("_law_seen" : Str), ("_law_drawn_points" : Str), ("_law_drawn" : Str), ("_law_near" : Str), ("_law_ordered" : Str), ("_law_is_case" : Str)]) (d := HandSHeadRun.topDef (OpenLaw.row PySem.Challenge.rw_mostsalike_k26_case_form_and_order).prog 17) (kwd := []) My.ob_eq
    (by kernel_rfl) (fun s => by kernel_rfl) My.run (by kernel_rfl) (by kernel_rfl) (by kernel_rfl) (by rfl) (by first | assumption | decide +kernel) (by decide +kernel) ⟨rfl, rfl, rfl, rfl, rfl, by decide +kernel⟩ ?hw ?hc
  case hw => w_witness2
  case hc =>
    refine L2.walk_ofE (l := PySem.Challenge.rw_mostsalike_k26_case_form_and_order) (n := 63) (k := 10) (x := "script") (CX := L2.CX0) rfl (by decide) (by kernel_rfl) ⟨rfl, by decide, by decide⟩ ?F (fun _ _ _ _ z => z)
    intro w mg fa h Y G hmg0
    obtain ⟨K, KX, c, xb, pe⟩ := Y
    have hmg : mg ("law" : PySem.Str) = some (.ref fa) := by
      have e : (HandSHeadRun.topDef (OpenLaw.row PySem.Challenge.rw_mostsalike_k26_case_form_and_order).prog 17).name = ("law" : PySem.Str) := by kernel_rfl
      rw [← e]
      exact hmg0
    have T : My.Txt K mg := ⟨⟨h, KX, G⟩, c, (He.ba xb).1, (He.ba xb).2, pe⟩
    have e := hmg.symm.trans T.g_law
    cases e
    obtain ⟨fd, F⟩ := T.F_law
    exact ⟨K, fd, My.spLaw K, KX, fun s v => L2.FunD.bindsA (ps := ["script"]) F (fun _ _ _ _ _ _ us hl => match us, hl with | [_], _ => rfl) s [v] rfl, fun H a ns _ _ hS => ⟨a, ns, rfl, hS, fun _ => rfl⟩, fun base _ _ => My.ok_law T F⟩
