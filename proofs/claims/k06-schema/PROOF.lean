import PyProof.Rows.All
import Wide.All
import OpenK.AllK
import Wide.FinOn
import HandS.ForMost
import HandS.Exc
import HandS.Defaults
import HandS.Wide
import HandS.IsInst
import HandS.DictComp
import HandS.Strs
import HandS.Codes
import HandS.SortInts
import HandS.TupAny
import HandS.WordsExc
import HandS.ExcOwn
import HandS.Head0
import HandS.Head1
import HandS.Head2
import HandS.HeadEnd
import HandS.HeadHook1
import HandS.HeadHook2
import HandS.Walk
import KE.KExcIs
import HandS.ExcCtx
import HandS.HotCalls
import HandS.CallSlots
import KE.KCallOwn
import KE.KOpsOwn
import HandS.FStr
import KE.SortData
import KE.DataCmp
import KE.GoesMore
import HandS.Style
import HandS.Property
import KE.DataEq
import HandS.Nested
import HandS.ExcInit
import HandS.ExcField
import KE.KExcSuper
import HandS.MakeKwOnly
import HandS.Conv
import HandS.Remove
import HandS.Star
import HandS.IterVal
import HandS.OwnIter
import HandS.Flow
import HandS.SetFor
import PySem.Challenge.RW_mostsalike_k06_schema_ties_refused
set_option Elab.async false
set_option linter.all false
set_option maxRecDepth 100000
set_option maxHeartbeats 4000000
/-! our own base: calls by bundled facts, heaps, the source of draws -/
namespace My
open PySem PySem.Spec PyProof.Rows L2

/-! ### defs that may be called -/
section
variable (P : Program) (w : World) (K : PySem.W.Frag) (mg : Str → Option Value) (base : Heap) (CX : CXT) (k : Nat)
structure Cal (x : Str) (ps : List Str) (dvs : List V) (sp : Sp) : Prop where
  ex : ∃ f fd ds, mg x = some (.ref f) ∧ PySem.W.keepIn K (.ref f) = true ∧ FnOk P w K mg base CX k f fd ps sp ∧ Binds K fd ps ds ∧ Vals dvs ds
structure CalM (C : Addr) (m : Str) (ps : List Str) (dvs : List V) (sp : Sp) : Prop where
  c : Cls K C
  ex : ∃ f fd ds, Meth K C m f ∧ FnOk P w K mg base CX k f fd ps sp ∧ Binds K fd ps ds ∧ Vals dvs ds
structure CalI (x : Str) (C : Addr) (ps : List Str) (dvs : List V) (sp : Sp) : Prop where
  g : mg x = some (.ref C)
  ex : ∃ f fd ds, Mk K C f ∧ FnOk P w K mg base CX k f fd ps sp ∧ Binds K fd ps ds ∧ Vals dvs ds
end
section
variable {X : Cx} {CX : CXT} {k : Nat} {C : Addr} {ps : List Str} {sp : Sp} {dvs : List V} {E : XK} {x m : Str} {p pos apos : Pos} {e o : Expr} {es : List Expr} {ta : TE} {t : TA}
theorem pc_call (c : Cal X.prog X.w X.K X.mg X.base CX k x ps dvs sp) (hr : Room k X.A) (hx : Passes CX X E) (ha : PA X (e :: es) t) (hg : Gl X x := by rfl) (hdb : (x == ("__debug__" : Str)) = false := by decide)
    (he : starEach (e :: es) X.env = (false, eval e X.env) :: starEach es X.env := by rfl) (hpl : (backTo pos (starEach es X.env)).any (·.1) = false := by rfl) : PE X (.Call (.Name x p) (e :: es) [] pos) (tCall sp dvs E t) := by
  obtain ⟨f, fd, ds, h1, h2, F, b, v⟩ := c.ex
  exact pe_call F hr hg h1 h2 b v hx ha hdb he hpl
theorem pc_meth {pl : Sem Bool} (c : CalM X.prog X.w X.K X.mg X.base CX k C m ps dvs sp) (hr : Room k X.A) (hx : Passes CX X E) (ho : PE X o ta) (ha : PA X (e :: es) t)
    (hst : starEach (e :: es) X.env = (false, eval e X.env) :: starEach es X.env := by rfl) (hpl : (backTo pos (starEach es X.env)).any (·.1) = false := by rfl)
    (ht : eval (.Call (.Attribute o m apos) (e :: es) [] pos) X.env = (do
      let ov ← eval o X.env
      standAt apos.atName
      let (f, first) ← holding [ov] (getMethod ov m pl)
      callWith pos f first (backTo pos (starEach (e :: es) X.env)) (backToKw pos (keywordEach [] X.env))) := by rfl) :
    PE X (.Call (.Attribute o m apos) (e :: es) [] pos) (tMeth C m sp dvs E ta t) := by
  obtain ⟨f, fd, ds, h1, F, b, v⟩ := c.ex
  exact pe_meth ho c.c h1 F hr b v hx ha hst hpl ht
theorem pc_meth0 {pl : Sem Bool} (c : CalM X.prog X.w X.K X.mg X.base CX k C m ps dvs sp) (hr : Room k X.A) (hx : Passes CX X E) (ho : PE X o ta)
    (ht : eval (.Call (.Attribute o m apos) [] [] pos) X.env = (do
      let ov ← eval o X.env
      standAt apos.atName
      let (f, first) ← holding [ov] (getMethod ov m pl)
      callWith pos f first (backTo pos (starEach [] X.env)) (backToKw pos (keywordEach [] X.env))) := by rfl) :
    PE X (.Call (.Attribute o m apos) [] [] pos) (tMeth C m sp dvs E ta tNil) := by
  obtain ⟨f, fd, ds, h1, F, b, v⟩ := c.ex
  exact pe_meth0 ho c.c h1 F hr b v hx ht
theorem pc_make (c : CalI X.prog X.w X.K X.mg X.base CX k x C ps dvs sp) (hr : Room (k + 1) X.A) (hx : Passes CX X E) (ha : PA X (e :: es) t) (hg : Gl X x := by rfl) (hdb : (x == ("__debug__" : Str)) = false := by decide)
    (he : starEach (e :: es) X.env = (false, eval e X.env) :: starEach es X.env := by rfl) (hpl : (backTo pos (starEach es X.env)).any (·.1) = false := by rfl) : PE X (.Call (.Name x p) (e :: es) [] pos) (tMake C sp dvs E t) := by
  obtain ⟨f, fd, ds, h1, F, b, v⟩ := c.ex
  exact pe_make h1 F hr hg c.g b v hx ha hdb he hpl
end

section
variable {P : Program} {w : World} {K : PySem.W.Frag} {mg : Str → Option Value} {base : Heap}
theorem Cal.of {CX : CXT} {k : Nat} {x q : Str} {ps : List Str} {sp : Sp} {pa : Arguments} {bd : List Stmt} {sc : Scope} {kws : List (Str × V)} {f : Addr} (F : ∃ fd, FunD K x q pa bd sc [] kws f fd) (hm : mg x = some (.ref f))
    (ok : ∀ fd, FunD K x q pa bd sc [] kws f fd → FnOk P w K mg base CX k f fd ps sp)
    (hb : ∀ (kV doc pm : Value) (an : Option Addr) (cdv ct : Value) (us : List Value), us.length = ps.length → bindArgs (PySem.W.fnOf x q pa bd sc .none kV doc pm an cdv ct) ⟨us, []⟩ = pure (ps.zip us)) : Cal P w K mg base CX k x ps [] sp := by
  obtain ⟨fd, F⟩ := F
  exact ⟨f, fd, [], hm, F.kp, ok fd F, F.bindsN hb, .nil⟩
end

/-! ### heaps -/
/-- what was tracked stands, but at s -/
def But (s : Addr) (H H' : Hp) : Prop := ∀ b o, b ≠ s → H b = some o → H' b = some o
theorem But.refl {s : Addr} (H : Hp) : But s H H := fun _ _ _ e => e
theorem But.trans {s : Addr} {H H1 H2 : Hp} (a : But s H H1) (b : But s H1 H2) : But s H H2 := fun c o n e => b c o n (a c o n e)
theorem But.seq {s : Addr} {K : PySem.W.Frag} {H H' : Hp} {a : Addr} {xs : List V} (e : But s H H') (n : a ≠ s) (h : SqL K H a xs) : SqL K H' a xs := by
  rcases h with (h | ⟨o, h⟩) | h
  · exact .inl (.inl (e _ _ n h))
  · exact .inl (.inr ⟨o, e _ _ n h⟩)
  · exact .inr h
theorem But.tup {s : Addr} {K : PySem.W.Frag} {H H' : Hp} {a : Addr} {xs : List V} (e : But s H H') (n : a ≠ s) (h : SqT K H a xs) : SqT K H' a xs := by
  rcases h with (h | ⟨o, h⟩) | h
  · exact .inl (.inl (e _ _ n h))
  · exact .inl (.inr ⟨o, e _ _ n h⟩)
  · exact .inr h
theorem But.upd {s : Addr} {H : Hp} {o : HO} : But s H (upd H s o) := fun b u n e => by rw [upd_ne n]; exact e
theorem But.new {s p : Addr} {H H' : Hp} {o : HO} (e : But s H H') (hp : H' p = none) (hs : ∃ u, H' s = some u) : But s H (L2.upd H' p o) := fun b u n x => by
  have q := e b u n x
  rw [upd_ne (ne_of_none q hp)]
  exact q
theorem same_new {p : Addr} {H H' : Hp} {o : HO} (e : Same H H') (hp : H' p = none) : Same H (L2.upd H' p o) := fun b u x => by
  rw [upd_ne (ne_of_none (e b u x) hp)]
  exact e b u x
/-- an object that H does not know is changed -/
theorem same_mut {p : Addr} {H H' : Hp} {o : HO} (e : Same H H') (hp : H p = none) : Same H (L2.upd H' p o) := fun b u x => by
  rw [upd_ne (ne_of_none x hp)]
  exact e b u x
theorem But.mut {s p : Addr} {H H' : Hp} {o : HO} (e : But s H H') (hp : H p = none) : But s H (L2.upd H' p o) := fun b u n x => by
  rw [upd_ne (ne_of_none x hp)]
  exact e b u n x
theorem But.same {s : Addr} {H H' : Hp} (e : Same H H') : But s H H' := fun b o _ x => e b o x
theorem same_tup {K : PySem.W.Frag} {H H' : Hp} {a : Addr} {xs : List V} (e : Same H H') (h : SqT K H a xs) : SqT K H' a xs := by
  rcases h with (h | ⟨o, h⟩) | h
  · exact .inl (.inl (e _ _ h))
  · exact .inl (.inr ⟨o, e _ _ h⟩)
  · exact .inr h
theorem But.free {s p : Addr} {H H' : Hp} (e : But s H H') (n : p ≠ s) (h : H' p = none) : H p = none := by
  cases q : H p with
  | none => rfl
  | some o =>
    rw [e p o n q] at h
    cases h
theorem sl_of {K : PySem.W.Frag} {H : Hp} {a : Addr} {xs : List V} (h : H a = some (.lst xs)) : SqL K H a xs := SqL.of h
theorem sz {n : Nat} (h : n ≤ 100000) : n ≤ sizeLine := Nat.le_trans h (by decide)
theorem szl {n : Nat} (h : n < 100000) : n < sizeLine := Nat.lt_of_lt_of_le h (by decide)

/-! ### the source of draws -/
def srcK (c : Addr) (at_ left mixed seed : Int) : List (Key × V) := [(.inr "cells", .ref c), (.inr "at", .int at_), (.inr "left", .int left), (.inr "mixed", .int mixed), (.inr "seed", .int seed)]
structure Src (H : Hp) (s c : Addr) : Prop where
  ex : ∃ (ns : List Int) (at_ left mixed seed : Int), H s = some (.dK (srcK c at_ left mixed seed)) ∧ H c = some (.lst (ns.map V.int)) ∧ 0 ≤ at_
theorem kne : (Sum.inr "cells" : Key) ≠ .inr "at" ∧ (Sum.inr "cells" : Key) ≠ .inr "left" ∧ (Sum.inr "cells" : Key) ≠ .inr "mixed" ∧ (Sum.inr "cells" : Key) ≠ .inr "seed" ∧ (Sum.inr "at" : Key) ≠ .inr "left" ∧ (Sum.inr "at" : Key) ≠ .inr "mixed" ∧
    (Sum.inr "at" : Key) ≠ .inr "seed" ∧ (Sum.inr "left" : Key) ≠ .inr "mixed" ∧ (Sum.inr "left" : Key) ≠ .inr "seed" ∧ (Sum.inr "mixed" : Key) ≠ .inr "seed" := by decide +kernel
theorem src_cells {c : Addr} {a l m d : Int} : valV (srcK c a l m d) (.inr "cells") = some (.ref c) := by
  unfold srcK; rw [valV_pos rfl]
theorem src_at {c : Addr} {a l m d : Int} : valV (srcK c a l m d) (.inr "at") = some (.int a) := by
  obtain ⟨h1, h2, h3, h4, h5, h6, h7, h8, h9, h10⟩ := kne
  unfold srcK; rw [valV_neg h1, valV_pos rfl]
theorem src_left {c : Addr} {a l m d : Int} : valV (srcK c a l m d) (.inr "left") = some (.int l) := by
  obtain ⟨h1, h2, h3, h4, h5, h6, h7, h8, h9, h10⟩ := kne
  unfold srcK; rw [valV_neg h2, valV_neg h5, valV_pos rfl]
theorem src_mixed {c : Addr} {a l m d : Int} : valV (srcK c a l m d) (.inr "mixed") = some (.int m) := by
  obtain ⟨h1, h2, h3, h4, h5, h6, h7, h8, h9, h10⟩ := kne
  unfold srcK; rw [valV_neg h3, valV_neg h6, valV_neg h8, valV_pos rfl]
theorem src_seed {c : Addr} {a l m d : Int} : valV (srcK c a l m d) (.inr "seed") = some (.int d) := by
  obtain ⟨h1, h2, h3, h4, h5, h6, h7, h8, h9, h10⟩ := kne
  unfold srcK; rw [valV_neg h4, valV_neg h7, valV_neg h9, valV_neg h10, valV_pos rfl]
theorem put_at {c : Addr} {a l m d x : Int} : putK (srcK c a l m d) (.inr "at") (.int x) = srcK c x l m d := by
  obtain ⟨h1, h2, h3, h4, h5, h6, h7, h8, h9, h10⟩ := kne
  unfold putK srcK
  simp [h1, h5.symm, h6.symm, h7.symm]
theorem put_left {c : Addr} {a l m d x : Int} : putK (srcK c a l m d) (.inr "left") (.int x) = srcK c a x m d := by
  obtain ⟨h1, h2, h3, h4, h5, h6, h7, h8, h9, h10⟩ := kne
  unfold putK srcK
  simp [h2, h5, h8.symm, h9.symm]
theorem put_mixed {c : Addr} {a l m d x : Int} : putK (srcK c a l m d) (.inr "mixed") (.int x) = srcK c a l x d := by
  obtain ⟨h1, h2, h3, h4, h5, h6, h7, h8, h9, h10⟩ := kne
  unfold putK srcK
  simp [h3, h6, h8, h10.symm]
theorem put_seed {c : Addr} {a l m d x : Int} : putK (srcK c a l m d) (.inr "seed") (.int x) = srcK c a l m x := by
  obtain ⟨h1, h2, h3, h4, h5, h6, h7, h8, h9, h10⟩ := kne
  unfold putK srcK
  simp [h4, h7, h9, h10]
theorem g_cells {H : Hp} {s c : Addr} {a l m d : Int} (h : H s = some (.dK (srcK c a l m d))) : DGet H s (.str "cells") (some (.ref c)) := .inl ⟨_, .inr "cells", .inl h, rfl, src_cells.symm⟩
theorem g_at {H : Hp} {s c : Addr} {a l m d : Int} (h : H s = some (.dK (srcK c a l m d))) : DGet H s (.str "at") (some (.int a)) := .inl ⟨_, .inr "at", .inl h, rfl, src_at.symm⟩
theorem g_left {H : Hp} {s c : Addr} {a l m d : Int} (h : H s = some (.dK (srcK c a l m d))) : DGet H s (.str "left") (some (.int l)) := .inl ⟨_, .inr "left", .inl h, rfl, src_left.symm⟩
theorem g_mixed {H : Hp} {s c : Addr} {a l m d : Int} (h : H s = some (.dK (srcK c a l m d))) : DGet H s (.str "mixed") (some (.int m)) := .inl ⟨_, .inr "mixed", .inl h, rfl, src_mixed.symm⟩
theorem g_seed {H : Hp} {s c : Addr} {a l m d : Int} (h : H s = some (.dK (srcK c a l m d))) : DGet H s (.str "seed") (some (.int d)) := .inl ⟨_, .inr "seed", .inl h, rfl, src_seed.symm⟩
theorem five {c : Addr} {a l m d : Int} : (srcK c a l m d).length < sizeLine := small1000 (by show 5 ≤ 1000; decide)
theorem p_at {H : Hp} {s c : Addr} {a l m d x : Int} (h : H s = some (.dK (srcK c a l m d))) : DPut H s (.str "at") (.int x) (upd H s (.dK (srcK c x l m d))) := .inl ⟨_, .inr "at", h, rfl, five, by rw [put_at]⟩
theorem p_left {H : Hp} {s c : Addr} {a l m d x : Int} (h : H s = some (.dK (srcK c a l m d))) : DPut H s (.str "left") (.int x) (upd H s (.dK (srcK c a x m d))) := .inl ⟨_, .inr "left", h, rfl, five, by rw [put_left]⟩
theorem p_mixed {H : Hp} {s c : Addr} {a l m d x : Int} (h : H s = some (.dK (srcK c a l m d))) : DPut H s (.str "mixed") (.int x) (upd H s (.dK (srcK c a l x d))) := .inl ⟨_, .inr "mixed", h, rfl, five, by rw [put_mixed]⟩
theorem p_seed {H : Hp} {s c : Addr} {a l m d x : Int} (h : H s = some (.dK (srcK c a l m d))) : DPut H s (.str "seed") (.int x) (upd H s (.dK (srcK c a l m x))) := .inl ⟨_, .inr "seed", h, rfl, five, by rw [put_seed]⟩
/-! ### tests of open outcome -/
theorem ifI {i j : Int} {A B : Prop} (h1 : i = j → A) (h2 : i ≠ j → B) : if decide (V.int i = V.int j) = true then A else B := by
  by_cases h : i = j
  · rw [if_pos (decide_eq_true (congrArg V.int h))]
    exact h1 h
  · rw [if_neg (by rw [decide_eq_false fun e => h (V.int.inj e)]; decide)]
    exact h2 h
theorem ifD {c A B : Prop} [Decidable c] (h1 : c → A) (h2 : ¬ c → B) : if decide c = true then A else B := by
  by_cases h : c
  · rw [if_pos (decide_eq_true h)]
    exact h1 h
  · rw [if_neg (by rw [decide_eq_false h]; decide)]
    exact h2 h
theorem ifN {i j : Int} {A B : Prop} (h1 : i ≠ j → A) (h2 : i = j → B) : if (!decide (V.int i = V.int j)) = true then A else B := by
  by_cases h : i = j
  · rw [if_neg (by rw [decide_eq_true (congrArg V.int h)]; decide)]
    exact h2 h
  · rw [if_pos (by rw [decide_eq_false fun e => h (V.int.inj e)]; decide)]
    exact h1 h
theorem ifB {b : Bool} {A B : Prop} (h1 : b = true → A) (h2 : b = false → B) : if b = true then A else B := by
  cases b with
  | true => exact h1 rfl
  | false => exact h2 rfl
theorem ifT {b : Bool} {A B : Prop} (e : b = true) (h : A) : if b = true then A else B := by rw [if_pos e]; exact h
theorem ifF {b : Bool} {A B : Prop} (e : b = false) (h : B) : if b = true then A else B := by rw [e]; exact h
theorem atNat {xs : List V} {i : Int} {v : V} {n : Nat} (h : xs[n]? = some v) (e : i = (n : Int)) : atI xs i = some v := by
  subst e
  exact atI_nat h
theorem tyx_l {K : PySem.W.Frag} {H : Hp} {a : Addr} {xs : List V} (h : SqL K H a xs) : TyX K H (.ref a) (.type "list") := by
  rcases h with (h | ⟨o, h⟩) | ⟨o, its, n, hk, hc, _⟩
  · exact .base (.lst h)
  · exact .base (.frz h)
  · exact .kList hk hc
theorem tyx_t {K : PySem.W.Frag} {H : Hp} {a : Addr} {xs : List V} (h : SqT K H a xs) : TyX K H (.ref a) (.type "tuple") := by
  rcases h with (h | ⟨o, h⟩) | ⟨o, its, n, hk, hc, _⟩
  · exact .base (.tup h)
  · exact .fTuple h
  · exact .kTuple hk hc
theorem isi {K : PySem.W.Frag} {H : Hp} {Q : VK} {x : V} {n t : String} {b : Bool} (ty : TyX K H x (.type t)) (hk : kitB t n = some b) (q : Q (.bl b) H) : rIsi K [x, .ty n] H Q := ⟨x, .ty n, .type t, .type n, b, rfl, .ty n, ty, kit_ty hk, q⟩
theorem kt_NoneType_bool : kitB "NoneType" "bool" = some false := by decide +kernel
theorem kt_NoneType_int : kitB "NoneType" "int" = some false := by decide +kernel
theorem kt_NoneType_str : kitB "NoneType" "str" = some false := by decide +kernel
theorem kt_NoneType_tuple : kitB "NoneType" "tuple" = some false := by decide +kernel
theorem kt_NoneType_list : kitB "NoneType" "list" = some false := by decide +kernel
theorem kt_bool_bool : kitB "bool" "bool" = some true := by decide +kernel
theorem kt_bool_int : kitB "bool" "int" = some true := by decide +kernel
theorem kt_bool_str : kitB "bool" "str" = some false := by decide +kernel
theorem kt_bool_tuple : kitB "bool" "tuple" = some false := by decide +kernel
theorem kt_bool_list : kitB "bool" "list" = some false := by decide +kernel
theorem kt_int_bool : kitB "int" "bool" = some false := by decide +kernel
theorem kt_int_int : kitB "int" "int" = some true := by decide +kernel
theorem kt_int_str : kitB "int" "str" = some false := by decide +kernel
theorem kt_int_tuple : kitB "int" "tuple" = some false := by decide +kernel
theorem kt_int_list : kitB "int" "list" = some false := by decide +kernel
theorem kt_str_bool : kitB "str" "bool" = some false := by decide +kernel
theorem kt_str_int : kitB "str" "int" = some false := by decide +kernel
theorem kt_str_str : kitB "str" "str" = some true := by decide +kernel
theorem kt_str_tuple : kitB "str" "tuple" = some false := by decide +kernel
theorem kt_str_list : kitB "str" "list" = some false := by decide +kernel
theorem kt_list_bool : kitB "list" "bool" = some false := by decide +kernel
theorem kt_list_int : kitB "list" "int" = some false := by decide +kernel
theorem kt_list_str : kitB "list" "str" = some false := by decide +kernel
theorem kt_list_tuple : kitB "list" "tuple" = some false := by decide +kernel
theorem kt_list_list : kitB "list" "list" = some true := by decide +kernel
theorem kt_tuple_bool : kitB "tuple" "bool" = some false := by decide +kernel
theorem kt_tuple_int : kitB "tuple" "int" = some false := by decide +kernel
theorem kt_tuple_str : kitB "tuple" "str" = some false := by decide +kernel
theorem kt_tuple_tuple : kitB "tuple" "tuple" = some true := by decide +kernel
theorem kt_tuple_list : kitB "tuple" "list" = some false := by decide +kernel
theorem kt_dict_bool : kitB "dict" "bool" = some false := by decide +kernel
theorem kt_dict_int : kitB "dict" "int" = some false := by decide +kernel
theorem kt_dict_str : kitB "dict" "str" = some false := by decide +kernel
theorem kt_dict_tuple : kitB "dict" "tuple" = some false := by decide +kernel
theorem kt_dict_list : kitB "dict" "list" = some false := by decide +kernel
/-! ### data: bounded depth and lengths -/
def okD : Nat → PyData → Bool
  | 0, _ => false
  | _ + 1, .none => true
  | _ + 1, .bool _ => true
  | _ + 1, .int _ => true
  | _ + 1, .str _ => true
  | n + 1, .list ds => decide (ds.length ≤ 100000) && ds.all (okD n)
  | n + 1, .tuple ds => decide (ds.length ≤ 100000) && ds.all (okD n)
  | _ + 1, .dict _ => false
theorem dp_len {K : PySem.W.Frag} {H : Hp} : ∀ {vs : List V} {ds : List PyData}, DpAll K H vs ds → vs.length = ds.length
  | _, _, .nil => rfl
  | _, _, .cons _ t => congrArg Nat.succ (dp_len t)
theorem dp_get {K : PySem.W.Frag} {H : Hp} : ∀ {vs : List V} {ds : List PyData} {i : Nat} {d : PyData}, DpAll K H vs ds → ds[i]? = some d → ∃ v, vs[i]? = some v ∧ Dp K H v d
  | _, _, _, _, .nil, e => by simp at e
  | _, _, 0, _, .cons h _, e => by simp at e; subst e; exact ⟨_, rfl, h⟩
  | _, _, i + 1, _, .cons _ t, e => by
    obtain ⟨v, h1, h2⟩ := dp_get (i := i) t (by simpa using e)
    exact ⟨v, by simpa using h1, h2⟩
theorem dp_ints {K : PySem.W.Frag} {H : Hp} : ∀ (ns : List Int), DpAll K H (ns.map V.int) (ns.map PyData.int)
  | [] => .nil
  | n :: ns => .cons (.int n) (dp_ints ns)
theorem okD_ints {n : Nat} {ns : List Int} : (ns.map PyData.int).all (okD (n + 1)) = true := by
  rw [List.all_eq_true]
  intro d hd
  obtain ⟨i, _, rfl⟩ := List.mem_map.mp hd
  rfl
def spWhole : Sp := fun vs H Q _ => ∃ i : Int, vs = [.int i] ∧ Q (.bl true) H
def spSame (K : PySem.W.Frag) (n : Nat) : Sp := fun vs H Q _ => ∃ (x y : V) (d : PyData), vs = [x, y] ∧ Dp K H x d ∧ Dp K H y d ∧ okD n d = true ∧ Q (.bl true) H
def spNumber : Sp := fun vs H Q _ => ∃ s c, vs = [.ref s] ∧ Src H s c ∧ ∀ (r : Int) H', -(10 ^ 20) ≤ r → r ≤ 10 ^ 20 → Src H' s c → But s H H' → Q (.int r) H'
theorem Src.ne {H : Hp} {s c : Addr} (S : Src H s c) : c ≠ s := by
  obtain ⟨ns, a, l, m, d, hs, hc, _⟩ := S.ex
  exact ne_of hc hs (by intro z; cases z)
theorem Src.at {H H' : Hp} {s c : Addr} (S : Src H s c) (e1 : H' s = H s) (e2 : H' c = H c) : Src H' s c := by
  obtain ⟨ns, a, l, m, d, hs, hc, ha⟩ := S.ex
  exact ⟨ns, a, l, m, d, e1.trans hs, e2.trans hc, ha⟩
theorem Src.same {H H' : Hp} {s c : Addr} (S : Src H s c) (e : Same H H') : Src H' s c := by
  obtain ⟨ns, a, l, m, d, hs, hc, ha⟩ := S.ex
  exact ⟨ns, a, l, m, d, e _ _ hs, e _ _ hc, ha⟩
theorem Src.new {H : Hp} {s c p : Addr} {o : HO} (S : Src H s c) (np : H p = none) : Src (L2.upd H p o) s c := S.same (same_new (Same.refl H) np)
theorem Src.put {H : Hp} {s c p : Addr} {o : HO} (S : Src H s c) (h1 : p ≠ s) (h2 : p ≠ c) : Src (L2.upd H p o) s c := S.at (upd_ne h1.symm) (upd_ne h2.symm)
/-- an object that is no source stands apart from it -/
theorem Src.apart {H : Hp} {s c p : Addr} (S : Src H s c) (h : H p = none) : p ≠ s ∧ p ≠ c := by
  obtain ⟨ns, a, l, m, d, hs, hc, ha⟩ := S.ex
  exact ⟨ne_of_none hs h |>.symm, (ne_of_none hc h).symm⟩
/-- the promises of the source's makers -/
def spSource (K : PySem.W.Frag) : Sp := fun vs H Q _ => ∃ (a : Addr) (ns : List Int), vs = [.ref a] ∧ SqL K H a (ns.map V.int) ∧ ∀ s c H', H s = none → H c = none → Src H' s c → Same H H' → Q (.ref s) H'
def spDraw : Sp := fun vs H Q _ => ∃ (s c : Addr) (many : Int), vs = [.ref s, .int many] ∧ Src H s c ∧ 0 < many ∧ many < 2 ^ 200 ∧ ∀ r H', 0 ≤ r → r < many → Src H' s c → But s H H' → Q (.int r) H'
end My

set_option Elab.async false
set_option linter.all false
set_option maxRecDepth 100000
set_option maxHeartbeats 4000000
namespace My
open PySem PySem.Spec PyProof.Rows L2
/-! ### a list or a tuple, walked -/
def Sq (K : PySem.W.Frag) (H : Hp) (a : Addr) (xs : List V) : Prop := SqL K H a xs ∨ SqT K H a xs
theorem sqL_at {K : PySem.W.Frag} {H H' : Hp} {a : Addr} {xs : List V} (e : ∀ o, H a = some o → H' a = some o) (h : SqL K H a xs) : SqL K H' a xs := by
  rcases h with (h | ⟨o, h⟩) | h
  · exact .inl (.inl (e _ h))
  · exact .inl (.inr ⟨o, e _ h⟩)
  · exact .inr h
theorem sqT_at {K : PySem.W.Frag} {H H' : Hp} {a : Addr} {xs : List V} (e : ∀ o, H a = some o → H' a = some o) (h : SqT K H a xs) : SqT K H' a xs := by
  rcases h with (h | ⟨o, h⟩) | h
  · exact .inl (.inl (e _ h))
  · exact .inl (.inr ⟨o, e _ h⟩)
  · exact .inr h
theorem Sq.at {K : PySem.W.Frag} {H H' : Hp} {a : Addr} {xs : List V} (e : ∀ o, H a = some o → H' a = some o) (h : Sq K H a xs) : Sq K H' a xs := h.imp (sqL_at e) (sqT_at e)
def SeqIn (K : PySem.W.Frag) (x : V) (H1 : Hp) (R : It → Hp → Prop) : Prop := ∃ a, x = .ref a ∧ (((∃ xs, SqL K H1 a xs) ∧ R (Itl K a) H1) ∨ ((∃ xs, SqT K H1 a xs) ∧ R (Itt K a) H1))
def iSeq (K : PySem.W.Frag) (tl : TE) : TI := fun σ H R => tl σ H fun x H1 => SeqIn K x H1 R
theorem pi_seq {X : Cx} {tg l : Expr} {tl : TE} (hl : PE X l tl) : PI X tg l (iSeq X.K tl) := by
  refine ⟨fun pins s σ H R I h => thn (hl.run pins s σ H _ I h) fun v s1 ⟨x, H1, I1, r1, q1⟩ => ?_⟩
  obtain ⟨a, e, q⟩ := q1
  subst e
  cases r1
  have fr : ∀ b ∈ [s1.heap.objs.size], FpOk X pins H1 b := fun b hb => by
    have e : b = s1.heap.objs.size := by simpa using hb
    rw [e]
    exact I1.fpOk (Nat.le_refl _) (I1.hok.fresh (Nat.le_refl _))
  rcases q with ⟨⟨xs, hq⟩, q⟩ | ⟨⟨xs, hq⟩, q⟩
  · obtain ⟨its, _, p, _⟩ := I1.list hq
    exact wpAny_pyIter_list p.isList ⟨s1.heap.objs.size, [s1.heap.objs.size], _, _, H1, rfl, I1.kept (t' := s1.toks) fun b o e => Heap.get?_push_of_some _ e, turn_list a _, ⟨_, Heap.get?_push_size _ rfl, rfl, rfl⟩, fr, q⟩
  · obtain ⟨its, _, p, _⟩ := I1.tuple hq
    exact wpAny_pyIter_tuple (show s1.heap.IsTuple a its.toArray from p) ⟨s1.heap.objs.size, [s1.heap.objs.size], _, _, H1, rfl, I1.kept (t' := s1.toks) fun b o e => Heap.get?_push_of_some _ e, turn_tuple a _, ⟨_, Heap.get?_push_size _ rfl, rfl, rfl⟩, fr, q⟩
theorem rseq {K : PySem.W.Frag} {H : Hp} {a : Addr} {xs : List V} {R : It → Hp → Prop} (hS : Sq K H a xs)
    (h : ∀ (J : It) (G : Hp → Prop), (∀ H', (∀ o, H a = some o → H' a = some o) → G H') → Walk J xs.length G (YAt xs) → R J H) : SeqIn K (.ref a) H R := by
  rcases hS with q | q
  · exact ⟨a, rfl, .inl ⟨⟨xs, q⟩, h _ _ (fun H' e => sqL_at e q) walk_list⟩⟩
  · exact ⟨a, rfl, .inr ⟨⟨xs, q⟩, h _ _ (fun H' e => sqT_at e q) walk_tup⟩⟩
/-- a dict's comprehension over a walk -/
theorem dc_it {J : It} {n : Nat} {G : Hp → Prop} {Y : Nat → Hp → V → Hp → Prop} (wk : Walk J n G Y) {g : TG} {tt : TT} {tk tv : TE} {vs : List Nat} {σ : L2.St} {H1 : Hp} {D : Addr} {Qd : Hp → Prop} (Pv : Nat → Hp → Prop)
    (h0 : Pv 0 (upd H1 D (.dK []))) (hG : ∀ i H, i ≤ n → Pv i H → G H)
    (hs : ∀ i x H H', i < n → Pv i H → Y i H x H' → g x (wipe σ vs) H' fun σ2 H2 => wipe σ2 vs = wipe σ vs ∧ tt σ2 H2 fun b H3 =>
      if b = true then tk σ2 H3 fun y H4 => tv σ2 H4 fun z H5 => ∃ kvs k, y = kV k ∧ H5 D = some (.dK kvs) ∧ kvs.length < sizeLine ∧ Pv (i + 1) (upd H5 D (.dK (putK kvs k z))) else Pv (i + 1) H3) (hd : ∀ H, Pv n H → Qd H) :
    ∃ W : Nat → Nat → Hp → Prop, (∃ m, W 0 m (upd H1 D (.dK []))) ∧ ∀ i m H, W i m H →
      (J.stop i H ∧ Qd H) ∨ (J.go i H ∧ ∃ Nx : Hp → Prop, (∀ H', Nx H' → ∃ m', m' < m ∧ W (i + 1) m' H') ∧ ∀ x H', J.yld i H x H' → g x (wipe σ vs) H' fun σ2 H2 => wipe σ2 vs = wipe σ vs ∧ tt σ2 H2 fun b H3 =>
        if b = true then tk σ2 H3 fun y H4 => tv σ2 H4 fun z H5 => ∃ kvs k, y = kV k ∧ H5 D = some (.dK kvs) ∧ kvs.length < sizeLine ∧ Nx (upd H5 D (.dK (putK kvs k z))) else Nx H3) := by
  refine ⟨fun i m H => m = n - i ∧ i ≤ n ∧ Pv i H, ⟨n, rfl, Nat.zero_le _, h0⟩, ?_⟩
  rintro i m H ⟨rfl, hi, p⟩
  have q := hG i H hi p
  by_cases hlt : i < n
  · exact .inr ⟨wk.goes i H hlt q, Pv (i + 1), fun H' p' => ⟨n - (i + 1), by omega, rfl, hlt, p'⟩, fun x H' y => hs i x H H' hlt p (wk.yields i H x H' hlt q y)⟩
  · have e : i = n := by omega
    subst e
    exact .inl ⟨wk.stops H q, hd H p⟩
/-- an item of a written list -/
theorem item_of {L : List Int} {P : Int → Prop} (hP : ∀ x ∈ L, P x) {r : Int} (h0 : 0 ≤ r) (h1 : r < L.length) : ∃ m, atI (L.map V.int) r = some (.int m) ∧ P m := by
  have hr : r.toNat < L.length := by omega
  have e : (L.map V.int)[r.toNat]? = some (.int L[r.toNat]) := by rw [List.getElem?_map, List.getElem?_eq_getElem hr]; rfl
  exact ⟨L[r.toNat], atNat (n := r.toNat) e (by omega), hP _ (List.getElem_mem _)⟩
/-- the heap as a letter -/
theorem at_heap {α : Type} {f : α → Hp → Prop} {σ : α} {H : Hp} (h : ∀ H', H' = H → f σ H') : f σ H := h H rfl
theorem map_get {α β : Type} {f : α → β} {l : List α} {i : Nat} {y : β} (h : (l.map f)[i]? = some y) : ∃ x, l[i]? = some x ∧ y = f x := by
  rw [List.getElem?_map] at h
  cases e : l[i]? with
  | none => rw [e] at h; cases h
  | some x => rw [e] at h; exact ⟨x, rfl, (Option.some.inj h).symm⟩
theorem get_map {α β : Type} {f : α → β} {l : List α} {i : Nat} {x : α} (h : l[i]? = some x) : (l.map f)[i]? = some (f x) := by rw [List.getElem?_map, h]; rfl
theorem take_snoc {α : Type} {l : List α} {i : Nat} {x : α} (h : l[i]? = some x) : l.take (i + 1) = l.take i ++ [x] := by
  rw [List.take_succ, h]
  rfl
theorem take_all {α : Type} (l : List α) : l.take l.length = l := List.take_length
end My

set_option Elab.async false
set_option linter.all false
set_option maxRecDepth 100000
set_option maxHeartbeats 4000000
/-! exceptions: calls and a list's comprehension where an exception is handled, isinstance of it; calls that may raise -/
namespace My
open PySem PySem.Spec PyProof.Rows L2
section
variable {prog : Program} {w : World} {A : Around} {E : Value → Shared → Prop} {s : Shared}
/-- a list's iterator ends where an exception is handled -/
theorem list_end_hot {it l x1 : Addr} {i : Nat} {items : Array Value} {Q : Option Value → Shared → Prop} (hot : HotX.HotAt A x1 s.heap) (n1 : x1 ≠ it) (hit : s.heap.IsListIter it l i) (hl : s.heap.IsList l items) (hx : items[i]? = none)
    (hQ : ∀ h', (∀ b o, b ≠ it → s.heap.get? b = some o → h'.get? b = some o) → Q none { s with heap := h' }) : wpAny (model prog w) A (pyNext (.ref it)) Q E s := by
  obtain ⟨hh, o1, vs1, h1, d1, c1⟩ := hot
  obtain ⟨o, ho, hc, hd⟩ := id hit
  obtain ⟨ol, hol, _, nl, hdl⟩ := hl
  unfold pyNext
  refine wpAny_bind (wpAny_attempt (wpAny_callSpecial?_slot (name := Str.ofString "__next__") hit.typeIs slot_listiter_next (wpAny_call_entry slot_listiter_next hit.typeIs entry_listiter_next ?_ (args_listiter_next _))))
  show wpAny _ _ (field (.ref it) 0 >>= _) _ _ s
  refine wpAny_bind (wpAny_field ho hd (x := .ref l) rfl ?_)
  show wpAny _ _ (if (Value.ref l == Value.none) = true then _ else _) _ _ s
  rw [if_neg (show ¬ ((Value.ref l == Value.none) = true) from Bool.false_ne_true)]
  show wpAny _ _ (field (.ref it) 1 >>= _) _ _ s
  refine wpAny_bind (wpAny_field ho hd (x := .int i 0) rfl ?_)
  show wpAny _ _ (seqItems? (.ref l) >>= _) _ _ s
  refine wpAny_bind (wpAny_seqItems hol hdl ?_)
  simp only [Int.toNat_natCast, hx]
  refine wpAny_bind (wpAny_rule (wpAny_bind (wpAny_setField ho hd (by simp) ?_)))
  show wpAny _ _ (newExc (.type "StopIteration") [] >>= _) _ _ _
  refine wpAny_bind ?_
  simp only [newExc, newTuple]
  refine wpAny_bind (wpAny_newObj_type ?_ (by size_fits))
  refine wpAny_bind (m := firstArgMember _ _) (wpAny_of_eq (a := Value.none) (by first | rfl | (simp only [firstArgMember]; rfl)) ?_)
  refine wpAny_newObj_type ?_ (by size_fits)
  have g1 : ∀ (f : Obj → Obj), (s.heap.update it f).get? x1 = some o1 := fun f => by rw [Heap.get?_update_other _ _ n1.symm]; exact h1
  refine HotX.raiseNew_hot ⟨hh, o1, vs1, Heap.get?_push_of_some _ (Heap.get?_push_of_some _ (g1 _)), d1, c1⟩ (Nat.ne_of_lt (Heap.lt_size (Heap.get?_push_of_some _ (g1 _)))) (Heap.get?_push_size _ rfl) rfl (by first | (simp; done) | (simp; omega) | (simp only [Array.size_append]; simp; omega)) ?_
  refine wpAny_bind (wpAny_isInstance (T := "StopIteration") (b := true) ⟨_, Heap.get?_update_self _ (Heap.get?_push_size _ rfl) rfl, rfl⟩ isSubtype_stop ?_)
  refine wpAny_pure (hQ _ fun b u nb e => ?_)
  have e1 : ∀ (f : Obj → Obj), (s.heap.update it f).get? b = some u := fun f => by rw [Heap.get?_update_other _ _ nb.symm]; exact e
  rw [Heap.get?_update_other _ _ (Nat.ne_of_gt (Heap.lt_size (Heap.get?_push_of_some _ (e1 _))))]
  exact Heap.get?_push_of_some _ (Heap.get?_push_of_some _ (e1 _))
end
section
variable {X : Cx}
/-- [elt for x in l if ..] over a list, where an exception is handled -/
theorem pe_lcH {elt tg iter : Expr} {ifs : List Expr} {scope : Scope} {own : List (Str × Nat)} {pos : Pos} {tl : TE} {g : TG} {tt : TT} {te : TE} (hc : L2H.HotC X) (hN : X.N.Nodup) (hl : PE X iter tl) (ok : BlkOk X.N X.env.scope scope own)
    (hg : ∀ (s : Shared) (H : Hp) (C : Addr) (cl : List (Str × Addr)) (fp : List Addr), PG (X.blk s H scope (compEnvC scope cl C X.env) fp) tg g) (ht : ∀ (s : Shared) (H : Hp) (C : Addr) (cl : List (Str × Addr)) (fp : List Addr), PTs (X.blk s H scope (compEnvC scope cl C X.env) fp) ifs tt)
    (he : ∀ (s : Shared) (H : Hp) (C : Addr) (cl : List (Str × Addr)) (fp : List Addr), PE (X.blk s H scope (compEnvC scope cl C X.env) fp) elt te) (hs : ∀ x, foldedSetIterable iter X.env x = pure x := by intro _; rfl) :
    PE X (.ListComp elt [⟨tg, iter, ifs, 0⟩] scope pos) (tLc (iList X.K tl) g tt te (own.map (·.2))) := by
  refine ⟨fun pins s σ H Q I h => ?_⟩
  rw [eval_ListComp]
  obtain ⟨p, ⟨hh, v1, e1, c1⟩, hp⟩ := hc
  have hfree : ∀ y ∈ scope.names, y.2 = .free → ∃ c, X.env.cells.lookup y.1 = some c := fun y hy e => (ok.free y hy e).elim (fun k => I.ok.has _ (.inl k)) fun k => I.ok.has _ (.inr k)
  refine wpAny_comprehension_free (use := none) rfl hs (closure_ok hfree) ok.kind (fun y hy e => by rw [ok.uniq y hy, e]) (thn (hl.run pins s σ H _ I h) fun v s1 ⟨x, H1, I1, r1, q1⟩ => ?_)
  obtain ⟨a, e, ⟨xs, hq⟩, q⟩ := q1
  subst e
  cases r1
  obtain ⟨its, rv, pl, hz⟩ := I1.list hq
  refine wpAny_pyIter_list pl.isList ?_
  generalize hit : s1.heap.objs.size = it
  generalize hs2 : ({ s1 with heap := s1.heap.push { cls := .type "list_iterator", data := .fields #[.ref a, .int 0 0] } } : Shared) = s2
  have I2 : Inv X pins σ H1 s2 := by rw [← hs2]; exact I1.kept (t' := s1.toks) fun b o e => Heap.get?_push_of_some _ e
  have h2 : s2.heap = s1.heap.push { cls := .type "list_iterator", data := .fields #[.ref a, .int 0 0] } := by rw [← hs2]
  have f2 : FpOk X pins H1 it := by rw [← hit]; exact I1.fpOk (Nat.le_refl _) (I1.hok.fresh (Nat.le_refl _))
  have st2 : s2.heap.IsListIter it a 0 := by rw [h2, ← hit]; exact ⟨_, Heap.get?_push_size _ rfl, rfl, rfl⟩
  have zit : it < s2.heap.objs.size := by rw [h2, Heap.size_push, hit]; exact Nat.lt_succ_self _
  refine wpAny_newObj_type (newEnv_comp ?_) (by show 0 ≤ sizeLine; decide)
  generalize hD : s2.heap.objs.size = D
  have hDn : H1 D = none := I2.hok.fresh (Nat.le_of_eq hD)
  obtain ⟨W, ⟨m0, w0⟩, turn⟩ := q D hDn
  generalize hs3 : ({ s2 with heap := s2.heap.push { cls := .type "list", data := .seq ([] : List Value).toArray } } : Shared) = s3
  have I3 : Inv X pins σ (upd H1 D (.lst [])) s3 := by
    rw [← hs3]
    refine I2.laid (t' := s2.toks) (fun b o e => Heap.get?_push_of_some _ e) (Nat.le_of_eq hD) ⟨Nat.zero_le _, [], 0, .nil, ?_⟩
    rw [← hD]
    exact Heap.get?_push_size _ rfl
  have h3 : s3.heap = s2.heap.push { cls := .type "list", data := .seq ([] : List Value).toArray } := by rw [← hs3]
  have f3 : FpOk X pins (upd H1 D (.lst [])) it ∧ it < s3.heap.objs.size := by
    refine ⟨⟨?_, f2.2⟩, by rw [h3, Heap.size_push]; exact Nat.lt_succ_of_lt zit⟩
    rw [upd_ne (by rw [← hD]; exact Nat.ne_of_lt zit)]
    exact f2.1
  have f3' : ∀ b ∈ [it], FpOk X pins (upd H1 D (.lst [])) b ∧ b < s3.heap.objs.size := fun b hb => by
    have e : b = it := by simpa using hb
    rw [e]
    exact f3
  have st3 : s3.heap.IsListIter it a 0 := st2.at fun o e => by rw [h3]; exact Heap.get?_push_of_some _ e
  have pin3 := I3.pin p (List.mem_append_left _ hp)
  have nip : p.1 ≠ it := fun z => f3.1.2.2.2.2.2 p (List.mem_append_left _ hp) z
  have I4 := block_start I3 ok hN f3'
  have pg := hg s3 (upd H1 D (.lst [])) s3.heap.objs.size (cellsFrom (s3.heap.objs.size + 1) scope.names (cloFrom X.env.cells scope.names [])) [it]
  have pt := ht s3 (upd H1 D (.lst [])) s3.heap.objs.size (cellsFrom (s3.heap.objs.size + 1) scope.names (cloFrom X.env.cells scope.names [])) [it]
  have pe := he s3 (upd H1 D (.lst [])) s3.heap.objs.size (cellsFrom (s3.heap.objs.size + 1) scope.names (cloFrom X.env.cells scope.names [])) [it]
  generalize hce : compEnvC scope (cellsFrom (s3.heap.objs.size + 1) scope.names (cloFrom X.env.cells scope.names [])) s3.heap.objs.size X.env = ce at I4 pg pt pe
  have cL : ce.locals = s3.heap.objs.size := by subst hce; rfl
  generalize hH3 : upd H1 D (.lst []) = H3 at I3 I4 pg pt pe w0 f3 pin3
  generalize hs4 : ({ s3 with heap := pushCells (s3.heap.push { cls := .type "dict", data := .dict #[] }) scope.names } : Shared) = s4 at I4
  have st4 : s4.heap.IsListIter it a 0 := st3.at fun o e => by rw [← hs4]; exact pushCells_keeps _ _ _ _ (Heap.get?_push_of_some _ e)
  have hotB : ∀ {σ' : L2.St} {H' : Hp} {s' : Shared} {pn : List (Addr × Obj)}, Inv (X.blk s3 H3 scope ce [it]) pn σ' H' s' → HotX.HotAt X.A p.1 s'.heap := fun I' =>
    ⟨hh, p.2, v1, I'.base.keep p.1 p.2 pin3.1 pin3.2.1 (fun hm => (List.mem_cons.mp (I3.stkSub p.1 hm)).elim pin3.2.2.1 pin3.2.2.2.1) (by simpa using nip), e1, c1⟩
  have stat : ∀ {σ' : L2.St} {H' : Hp} {s' : Shared}, Inv (X.blk s3 H3 scope ce [it]) [] σ' H' s' → H' it = none → FpOk (X.blk s3 H3 scope ce [it]) [] H' it := fun {σ' H' s'} I' hn =>
    ⟨hn, (I'.ok.exf it List.mem_cons_self).1, I'.ok.exfs it List.mem_cons_self, .inl List.mem_cons_self, fun x c e => (I'.ok.exf it List.mem_cons_self).2 x c e, fun p hp => absurd (show p ∈ ([] : List (Addr × Obj)) ++ [] from hp) (by simp)⟩
  have loop : codeAny (model X.prog X.w) X.A (.compLoop (.ListComp elt [⟨tg, iter, ifs, 0⟩] scope pos) 0 (.ref it) (.ref D) ce) (compPost (model X.prog X.w) X.A X.xe none (EP X pins σ Q) (.ref D) s3.heap.objs.size) s4 := by
    refine compLoop_any (fun n s' => ∃ i H', Inv (X.blk s3 H3 scope ce [it]) [] (wipe σ (own.map (·.2))) H' s' ∧ s'.heap.IsListIter it a i ∧ H' it = none ∧ W i n H') ?_ m0 ⟨0, H3, I4, st4, f3.1.1, w0⟩
    rintro n s5 ⟨i, H5, I5, st5, n5, w5⟩
    obtain ⟨f0, f1, f2, f3', f4, f5⟩ := stat I5 n5
    rcases turn i n H5 w5 with ⟨⟨ys, hys, hlen⟩, qq⟩ | ⟨⟨ys, y0, hys, hy0⟩, Nx, hNx, step⟩
    · obtain ⟨its5, rv5, pl5, _⟩ := I5.list hys
      have hl5 := rv5.length
      refine list_end_hot (hotB I5) nip st5 pl5.isList (by simp; omega) fun h' k => ?_
      have I6 : Inv (X.blk s3 H3 scope ce [it]) [] (wipe σ (own.map (·.2))) H5 { s5 with heap := h' } := I5.turned (t' := s5.toks) (fun b o hb e => k b o hb e) f0 f1 f3' f4 f5
      have I7 : Inv X pins σ H5 { s5 with heap := h' } := I3.call' (ch := [it]) I6.os I6.base I6.hok I6.bare fun b hb => by
        have e : b = it := by simpa using hb
        rw [e]
        exact ⟨f3.1.2.2.2.1, f3.1.2.1, f3.1.2.2.2.2.1, f3.1.2.2.2.2.2⟩
      have nC : H5 s3.heap.objs.size = none := by
        have z : H5 ce.locals = none := I6.free
        rw [cL] at z
        exact z
      obtain ⟨m, hn, _⟩ := I6.loc
      have hn : h'.Ns ce.locals m := hn
      rw [cL] at hn
      refine ⟨m, hn, fun h'' sb => ?_⟩
      obtain ⟨z0, z1, z2, z3, z4, z5⟩ := I3.fpOk (pins := pins) (Nat.le_refl _) nC
      exact ⟨.ref D, H5, I7.turned (t' := s5.toks) (fun b o hb e => (sb.2 b hb).trans e) z0 z1 z3 z4 z5, rfl, qq⟩
    · obtain ⟨its5, rv5, pl5, _⟩ := I5.list hys
      obtain ⟨u, hu, ru⟩ := rv5.get hy0
      refine wpAny_pyNext_list_item st5 pl5.isList (x := u) (by simpa using hu) fun h' st' sb => ?_
      have I6 : Inv (X.blk s3 H3 scope ce [it]) [] (wipe σ (own.map (·.2))) H5 { s5 with heap := h' } := I5.turned (t' := s5.toks) (fun b o hb e => (sb.2 b hb).trans e) f0 f1 f3' f4 f5
      obtain ⟨oi, ei, ci, di⟩ := id st'
      refine go_of (s := { s5 with heap := h' }) ei ci di (by decide) ?_
      have y7 : (Itl X.K a).yld i H5 y0 H5 := ⟨rfl, fun zs hz => by rw [I5.list_inj hz hys]; exact hy0⟩
      have I7' := I6.pinned (fp := [it]) (fun b hb => by
        have e : b = it := by simpa using hb
        rw [e]
        exact stat I6 n5) (fun b hb => by
        have e : b = it := by simpa using hb
        rw [e]
        exact ⟨oi, ei, fun v z => by rw [di] at z; cases z⟩)
      refine thnF (pg.run _ _ _ H5 y0 u _ I7' ru (step y0 H5 y7)) fun _ s8 ⟨σ8, H8, I8, hw8, q8⟩ => ?_
      refine thnF (pt.run _ s8 σ8 H8 _ I8 q8) fun b s9 ⟨H9, I9, q9⟩ => ?_
      have fin : ∀ {s' : Shared} {H' : Hp}, Inv (X.blk s3 H3 scope ce [it]) ([] ++ pinsAt [it] h') σ8 H' s' → Nx H' → ∃ m, m < n ∧ ∃ i H', Inv (X.blk s3 H3 scope ce [it]) [] (wipe σ (own.map (·.2))) H' s' ∧ s'.heap.IsListIter it a i ∧ H' it = none ∧ W i m H' := fun {s' H'} I' nx => by
        obtain ⟨m', hm, w'⟩ := hNx H' nx
        have pin' : ∀ o, h'.get? it = some o → s'.heap.get? it = some o ∧ H' it = none := fun o e =>
          let z := I'.pin (it, o) (List.mem_append_right _ (List.mem_append_right _ (mem_pinsAt List.mem_cons_self e)))
          ⟨z.1, z.2.1⟩
        have hl8 : (wipe σ (own.map (·.2))).length = σ8.length := by rw [← hw8, wipe_length]
        refine ⟨m', hm, i + 1, H', (I'.unpinned (pins := [])).weak hl8 (fun j v e => ?_), st'.at fun o e => (pin' o e).1, (pin' oi ei).2, w'⟩
        rw [← hw8] at e
        exact (wipe_some e).1
      cases b with
      | false =>
        simp only [Bool.false_eq_true, if_false] at q9 ⊢
        exact fin I9 q9
      | true =>
        simp only [if_true] at q9 ⊢
        refine thnF (pe.run _ s9 σ8 H9 _ I9 q9) fun z s10 ⟨yv, H10, I10, r10, acc, hD10, hz10, nx⟩ => ?_
        exact app_ok (X := X.blk s3 H3 scope ce [it]) I10 hD10 hz10 r10 fun s11 I11 => fin I11 nx
  have fin : codeAny (model X.prog X.w) X.A (.compStart (.ListComp elt [⟨tg, iter, ifs, 0⟩] scope pos) 0 (.ref it) (.ref D) ce) (compPost (model X.prog X.w) X.A X.xe none (EP X pins σ Q) (.ref D) s3.heap.objs.size) s4 := codeAny_compStart_list loop (wpAny_pyIter_listiter st4 loop)
  rw [← hce] at fin
  exact fin
end
end My

set_option Elab.async false
set_option linter.all false
set_option maxRecDepth 100000
set_option maxHeartbeats 4000000
namespace My
open PySem PySem.Spec PyProof.Rows L2
/-! ### isinstance of the exception that is handled -/
structure ExcD (K : PySem.W.Frag) (D : Addr) : Prop where
  cl : (PySem.W.clsIn K D).isSome = true
  ga : PySem.W.findIn K (.ref D) "__getattribute__" = some (some (.builtin "BaseException.__getattribute__"))
  gt : PySem.W.findIn K (.ref D) "__getattr__" = some none
  sb : PySem.W.subIn K (.ref D) (.type "BaseException") = some true
  ha : PySem.W.findIn K (.ref D) "__class__" = some (some (.builtin "object.__class__"))
  hn : PySem.W.specialIn K (.builtin "object.__class__") "__get__" = some (some (.builtin "getset_descriptor.__get__"))
  ht : PySem.W.takesIn K (.builtin "object.__class__") = some true
  hm : PySem.W.mroIn K D (.type "object") = some true
def excDB (K : PySem.W.Frag) (D : Addr) : Bool :=
  (PySem.W.clsIn K D).isSome && (He.eqO (PySem.W.findIn K (.ref D) "__getattribute__") (some (some (.builtin "BaseException.__getattribute__"))) && (He.eqO (PySem.W.findIn K (.ref D) "__getattr__") (some none) &&
  (decide (PySem.W.subIn K (.ref D) (.type "BaseException") = some true) && (He.eqO (PySem.W.findIn K (.ref D) "__class__") (some (some (.builtin "object.__class__"))) &&
  (He.eqO (PySem.W.specialIn K (.builtin "object.__class__") "__get__") (some (some (.builtin "getset_descriptor.__get__"))) && (decide (PySem.W.takesIn K (.builtin "object.__class__") = some true) && decide (PySem.W.mroIn K D (.type "object") = some true)))))))
theorem excDB_ok {K : PySem.W.Frag} {D : Addr} (h : excDB K D = true) : ExcD K D := by
  obtain ⟨h1, h⟩ := He.ba h
  obtain ⟨h2, h⟩ := He.ba h
  obtain ⟨h3, h⟩ := He.ba h
  obtain ⟨h4, h⟩ := He.ba h
  obtain ⟨h5, h⟩ := He.ba h
  obtain ⟨h6, h⟩ := He.ba h
  obtain ⟨h7, h8⟩ := He.ba h
  exact ⟨h1, He.eqO_ok h2, He.eqO_ok h3, of_decide_eq_true h4, He.eqO_ok h5, He.eqO_ok h6, of_decide_eq_true h7, of_decide_eq_true h8⟩
def rIsG (K : PySem.W.Frag) (cls : Value) (d : Option Addr) (a : Addr) : List V → Hp → VK → Prop := fun xs H Q => ∃ (D : Addr) (c : V) (cv : Value) (b : Bool), cls = .ref D ∧ ExcD K D ∧ xs = [.ref a, c] ∧ ClsV c cv ∧ (∀ dx, d = some dx → ∃ o, H dx = some o) ∧ PySem.W.kitOne K cls cv = some b ∧ Q (.bl b) H
theorem call_isG {X : Cx} {K : PySem.W.Frag} {a : Addr} {cls : Value} {d : Option Addr} {oe : Obj} (eK : X.K = K) (hz : L2N.Zn cls d oe) (hf : ∃ vs, oe.data = .fields vs) (hp : (a, oe) ∈ X.pn) : CallR X (.builtin "isinstance") (rIsG K cls d a) := by
  subst eK
  intro pins s σ H xs us Q I r h
  obtain ⟨D, c, cv, b, rfl, C, rfl, hcv, hd, e, q⟩ := h
  cases r with
  | cons rx rr =>
    cases rr with
    | cons rt rr =>
      cases rr
      cases rx
      have ec := hcv.eq rt
      subst ec
      obtain ⟨hget, _⟩ := I.pin (a, oe) (List.mem_append_left _ hp)
      obtain ⟨vs, hv⟩ := hf
      obtain ⟨oc, od, oda, osl⟩ := oe
      obtain ⟨h1, h2⟩ := hz.zc
      dsimp only at h1 h2 hv
      subst h1 h2 hv
      have J : ∃ od', PySem.W.InstAt s.heap a ⟨.ref D, od, .fields vs, osl⟩ D od' := by
        cases od with
        | none => exact ⟨none, hget, rfl, rfl, trivial⟩
        | some dx =>
          obtain ⟨o, ho⟩ := hd dx rfl
          obtain ⟨u, hu⟩ := objOk_get (I.hok dx o ho)
          exact ⟨some u, hget, rfl, rfl, hu⟩
      obtain ⟨od', J⟩ := J
      exact PySem.W.kia_one (PySem.W.kitx_exc C.cl C.ga C.gt C.sb C.ha C.hn C.ht C.hm) I.kIn J e (fun z => nomatch z) fun tk => ⟨.bl b, H, I.kept (t' := tk) fun _ _ z => z, rfl, q⟩
/-! ### defs that are called with the exception that is handled -/
structure FnE (P : Program) (w : World) (K : PySem.W.Frag) (mg : Str → Option Value) (base : Heap) (CX : CXT) (k : Nat) (f : Addr) (fd : FuncData) (ps : List Str) (sp : Addr → Value → Option Addr → Sp) : Prop where
  len : ∀ a c d vs H Q E, sp a c d vs H Q E → vs.length = ps.length
  run : ∀ (A : Around) (outer : List Env) (s : Shared) (H : Hp) (args : Args) (us : List Value) (vs : List V) (Q : VK) (E : XK) (a : Addr) (oe : Obj) (cls : Value) (d : Option Addr), L2H.RoomH k A → L2H.Hot1 A (a, oe) → L2H.PinOk outer H s (a, oe) → L2N.Zn cls d oe → (∃ vs, oe.data = .fields vs) → Env0 P w K mg base A outer s H →
    BindsTo s fd args (ps.zip us) → Vals vs us → sp a cls d vs H Q E → codeAny (model P w) A (.call (.ref f) args) (CR CX outer P w H s Q E) s
section
variable {P : Program} {w : World} {K : PySem.W.Frag} {mg : Str → Option Value} {base : Heap} {CX : CXT} {k : Nat} {f : Addr} {x qual : Str} {params : Arguments} {body : List Stmt} {scope : Scope} {dvs : List V} {kws : List (Str × V)} {fd : FuncData} {N ps : List Str}
theorem FnE.mk' {sp : Addr → Value → Option Addr → Sp} (F : FunD K x qual params body scope dvs kws f fd) (S : FnScope N ps scope) (len : ∀ a c d vs H Q E, sp a c d vs H Q E → vs.length = ps.length)
    (hbody : ∀ (cdv : Value) (A : Around) (outer : List Env) (s : Shared) (H : Hp) (vs : List V) (Q : VK) (E : XK) (a : Addr) (oe : Obj) (cls : Value) (d : Option Addr), L2H.Hot1 A (a, oe) → L2N.Zn cls d oe → (∃ vs, oe.data = .fields vs) → L2H.RoomH k (A.deeper (envOfC qual scope s.heap.objs.size f cdv)) → sp a cls d vs H Q E →
      ∃ t, PSs (L2H.cxH CX P w K mg base N qual scope f cdv A outer s H E (a, oe)) body t ∧ t { nx := fun _ H' => Q .non H', rt := Q } (start N vs) H) : FnE P w K mg base CX (k + 1) f fd ps sp := by
  obtain ⟨oc, od, dV, kV, doc, pm, an, cdv, ct, osl, rfl, lk, hcd, _, _⟩ := F.ex
  refine ⟨len, fun A outer s H args us vs Q E a oe cls d hr hot hpin hz hf e0 hb r hsp => ?_⟩
  have KX : K.In s.heap := e0.mod.kin.keeps fun b o e => (e0.bs b o e).1
  have lim : s.heap.NoLimit := e0.mod.nolimit.keeps fun b o e => (e0.bs b o e).1
  have hkind : ∀ y ∈ ps.zip us, scope.names.lookup y.1 = some .local ∨ (scope.names.lookup y.1 = some .cell ∧ ((cellsFrom (s.heap.objs.size + 1) scope.names []).lookup y.1).isSome = true) := fun ⟨n, v⟩ hy =>
    (S.par n (List.of_mem_zip hy).1).elim .inl fun q => .inr ⟨q, PySem.W.cellsFrom_some _ _ _ (.inl q)⟩
  refine codeAny_call_function hr.depth (KX _ _ lk) rfl S.co S.gen rfl (PySem.W.codeRec_of KX hcd) (hb _ _ _ _ (wpAny_newFunctionEnv_cells S.kind hkind fun env he s1 xx => ?_))
  subst he
  refine ⟨lim.keeps xx.toInCall.keep, codeAny_func ?_⟩
  obtain ⟨t, ht, hq⟩ := hbody cdv A outer s H vs Q E a oe cls d hot hz hf (hr.deeper _) hsp
  have I := L2H.inv_startH (CX := CX) (E := E) S hpin e0 (len _ _ _ _ _ _ _ hsp) r xx
  refine wpAny_mono (ht.run [] s1 (start N vs) H _ I hq) (fun fl s' hs => ?_) fun e s' hs => hs
  cases fl with
  | ret u =>
    obtain ⟨v, σ', H', J, rv, q⟩ := hs
    exact ⟨v, H', J.os, J.bare, J.base, J.hok, rv, q⟩
  | next =>
    obtain ⟨σ', H', J, q⟩ := hs
    exact ⟨.non, H', J.os, J.bare, J.base, J.hok, rfl, q⟩
  | brk => exact (let ⟨_, _, _, q⟩ := hs; False.elim q)
  | cont => exact (let ⟨_, _, _, q⟩ := hs; False.elim q)
end
section
variable {X : Cx} {CX : CXT} {k : Nat} {f C : Addr} {fd : FuncData} {ps : List Str} {x m : Str} {q pos apos : Pos} {e o : Expr} {es : List Expr} {ta : TE} {t : TA}
theorem pe_callE {sp : Addr → Value → Option Addr → Sp} {E : L2.St → XK} {a : Addr} {oe : Obj} {cls : Value} {d : Option Addr} (F : FnE X.prog X.w X.K X.mg X.base CX k f fd ps sp) (hr : L2H.RoomH k X.A) (hot : L2H.Hot1 X.A (a, oe)) (hz : L2N.Zn cls d oe) (hf : ∃ vs, oe.data = .fields vs) (hp : (a, oe) ∈ X.pn) (hm : X.mg x = some (.ref f)) (hk : PySem.W.keepIn X.K (.ref f) = true) (hb : Binds X.K fd ps [])
    (hx : ∀ σ, PassesAt CX X σ (E σ)) (ha : PA X (e :: es) t) (hg : Gl X x := by rfl) (hdb : (x == ("__debug__" : Str)) = false := by decide) (he : starEach (e :: es) X.env = (false, eval e X.env) :: starEach es X.env := by rfl)
    (hpl : (backTo pos (starEach es X.env)).any (·.1) = false := by rfl) : PE X (.Call (.Name x q) (e :: es) [] pos) (tCallS (sp a cls d) E t) := by
  refine ⟨fun pins s σ H Q I h => wpAny_Call_Name_kw (ld_glob I hg hm (PySem.W.callWith_K (h₀ := X.base) I.ok.mod.kin hk (thn (ha.run pos pins s σ H _ I h) fun us s1 ⟨vs, H1, I1, r, hq⟩ => ⟨I1.kIn, ?_⟩) he hpl) hdb)⟩
  have hl : us.length = ps.length := by rw [← r.length]; exact F.len _ _ _ _ _ _ _ hq
  have b := hb s1 us I1.kIn (by rw [List.append_nil]; exact hl)
  rw [List.append_nil] at b
  have P1 := I1.pin (a, oe) (List.mem_append_left _ hp)
  have hpin : L2H.PinOk X.stack H1 s1 (a, oe) := ⟨P1.1, P1.2.1, fun hm => (List.mem_cons.mp (I1.stkSub a hm)).elim P1.2.2.1 P1.2.2.2.1, P1.2.2.2.2⟩
  refine wpAny_call (codeAny_mono (F.run X.A X.stack s1 H1 ⟨us, []⟩ us vs Q (E σ) a oe cls d hr hot hpin hz hf I1.env0 b r hq) fun r s' hq' => ?_)
  cases r with
  | error e => exact hx σ pins H1 s1 e s' I1 hq'
  | ok fl =>
    cases fl with
    | ret u => exact I1.after hq'
    | next => exact False.elim hq'
    | brk => exact False.elim hq'
    | cont => exact False.elim hq'
end
theorem never0 {X : Cx} : ∀ σ : L2.St, PassesAt CX0 X σ ((fun _ => E0) σ) := fun _ _ _ _ _ _ _ h => h.elim
theorem roomH_mark {k : Nat} {A : Around} (hr : Room k A) (v : Option Value) : L2H.RoomH k (A.mark v) := ⟨hr.dp, hr.un⟩
theorem hot_mark {A : Around} {a : Addr} {cls : Value} {d : Option Addr} {oe : Obj} (hz : L2N.Zn cls d oe) (hf : ∃ vs, oe.data = .fields vs) : L2H.Hot1 (A.mark (some (.ref a))) (a, oe) := by
  obtain ⟨vs, hv⟩ := hf
  exact ⟨rfl, vs, hv, hz.2.2 vs hv⟩
theorem CalM.of {P : Program} {w : World} {K : PySem.W.Frag} {mg : Str → Option Value} {base : Heap} {CX : CXT} {k : Nat} {m x q : Str} {ps : List Str} {sp : Sp} {pa : Arguments} {bd : List Stmt} {sc : Scope} {kws : List (Str × V)} {C f : Addr}
    (F : ∃ fd, FunD K x q pa bd sc [] kws f fd) (c : Cls K C) (hm : Meth K C m f) (ok : ∀ fd, FunD K x q pa bd sc [] kws f fd → FnOk P w K mg base CX k f fd ps sp)
    (hb : ∀ (kV doc pm : Value) (an : Option Addr) (cdv ct : Value) (us : List Value), us.length = ps.length → bindArgs (PySem.W.fnOf x q pa bd sc .none kV doc pm an cdv ct) ⟨us, []⟩ = pure (ps.zip us)) : CalM P w K mg base CX k C m ps [] sp := by
  obtain ⟨fd, F⟩ := F
  exact ⟨c, f, fd, [], hm, ok fd F, F.bindsN hb, .nil⟩
/-! ### calls that may raise: the wish is W at the caller's slots -/
section
variable {X : Cx} {k : Nat} {C : Addr} {ps : List Str} {sp : Sp} {dvs : List V} {W : WX} {x m : Str} {p pos apos : Pos} {e o : Expr} {es : List Expr} {ta : TE} {t : TA}
theorem pcS_call (c : Cal X.prog X.w X.K X.mg X.base (L2N.CX X.prog X.w) k x ps dvs sp) (hr : Room k X.A) (tk : L2N.Takes X W) (ha : PA X (e :: es) t) (hg : Gl X x := by rfl) (hdb : (x == ("__debug__" : Str)) = false := by decide)
    (he : starEach (e :: es) X.env = (false, eval e X.env) :: starEach es X.env := by rfl) (hpl : (backTo pos (starEach es X.env)).any (·.1) = false := by rfl) : PE X (.Call (.Name x p) (e :: es) [] pos) (tCallSD sp dvs (WE W) t) := by
  obtain ⟨f, fd, ds, h1, h2, F, b, v⟩ := c.ex
  exact pe_callSD F hr hg h1 h2 b v (fun σ => L2N.passAt tk σ) ha hdb he hpl
def tMakeS (C : Addr) (sp : Sp) (dvs : List V) (W : WX) (t : TA) : TE := fun σ H Q => t σ H fun vs H1 => ∀ x dx, H1 x = none → H1 dx = none → dx ≠ x →
  sp (.ref x :: (vs ++ dvs)) (upd (upd H1 dx (.own x)) x (.ins C dx [])) (fun v H2 => v = .non ∧ Q (.ref x) H2) (WE W σ)
theorem pcS_make (c : CalI X.prog X.w X.K X.mg X.base (L2N.CX X.prog X.w) k x C ps dvs sp) (hr : Room (k + 1) X.A) (tk : L2N.Takes X W) (ha : PA X (e :: es) t) (hg : Gl X x := by rfl) (hdb : (x == ("__debug__" : Str)) = false := by decide)
    (he : starEach (e :: es) X.env = (false, eval e X.env) :: starEach es X.env := by rfl) (hpl : (backTo pos (starEach es X.env)).any (·.1) = false := by rfl) : PE X (.Call (.Name x p) (e :: es) [] pos) (tMakeS C sp dvs W t) := by
  obtain ⟨f, fd, ds, M, F, b, hd⟩ := c.ex
  refine ⟨fun pins s σ H Q I h => wpAny_Call_Name_kw (ld_glob I hg c.g (PySem.W.callWith_K (h₀ := X.base) I.ok.mod.kin M.kp (thn (ha.run pos pins s σ H _ I h) fun us s1 ⟨vs, H1, I1, r, hq⟩ => ⟨I1.kIn, ?_⟩) he hpl) hdb)⟩
  have hq0 := hq (s1.heap.objs.size + 1) s1.heap.objs.size (I1.hok.fresh (Nat.le_succ _)) (I1.hok.fresh (Nat.le_refl _)) (Nat.ne_of_lt (Nat.lt_succ_self _))
  have I2 := Inv.made (C := C) I1
  have r2 : Vals (V.ref (s1.heap.objs.size + 1) :: (vs ++ dvs)) (Value.ref (s1.heap.objs.size + 1) :: (us ++ ds)) := .cons rfl (r.append hd)
  have hl : (Value.ref (s1.heap.objs.size + 1) :: us ++ ds).length = ps.length := by
    have e := r2.length
    rw [F.len _ _ _ _ hq0] at e
    exact e.symm
  refine wpAny_call (make_map (f := f) I1.kIn M.makes M.init (beq_iff_eq.mp M.fn) (codeAny_mono (F.run _ X.stack _ _ ⟨Value.ref (s1.heap.objs.size + 1) :: us, []⟩ (Value.ref (s1.heap.objs.size + 1) :: (us ++ ds)) _ _ (WE W σ) (hr.make C us [])
    (I2.env0.make C us []) (b _ (Value.ref (s1.heap.objs.size + 1) :: us) I2.kIn hl) r2 hq0) fun r s' hq' => ?_))
  cases r with
  | error e => exact L2N.passAt tk σ pins _ _ e s' I2 hq'
  | ok fl =>
    cases fl with
    | ret u =>
      obtain ⟨v, H', I3, rv, ev, q3⟩ := I2.after hq'
      subst ev
      exact ⟨rv, ⟨V.ref (s1.heap.objs.size + 1), H', I3, rfl, q3⟩⟩
    | next => exact False.elim hq'
    | brk => exact False.elim hq'
    | cont => exact False.elim hq'
end
section
variable {X : Cx} {k : Nat} {C : Addr} {ps : List Str} {sp : Sp} {dvs : List V} {W : WX} {x m : Str} {p pos apos : Pos} {e o : Expr} {es : List Expr} {ta : TE} {t : TA}
def tMethS (C : Addr) (m : Str) (sp : Sp) (dvs : List V) (W : WX) (ta : TE) (t : TA) : TE := fun σ H Q => ta σ H fun x H1 => ∃ a dx fs, x = .ref a ∧ H1 a = some (.ins C dx fs) ∧ fs.lookup m = none ∧ t σ H1 fun vs H2 => sp (x :: (vs ++ dvs)) H2 Q (WE W σ)
theorem pcS_meth0 {pl : Sem Bool} (c : CalM X.prog X.w X.K X.mg X.base (L2N.CX X.prog X.w) k C m ps dvs sp) (hr : Room k X.A) (tk : L2N.Takes X W) (ho : PE X o ta)
    (ht : eval (.Call (.Attribute o m apos) [] [] pos) X.env = (do
      let ov ← eval o X.env
      standAt apos.atName
      let (f, first) ← holding [ov] (getMethod ov m pl)
      callWith pos f first (backTo pos (starEach [] X.env)) (backToKw pos (keywordEach [] X.env))) := by rfl) :
    PE X (.Call (.Attribute o m apos) [] [] pos) (tMethS C m sp dvs W ta tNil) := by
  obtain ⟨f, fd, ds, hm, F, hb, hd⟩ := c.ex
  refine ⟨fun pins s σ H Q I h => ?_⟩
  refine PySem.W.methodCall_KW (pl := pl) (thn (ho.run pins s σ H _ I h) fun u s1 ⟨x, H1, I1, rx, a, dx, fs, ex, ea, l, q⟩ => ?_) ht
  subst ex
  obtain rfl : u = Value.ref a := rx
  refine getmeth_ok I1 ea c.c hm l ?_
  exact PySem.W.callWith_K0 (first := [.ref a]) I1.kIn hm.kp (run_fnSD (us := [.ref a]) (vs := [.ref a]) (E := WE W) F hr hb hd (L2N.passAt tk σ) I1 (.cons rfl .nil) q)
theorem pcS_meth {pl : Sem Bool} (c : CalM X.prog X.w X.K X.mg X.base (L2N.CX X.prog X.w) k C m ps dvs sp) (hr : Room k X.A) (tk : L2N.Takes X W) (ho : PE X o ta) (ha : PA X (e :: es) t)
    (hst : starEach (e :: es) X.env = (false, eval e X.env) :: starEach es X.env := by rfl) (hpl : (backTo pos (starEach es X.env)).any (·.1) = false := by rfl)
    (ht : eval (.Call (.Attribute o m apos) (e :: es) [] pos) X.env = (do
      let ov ← eval o X.env
      standAt apos.atName
      let (f, first) ← holding [ov] (getMethod ov m pl)
      callWith pos f first (backTo pos (starEach (e :: es) X.env)) (backToKw pos (keywordEach [] X.env))) := by rfl) :
    PE X (.Call (.Attribute o m apos) (e :: es) [] pos) (tMethS C m sp dvs W ta t) := by
  obtain ⟨f, fd, ds, hm, F, hb, hd⟩ := c.ex
  refine ⟨fun pins s σ H Q I h => ?_⟩
  refine PySem.W.methodCall_KW (pl := pl) (thn (ho.run pins s σ H _ I h) fun u s1 ⟨x, H1, I1, rx, a, dx, fs, ex, ea, l, q⟩ => ?_) ht
  subst ex
  obtain rfl : u = Value.ref a := rx
  refine getmeth_ok I1 ea c.c hm l ?_
  refine PySem.W.callWith_K (first := [.ref a]) (h₀ := X.base) I.ok.mod.kin hm.kp (thn (ha.run pos pins s1 σ H1 _ I1 q) fun us s2 ⟨vs, H2, I2, r, q2⟩ => ⟨I2.kIn, ?_⟩) hst hpl
  exact run_fnSD (us := .ref a :: us) (vs := .ref a :: vs) (E := WE W) F hr hb hd (L2N.passAt tk σ) I2 (.cons rfl r) q2
end
/-- a def that is called with the handled exception -/
structure CalE (P : Program) (w : World) (K : PySem.W.Frag) (mg : Str → Option Value) (base : Heap) (CX : CXT) (k : Nat) (x : Str) (ps : List Str) (sp : Addr → Value → Option Addr → Sp) : Prop where
  ex : ∃ f fd, mg x = some (.ref f) ∧ PySem.W.keepIn K (.ref f) = true ∧ FnE P w K mg base CX k f fd ps sp ∧ Binds K fd ps []
section
variable {X : Cx} {CX : CXT} {k : Nat} {ps : List Str} {x : Str} {p pos : Pos} {e : Expr} {es : List Expr} {t : TA}
theorem pcE_call {sp : Addr → Value → Option Addr → Sp} {a : Addr} {oe : Obj} {cls : Value} {d : Option Addr} (c : CalE X.prog X.w X.K X.mg X.base CX0 k x ps sp) (hr : L2H.RoomH k X.A) (hot : L2H.Hot1 X.A (a, oe)) (hz : L2N.Zn cls d oe) (hf : ∃ vs, oe.data = .fields vs) (hp : (a, oe) ∈ X.pn)
    (ha : PA X (e :: es) t) (hg : Gl X x := by rfl) (hdb : (x == ("__debug__" : Str)) = false := by decide)
    (he : starEach (e :: es) X.env = (false, eval e X.env) :: starEach es X.env := by rfl) (hpl : (backTo pos (starEach es X.env)).any (·.1) = false := by rfl) : PE X (.Call (.Name x p) (e :: es) [] pos) (tCallS (sp a cls d) (fun _ => E0) t) := by
  obtain ⟨f, fd, h1, h2, F, b⟩ := c.ex
  exact pe_callE F hr hot hz hf hp h1 h2 b never0 ha hg hdb he hpl
end
/-- what is never reached -/
theorem pe_no {X : Cx} {e : Expr} : PE X e (fun _ _ _ => False) := ⟨fun _ _ _ _ _ _ h => h.elim⟩
theorem ps_no {X : Cx} {e : Stmt} : PS X e (fun _ _ _ => False) := ⟨fun _ _ _ _ _ _ h => h.elim⟩
theorem pss_no {X : Cx} {e : List Stmt} : PSs X e (fun _ _ _ => False) := ⟨fun _ _ _ _ _ _ h => h.elim⟩
/-- nothing is let out -/
theorem takesNo {X : Cx} : L2N.Takes X (fun _ _ _ _ => False) := fun u s' x => by
  obtain ⟨a, B, sI, pins, σ, H, cls, d, e, I, nb, up, sky, na, os, ag, z⟩ := x
  exact z.elim
/-- of the named classes the exception's class x is itself alone -/
def marksB (K : PySem.W.Frag) (names : List Str) (x : Str) : Bool := excDB K (He.ga K x) && (names.all (fun m => decide (PySem.W.kitOne K (.ref (He.ga K x)) (.ref (He.ga K m)) = some (decide (m = x)))) &&
  (decide (PySem.W.kitOne K (.ref (He.ga K x)) (.ref (He.ga K "MostsError")) = some true) && decide (PySem.W.kitOne K (.ref (He.ga K x)) (.type "ValueError") = some true)))
theorem marksB_ok {K : PySem.W.Frag} {names : List Str} {x : Str} (h : marksB K names x = true) : ExcD K (He.ga K x) ∧ (∀ m ∈ names, PySem.W.kitOne K (.ref (He.ga K x)) (.ref (He.ga K m)) = some (decide (m = x))) ∧
    PySem.W.kitOne K (.ref (He.ga K x)) (.ref (He.ga K "MostsError")) = some true ∧ PySem.W.kitOne K (.ref (He.ga K x)) (.type "ValueError") = some true := by
  obtain ⟨h1, h⟩ := He.ba h
  obtain ⟨h2, h⟩ := He.ba h
  obtain ⟨h3, h4⟩ := He.ba h
  exact ⟨excDB_ok h1, fun m hm => of_decide_eq_true (List.all_eq_true.mp h2 m hm), of_decide_eq_true h3, of_decide_eq_true h4⟩
/-- the exception's own dict stands -/
def HD (H : Hp) (d : Option Addr) : Prop := ∀ dx, d = some dx → ∃ o, H dx = some o
theorem HD.upd {H : Hp} {d : Option Addr} {p : Addr} {o : HO} (h : HD H d) : HD (L2.upd H p o) d := fun dx e => by
  by_cases q : dx = p
  · subst q
    exact ⟨_, upd_same⟩
  · rw [upd_ne q]
    exact h dx e
theorem HD.same {H H' : Hp} {d : Option Addr} (h : HD H d) (e : Same H H') : HD H' d := fun dx q => by
  obtain ⟨o, ho⟩ := h dx q
  exact ⟨o, e _ _ ho⟩
theorem HD.non {H : Hp} : HD H none := fun _ z => nomatch z
/-! ### one more Bool of the head -/
def hookX (n : Nat) (fa : List He.Fa) (fn : List He.DefD) (xb : PySem.W.Frag → Bool) : PySem.W.Hook where
  α := He.AlD × Bool
  obs := fun s => (He.obsDG n fa fn s.heap.get?, xb (He.frG s.heap.get? (He.asD s.heap.get? n)))
  val := fun _ => (He.valD fn, true)
  says := fun _ h => ∃ K : PySem.W.Frag, K.In h ∧ He.SaysD fa fn K ∧ xb K = true
  of := fun _ _ e => ⟨_, He.frG_in, congrArg Prod.fst e, congrArg Prod.snd e⟩
  keeps := fun _ _ _ ⟨K, hK, c⟩ k => ⟨K, PySem.W.Frag.In.keeps hK k, c⟩
def obsX (n : Nat) (fa : List He.Fa) (fn : List He.DefD) (xb : PySem.W.Frag → Bool) (g : Addr → Option Obj) : He.AlD × Bool := (He.obsDG n fa fn g, xb (He.frG g (He.asD g n)))
theorem obsX_eq {n : Nat} {fa : List He.Fa} {fn : List He.DefD} {xb : PySem.W.Frag → Bool} {g : Addr → Option Obj} {s : Shared} (h : ∀ a, g a = s.heap.get? a) : obsX n fa fn xb g = (hookX n fa fn xb).obs s := by
  have e : g = s.heap.get? := funext h
  rw [e] <;> rfl
end My

set_option Elab.async false
set_option linter.all false
set_option maxRecDepth 100000
set_option maxHeartbeats 4000000
namespace My
open PySem PySem.Spec PyProof.Rows L2
/-! ### // by any divisor but 0 -/
def CDivNW (_ j : Int) : Prop := j ≠ 0 ∧ j.natAbs.log2 < 9000
theorem op_fdivNW {X : Cx} : OpR X (binaryOp .FloorDiv) (rI CDivNW fun i j => .int (i.fdiv j)) := opI fun _ _ _ _ _ _ _ hc q => floordiv_int hc.1 q (.inl (PyProof.noPylong_of_log2 hc.2))
theorem wide_divN {i j : Int} {b : Nat} (h : j ≠ 0) (hb : j.natAbs < 2 ^ b) (h0 : 0 < b) (h9 : b ≤ 9000) : CDivNW i j := ⟨h, Nat.lt_of_lt_of_le (PySem.Flt.log2_lt_of h0 hb) h9⟩
/-! ### greatest divisors -/
theorem gcd_fmod (a b : Int) : Int.gcd b (a.fmod b) = Int.gcd a b := by
  rw [Int.fmod_def, Int.gcd_sub_mul_left_right, Int.gcd_comm]
theorem gcd_emod (a b : Int) : Int.gcd b (a % b) = Int.gcd a b := by
  rw [Int.emod_def, Int.gcd_sub_mul_left_right, Int.gcd_comm]
theorem fmod_less (a : Int) {b : Int} (h : b ≠ 0) : (a.fmod b).natAbs < b.natAbs := by
  rw [Int.fmod_eq_emod]
  have h1 := Int.emod_nonneg a h
  have h2 := Int.emod_lt a h
  split
  · omega
  · rename_i q
    have hb : b < 0 := by
      have := not_or.mp q
      omega
    have hn : ¬ b ∣ a := (not_or.mp q).2
    have : a % b ≠ 0 := fun z => hn (Int.dvd_of_emod_eq_zero z)
    omega
theorem abs_if (i : Int) : (if i < 0 then -i else i) = (i.natAbs : Int) := by
  split <;> omega
theorem dvd_cop {k m n : Int} (h : Int.gcd k m = 1) (d : k ∣ m * n) : k ∣ n := by
  have e := Int.gcd_mul_right_right_of_gcd_eq_one (k := n) h
  rw [Int.gcd_eq_natAbs_left d] at e
  exact Int.natAbs_dvd_natAbs.mp (by rw [e]; exact Nat.gcd_dvd_right _ _)
/-- p/q is t/b in lowest terms -/
structure Rt (p q t b : Int) : Prop where
  pos : 1 ≤ q
  one : Int.gcd p q = 1
  eq : p * b = t * q
theorem Rt.uniq {p q p' q' t b : Int} (h : Rt p q t b) (h' : Rt p' q' t b) (hb : b ≠ 0) : p = p' ∧ q = q' := by
  have e : p * q' = p' * q := by
    have e1 : (p * q') * b = (p' * q) * b := by
      rw [Int.mul_right_comm, h.eq, Int.mul_right_comm p' q b, h'.eq, Int.mul_right_comm]
    exact Int.eq_of_mul_eq_mul_right hb e1
  have d1 : q ∣ q' := by
    have : q ∣ p * q' := ⟨p', by rw [e, Int.mul_comm]⟩
    exact dvd_cop (by rw [Int.gcd_comm]; exact h.one) this
  have d2 : q' ∣ q := by
    have : q' ∣ p' * q := ⟨p, by rw [← e, Int.mul_comm]⟩
    exact dvd_cop (by rw [Int.gcd_comm]; exact h'.one) this
  have hq : q = q' := Int.dvd_antisymm (by have := h.pos; omega) (by have := h'.pos; omega) d1 d2
  refine ⟨?_, hq⟩
  rw [← hq] at e
  exact Int.eq_of_mul_eq_mul_right (by have := h.pos; omega) e
/-- what Ratio's maker does -/
theorem rt_make {t b d : Int} (hb : b ≠ 0) (hd : d = if b < 0 then -(Int.gcd t b : Int) else (Int.gcd t b : Int)) : d ≠ 0 ∧ Rt (t.fdiv d) (b.fdiv d) t b ∧ (t.fdiv d).natAbs ≤ t.natAbs ∧ (b.fdiv d).natAbs ≤ b.natAbs ∧ d.natAbs ≤ b.natAbs := by
  have hg : 0 < Int.gcd t b := Int.gcd_pos_of_ne_zero_right t hb
  obtain ⟨k, hk⟩ := Int.gcd_dvd_left t b
  obtain ⟨m, hm⟩ := Int.gcd_dvd_right t b
  have hkm : Int.gcd k m = 1 := by
    have e : Int.gcd t b = (Int.gcd t b : Int).natAbs * Int.gcd k m := by
      rw [← Int.gcd_mul_left, ← hk, ← hm]
    rw [Int.natAbs_natCast] at e
    have : Int.gcd t b * 1 = Int.gcd t b * Int.gcd k m := by rw [Nat.mul_one]; exact e
    exact (Nat.eq_of_mul_eq_mul_left hg this).symm
  have hle : Int.gcd t b ≤ b.natAbs := Int.gcd_le_natAbs_right t hb
  generalize hG : Int.gcd t b = g at *
  have key : ∀ s : Int, s = 1 ∨ s = -1 → d = s * g → 0 < s * m → d ≠ 0 ∧ Rt (t.fdiv d) (b.fdiv d) t b ∧ (t.fdiv d).natAbs ≤ t.natAbs ∧ (b.fdiv d).natAbs ≤ b.natAbs ∧ d.natAbs ≤ b.natAbs := by
    intro s hs ed hsm
    have hss : s * s = 1 := by rcases hs with rfl | rfl <;> rfl
    have d0 : d ≠ 0 := by rcases hs with rfl | rfl <;> omega
    have et : t.fdiv d = s * k := by
      have : t = d * (s * k) := by rw [ed, hk, show s * (g : Int) * (s * k) = (s * s) * (g * k) by ac_rfl, hss, Int.one_mul]
      rw [this, Int.mul_fdiv_cancel_left _ d0]
    have eb : b.fdiv d = s * m := by
      have : b = d * (s * m) := by rw [ed, hm, show s * (g : Int) * (s * m) = (s * s) * (g * m) by ac_rfl, hss, Int.one_mul]
      rw [this, Int.mul_fdiv_cancel_left _ d0]
    have ns : s.natAbs = 1 := by rcases hs with rfl | rfl <;> rfl
    have gk : k.natAbs ≤ t.natAbs := by
      rw [hk, Int.natAbs_mul, Int.natAbs_natCast]
      exact Nat.le_mul_of_pos_left _ hg
    have gm : m.natAbs ≤ b.natAbs := by
      rw [hm, Int.natAbs_mul, Int.natAbs_natCast]
      exact Nat.le_mul_of_pos_left _ hg
    refine ⟨d0, ⟨by rw [eb]; omega, ?_, ?_⟩, ?_, ?_, ?_⟩
    · rw [et, eb, Int.gcd_mul_left, ns, hkm]
    · rw [et, eb, hk, hm]
      ac_rfl
    · rw [et, Int.natAbs_mul, ns, Nat.one_mul]; exact gk
    · rw [eb, Int.natAbs_mul, ns, Nat.one_mul]; exact gm
    · rw [ed, Int.natAbs_mul, ns, Nat.one_mul, Int.natAbs_natCast]; exact hle
  have hgi : (0 : Int) < (g : Int) := by omega
  by_cases hneg : b < 0
  · rw [if_pos hneg] at hd
    refine key (-1) (.inr rfl) (by rw [hd]; omega) ?_
    have : m < 0 := by
      rcases Int.lt_or_le m 0 with h | h
      · exact h
      · have := Int.mul_nonneg (Int.le_of_lt hgi) h
        omega
    omega
  · rw [if_neg hneg] at hd
    refine key 1 (.inl rfl) (by rw [hd]; omega) ?_
    have : 0 < m := by
      rcases Int.lt_or_le 0 m with h | h
      · exact h
      · have := Int.mul_nonpos_of_nonneg_of_nonpos (Int.le_of_lt hgi) h
        omega
    omega
/-! ### Euclid's way ends in time -/
def fibs : Nat → Nat × Nat
  | 0 => (0, 1)
  | n + 1 => let p := fibs n; (p.2, p.1 + p.2)
theorem fib400 : 2 ^ 270 ≤ (fibs 400).1 := by decide +kernel
/-- after n + 1 turns: the pair is x, y -/
structure Eu (n : Nat) (a b x y : Int) : Prop where
  g : Int.gcd x y = Int.gcd a b
  lo : 0 ≤ y
  lt : y < x
  fib : ((fibs (n + 1)).1 : Int) * x + ((fibs n).1 : Int) * y ≤ b
theorem Eu.first {a b : Int} (h : 0 < b) : Eu 0 a b b (a % b) := by
  have h1 := Int.emod_nonneg a (show b ≠ 0 by omega)
  have h2 := Int.emod_lt_of_pos a h
  exact ⟨gcd_emod a b, h1, h2, by show ((1 : Nat) : Int) * b + ((0 : Nat) : Int) * (a % b) ≤ b; omega⟩
theorem Eu.next {n : Nat} {a b x y : Int} (h : Eu n a b x y) (h0 : y ≠ 0) : Eu (n + 1) a b y (x % y) := by
  have p : 0 < y := by have := h.lo; omega
  have h1 := Int.emod_nonneg x h0
  have h2 := Int.emod_lt_of_pos x p
  refine ⟨(gcd_emod x y).trans h.g, h1, h2, ?_⟩
  have e := Int.mul_ediv_add_emod x y
  have q1 : 1 ≤ x / y := by
    rcases Int.lt_or_le 0 (x / y) with z | z
    · exact z
    · have : y * (x / y) ≤ 0 := Int.mul_nonpos_of_nonneg_of_nonpos (Int.le_of_lt p) z
      have := h.lt
      omega
  have q2 : y ≤ y * (x / y) := by
    have := Int.mul_le_mul_of_nonneg_left q1 (Int.le_of_lt p)
    rw [Int.mul_one] at this
    exact this
  have q3 : y + x % y ≤ x := by omega
  have f : ((fibs (n + 1)).1 : Int) * (y + x % y) ≤ ((fibs (n + 1)).1 : Int) * x := Int.mul_le_mul_of_nonneg_left q3 (Int.natCast_nonneg _)
  rw [Int.mul_add] at f
  have e2 : ((fibs (n + 2)).1 : Int) * y = ((fibs n).1 : Int) * y + ((fibs (n + 1)).1 : Int) * y := by
    rw [← Int.add_mul, ← Int.natCast_add]
    rfl
  have := h.fib
  show ((fibs (n + 2)).1 : Int) * y + ((fibs (n + 1)).1 : Int) * (x % y) ≤ b
  omega
theorem Eu.done {a b x y : Int} {n : Nat} (h : Eu n a b x y) (hb : b < ((fibs (n + 1)).1 : Int)) : False := by
  have h1 := h.fib
  have h2 := h.lo
  have h3 := h.lt
  have f1 : ((fibs (n + 1)).1 : Int) * 1 ≤ ((fibs (n + 1)).1 : Int) * x := Int.mul_le_mul_of_nonneg_left (by omega) (Int.natCast_nonneg _)
  have f2 : 0 ≤ ((fibs n).1 : Int) * y := Int.mul_nonneg (Int.natCast_nonneg _) h2
  omega
/-! ### floors and orders of quotients -/
/-- z is t/b rounded down -/
def Fl (z t b : Int) : Prop := (0 < b ∧ z * b ≤ t ∧ t < (z + 1) * b) ∨ (b < 0 ∧ z * (-b) ≤ -t ∧ -t < (z + 1) * (-b))
theorem fl_pos {z t b : Int} (hb : 0 < b) : Fl z t b ↔ z * b ≤ t ∧ t < (z + 1) * b := ⟨fun h => by
  rcases h with h | h
  · exact h.2
  · omega, fun h => .inl ⟨hb, h⟩⟩
theorem fl_neg {z t b : Int} (hb : b < 0) : Fl z t b ↔ z * (-b) ≤ -t ∧ -t < (z + 1) * (-b) := ⟨fun h => by
  rcases h with h | h
  · omega
  · exact h.2, fun h => .inr ⟨hb, h⟩⟩
theorem fl_ediv {t b : Int} (hb : 0 < b) : (t / b) * b ≤ t ∧ t < (t / b + 1) * b := by
  have e := Int.mul_ediv_add_emod t b
  have h1 := Int.emod_nonneg t (show b ≠ 0 by omega)
  have h2 := Int.emod_lt_of_pos t hb
  rw [Int.mul_comm (t / b) b, Int.add_mul, Int.one_mul, Int.mul_comm (t / b) b]
  omega
theorem fl_fdiv {t b : Int} (hb : b ≠ 0) : Fl (t.fdiv b) t b := by
  by_cases h : 0 < b
  · rw [fl_pos h, Int.fdiv_eq_ediv_of_nonneg t (Int.le_of_lt h)]
    exact fl_ediv h
  · have hn : b < 0 := by omega
    rw [fl_neg hn, ← Int.neg_fdiv_neg, Int.fdiv_eq_ediv_of_nonneg (-t) (by omega)]
    exact fl_ediv (by omega)
/-- signs off -/
theorem fl_abs {z t b : Int} (hb : b ≠ 0) : ∃ s : Int, (s = 1 ∨ s = -1) ∧ 0 < s * b ∧ (Fl z t b ↔ z * (s * b) ≤ s * t ∧ s * t < (z + 1) * (s * b)) := by
  by_cases h : 0 < b
  · refine ⟨1, .inl rfl, by omega, ?_⟩
    rw [fl_pos h, Int.one_mul, Int.one_mul]
  · refine ⟨-1, .inr rfl, by omega, ?_⟩
    rw [fl_neg (by omega), show (-1 : Int) * b = -b by omega, show (-1 : Int) * t = -t by omega]
theorem fl_cross {z T B t b : Int} (h : Fl z T B) (hB : B ≠ 0) (hb : b ≠ 0) (e : T * b = t * B) : Fl z t b := by
  obtain ⟨s, hs, pB, hF⟩ := fl_abs (z := z) (t := T) hB
  obtain ⟨s', hs', pb, hf⟩ := fl_abs (z := z) (t := t) hb
  rw [hf]
  obtain ⟨h1, h2⟩ := hF.mp h
  have e2 : (s * T) * (s' * b) = (s' * t) * (s * B) := by
    rw [show (s * T) * (s' * b) = (s * s') * (T * b) by ac_rfl, e]
    ac_rfl
  constructor
  · refine Int.le_of_mul_le_mul_right (a := s * B) ?_ pB
    rw [← e2]
    have := Int.mul_le_mul_of_nonneg_right h1 (Int.le_of_lt pb)
    rw [show z * (s' * b) * (s * B) = z * (s * B) * (s' * b) by ac_rfl]
    exact this
  · refine Int.lt_of_mul_lt_mul_right (a := s * B) ?_ (Int.le_of_lt pB)
    rw [← e2]
    have := Int.mul_lt_mul_of_pos_right h2 pb
    rw [show (z + 1) * (s' * b) * (s * B) = (z + 1) * (s * B) * (s' * b) by ac_rfl]
    exact this
/-- orders by cross products -/
theorem cross_lt {p q t b p' q' t' b' : Int} (h : Rt p q t b) (h' : Rt p' q' t' b') (hb : 0 < b) (hb' : 0 < b') : p * q' < p' * q ↔ t * b' < t' * b := by
  have hq := h.pos
  have hq' := h'.pos
  have pos : 0 < b * b' := Int.mul_pos hb hb'
  have pos2 : 0 < q * q' := Int.mul_pos (by omega) (by omega)
  have e1 : (p * q') * (b * b') = (t * b') * (q * q') := by
    rw [show (p * q') * (b * b') = (p * b) * (q' * b') by ac_rfl, h.eq]
    ac_rfl
  have e2 : (p' * q) * (b * b') = (t' * b) * (q * q') := by
    rw [show (p' * q) * (b * b') = (p' * b') * (q * b) by ac_rfl, h'.eq]
    ac_rfl
  constructor
  · intro z
    refine Int.lt_of_mul_lt_mul_right (a := q * q') ?_ (Int.le_of_lt pos2)
    rw [← e1, ← e2]
    exact Int.mul_lt_mul_of_pos_right z pos
  · intro z
    refine Int.lt_of_mul_lt_mul_right (a := b * b') ?_ (Int.le_of_lt pos)
    rw [e1, e2]
    exact Int.mul_lt_mul_of_pos_right z pos2
theorem cross_eq {p q t b p' q' t' b' : Int} (h : Rt p q t b) (h' : Rt p' q' t' b') (hb : b ≠ 0) (hb' : b' ≠ 0) : (p = p' ∧ q = q') ↔ t * b' = t' * b := by
  have hq := h.pos
  have hq' := h'.pos
  constructor
  · rintro ⟨rfl, rfl⟩
    have e : (t * b') * q = (t' * b) * q := by
      rw [Int.mul_right_comm, ← h.eq, Int.mul_right_comm t', ← h'.eq]
      ac_rfl
    exact Int.eq_of_mul_eq_mul_right (by omega) e
  · intro e
    refine h.uniq ⟨hq', h'.one, ?_⟩ hb
    have : (p' * b) * b' = (t * q') * b' := by
      rw [Int.mul_right_comm, h'.eq, Int.mul_right_comm t q' b', e]
      ac_rfl
    exact Int.eq_of_mul_eq_mul_right hb' this
theorem rt_zero {p q t b : Int} (h : Rt p q t b) (hb : b ≠ 0) : p = 0 ↔ t = 0 := by
  have hq := h.pos
  have e := h.eq
  constructor
  · rintro rfl
    rw [Int.zero_mul] at e
    rcases Int.mul_eq_zero.mp e.symm with z | z
    · exact z
    · omega
  · rintro rfl
    rw [Int.zero_mul] at e
    rcases Int.mul_eq_zero.mp e with z | z
    · exact z
    · exact absurd z hb
theorem cross_div {p q t b p' q' t' b' : Int} (h : Rt p q t b) (h' : Rt p' q' t' b') (hb : b ≠ 0) (hb' : b' ≠ 0) : (p * q') * (t' * b) = (t * b') * (q * p') := by
  have e : ((p * q') * (t' * b)) * b' = ((t * b') * (q * p')) * b' := by
    rw [show (p * q') * (t' * b) * b' = (p * b) * (t' * q') * b' by ac_rfl, h.eq, ← h'.eq]
    ac_rfl
  exact Int.eq_of_mul_eq_mul_right hb' e
end My

set_option Elab.async false
set_option linter.all false
set_option maxRecDepth 100000
set_option maxHeartbeats 4000000
/-! operators by an own class's methods -/
namespace My
open PySem PySem.Spec PyProof.Rows L2
section
variable {X : Cx} {CX : CXT} {k : Nat} {C : Addr} {ps : List Str} {sp : Sp} {dvs : List V} {E : XK} {m : Str}
theorem rel_ref (a : Addr) : RelV (V.ref a) (Value.ref a) := rfl
/-- a method runs below the running body -/
theorem run_own {A' : Around} {f : Addr} {fd : FuncData} {ds : List Value} {pins : List (Addr × Obj)} {σ : L2.St} {H : Hp} {s : Shared} {Q : VK} {us : List Value} {vs : List V} (F : FnOk X.prog X.w X.K X.mg X.base CX k f fd ps sp) (hr : Room k A') (fr : A'.frames = X.A.frames)
    (hb : Binds X.K fd ps ds) (hd : Vals dvs ds) (hx : PassesAt CX X σ E) (I : Inv X pins σ H s) (r : Vals vs us) (h : sp (vs ++ dvs) H Q E) : wpAny (model X.prog X.w) A' (call (.ref f) us) (EP X pins σ Q) X.xe s := by
  have r2 : Vals (vs ++ dvs) (us ++ ds) := r.append hd
  have hl : (us ++ ds).length = ps.length := by rw [← r2.length]; exact F.len _ _ _ _ h
  have e0 : Env0 X.prog X.w X.K X.mg X.base A' X.stack s H := by
    have e := I.env0
    exact ⟨by rw [fr]; exact e.frames, e.mod, e.bs, e.bsz, e.funs, e.frf, e.hok, e.bare⟩
  refine wpAny_call (codeAny_mono (F.run A' X.stack s H ⟨us, []⟩ (us ++ ds) (vs ++ dvs) Q E hr e0 (hb s us I.kIn hl) r2 h) fun r s' hq => ?_)
  cases r with
  | error e => exact hx pins H s e s' I hq
  | ok fl =>
    cases fl with
    | ret u => exact I.after hq
    | next => exact False.elim hq
    | brk => exact False.elim hq
    | cont => exact False.elim hq
theorem inst_at {pins : List (Addr × Obj)} {σ : L2.St} {H : Hp} {s : Shared} {a dx : Addr} {fs : List (Str × V)} (I : Inv X pins σ H s) (e : H a = some (.ins C dx fs)) : ∃ ox od, PySem.W.InstAt s.heap a ox C od := by
  obtain ⟨mA, J, _⟩ := ins_get I.hok e
  obtain ⟨od, J, _⟩ := J.look
  exact ⟨_, _, J⟩
/-- of a value that is no NotImplemented -/
theorem back_of {pins : List (Addr × Obj)} {σ : L2.St} {Q : VK} {v : Value} {s : Shared} (h : EP X pins σ Q v s) : PySem.W.CmpBack (EP X pins σ Q) v s := by
  cases v with
  | notImplemented =>
    obtain ⟨x, H', I, r, q⟩ := h
    cases x <;> first | (cases r; done) | (obtain ⟨_, z⟩ := r; cases z)
  | _ => exact h
/-- x is an instance of C -/
def InsC (C : Addr) (H : Hp) (x : V) : Prop := ∃ a dx fs, x = .ref a ∧ H a = some (.ins C dx fs)
/-- - x -/
theorem un_negO (c : CalM X.prog X.w X.K X.mg X.base CX k C "__neg__" ps dvs sp) (hr : Room k X.A) (hx : ∀ σ, PassesAt CX X σ E) : UnR X (unaryOp .USub) (fun x H Q => InsC C H x ∧ sp (x :: dvs) H Q E) := by
  intro pins s σ H x v Q I rx ⟨⟨a, dx, fs, hxa, ha⟩, h⟩
  subst hxa
  cases rx
  obtain ⟨f, fd, ds, M, F, hb, hd⟩ := c.ex
  obtain ⟨ox, od, J⟩ := inst_at I ha
  obtain ⟨m, hF⟩ := I.fr
  exact PySem.W.ksp_neg hF I.ok.mod.kin J M.at_ M.fn (run_own F hr rfl hb hd (hx σ) I (.cons (rel_ref a) .nil) h)
/-- x op y, both of C -/
theorem op_ownS {op : Operator} (c : CalM X.prog X.w X.K X.mg X.base CX k C m ps dvs sp) (e : PySem.dunder op.info.2 = m) (hc : PySem.W.selfFirst X.K C = true) (hr : Room k X.A) (hx : ∀ σ, PassesAt CX X σ E) :
    OpR X (binaryOp op) (fun x y H Q => InsC C H x ∧ InsC C H y ∧ sp (x :: y :: dvs) H Q E) := by
  intro pins s σ H x y v u Q I rx ry ⟨⟨a, dx, fs, hxa, ha⟩, ⟨b, dy, gs, hyb, hb'⟩, h⟩
  subst e
  subst hxa hyb
  cases rx
  cases ry
  obtain ⟨f, fd, ds, M, F, hb, hd⟩ := c.ex
  obtain ⟨ox, od, J⟩ := inst_at I ha
  obtain ⟨oy, od', J'⟩ := inst_at I hb'
  obtain ⟨m, hF⟩ := I.fr
  exact PySem.W.binop_K hF I.ok.mod.kin J J'.type hc M.at_ M.fn (wpAny_mono (run_own F hr rfl hb hd (hx σ) I (.cons (rel_ref a) (.cons (rel_ref b) .nil)) h) (fun _ _ z => back_of z) fun _ _ z => z)
/-- x op i, x of C, i an int -/
theorem op_ownI {op : Operator} {fo ro rc : Option Value} (c : CalM X.prog X.w X.K X.mg X.base CX k C m ps dvs sp) (e : PySem.dunder op.info.2 = m) (hc : PySem.W.selfFirst X.K C = true) (hR : PySem.W.findIn X.K (.ref C) (dunderR op.info.2) = some rc)
    (hp : rc = none ∨ ∃ g : Addr, rc = some (.ref g)) (h1 : PySem.W.findIn X.K (.type "int") (PySem.dunder op.info.2) = some fo) (h2 : PySem.W.findIn X.K (.type "int") (dunderR op.info.2) = some ro) (hs : PySem.W.subIn X.K (.type "int") (.ref C) = some false)
    (hr : Room k X.A) (hx : ∀ σ, PassesAt CX X σ E) : OpR X (binaryOp op) (fun x y H Q => ∃ i : Int, y = .int i ∧ InsC C H x ∧ sp (x :: y :: dvs) H Q E) := by
  intro pins s σ H x y v u Q I rx ry ⟨i, hyi, ⟨a, dx, fs, hxa, ha⟩, h⟩
  subst e
  subst hxa hyi
  cases rx
  obtain ⟨t, rfl⟩ := _root_.id ry
  obtain ⟨f, fd, ds, M, F, hb, hd⟩ := c.ex
  obtain ⟨ox, od, J⟩ := inst_at I ha
  obtain ⟨m, hF⟩ := I.fr
  exact PySem.W.ksp_binT hF I.ok.mod.kin J rfl hc M.at_ M.fn hR hp h1 h2 hs (wpAny_mono (run_own F hr rfl hb hd (hx σ) I (.cons (rel_ref a) (.cons ry .nil)) h) (fun _ _ z => back_of z) fun _ _ z => z)
/-- comparisons of two of C -/
theorem op_cmpS {op : CmpOp} {nm : Str} (c : CalM X.prog X.w X.K X.mg X.base CX k C nm ps dvs sp) (e : (cmpInfo op).2.1 = nm) (hop : ∀ a b, compareOp op a b = richCompare op a b) (hr : Room k X.A) (hx : ∀ σ, PassesAt CX X σ E) :
    OpR X (compareOp op) (fun x y H Q => InsC C H x ∧ InsC C H y ∧ sp (x :: y :: dvs) H Q E) := by
  intro pins s σ H x y v u Q I rx ry ⟨⟨a, dx, fs, hxa, ha⟩, ⟨b, dy, gs, hyb, hb'⟩, h⟩
  subst e
  subst hxa hyb
  cases rx
  cases ry
  obtain ⟨f, fd, ds, M, F, hb, hd⟩ := c.ex
  obtain ⟨ox, od, J⟩ := inst_at I ha
  obtain ⟨oy, od', J'⟩ := inst_at I hb'
  obtain ⟨m, hF⟩ := I.fr
  rw [hop]
  exact PySem.W.cmp_K hr.units0 hF I.ok.mod.kin J J'.type (by simp [PySem.W.notFirst]) M.at_ M.fn (wpAny_mono (run_own F hr rfl hb hd (hx σ) I (.cons (rel_ref a) (.cons (rel_ref b) .nil)) h) (fun _ _ z => back_of z) fun _ _ z => z)
/-- a comparison of one of C with a plain value -/
theorem op_cmpT {op : CmpOp} {nm : Str} {T : String} (c : CalM X.prog X.w X.K X.mg X.base CX k C nm ps dvs sp) (e : (cmpInfo op).2.1 = nm) (hop : ∀ a b, compareOp op a b = richCompare op a b) (hn : PySem.W.notFirst X.K C (.type T) = true) (hr : Room k X.A) (hx : ∀ σ, PassesAt CX X σ E) :
    OpR X (compareOp op) (fun x y H Q => (∀ u, RelV y u → typeOf u = pure (.type T)) ∧ InsC C H x ∧ sp (x :: y :: dvs) H Q E) := by
  intro pins s σ H x y v u Q I rx ry ⟨hy, ⟨a, dx, fs, hxa, ha⟩, h⟩
  subst e
  subst hxa
  cases rx
  obtain ⟨f, fd, ds, M, F, hb, hd⟩ := c.ex
  obtain ⟨ox, od, J⟩ := inst_at I ha
  obtain ⟨m, hF⟩ := I.fr
  rw [hop]
  exact PySem.W.cmp_K hr.units0 hF I.ok.mod.kin J (.of_pure (hy u ry)) hn M.at_ M.fn (wpAny_mono (run_own F hr rfl hb hd (hx σ) I (.cons (rel_ref a) (.cons ry .nil)) h) (fun _ _ z => back_of z) fun _ _ z => z)
/-- abs(x) -/
theorem call_absO (c : CalM X.prog X.w X.K X.mg X.base CX k C "__abs__" ps dvs sp) (hr : Room (k + 1) X.A) (hx : ∀ σ, PassesAt CX X σ E) : CallR X (.builtin "abs") (fun xs H Q => ∃ x, xs = [x] ∧ InsC C H x ∧ sp (x :: dvs) H Q E) := by
  intro pins s σ H xs us Q I r ⟨x, hxs, ⟨a, dx, fs, hxa, ha⟩, h⟩
  subst hxs hxa
  obtain ⟨v, rfl, rv⟩ := vals1 r
  cases rv
  obtain ⟨f, fd, ds, M, F, hb, hd⟩ := c.ex
  obtain ⟨ox, od, J⟩ := inst_at I ha
  refine PySem.Calls.call_function_entry kind_abs plain_abs entry_abs (args_abs _) ?_
  unfold Builtin.«abs»
  refine wpAny_bind (m := oneArg "abs" _) (wpAny_pure ?_)
  refine wpAny_bind (m := callSpecial? (.ref a) (Str.ofString "__abs__")) (PySem.W.special_fn I.kIn J M.at_ (beq_iff_eq.mp M.fn) (wpAny_mono (run_own F hr.in1 rfl hb hd (hx σ) I (.cons (rel_ref a) .nil) h) (fun r s' hr => ?_) fun _ _ z => z))
  exact wpAny_pure ⟨_, rfl, hr⟩
/-- bool(x) -/
theorem call_boolO (c : CalM X.prog X.w X.K X.mg X.base CX k C "__bool__" ps dvs sp) (hr : Room (k + 2) X.A) (hx : ∀ σ, PassesAt CX X σ E) : CallR X (.type "bool") (fun xs H Q => ∃ x, xs = [x] ∧ InsC C H x ∧ sp (x :: dvs) H (fun v H' => ∃ b, v = .bl b ∧ Q (.bl b) H') E) := by
  intro pins s σ H xs us Q I r ⟨x, hxs, ⟨a, dx, fs, hxa, ha⟩, h⟩
  subst hxs hxa
  obtain ⟨v, rfl, rv⟩ := vals1 r
  cases rv
  obtain ⟨f, fd, ds, M, F, hb, hd⟩ := c.ex
  obtain ⟨ox, od, J⟩ := inst_at I ha
  obtain ⟨m, hF⟩ := I.fr
  refine callType_codes (T := "bool") (Bi := Builtin.«object.__init__») (Q₁ := fun r s₁ => ∃ b, r = .bool b ∧ EP X pins σ Q r s₁) PySem.F.called_bool (PySem.F.typeCall_bool_1 _) PySem.F.entry_object_init ?_ ?_
  · refine codeAny_of_tree ?_
    show wpAny _ X.A.in1.in1 (do checkBuiltinCall "bool.__new__" ⟨[.type "bool", .ref a], []⟩; again (.builtin "bool.__new__" ⟨[.type "bool", .ref a], []⟩)) _ _ s
    refine wpAny_bind (wpAny_of_eq (PySem.F.newCall_bool_1 _) (wpAny_pure ⟨plainId_quiet (by decide +kernel) _, codeAny_builtin PySem.F.entry_bool_new ?_⟩))
    rw [Around.under_plainId (by decide +kernel) _]
    unfold Builtin.«bool.__new__»
    have f1 := PySem.F.conv_sub_bool
    refine wpAny_bind (m := isType _) (wpAny_pure ?_)
    show wpAny _ _ (isSubtype (.type "bool") (.type "bool") >>= _) _ _ _
    refine wpAny_bind (wpAny_of_eq f1 ?_)
    refine wpAny_bind (m := someArgs "bool" 0 1 _) (wpAny_pure ?_)
    refine wpAny_bind (PySem.W.truthy_K hF I.ok.mod.kin J M.at_ M.fn (wpAny_mono (run_own F hr.in1.in1 rfl hb hd (hx σ) I (.cons (rel_ref a) .nil) h) (fun r s' hr => ?_) fun _ _ z => z))
    obtain ⟨v, H', I', rv, b, ev, q⟩ := hr
    subst ev
    cases rv
    exact wpAny_pure ⟨b, rfl, .bl b, H', I', rfl, q⟩
  · rintro obj s₁ ⟨b, rfl, hq⟩
    exact ⟨typeIs_bool' _ _, PySem.F.args_object_init_2 _ _, object_init_meets PySem.F.called_bool.init.lookup PySem.F.called_bool.made (by decide) X.prog X.w X.A.in1 _ s₁ ⟨typeIs_bool' _ _, rfl, hq⟩⟩
/-- str(x) -/
theorem call_strO (c : CalM X.prog X.w X.K X.mg X.base CX k C "__str__" ps dvs sp) (hr : Room (k + 2) X.A) (hx : ∀ σ, PassesAt CX X σ E) : CallR X (.type "str") (fun xs H Q => ∃ x, xs = [x] ∧ InsC C H x ∧ sp (x :: dvs) H (fun v H' => ∃ z, v = .str z ∧ Q (.str z) H') E) := by
  intro pins s σ H xs us Q I r ⟨x, hxs, ⟨a, dx, fs, hxa, ha⟩, h⟩
  subst hxs hxa
  obtain ⟨v, rfl, rv⟩ := vals1 r
  cases rv
  obtain ⟨f, fd, ds, M, F, hb, hd⟩ := c.ex
  obtain ⟨ox, od, J⟩ := inst_at I ha
  refine PySem.W.kso_call hr.in1.in1.units0 I.kIn J M.at_ M.fn (wpAny_mono (run_own F hr.in1.in1 rfl hb hd (hx σ) I (.cons (rel_ref a) .nil) h) (fun r s' hr => ?_) fun _ _ z => z)
  obtain ⟨v, H', I', rv, b, ev, q⟩ := hr
  subst ev
  obtain ⟨t, rfl⟩ := rv
  exact ⟨.str b, H', I', ⟨t, rfl⟩, q⟩
end
/-! ### an int in front of one of C -/
section
variable {M : Model} {A : Around} {E : Value → Shared → Prop} {s : Shared} {x : Addr} {ox : Obj} {i : Int} {t : Tok}
theorem intBin_ref {name : String} {f : Int → Int → Sem Fin} {r : Bool} {Q : Fin → Shared → Prop} (hx : s.heap.get? x = some ox) (hd : ox.data = .plain) (hs : slotArgs name 1 ⟨[.int i t, .ref x], []⟩ = pure (.int i t, [.ref x])) (h : Q (.done (.ret .notImplemented)) s) :
    wpAny M A (Builtin.Int.intBinary name f r ⟨[.int i t, .ref x], []⟩) Q E s := by
  unfold Builtin.Int.intBinary
  rw [hs]
  refine wpAny_bind (wpAny_pure ?_)
  refine wpAny_bind (m := Builtin.Int.intOfSelf _) (wpAny_pure ?_)
  refine wpAny_bind (m := asInt? (.ref x)) ?_
  · unfold asInt?
    refine wpAny_bind (wpAny_load hx ?_)
    rw [hd]
    refine wpAny_pure ?_
    first
      | exact wpAny_pure h
      | exact wpAny_bind (wpAny_rule (wpAny_pure h))
      | exact wpAny_rule (wpAny_pure h)
end
theorem intDiv_ref {M : Model} {A : Around} {E : Value → Shared → Prop} {s : Shared} {x : Addr} {ox : Obj} {i : Int} {t : Tok} {Q : Fin → Shared → Prop} (hx : s.heap.get? x = some ox) (hd : ox.data = .plain) (h : Q (.done (.ret .notImplemented)) s) :
    wpAny M A (Builtin.«int.__floordiv__» ⟨[.int i t, .ref x], []⟩) Q E s := by
  unfold Builtin.«int.__floordiv__»
  refine wpAny_bind (m := Builtin.exactOperandsForPylong _ _) ?_
  unfold Builtin.exactOperandsForPylong
  rw [if_pos (by rfl)]
  show wpAny M A (asInt? (.int i t) >>= fun _ => _) _ _ _
  refine wpAny_bind (m := asInt? (.int i t)) (wpAny_pure ?_)
  refine wpAny_bind (m := asInt? (.ref x)) ?_
  unfold asInt?
  refine wpAny_bind (wpAny_load hx ?_)
  rw [hd]
  exact wpAny_pure (wpAny_pure (intBin_ref hx hd rfl h))
section
variable {prog : Program} {w : World} {A : Around} {E : Value → Shared → Prop} {s : Shared} {x : Addr} {ox : Obj} {i : Int} {t : Tok} {Q : Option Value → Shared → Prop}
theorem try_int {nm id : String} {B : Builtin} (sl : Slot "int" (PySem.dunder nm) id) (en : entryFor table id = some B) (ar : argsOk id ⟨[.int i t, .ref x], []⟩) (hb : ∀ {A Q E}, Q (.done (.ret .notImplemented)) s → wpAny (model prog w) A (B ⟨[.int i t, .ref x], []⟩) Q E s) (h : Q none s) :
    wpAny (model prog w) A (tryMethod (.int i t) (PySem.dunder nm) (.ref x)) Q E s := by
  unfold tryMethod
  refine wpAny_bind (wpAny_callSpecial?_slot (typeIs_int s i t) sl (wpAny_call_entry sl (typeIs_int s i t) en (hb ⟨_, rfl, wpAny_pure h⟩) ar))
open PySem.W in
theorem bin_R {op : Operator} {C f g : Addr} {K : Frag} {od : Option Obj} {id : String} {B : Builtin} {fo ro : Option Value} {Q : Value → Shared → Prop} (X : K.In s.heap) (I : InstAt s.heap x ox C od) (hc : selfFirst K C = true)
    (hs : findIn K (.ref C) (PySem.dunder op.info.2) = some (some (.ref g))) (hr : findIn K (.ref C) (dunderR op.info.2) = some (some (.ref f))) (hf : isFn K (.ref f) = true) (hsub : subIn K (.ref C) (.type "int") = some false)
    (h1 : findIn K (.type "int") (PySem.dunder op.info.2) = some fo) (h2 : findIn K (.type "int") (dunderR op.info.2) = some ro) (h3 : ((fo.isSome && !isSeqSlot fo) || (ro.isSome && !isSeqSlot ro)) = true)
    (sl : Slot "int" (PySem.dunder op.info.2) id) (en : entryFor table id = some B) (ar : argsOk id ⟨[.int i t, .ref x], []⟩) (hb : ∀ {A Q E}, Q (.done (.ret .notImplemented)) s → wpAny (model prog w) A (B ⟨[.int i t, .ref x], []⟩) Q E s)
    (h : wpAny (model prog w) A (call (.ref f) [.ref x, .int i t]) (PySem.W.CmpBack Q) E s) : wpAny (model prog w) A (binaryOp op (.int i t) (.ref x)) Q E s := by
  obtain ⟨cd, rest, hcd, hm⟩ := ksp_first hc
  rcases hi : op.info with ⟨sym, nm'⟩
  rw [hi] at hs hr h1 h2 sl
  dsimp only at hs hr h1 h2 sl
  have one := ksp_try (A := A) (E := E) (b := .int i t) X I hr hf h
  have two := fun {Q : Option Value → Shared → Prop} (q : Q none s) => try_int (A := A) (E := E) (Q := Q) (x := x) (i := i) (t := t) sl en ar hb q
  obtain ⟨hh, gg, d, tt, os⟩ := s
  have L1 : Looks (model prog w) hh (typeOf (.ref x)) (.ref C) := I.type
  have L2 : Looks (model prog w) hh (typeOf (.int i t)) (.type "int") := Looks.of_pure rfl
  have L3 : Looks (model prog w) hh (fillsNumberSlot (.ref C) nm') true := fills_K X hcd hm hs
  have L4 : Looks (model prog w) hh (fillsNumberSlot (.type "int") nm') ((fo.isSome && !isSeqSlot fo) || (ro.isSome && !isSeqSlot ro)) := ksp_fillsT X h1 h2
  rw [h3] at L4
  have L5 : Looks (model prog w) hh (isSubtype (.ref C) (.type "int")) false := looks_subIn X hsub
  have L6 : Looks (model prog w) hh (numberSlotInPython (.type "int") nm') false := Looks.of_pure rfl
  have hne : (Value.type "int" == Value.ref C) = false := Bool.eq_false_iff.mpr fun q => by cases beq_iff_eq.mp q
  simp only [binaryOp, hi]
  refine wpAny_holding (wpAny_bind ?_)
  unfold binaryOp1
  refine wpAny_bind (L2.at (wpAny_bind (L1.at (wpAny_bind (L4.at ?_)))))
  simp only [hne, Bool.false_eq_true, if_false]
  ksp_lk
  refine two ?_
  ksp_lk
  refine wpAny_mono one (fun r s' hr' => ?_) fun _ _ e => e
  obtain ⟨v, rfl, hq⟩ := hr'
  ksp_lk
  exact hq
/-- int == one of C: by the own == -/
theorem try_cmp_int {id : String} {B : Builtin} {nm : Str} {Q : Option Value → Shared → Prop} (sl : Slot "int" nm id) (en : entryFor table id = some B) (ar : argsOk id ⟨[.int i t, .ref x], []⟩) (hb : ∀ {A Q E}, Q (.done (.ret .notImplemented)) s → wpAny (model prog w) A (B ⟨[.int i t, .ref x], []⟩) Q E s) (h : Q none s) :
    wpAny (model prog w) A (tryCompare (.int i t) nm (.ref x)) Q E s := by
  unfold tryCompare
  refine wpAny_bind (wpAny_callSpecialIfBound?_slot (typeIs_int s i t) sl (wpAny_call_entry sl (typeIs_int s i t) en (hb ⟨_, rfl, wpAny_pure h⟩) ar))
open PySem.W in
theorem cmp_R {C f : Addr} {K : Frag} {od : Option Obj} {Q : Value → Shared → Prop} (hu : A.units < cLine) (X : K.In s.heap) (I : InstAt s.heap x ox C od) (hsub : subIn K (.ref C) (.type "int") = some false) (hd : ox.data = .plain)
    (hs : findIn K (.ref C) "__eq__" = some (some (.ref f))) (hf : isFn K (.ref f) = true)
    (h : wpAny (model prog w) A (call (.ref f) [.ref x, .int i t]) (PySem.W.CmpBack Q) E s) : wpAny (model prog w) A (richCompare .Eq (.int i t) (.ref x)) Q E s := by
  have one : wpAny (model prog w) A (tryCompare (.ref x) "__eq__" (.int i t)) (fun r s' => ∃ v, r = some v ∧ Q v s') E s := by
    unfold tryCompare
    refine wpAny_bind (ifBound_K X I hs hf (wpAny_mono h (fun v s' hv => ?_) fun _ _ e => e))
    cases v <;> first | exact hv.elim | exact wpAny_pure ⟨_, rfl, hv⟩
  have hne : (Value.type "int" != Value.ref C) = true := by simp
  unfold richCompare
  refine wpAny_holding (wpAny_bind (wpAny_cRoomFor hu ?_))
  have e1 : oneThing? .Eq (.int i t) (.ref x) = none := rfl
  simp only [e1]
  refine wpAny_bind (m := typeOf (.int i t)) (wpAny_pure ?_)
  refine wpAny_bind (I.type.here ?_)
  rw [if_pos (by rw [bne_comm]; exact hne)]
  refine wpAny_bind ((looks_subIn X hsub).here ?_)
  simp only [Bool.false_eq_true, if_false]
  refine wpAny_bind (try_cmp_int (nm := (cmpInfo .Eq).2.1) PySem.F.slot_int_eq PySem.F.entry_int_eq (PySem.F.args_int_eq_2 _ _) (fun q => intBin_ref I.at_ hd rfl q) ?_)
  simp only [Bool.not_false, if_true]
  refine wpAny_bind (wpAny_mono one (fun r s' z => ?_) fun _ _ e => e)
  obtain ⟨v, rfl, hq⟩ := z
  exact wpAny_pure hq
end
/-! ### an operator on ratios and ints -/
section
variable {X : Cx} {CX : CXT} {k kR : Nat} {C : Addr} {psM psR : List Str} {spM spR : Sp} {m mR : Str} {op : Operator}
/-- what int says to an operator -/
structure IntOp (op : Operator) (id : String) (B : Builtin) (fo ro : Option Value) : Prop where
  l1 : ∀ K : PySem.W.Frag, PySem.W.findIn K (.type "int") (PySem.dunder op.info.2) = some fo
  l2 : ∀ K : PySem.W.Frag, PySem.W.findIn K (.type "int") (dunderR op.info.2) = some ro
  fl : ((fo.isSome && !isSeqSlot fo) || (ro.isSome && !isSeqSlot ro)) = true
  sl : Slot "int" (PySem.dunder op.info.2) id
  en : entryFor table id = some B
  ar : ∀ a b : Value, argsOk id ⟨[a, b], []⟩
  no : ∀ {prog : Program} {w : World} {A : Around} {E : Value → Shared → Prop} {s : Shared} {x : Addr} {ox : Obj} {i : Int} {t : Tok} {Q : Fin → Shared → Prop}, s.heap.get? x = some ox → ox.data = .plain → Q (.done (.ret .notImplemented)) s → wpAny (model prog w) A (B ⟨[.int i t, .ref x], []⟩) Q E s
theorem intAdd : IntOp .Add "int.__add__" Builtin.«int.__add__» (some (.builtin "int.__add__")) (some (.builtin "int.__radd__")) := ⟨fun _ => by kernel_rfl, fun _ => by kernel_rfl, by decide +kernel, PySem.F.slot_int_add, PySem.F.entry_int_add, PySem.F.args_int_add_2, fun hx hd q => intBin_ref hx hd rfl q⟩
theorem intSub : IntOp .Sub "int.__sub__" Builtin.«int.__sub__» (some (.builtin "int.__sub__")) (some (.builtin "int.__rsub__")) := ⟨fun _ => by kernel_rfl, fun _ => by kernel_rfl, by decide +kernel, PySem.F.slot_int_sub, PySem.F.entry_int_sub, PySem.F.args_int_sub_2, fun hx hd q => intBin_ref hx hd rfl q⟩
theorem intMul : IntOp .Mult "int.__mul__" Builtin.«int.__mul__» (some (.builtin "int.__mul__")) (some (.builtin "int.__rmul__")) := ⟨fun _ => by kernel_rfl, fun _ => by kernel_rfl, by decide +kernel, PySem.F.slot_int_mul, PySem.F.entry_int_mul, PySem.F.args_int_mul_2, fun hx hd q => intBin_ref hx hd rfl q⟩
theorem intDiv : IntOp .FloorDiv "int.__floordiv__" Builtin.«int.__floordiv__» (some (.builtin "int.__floordiv__")) (some (.builtin "int.__rfloordiv__")) := ⟨fun _ => by kernel_rfl, fun _ => by kernel_rfl, by decide +kernel, PySem.F.slot_int_floordiv, PySem.F.entry_int_floordiv, PySem.F.args_int_floordiv_2, fun hx hd q => intDiv_ref hx hd q⟩
/-- x op y: both of C, or one of C and one int -/
def rAnyO (C : Addr) (spM spR : Sp) (E : XK) (x y : V) (H : Hp) (Q : VK) : Prop := (InsC C H x ∧ InsC C H y ∧ spM [x, y] H Q E) ∨ (∃ i : Int, InsC C H x ∧ y = .int i ∧ spM [x, y] H Q E) ∨ (∃ i : Int, x = .int i ∧ InsC C H y ∧ spR [y, x] H Q E)
theorem binO {E : XK} {σ : L2.St} {id : String} {B : Builtin} {fo ro : Option Value} {pins : List (Addr × Obj)} {s : Shared} {H : Hp} {x y : V} {v u : Value} {Q : VK} (io : IntOp op id B fo ro) (c : CalM X.prog X.w X.K X.mg X.base CX k C m psM [] spM) (cR : CalM X.prog X.w X.K X.mg X.base CX kR C mR psR [] spR)
    (e : PySem.dunder op.info.2 = m) (eR : dunderR op.info.2 = mR) (hc : PySem.W.selfFirst X.K C = true) (h1 : PySem.W.subIn X.K (.type "int") (.ref C) = some false) (h2 : PySem.W.subIn X.K (.ref C) (.type "int") = some false)
    (hr : Room k X.A) (hrR : Room kR X.A) (hx : PassesAt CX X σ E) (I : Inv X pins σ H s) (rx : RelV x v) (ry : RelV y u) (h : rAnyO C spM spR E x y H Q) : wpAny (model X.prog X.w) X.A (binaryOp op v u) (EP X pins σ Q) X.xe s := by
  subst e eR
  obtain ⟨f, fd, ds, M, F, hb, hd⟩ := c.ex
  obtain ⟨g, gd, es, MR, FR, hbR, hdR⟩ := cR.ex
  rcases h with ⟨⟨a, dx, fs, hxa, ha⟩, ⟨b, dy, gs, hyb, hb'⟩, h⟩ | ⟨i, ⟨a, dx, fs, hxa, ha⟩, hyi, h⟩ | ⟨i, hxi, ⟨b, dy, gs, hyb, hb'⟩, h⟩
  · subst hxa hyb
    cases rx
    cases ry
    obtain ⟨ox, od, J⟩ := inst_at I ha
    obtain ⟨oy, od', J'⟩ := inst_at I hb'
    obtain ⟨m, hF⟩ := I.fr
    exact PySem.W.binop_K hF I.ok.mod.kin J J'.type hc M.at_ M.fn (wpAny_mono (run_own F hr rfl hb hd hx I (.cons (rel_ref a) (.cons (rel_ref b) .nil)) h) (fun _ _ z => back_of z) fun _ _ z => z)
  · subst hxa hyi
    cases rx
    obtain ⟨t, rfl⟩ := _root_.id ry
    obtain ⟨ox, od, J⟩ := inst_at I ha
    obtain ⟨m, hF⟩ := I.fr
    exact PySem.W.ksp_binT hF I.ok.mod.kin J rfl hc M.at_ M.fn MR.at_ (.inr ⟨_, rfl⟩) (io.l1 _) (io.l2 _) h1 (wpAny_mono (run_own F hr rfl hb hd hx I (.cons (rel_ref a) (.cons ry .nil)) h) (fun _ _ z => back_of z) fun _ _ z => z)
  · subst hxi hyb
    cases ry
    obtain ⟨t, rfl⟩ := _root_.id rx
    obtain ⟨mA, J0, _⟩ := ins_get I.hok hb'
    obtain ⟨od, J, _⟩ := J0.look
    exact bin_R I.kIn J hc M.at_ MR.at_ MR.fn h2 (io.l1 _) (io.l2 _) io.fl io.sl io.en (io.ar _ _) (fun q => io.no J.at_ rfl q) (wpAny_mono (run_own FR hrR rfl hbR hdR hx I (.cons (rel_ref b) (.cons rx .nil)) h) (fun _ _ z => back_of z) fun _ _ z => z)
theorem op_anyO {E : XK} {id : String} {B : Builtin} {fo ro : Option Value} (io : IntOp op id B fo ro) (c : CalM X.prog X.w X.K X.mg X.base CX k C m psM [] spM) (cR : CalM X.prog X.w X.K X.mg X.base CX kR C mR psR [] spR)
    (e : PySem.dunder op.info.2 = m) (eR : dunderR op.info.2 = mR) (hc : PySem.W.selfFirst X.K C = true) (h1 : PySem.W.subIn X.K (.type "int") (.ref C) = some false) (h2 : PySem.W.subIn X.K (.ref C) (.type "int") = some false)
    (hr : Room k X.A) (hrR : Room kR X.A) (hx : ∀ σ, PassesAt CX X σ E) : OpR X (binaryOp op) (rAnyO C spM spR E) := fun pins s σ H x y v u Q I rx ry h => binO io c cR e eR hc h1 h2 hr hrR (hx σ) I rx ry h
def tOpE (C : Addr) (spM spR : Sp) (W : WX) (ta tb : TE) : TE := fun σ H Q => ta σ H fun x H1 => tb σ H1 fun y H2 => rAnyO C spM spR (WE W σ) x y H2 Q
/-- an operator that may raise -/
theorem pe_opE {W : WX} {ta tb : TE} {a b : Expr} {pos : Pos} {id : String} {B : Builtin} {fo ro : Option Value} (io : IntOp op id B fo ro) (c : CalM X.prog X.w X.K X.mg X.base (L2N.CX X.prog X.w) k C m psM [] spM) (cR : CalM X.prog X.w X.K X.mg X.base (L2N.CX X.prog X.w) kR C mR psR [] spR)
    (e : PySem.dunder op.info.2 = m) (eR : dunderR op.info.2 = mR) (hc : PySem.W.selfFirst X.K C = true) (h1 : PySem.W.subIn X.K (.type "int") (.ref C) = some false) (h2 : PySem.W.subIn X.K (.ref C) (.type "int") = some false)
    (hr : Room k X.A) (hrR : Room kR X.A) (tk : L2N.Takes X W) (ha : PE X a ta) (hb : PE X b tb) : PE X (.BinOp a op b pos) (tOpE C spM spR W ta tb) := by
  refine ⟨fun pins s σ H Q I h => ?_⟩
  exact wpAny_BinOp (binT ha hb I (show (tOp (fun x y H2 Q2 => rAnyO C spM spR (WE W σ) x y H2 Q2) ta tb) σ H Q from h) fun v u s2 x y H2 I2 rx ry q => binO io c cR e eR hc h1 h2 hr hrR (L2N.passAt tk σ) I2 rx ry q)
/-- x == y: both of C, or one of C and one int -/
theorem op_eqO {E : XK} (c : CalM X.prog X.w X.K X.mg X.base CX k C "__eq__" psM [] spM) (hn : PySem.W.notFirst X.K C (.type "int") = true) (h2 : PySem.W.subIn X.K (.ref C) (.type "int") = some false)
    (hr : Room k X.A) (hx : ∀ σ, PassesAt CX X σ E) : OpR X (compareOp .Eq) (rAnyO C spM spM E) := by
  intro pins s σ H x y v u Q I rx ry h
  obtain ⟨f, fd, ds, M, F, hb, hd⟩ := c.ex
  rcases h with ⟨⟨a, dx, fs, hxa, ha⟩, ⟨b, dy, gs, hyb, hb'⟩, h⟩ | ⟨i, ⟨a, dx, fs, hxa, ha⟩, hyi, h⟩ | ⟨i, hxi, ⟨b, dy, gs, hyb, hb'⟩, h⟩
  · exact op_cmpS c rfl (fun _ _ => rfl) hr hx pins s σ H x y v u Q I rx ry ⟨⟨a, dx, fs, hxa, ha⟩, ⟨b, dy, gs, hyb, hb'⟩, h⟩
  · refine op_cmpT (T := "int") c rfl (fun _ _ => rfl) hn hr hx pins s σ H x y v u Q I rx ry ⟨fun u r => ?_, ⟨a, dx, fs, hxa, ha⟩, h⟩
    subst hyi
    obtain ⟨t, rfl⟩ := r
    rfl
  · subst hxi hyb
    cases ry
    obtain ⟨t, rfl⟩ := _root_.id rx
    obtain ⟨mA, J0, _⟩ := ins_get I.hok hb'
    obtain ⟨od, J, _⟩ := J0.look
    show wpAny _ _ (richCompare .Eq (.int i t) (.ref b)) _ _ _
    exact cmp_R hr.units0 I.kIn J h2 rfl M.at_ M.fn (wpAny_mono (run_own F hr rfl hb hd (hx σ) I (.cons (rel_ref b) (.cons rx .nil)) h) (fun _ _ z => back_of z) fun _ _ z => z)
end
/-! ### rules where the text's part K is written out (in comprehensions) -/
theorem ix_tupK {X : Cx} {K : PySem.W.Frag} (e : X.K = K) : IxR X (rIxT K) := by subst e; exact ix_tup
theorem ix_listK {X : Cx} {K : PySem.W.Frag} (e : X.K = K) : IxR X (rIxL K) := by subst e; exact ix_list
theorem call_isiK2 {X : Cx} {K : PySem.W.Frag} (e : X.K = K) : CallR X (.builtin "isinstance") (rIsi K) := by subst e; exact call_isi
theorem pe_fldK {X : Cx} {K : PySem.W.Frag} {e : Expr} {ta : TE} {f : Str} {pos : Pos} (eK : X.K = K) (he : PE X e ta) (hb : attributeBase e f X.env (eval e X.env) = eval e X.env) : PE X (.Attribute e f pos) (tFld K ta f) := by subst eK; exact pe_fld he hb
/-! ### what of the text an own class has -/
structure OwnD (K : PySem.W.Frag) (C : Addr) : Prop where
  sf : PySem.W.selfFirst K C = true
  ha : PySem.W.findIn K (.ref C) "__class__" = some (some (.builtin "object.__class__"))
  hn : PySem.W.specialIn K (.builtin "object.__class__") "__get__" = some (some (.builtin "getset_descriptor.__get__"))
  ht : PySem.W.takesIn K (.builtin "object.__class__") = some true
  hm : PySem.W.mroIn K C (.type "object") = some true
  is : PySem.W.kitOne K (.ref C) (.ref C) = some true
  nn : ∀ T ∈ ["int", "bool", "str", "NoneType", "list", "tuple", "dict", "set"], PySem.W.kitOne K (.type T) (.ref C) = some false
  nt : ∀ T ∈ ["int", "bool", "str", "list", "tuple", "dict", "set"], PySem.W.kitOne K (.ref C) (.type T) = some false
  si : PySem.W.subIn K (.type "int") (.ref C) = some false
  is2 : PySem.W.subIn K (.ref C) (.type "int") = some false
  nf : PySem.W.notFirst K C (.type "int") = true
def ownB (K : PySem.W.Frag) (C : Addr) : Bool := PySem.W.selfFirst K C && (He.eqO (PySem.W.findIn K (.ref C) "__class__") (some (some (.builtin "object.__class__"))) &&
  (He.eqO (PySem.W.specialIn K (.builtin "object.__class__") "__get__") (some (some (.builtin "getset_descriptor.__get__"))) && (decide (PySem.W.takesIn K (.builtin "object.__class__") = some true) && (decide (PySem.W.mroIn K C (.type "object") = some true) &&
  (decide (PySem.W.kitOne K (.ref C) (.ref C) = some true) && ((["int", "bool", "str", "NoneType", "list", "tuple", "dict", "set"].all fun T => decide (PySem.W.kitOne K (.type T) (.ref C) = some false)) &&
  ((["int", "bool", "str", "list", "tuple", "dict", "set"].all fun T => decide (PySem.W.kitOne K (.ref C) (.type T) = some false)) && (decide (PySem.W.subIn K (.type "int") (.ref C) = some false) && (decide (PySem.W.subIn K (.ref C) (.type "int") = some false) && PySem.W.notFirst K C (.type "int"))))))))))
theorem ownB_ok {K : PySem.W.Frag} {C : Addr} (h : ownB K C = true) : OwnD K C := by
  obtain ⟨h1, h⟩ := He.ba h
  obtain ⟨h2, h⟩ := He.ba h
  obtain ⟨h3, h⟩ := He.ba h
  obtain ⟨h4, h⟩ := He.ba h
  obtain ⟨h5, h⟩ := He.ba h
  obtain ⟨h6, h⟩ := He.ba h
  obtain ⟨h7, h⟩ := He.ba h
  obtain ⟨h8, h⟩ := He.ba h
  obtain ⟨h9, h⟩ := He.ba h
  obtain ⟨h10, h11⟩ := He.ba h
  exact ⟨h1, He.eqO_ok h2, He.eqO_ok h3, of_decide_eq_true h4, of_decide_eq_true h5, of_decide_eq_true h6, fun T hT => of_decide_eq_true (List.all_eq_true.mp h7 T hT), fun T hT => of_decide_eq_true (List.all_eq_true.mp h8 T hT), of_decide_eq_true h9, of_decide_eq_true h10, h11⟩
/-- the own classes of a text: each as such, and no one below another -/
def ownedB (K : PySem.W.Frag) (l : List Str) : Bool := l.all fun x => ownB K (He.ga K x) && l.all fun y => decide (PySem.W.kitOne K (.ref (He.ga K x)) (.ref (He.ga K y)) = some (decide (x = y)))
theorem ownedB_ok {K : PySem.W.Frag} {l : List Str} (h : ownedB K l = true) {x : Str} (hx : x ∈ l) : OwnD K (He.ga K x) ∧ ∀ y ∈ l, PySem.W.kitOne K (.ref (He.ga K x)) (.ref (He.ga K y)) = some (decide (x = y)) := by
  obtain ⟨h1, h2⟩ := He.ba (List.all_eq_true.mp h x hx)
  exact ⟨ownB_ok h1, fun y hy => of_decide_eq_true (List.all_eq_true.mp h2 y hy)⟩
theorem tyx_ins {K : PySem.W.Frag} {H : Hp} {a C dx : Addr} {fs : List (Str × V)} (e : H a = some (.ins C dx fs)) (c : Cls K C) (o : OwnD K C) : TyX K H (.ref a) (.ref C) := .base (.ins e c o.ha o.hn o.ht o.hm)
/-- an empty tuple that stands in the text's part (a default) -/
def emptyB (K : PySem.W.Frag) (a : Addr) : Bool := match K.lookup a with
  | some ⟨.type n, _, .seq its _, _⟩ => (n == "tuple") && its.isEmpty
  | _ => false
theorem emptyB_ok {K : PySem.W.Frag} {a : Addr} (h : emptyB K a = true) (H : Hp) : SqT K H a [] := by
  unfold emptyB at h
  split at h
  · rename_i n dd its m sl e
    rw [Bool.and_eq_true] at h
    have e1 : n = "tuple" := by simpa using h.1
    have e2 : its = #[] := by simpa using h.2
    subst e1 e2
    exact .inr ⟨_, #[], m, e, rfl, rfl, Nat.zero_le _, .nil⟩
  · cases h
end My

set_option Elab.async false
set_option linter.all false
set_option maxRecDepth 100000
set_option maxHeartbeats 4000000
/-! sorted() and comparisons of nested data -/
namespace My
open PySem PySem.Spec PyProof.Rows L2
theorem each_of_vals {α : Type} {f : α → V} : ∀ {bs : List α} {us : List Value}, Vals (bs.map f) us → PySem.W.EachIs (fun u b => RelV (f b) u) us bs
  | [], _, .nil => .nil
  | _ :: _, _, .cons r t => .cons r (each_of_vals t)
theorem vals_of_each {α : Type} {f : α → V} : ∀ {bs : List α} {us : List Value}, PySem.W.EachIs (fun u b => RelV (f b) u) us bs → Vals (bs.map f) us
  | [], _, .nil => .nil
  | _ :: _, _, .cons r t => .cons r (vals_of_each t)
theorem each_reads {X : Cx} {pins : List (Addr × Obj)} {σ : L2.St} {H : Hp} {s : Shared} (I : Inv X pins σ H s) : ∀ {bs : List (V × PyData)} {us : List Value}, (∀ b ∈ bs, Dp X.K H b.1 b.2) → Vals (bs.map Prod.fst) us → PySem.W.EachIs (fun u (b : V × PyData) => ∃ as, Reads s.heap u b.2 as) us bs
  | [], _, _, .nil => .nil
  | b :: _, _, h, .cons r t => .cons (Dp.reads I b.2 b.1 _ (h b List.mem_cons_self) r) (each_reads I (fun b hb => h b (List.mem_cons_of_mem _ hb)) t)
/-- sorted(l): l's items are data, each beside its value -/
def rSortD (K : PySem.W.Frag) : List V → Hp → VK → Prop := fun vs H Q => ∃ (a : Addr) (bs : List (V × PyData)), vs = [.ref a] ∧ SqL K H a (bs.map Prod.fst) ∧ (∀ b ∈ bs, Dp K H b.1 b.2) ∧ PySem.W.AllAlike (bs.map Prod.snd) ∧ PySem.W.Sortable (bs.map Prod.snd) ∧ (∀ b ∈ bs, b.2.depth ≤ 100) ∧
  ∀ p, H p = none → Q (.ref p) (upd H p (.lst ((bs.mergeSort (PySem.W.dataLe false Prod.snd)).map Prod.fst)))
theorem cr_sortedD {X : Cx} (hu : X.A.units + 200 < cLine) : CallR X (.builtin "sorted") (rSortD X.K) := by
  intro pins s σ H vs us Q I r h
  obtain ⟨a, bs, rfl, hS, hD, hal, hk, hd, q⟩ := h
  rw [Vals.ref1 r]
  obtain ⟨its, rv, pl, hz⟩ := I.list hS
  have hl : bs.length = its.length := by rw [← rv.length, List.length_map]
  refine PySem.W.sorted_data (R := fun u (b : V × PyData) => RelV b.1 u) (enc := Prod.snd) pl.isList (each_of_vals rv) (each_reads I hD rv) hal hk (by simpa [hl] using hz) (fun b hb => by have := hd b hb; omega) fun out ho eo => ?_
  obtain ⟨c, hc⟩ := sortedAll_at s.heap its out.toArray
  have hn : H (s.heap.objs.size + 1) = none := I.hok.fresh (Nat.le_succ _)
  have rv2 := vals_of_each (f := Prod.fst) eo
  refine ⟨.ref (s.heap.objs.size + 1), upd H (s.heap.objs.size + 1) (.lst ((bs.mergeSort (PySem.W.dataLe false Prod.snd)).map Prod.fst)), I.laid (t' := s.toks) (fun _ _ => sortedAll_old) (Nat.le_succ _) ⟨?_, out, c, rv2, hc⟩, rfl, q _ hn⟩
  rw [List.length_map, List.length_mergeSort]
  simpa [hl] using hz
theorem cr_sortedDR {X : Cx} {k : Nat} (hr : Room k X.A) : CallR X (.builtin "sorted") (rSortD X.K) := cr_sortedD (by have := hr.un; omega)
theorem call_tuple_ofK {X : Cx} {K : PySem.W.Frag} (e : X.K = K) : CallR X (.type "tuple") (fun xs H Q => ∃ p ys, xs = [.ref p] ∧ ((SqL K H p ys ∧ ∀ l, H l = none → Q (.ref l) (upd H l (.tup ys))) ∨ (SqT K H p ys ∧ Q (.ref p) H))) := by subst e; exact call_tuple_of
theorem call_len_seqK {X : Cx} {K : PySem.W.Frag} (e : X.K = K) : CallR X (.builtin "len") (fun xs H Q => ∃ p ys, xs = [.ref p] ∧ (SqL K H p ys ∨ SqT K H p ys) ∧ Q (.int ys.length) H) := by subst e; exact call_len_seq
theorem op_in_seqK {X : Cx} {K : PySem.W.Frag} (e : X.K = K) : OpR X (compareOp .In) (rIn K false) := by subst e; exact op_in_seq
theorem op_notIn_seqK {X : Cx} {K : PySem.W.Frag} (e : X.K = K) : OpR X (compareOp .NotIn) (rIn K true) := by subst e; exact op_notIn_seq
end My

set_option Elab.async false
set_option linter.all false
set_option maxRecDepth 100000
set_option maxHeartbeats 4000000
/-! enumerate over a tuple -/
namespace My
open PySem PySem.Spec PyProof.Rows L2
open AutoSeq1 (wpAny_loadPart')
theorem meets_enumT (l : Addr) (items : Array Value) (n : Nat) (dct : Option Addr) (sl : Array (Option Value)) :
    Meets (Builtin.«enumerate.__new__» ⟨[.type "enumerate", .ref l], []⟩) (fun _ R s => s.heap.get? l = some { cls := .type "tuple", dict := dct, data := .seq items n, slots := sl } ∧
      R (.ok (.ret (.ref (s.heap.push { cls := .type "tuple_iterator", data := .fields #[.ref l, .int 0 0] }).objs.size)))
        { s with heap := (s.heap.push { cls := .type "tuple_iterator", data := .fields #[.ref l, .int 0 0] }).push { cls := .type "enumerate", data := .fields #[.none, .bool false, .ref s.heap.objs.size, rawInt 0, .none, .none] } }) :=
  .of_wp fun prog w A R s h => by
    obtain ⟨hp, g, d, tk, os⟩ := s; obtain ⟨hl, h⟩ := h
    have hsub := sub_enumerate
    have hL : Heap.IsTuple (Shared.heap ⟨hp, g, d, tk, os⟩) l items := ⟨_, hl, rfl, n, rfl⟩
    wp_walk using wpAny_loadPart' hl
    refine wpAny_stack_any fun st => wpAny_pure ?_
    split
    · rename_i c _ _ _ _ _
      cases (c == Value.type "enumerate")
      · wp_walk using wpAny_loadPart' hl, wpAny_pyIter_tuple hL
        exact ⟨_, rfl, h⟩
      · wp_walk using wpAny_loadPart' hl, wpAny_pyIter_tuple hL
        exact ⟨_, rfl, h⟩
    · wp_walk using wpAny_loadPart' hl, wpAny_pyIter_tuple hL
      exact ⟨_, rfl, h⟩
section
variable {prog : Program} {w : World} {A : Around} {E : Value → Shared → Prop} {s : Shared}
theorem call_enumT {l : Addr} {items : Array Value} {Q : Value → Shared → Prop} (hL : s.heap.IsTuple l items)
    (h : ∀ h', IsEnum h' (s.heap.objs.size + 1) s.heap.objs.size 0 .none → h'.IsTupleIter s.heap.objs.size l 0 → h'.objs.size = s.heap.objs.size + 2 →
      (∀ b o, s.heap.get? b = some o → h'.get? b = some o) → Q (.ref (s.heap.objs.size + 1)) { s with heap := h' }) :
    wpAny (model prog w) A (call (.type "enumerate") [.ref l]) Q E s := by
  obtain ⟨⟨c, dct, dt, sl⟩, hl, hc, n, hd⟩ := hL
  replace hc : c = .type "tuple" := hc
  replace hd : dt = .seq items n := hd
  subst hc hd
  refine callType_new F.called_enumerate (by decide) (F.typeCall_enumerate_1 _) (F.newCall_enumerate_1 _) (fun obj => F.args_object_init_2 obj _) F.entry_enumerate_new
    (meets_enumT l items n dct sl) ⟨hl, ?_⟩
  have hz : (s.heap.push { cls := .type "tuple_iterator", data := .fields #[.ref l, .int 0 0] }).objs.size = s.heap.objs.size + 1 := Heap.size_push ..
  show _ ∧ _
  rw [hz]
  have he : IsEnum ((s.heap.push { cls := .type "tuple_iterator", data := .fields #[.ref l, .int 0 0] }).push
      { cls := .type "enumerate", data := .fields #[.none, .bool false, .ref s.heap.objs.size, rawInt 0, .none, .none] }) (s.heap.objs.size + 1) s.heap.objs.size 0 .none := by
    have := Heap.get?_push_size (s.heap.push { cls := .type "tuple_iterator", data := .fields #[.ref l, .int 0 0] })
      (o := { cls := .type "enumerate", data := .fields #[.none, .bool false, .ref s.heap.objs.size, rawInt 0, .none, .none] }) rfl
    rw [hz] at this; exact this
  refine ⟨⟨_, he, rfl⟩, h _ he ⟨_, Heap.get?_push_of_some _ (Heap.get?_push_size _ rfl), rfl, rfl⟩ (by rw [Heap.size_push, hz]) fun b o x => Heap.get?_push_of_some _ (Heap.get?_push_of_some _ x)⟩
end
section
variable {prog : Program} {w : World} {A : Around} {E : Value → Shared → Prop} {s : Shared}
theorem enumT_end {e it l : Addr} {i : Nat} {items : Array Value} {old : Value} {Q : Option Value → Shared → Prop} (hh : A.handled = none)
    (he : IsEnum s.heap e it i old) (hit : s.heap.IsTupleIter it l i) (hl : s.heap.IsTuple l items) (hx : items[i]? = none)
    (hQ : ∀ h', Heap.ExtBut it s.heap h' → Q none { s with heap := h' }) : wpAny (model prog w) A (pyNext (.ref e)) Q E s := by
  have hT : s.TypeIs (.ref e) "enumerate" := ⟨_, he, rfl⟩
  unfold pyNext
  refine wpAny_bind (wpAny_attempt (wpAny_callSpecial?_slot (name := Str.ofString "__next__") hT F.slot_enumerate_next
    (wpAny_call_entry F.slot_enumerate_next hT F.entry_enumerate_next ?_ (F.args_enumerate_next_1 _))))
  show wpAny _ _ (field (.ref e) 2 >>= _) _ _ _
  refine wpAny_bind (wpAny_field he rfl (x := .ref it) rfl ?_)
  refine wpAny_bind (wpAny_nextOf_tuple_end hh hit hl hx fun h' x he' hx' => ?_)
  obtain ⟨o, ho, hc⟩ := hx'
  refine wpAny_bind (wpAny_isInstance (T := "StopIteration") (b := true) ⟨o, ho, hc⟩ isSubtype_stop ?_)
  exact wpAny_pure (hQ _ he')
end
/-- the tuple at a, each item in a new pair -/
def IteT (K : PySem.W.Frag) (a : Addr) : It :=
  ⟨fun i H => ∃ (xs : List V) (x : V), SqT K H a xs ∧ xs[i]? = some x, fun i H v H' => ∃ T x, v = .ref T ∧ H T = none ∧ H' = upd H T (.tup [.int (i : Nat), x]) ∧ ∀ xs, SqT K H a xs → xs[i]? = some x, fun i H => ∃ xs : List V, SqT K H a xs ∧ xs.length ≤ i⟩
theorem turn_enumT {P : Program} {w : World} {K : PySem.W.Frag} {elts : List Expr} {kk : Nat} {tpos : Pos} (a e it : Addr) :
    Turn P w K (.Tuple elts kk tpos) (IteT K a) [e, it] e (fun i h => (∃ old, IsEnum h e it ((i : Nat) : Int) old) ∧ h.IsTupleIter it a i ∧ e ≠ it) where
  mem := by simp
  obj := fun i h st b hb => by
    obtain ⟨⟨old, he⟩, ⟨o, ho, hc, hd⟩, _⟩ := st
    have e' : b = e ∨ b = it := by simpa using hb
    rcases e' with z | z
    · rw [z]; exact ⟨_, he, fun v q => nomatch q⟩
    · rw [z]; exact ⟨o, ho, fun v q => by rw [hd] at q; cases q⟩
  keep := fun i h h' st k => let ⟨⟨old, he⟩, hi, hne⟩ := st; ⟨⟨old, k e (by simp) _ he⟩, hi.at fun o q => k it (by simp) o q, hne⟩
  item := by
    intro X hP hw hK hc i pins s σ H E I hf st hg
    subst hP hw hK
    obtain ⟨⟨old, he⟩, hit, hne⟩ := st
    obtain ⟨xs, x, hq, hx⟩ := hg
    obtain ⟨its, rv, p, hz⟩ := I.tuple hq
    obtain ⟨u, hu, ru⟩ := rv.get hx
    have hel : e < s.heap.objs.size := Heap.lt_size he
    have hil : it < s.heap.objs.size := by obtain ⟨_, q, _⟩ := hit; exact Heap.lt_size q
    have hai : a ≠ it := fun z => by
      obtain ⟨o1, g1, c1, _⟩ := id p
      obtain ⟨o2, g2, c2, _⟩ := id hit
      rw [z, g2] at g1
      cases g1
      rw [c2] at c1
      exact absurd (Value.type.inj c1) (by decide)
    have hae : e ∉ [it, a] := fun hm => by
      have : e = it ∨ e = a := by simpa using hm
      rcases this with z | z
      · exact hne z
      · obtain ⟨o1, g1, c1, _⟩ := id p
        rw [← z, he] at g1
        cases g1
        exact absurd (Value.type.inj c1) (by decide)
    have D := Draws.tuple (prog := X.prog) (w := X.w) (A := X.A.in1) (show X.A.in1.handled = none from I.ok.hd hc) it a hai its.toArray
    have hlt : i < its.toArray.size := by
      have := (List.getElem?_eq_some_iff.mp hu).1
      simpa using this
    refine wpAny_pyNext_enum_itemD D he ⟨hit, p⟩ hlt hne hae fun x' h' tk hxi ho hst hT hsz hk => ?_
    have ex : x' = u := by
      have : its[i]? = some x' := by simpa using hxi
      rw [hu] at this
      exact (Option.some.inj this).symm
    subst ex
    have hit' := hst.1
    refine ⟨_, rfl, wpAny_letOwnedTupleGo_enum (s := { s with heap := h', toks := tk + 1 }) ho fun h'' he' sb => ?_⟩
    have hT2 : h''.get? s.heap.objs.size = some { cls := .type "tuple", data := .seq #[.int i tk, x'] } := (sb.2 _ (Nat.ne_of_gt hel)).trans hT
    have new : ObjOk X.prog X.w (upd H s.heap.objs.size (.tup [.int (i : Nat), x])) h'' s.heap.objs.size (.tup [.int (i : Nat), x]) :=
      ⟨by show 2 ≤ sizeLine; decide, [.int i tk, x'], .cons ⟨_, rfl⟩ (.cons ru .nil), ⟨_, hT2, rfl, _, rfl⟩⟩
    have I1 : Inv X pins σ (upd H s.heap.objs.size (.tup [.int (i : Nat), x])) { s with heap := h'', toks := tk + 1 } :=
      I.turnedNew (ch := [e, it]) (fun b ob hb q => (sb.2 b (fun z => hb (by simp [z]))).trans (hk b ob (fun z => hb (by simp [z])) (fun z => hb (by simp [z])) q)) hf (Nat.le_refl _) new
    refine ⟨.ref s.heap.objs.size, _, I1, rfl, ⟨_, x, rfl, I.hok.fresh (Nat.le_refl _), rfl, fun ys hy => by rw [I.tuple_inj hy hq]; exact hx⟩, ⟨⟨x', ?_⟩, hit'.at fun o q => (sb.2 it (Ne.symm hne)).trans q, hne⟩, fun b hb => ?_⟩
    · have e1 : ((i + 1 : Nat) : Int) = (i : Int) + 1 := by omega
      rw [e1]; exact he'
    · have hb' : b < s.heap.objs.size := by
        have e' : b = e ∨ b = it := by simpa using hb
        rcases e' with z | z
        · rw [z]; exact hel
        · rw [z]; exact hil
      rw [upd_ne (Nat.ne_of_lt hb')]
      exact (hf b hb).1
  done := by
    intro X hP hw hK hc i pins s σ H E I hf st hg
    subst hP hw hK
    obtain ⟨⟨old, he⟩, hit, hne⟩ := st
    obtain ⟨xs, hq, hx⟩ := hg
    obtain ⟨its, rv, p, hz⟩ := I.tuple hq
    obtain ⟨f0, f1, f2, f3, f4, f5⟩ := hf it (by simp)
    have hl := rv.length
    exact enumT_end (I.ok.hd hc) he hit p (by simp; omega) fun h' eb => ⟨rfl, I.turned (t' := s.toks) (fun b o hb q => eb b o hb q) f0 f1 f3 f4 f5⟩
  self := fun A i s Q E st h => let ⟨⟨_, he⟩, _⟩ := st; wpAny_pyIter_enum he h
def iEnumT (K : PySem.W.Frag) (ta : TA) : TI := fun σ H R => ta σ H fun vs H1 => ∃ a xs, vs = [.ref a] ∧ SqT K H1 a xs ∧ R (IteT K a) H1
theorem pi_enumT {X : Cx} {e : Expr} {ta : TA} {p pos tpos : Pos} {elts : List Expr} {kk : Nat} (hg : Gl X "enumerate") (hm : X.mg "enumerate" = none) (ha : PA X [e] ta) (hs : starEach [e] X.env = [(false, eval e X.env)] := by rfl) :
    PI X (.Tuple elts kk tpos) (.Call (.Name "enumerate" p) [e] [] pos) (iEnumT X.K ta) := by
  refine ⟨fun pins s σ H R I h => ?_⟩
  refine Call_ (ld_blt I hg hm boot_enumerate (PyProof.Rows.callWith_type1 (thn (ha.run pos pins s σ H _ I h) fun us s1 ⟨vs, H1, I1, r1, q1⟩ => ?_) hs rfl))
  obtain ⟨a, xs, ex, hq, q⟩ := q1
  subst ex
  cases r1 with
  | cons r rr =>
    cases rr
    cases r
    obtain ⟨its, rv, p', hz⟩ := I1.tuple hq
    refine call_enumT (show s1.heap.IsTuple a its.toArray from p') fun h' he hit hsz hk => wpAny_pyIter_enum he ?_
    have I2 : Inv X pins σ H1 { s1 with heap := h' } := I1.kept (t' := s1.toks) hk
    refine ⟨s1.heap.objs.size + 1, [s1.heap.objs.size + 1, s1.heap.objs.size], _, _, H1, rfl, I2, turn_enumT a (s1.heap.objs.size + 1) s1.heap.objs.size, ⟨⟨.none, he⟩, hit, Nat.succ_ne_self _⟩, fun b hb => ?_, q⟩
    have e' : b = s1.heap.objs.size + 1 ∨ b = s1.heap.objs.size := by simpa using hb
    have hle : s1.heap.objs.size ≤ b := by
      rcases e' with z | z
      · rw [z]; exact Nat.le_add_right _ _
      · rw [z]; exact Nat.le_refl _
    exact I1.fpOk hle (I1.hok.fresh hle)
theorem walk_enumT {K : PySem.W.Frag} {a : Addr} {xs : List V} : Walk (IteT K a) xs.length (fun H => SqT K H a xs) (YPair (fun i => some (.int (i : Nat))) (fun i => xs[i]?)) := by
  refine ⟨fun i _ hi q => ⟨xs, xs[i], q, by simp [hi]⟩, fun _ q => ⟨xs, q, Nat.le_refl _⟩, fun i H v H' _ q y => ?_⟩
  obtain ⟨T, x, h1, h2, h3, h4⟩ := y
  exact ⟨T, .int (i : Nat), x, h1, h2, h3, rfl, h4 xs q⟩
end My

set_option Elab.async false
set_option linter.all false
set_option maxRecDepth 100000
set_option maxHeartbeats 4000000
namespace My
open PySem PySem.Spec PyProof.Rows L2
/-! ### data over a heap that grows -/
mutual
theorem dp_same {K : PySem.W.Frag} {H H' : Hp} (e : Same H H') : ∀ {v : V} {d : PyData}, Dp K H v d → Dp K H' v d
  | _, _, .non => .non
  | _, _, .bl b => .bl b
  | _, _, .int i => .int i
  | _, _, .str x => .str x
  | _, _, .lst h t => .lst (e.seq h) (dpAll_same e t)
  | _, _, .tup h t => .tup (same_tup e h) (dpAll_same e t)
theorem dpAll_same {K : PySem.W.Frag} {H H' : Hp} (e : Same H H') : ∀ {vs : List V} {ds : List PyData}, DpAll K H vs ds → DpAll K H' vs ds
  | _, _, .nil => .nil
  | _, _, .cons h t => .cons (dp_same e h) (dpAll_same e t)
end
theorem Sq.same {K : PySem.W.Frag} {H H' : Hp} {a : Addr} {xs : List V} (h : Sq K H a xs) (e : Same H H') : Sq K H' a xs := h.imp e.seq (same_tup e)
/-- tuple(x), x a list or a tuple -/
theorem call_tupA {X : Cx} {K : PySem.W.Frag} (e : X.K = K) : CallR X (.type "tuple") (fun xs H Q => ∃ p ys, xs = [.ref p] ∧ Sq K H p ys ∧ ∀ q H', SqT K H' q ys → Same H H' → Q (.ref q) H') := by
  subst e
  intro pins s σ H xs us Q I r ⟨p, ys, hx, hs, k⟩
  refine call_tuple_of pins s σ H xs us Q I r ⟨p, ys, hx, ?_⟩
  rcases hs with h | h
  · exact .inl ⟨h, fun l nl => k l _ (SqT.of upd_same) (same_new (Same.refl H) nl)⟩
  · exact .inr ⟨h, k p H h (Same.refl H)⟩
/-- data without lists -/
def noL : Nat → PyData → Bool
  | 0, _ => false
  | _ + 1, .none => true
  | _ + 1, .bool _ => true
  | _ + 1, .int _ => true
  | _ + 1, .str _ => true
  | n + 1, .tuple ds => ds.all (noL n)
  | _ + 1, _ => false
theorem sqT_lst {K : PySem.W.Frag} {H : Hp} {D a : Addr} {xs ys : List V} {o : HO} (hD : H D = some (.lst xs)) (h : SqT K H a ys) : SqT K (upd H D o) a ys := by
  rcases h with (h | ⟨u, h⟩) | h
  · exact .inl (.inl (by rw [upd_ne (ne_of h hD (by intro z; cases z))]; exact h))
  · exact .inl (.inr ⟨u, by rw [upd_ne (ne_of h hD (by intro z; cases z))]; exact h⟩)
  · exact .inr h
mutual
theorem dp_lst {K : PySem.W.Frag} {H : Hp} {D : Addr} {xs : List V} {o : HO} (hD : H D = some (.lst xs)) : ∀ {n : Nat} {v : V} {d : PyData}, noL n d = true → Dp K H v d → Dp K (upd H D o) v d
  | 0, _, _, z, _ => by cases z
  | _ + 1, _, _, _, .non => .non
  | _ + 1, _, _, _, .bl b => .bl b
  | _ + 1, _, _, _, .int i => .int i
  | _ + 1, _, _, _, .str x => .str x
  | _ + 1, _, _, z, .lst h t => by cases z
  | n + 1, _, _, z, .tup h t => .tup (sqT_lst hD h) (dpAll_lst hD (show List.all _ (noL n) = true from z) t)
theorem dpAll_lst {K : PySem.W.Frag} {H : Hp} {D : Addr} {xs : List V} {o : HO} (hD : H D = some (.lst xs)) : ∀ {n : Nat} {vs : List V} {ds : List PyData}, ds.all (noL n) = true → DpAll K H vs ds → DpAll K (upd H D o) vs ds
  | _, _, _, _, .nil => .nil
  | _, _, _, z, .cons h t => by
    rw [List.all_cons, Bool.and_eq_true] at z
    exact .cons (dp_lst hD z.1 h) (dpAll_lst hD z.2 t)
end
theorem dpAll_snoc {K : PySem.W.Frag} {H : Hp} {v : V} {d : PyData} (h : Dp K H v d) : ∀ {vs : List V} {ds : List PyData}, DpAll K H vs ds → DpAll K H (vs ++ [v]) (ds ++ [d])
  | _, _, .nil => .cons h .nil
  | _, _, .cons a t => .cons a (dpAll_snoc h t)
theorem dpAll_zip {K : PySem.W.Frag} {H : Hp} : ∀ {vs : List V} {ds : List PyData}, DpAll K H vs ds → ∃ bs : List (V × PyData), bs.map Prod.fst = vs ∧ bs.map Prod.snd = ds ∧ ∀ b ∈ bs, Dp K H b.1 b.2
  | _, _, .nil => ⟨[], rfl, rfl, fun _ h => by simp at h⟩
  | _, _, .cons (v := v) (d := d) h t => by
    obtain ⟨bs, h1, h2, h3⟩ := dpAll_zip t
    refine ⟨(v, d) :: bs, by rw [List.map_cons, h1], by rw [List.map_cons, h2], fun b hb => ?_⟩
    rcases List.mem_cons.mp hb with rfl | hb
    · exact h
    · exact h3 b hb
theorem dpAll_of {K : PySem.W.Frag} {H : Hp} : ∀ {bs : List (V × PyData)}, (∀ b ∈ bs, Dp K H b.1 b.2) → DpAll K H (bs.map Prod.fst) (bs.map Prod.snd)
  | [], _ => .nil
  | b :: bs, h => .cons (h b List.mem_cons_self) (dpAll_of fun c hc => h c (List.mem_cons_of_mem _ hc))
/-- what sorted(l) gives, by data alone -/
theorem sorted_dp {K : PySem.W.Frag} {H : Hp} {bs : List (V × PyData)} {ds : List PyData} (h2 : bs.map Prod.snd = ds) (h3 : ∀ b ∈ bs, Dp K H b.1 b.2) : DpAll K H ((bs.mergeSort (PySem.W.dataLe false Prod.snd)).map Prod.fst) (ds.mergeSort fun x y => !PySem.W.dataLt y x) := by
  have e := List.map_mergeSort (f := Prod.snd) (l := bs) (r := PySem.W.dataLe false Prod.snd) (s := fun x y => !PySem.W.dataLt y x) (fun _ _ _ _ => rfl)
  rw [h2] at e
  rw [← e]
  exact dpAll_of fun b hb => h3 b (List.mem_mergeSort.mp hb)
end My

set_option Elab.async false
set_option linter.all false
set_option maxRecDepth 100000
set_option maxHeartbeats 4000000
namespace L2
open PySem PySem.Spec PyProof.Rows HT
/-! ### t[::-1] of a tuple -/
section
variable {prog : Program} {w : World} {A : Around} {E : Value → Shared → Prop} {s : Shared}
theorem sliceApplied_rev {sl : Addr} {vl vu vs : Value} {n : Nat} {Q : Int × Int × Nat → Shared → Prop} (hs : s.heap.IsSliceOf sl vl vu vs) (pl : IsPart vl none) (pu : IsPart vu none) (ps : IsPart vs (some (-1)))
    (h : Q ((n : Int) - 1, -1, n) s) : wpAny (model prog w) A (Builtin.Slice.sliceApplied (.ref sl) (pure (n : Int))) Q E s := by
  obtain ⟨os, hos, hcs, hds⟩ := id hs
  unfold Builtin.Slice.sliceApplied Builtin.Slice.sliceFields
  refine wpAny_bind (wpAny_bind (wpAny_field hos hds (x := vl) rfl (wpAny_bind (wpAny_field hos hds (x := vu) rfl (wpAny_bind (wpAny_field hos hds (x := vs) rfl (wpAny_pure ?_)))))))
  refine wpAny_bind (slicePart_ ps ?_)
  show wpAny _ _ (if ((-1 : Int) == 0) = true then _ else _) _ _ s
  rw [if_neg (by decide)]
  refine wpAny_bind (slicePart_ pl (wpAny_bind (slicePart_ pu (wpAny_bind (wpAny_pure ?_)))))
  show wpAny _ _ (match Builtin.Slice.sliceAdjust none none (-1) (n : Int) with | (lo, hi) => pure (lo, (-1 : Int), Builtin.Slice.slicePlaces lo hi (-1))) _ _ s
  show wpAny _ _ (pure ((n : Int) - 1, (-1 : Int), Builtin.Slice.slicePlaces ((n : Int) - 1) (-1) (-1))) _ _ s
  have e : Builtin.Slice.slicePlaces ((n : Int) - 1) (-1) (-1) = n := by
    unfold Builtin.Slice.slicePlaces
    rw [if_neg (by decide)]
    by_cases q : (n : Int) - 1 > -1
    · rw [if_pos q, show (- -1 : Int) = 1 by decide, Int.ediv_one]
      omega
    · rw [if_neg q]
      omega
  rw [e]
  exact wpAny_pure h
theorem fm_congr {α β : Type} {f g : α → Option β} : ∀ {l : List α}, (∀ x ∈ l, f x = g x) → l.filterMap f = l.filterMap g
  | [], _ => rfl
  | x :: l, h => by
    rw [List.filterMap_cons, List.filterMap_cons, h x List.mem_cons_self, fm_congr (l := l) fun y hy => h y (List.mem_cons_of_mem _ hy)]
theorem pick_rev (xs : Array Value) : ((List.range xs.size).filterMap fun (m : Nat) => xs[((xs.size : Int) - 1 + (m : Int) * (-1)).toNat]?).toArray = xs.toList.reverse.toArray := by
  have e : (List.range xs.size).filterMap (fun (m : Nat) => xs[((xs.size : Int) - 1 + (m : Int) * (-1)).toNat]?) = (List.range xs.size).filterMap (fun m => xs[xs.size - 1 - m]?) := by
    refine fm_congr fun m hm => ?_
    have := List.mem_range.mp hm
    have : ((xs.size : Int) - 1 + (m : Int) * (-1)).toNat = xs.size - 1 - m := by omega
    rw [this]
  rw [e]
  have e2 : (List.range xs.size).filterMap (fun m => xs[xs.size - 1 - m]?) = ((List.range xs.size).map fun k => xs.size - 1 - k).filterMap (xs[·]?) := by
    rw [List.filterMap_map]
    rfl
  rw [e2, PySem.W.krv_range, List.filterMap_reverse, PySem.W.krv_all]
theorem getItem_tuple_rev {t sl : Addr} {items : Array Value} {vl vu vs : Value} {Q : Value → Shared → Prop} (ht : IsTup s.heap t items) (hs : s.heap.IsSliceOf sl vl vu vs) (pl : IsPart vl none) (pu : IsPart vu none) (ps : IsPart vs (some (-1)))
    (h : Q (.ref s.heap.objs.size) { s with heap := s.heap.push { cls := .type "tuple", data := .seq items.toList.reverse.toArray } })
    (hsz : items.size ≤ sizeLine) : wpAny (model prog w) A (getItem (.ref t) (.ref sl)) Q E s := by
  have htake : sizeOk (.seq items.toList.reverse.toArray) := by
    show items.toList.reverse.toArray.size ≤ sizeLine
    rw [List.size_toArray, List.length_reverse, Array.length_toList]
    exact hsz
  obtain ⟨os, hos, hcs, hds⟩ := id hs
  have hTs : s.TypeIs (.ref sl) "slice" := ⟨os, hos, hcs⟩
  unfold getItem
  try with_reducible refine wpAny_holding ?_
  first | refine wpAny_bind (wpAny_pure ?_) | skip
  refine wpAny_bind (wpAny_sequenceKey ht.typeIs (by decide) ?_)
  refine wpAny_bind (wpAny_callSpecial?_slot (name := Str.ofString "__getitem__") ht.typeIs PyProof.Rows.slot_tuple_getitem
    (wpAny_call_entry PyProof.Rows.slot_tuple_getitem ht.typeIs entry_tuple_getitem ?_ (args_tuple_getitem _ _)))
  show wpAny _ _ (Builtin.Tuple.tupleItemsOf (.ref t) >>= _) _ _ s
  refine wpAny_bind (tupleItemsOf_ ht ?_)
  refine wpAny_bind (wpAny_typeOf hTs ?_)
  rw [if_pos (by decide)]
  refine wpAny_bind (sliceApplied_rev hs pl pu ps ?_)
  have hno : ¬ ((((items.size : Int) - 1) == 0 && (-1 : Int) == 1 && items.size == items.size) = true) := by
    intro q
    rw [Bool.and_eq_true, Bool.and_eq_true] at q
    exact absurd q.1.2 (by decide)
  show wpAny _ _ (if (((items.size : Int) - 1) == 0 && (-1 : Int) == 1 && items.size == items.size) = true then _ else _) _ _ s
  rw [if_neg hno, pick_rev]
  first
    | exact wpAny_bind (m := Builtin.Tuple.tupleExact _) (wpAny_newObj_type (wpAny_pure ⟨_, rfl, wpAny_pure h⟩) htake)
    | exact wpAny_bind (m := Builtin.Tuple.tupleExact _) (wpAny_newObj_type (wpAny_bind (wpAny_pure (wpAny_pure ⟨_, rfl, wpAny_pure h⟩))) htake)
    | exact wpAny_bind (wpAny_bind (m := Builtin.Tuple.tupleExact _) (wpAny_newObj_type (wpAny_pure (wpAny_pure ⟨_, rfl, wpAny_pure h⟩)) htake))
    | exact wpAny_bind (wpAny_bind (m := Builtin.Tuple.tupleExact _) (wpAny_newObj_type (wpAny_pure ⟨_, rfl, wpAny_pure h⟩) htake))
end
section
variable {X : Cx}
def tRevT (K : PySem.W.Frag) (te : TE) : TE := fun σ H Q => te σ H fun x H1 => ∃ a xs, x = .ref a ∧ SqT K H1 a xs ∧ ∀ p, H1 p = none → Q (.ref p) (upd H1 p (.tup xs.reverse))
theorem pe_revT {e : Expr} {te : TE} {k : Nat} {p1 p2 p3 pos : Pos} (he : PE X e te) : PE X (.Subscript e (.Slice none none (some (.UnaryOp .USub (.Constant (.int 1) k p1) p2)) p3) pos) (tRevT X.K te) := by
  refine ⟨fun pins s σ H Q I h => ?_⟩
  refine Subscript_ (thn (he.run pins s σ H _ I h) fun v s1 ⟨x, H1, I1, r1, q1⟩ => ?_)
  obtain ⟨a, xs, ex, hx, q⟩ := q1
  subst ex
  cases r1
  have hst : PO X (some (.UnaryOp .USub (.Constant (.int 1) k p1) p2)) (tPart (tUn (rU fun i => .int (-i)) (tC (.int 1)))) := po_some (pe_un un_neg pe_int)
  refine wpAny_Slice (thn (po_none.run pins s1 σ H1 (fun o H2 => o = none ∧ H2 = H1) I1 ⟨rfl, rfl⟩) fun vl s2 ⟨l, H2, I2, pl, el, e2⟩ => ?_)
  subst el e2
  refine thn (po_none.run pins s2 σ H2 (fun o H3 => o = none ∧ H3 = H2) I2 ⟨rfl, rfl⟩) fun vu s3 ⟨u, H3, I3, pu, eu, e3⟩ => ?_
  subst eu e3
  refine thn (hst.run pins s3 σ H3 (fun o H4 => o = some (-1) ∧ H4 = H3) I3 ⟨1, rfl, -1, rfl, rfl, rfl⟩) fun vs s4 ⟨o, H4, I4, ps, eo, e4⟩ => ?_
  subst eo e4
  have I5 : Inv X pins σ H4 { s4 with heap := s4.heap.push { cls := .type "slice", data := .fields #[vl, vu, vs] } } := I4.kept (t' := s4.toks) fun b o e => Heap.get?_push_of_some _ e
  obtain ⟨its, r, ht, hz⟩ := I5.tuple hx
  have hlen := r.length
  show wpAny (model X.prog X.w) X.A (subscriptTail e (.Slice none none (some (.UnaryOp .USub (.Constant (.int 1) k p1) p2)) p3) (.ref a) (.ref s4.heap.objs.size)) (EP X pins σ Q) X.xe { s4 with heap := s4.heap.push { cls := .type "slice", data := .fields #[vl, vu, vs] } }
  refine tail_any (ops := [.ref a, .ref s4.heap.objs.size]) ht.typeIs (PyProof.Rows.slot_tuple_getitem.lookup) ?_ (by with_unfolding_all rfl)
  refine getItem_tuple_rev ht (Heap.IsSliceOf.new _ vl vu vs) pl pu ps ?_ (by rw [List.size_toArray]; omega)
  refine ⟨.ref _, _, I5.laid (t' := s4.toks) (o := .tup xs.reverse) (fun b ob q => Heap.get?_push_of_some _ q) (Nat.le_refl _) ?_, rfl, q _ (I5.hok.fresh (Nat.le_refl _))⟩
  exact ⟨by rw [List.length_reverse]; exact hz, _, r.reverse, IsTup.new _ _⟩
/-! ### data < data -/
def rLtD (K : PySem.W.Frag) : R2 := fun x y H Q => ∃ d e, Dp K H x d ∧ Dp K H y e ∧ PySem.W.alike d e = true ∧ d ≠ .none ∧ d.depth ≤ 60 ∧ Q (.bl (PySem.W.dataLt d e)) H
theorem op_ltD (hu : X.A.units + 64 < cLine) : OpR X (compareOp .Lt) (rLtD X.K) := by
  intro pins s σ H x y v u Q I rx ry h
  obtain ⟨d, e, hd, he, ha, hn, hz, q⟩ := h
  obtain ⟨as, r1⟩ := Dp.reads I d x v hd rx
  obtain ⟨bs, r2⟩ := Dp.reads I e y u he ry
  exact PySem.W.lt_data r1 r2 ha hn (by omega) ⟨.bl _, H, I, rfl, q⟩
end
end L2
namespace L2
open PySem PySem.Spec PyProof.Rows
section
variable {X : Cx}
/-- data == data, with texts of any signs -/
def rEqP (K : PySem.W.Frag) : R2 := fun x y H Q => ∃ d e, Dp K H x d ∧ Dp K H y e ∧ d.plain = true ∧ e.plain = true ∧ d.depth ≤ 60 ∧ Q (.bl (PyData.eqv d e)) H
theorem op_eqP (hu : X.A.units + 64 < cLine) : OpR X (compareOp .Eq) (rEqP X.K) := by
  intro pins s σ H x y v u Q I rx ry h
  obtain ⟨d, e, hd, he, sd, se, hz, q⟩ := h
  obtain ⟨as, r1⟩ := Dp.reads I d x v hd rx
  obtain ⟨bs, r2⟩ := Dp.reads I e y u he ry
  exact SeqAt.eq_plain r1 r2 sd se (by omega) ⟨.bl _, H, I, rfl, q⟩
def rNeP (K : PySem.W.Frag) : R2 := fun x y H Q => ∃ d e, Dp K H x d ∧ Dp K H y e ∧ d.plain = true ∧ e.plain = true ∧ d.depth ≤ 60 ∧ Q (.bl (!PyData.eqv d e)) H
theorem op_neP (hu : X.A.units + 64 < cLine) : OpR X (compareOp .NotEq) (rNeP X.K) := by
  intro pins s σ H x y v u Q I rx ry h
  obtain ⟨d, e, hd, he, sd, se, hz, q⟩ := h
  obtain ⟨as, r1⟩ := Dp.reads I d x v hd rx
  obtain ⟨bs, r2⟩ := Dp.reads I e y u he ry
  exact SeqAt.ne_plain r1 r2 sd se (by omega) ⟨.bl _, H, I, rfl, q⟩
end
end L2

set_option Elab.async false
set_option linter.all false
set_option maxRecDepth 100000
set_option maxHeartbeats 4000000
namespace My
open PySem PySem.Spec PyProof.Rows L2
/-! ### properties of own classes -/
section
variable (P : Program) (w : World) (K : PySem.W.Frag) (mg : Str → Option Value) (base : Heap) (CX : CXT) (k : Nat)
structure CalP (C : Addr) (f : Str) (ps : List Str) (dvs : List V) (sp : Sp) : Prop where
  c : Cls K C
  ex : ∃ p g fd ds, PropOf K C f p g ∧ FnOk P w K mg base CX k g fd ps sp ∧ Binds K fd ps ds ∧ Vals dvs ds
end
section
variable {X : Cx} {CX : CXT} {k : Nat} {C : Addr} {ps : List Str} {sp : Sp} {dvs : List V} {E : XK} {f : Str} {pos : Pos} {e : Expr} {ta : TE}
theorem pc_prop (c : CalP X.prog X.w X.K X.mg X.base CX k C f ps dvs sp) (hr : Room (k + 1) X.A) (hx : Passes CX X.nox E) (he : PE X e ta) (hab : attributeBase e f X.env (eval e X.env) = eval e X.env := by rfl) : PE X (.Attribute e f pos) (tProp C sp dvs E ta) := by
  obtain ⟨p, g, fd, ds, h1, F, b, v⟩ := c.ex
  exact pe_prop he c.c h1 F hr b v hx hab
end
/-- the getter of a property -/
def gAd (K : PySem.W.Frag) (p : Str × Option Str) : Addr := match PySem.W.recIn K (He.fAd K p) "property" with
  | some (.ref g :: _) => g
  | _ => 0
def fnP (K : PySem.W.Frag) (p : Str × Option Str) : He.FnW := match K.lookup (gAd K p) with
  | some ⟨_, _, .func fd, _⟩ => some (fd.name, fd.qualname, fd.params, fd.body, fd.scope, fd.globals, fd.closure, fd.builtins)
  | _ => none
def propB (K : PySem.W.Frag) (d : He.DefD) : Bool := match d.at_ with
  | (cls, some f) => He.eqO (PySem.W.findIn K (.ref (He.ga K cls)) f) (some (some (.ref (He.fAd K d.at_)))) &&
    (He.eqO (PySem.W.specialIn K (.ref (He.fAd K d.at_)) "__get__") (some (some (.builtin "property.__get__"))) &&
    (decide (PySem.W.takesIn K (.ref (He.fAd K d.at_)) = some true) &&
    ((match PySem.W.recIn K (He.fAd K d.at_) "property" with
      | some (.ref g :: _) => decide (g = gAd K d.at_)
      | _ => false) &&
    (PySem.W.keepIn K (.ref (gAd K d.at_)) && (match K.lookup (gAd K d.at_) with
      | some ⟨_, _, .func fd, _⟩ => PySem.W.codeIn K fd.code d.qual && (He.dflB K fd.defaults (d.dvs K) && He.kwdB K fd.kwdefaults (d.kws K))
      | _ => false)))))
  | _ => false
theorem prop_ok {K : PySem.W.Frag} {d : He.DefD} {cls f : Str} (ha : d.at_ = (cls, some f)) (e : fnP K d.at_ = d.val) (c : propB K d = true) :
    ∃ fd, PropOf K (He.ga K cls) f (He.fAd K d.at_) (gAd K d.at_) ∧ FunD K d.name d.qual d.params d.body d.scope (d.dvs K) (d.kws K) (gAd K d.at_) fd := by
  obtain ⟨at_, name, qual, params, body, scope, dfl, kwd⟩ := d
  subst ha
  obtain ⟨h1, c⟩ := He.ba c
  obtain ⟨h2, c⟩ := He.ba c
  obtain ⟨h3, c⟩ := He.ba c
  obtain ⟨h4, c⟩ := He.ba c
  obtain ⟨kp, c2⟩ := He.ba c
  have hp : PropOf K (He.ga K cls) f (He.fAd K (cls, some f)) (gAd K (cls, some f)) := by
    refine ⟨He.eqO_ok h1, He.eqO_ok h2, of_decide_eq_true h3, ?_⟩
    cases q : PySem.W.recIn K (He.fAd K (cls, some f)) "property" with
    | none =>
      rw [q] at h4
      cases h4
    | some l =>
      rw [q] at h4
      cases l with
      | nil => cases h4
      | cons x r =>
        cases x with
        | ref g =>
          have h4 : g = gAd K (cls, some f) := of_decide_eq_true h4
          exact ⟨r, by rw [h4]⟩
        | _ => cases h4
  unfold fnP at e
  cases q : K.lookup (gAd K (cls, some f)) with
  | none =>
    rw [q] at c2
    cases c2
  | some o =>
    obtain ⟨oc, od, dt, osl⟩ := o
    rw [q] at c2 e
    cases dt with
    | func fd =>
      obtain ⟨n1, n2, n3, n4, n5, n6, n7, n8, n9, n10, n11, n12, n13, n14, n15⟩ := fd
      have e2 : (some (n1, n2, n3, n4, n5, n6, n7, n15) : He.FnW) = some (name, qual, params, .stmts body, scope, mainGlobals, [], builtinsNs) := e
      simp only [Option.some.injEq, Prod.mk.injEq] at e2
      obtain ⟨g1, g2, g3, g4, g5, g6, g7, g8⟩ := e2
      subst g1 g2 g3 g4 g5 g6 g7 g8
      obtain ⟨k1, k2⟩ := He.ba c2
      obtain ⟨k3, k4⟩ := He.ba k2
      exact ⟨_, hp, ⟨oc, od, n8, n9, n10, n11, n12, n13, n14, osl, rfl, q, k1, He.dflB_ok k3, He.kwdB_ok k4⟩, kp⟩
    | _ => cases c2
/-! ### the head with one more Bool and the getters -/
abbrev AlP : Type := He.AlD × (Bool × List He.FnW)
def obsP (n : Nat) (fa : List He.Fa) (fn pr : List He.DefD) (xb : PySem.W.Frag → Bool) (g : Addr → Option Obj) : AlP :=
  (He.obsDG n fa fn g, (xb (He.frG g (He.asD g n)) && pr.all (fun d => propB (He.frG g (He.asD g n)) d), pr.map fun d => fnP (He.frG g (He.asD g n)) d.at_))
def hookP (n : Nat) (fa : List He.Fa) (fn pr : List He.DefD) (xb : PySem.W.Frag → Bool) : PySem.W.Hook where
  α := AlP
  obs := fun s => obsP n fa fn pr xb s.heap.get?
  val := fun _ => (He.valD fn, (true, pr.map He.DefD.val))
  says := fun _ h => ∃ K : PySem.W.Frag, K.In h ∧ He.SaysD fa fn K ∧ (xb K && pr.all (fun d => propB K d)) = true ∧ (pr.map fun d => fnP K d.at_) = pr.map He.DefD.val
  of := fun _ _ e => ⟨_, He.frG_in, congrArg Prod.fst e, congrArg (fun z : AlP => z.2.1) e, congrArg (fun z : AlP => z.2.2) e⟩
  keeps := fun _ _ _ ⟨K, hK, c⟩ k => ⟨K, PySem.W.Frag.In.keeps hK k, c⟩
theorem obsP_eq {n : Nat} {fa : List He.Fa} {fn pr : List He.DefD} {xb : PySem.W.Frag → Bool} {g : Addr → Option Obj} {s : Shared} (h : ∀ a, g a = s.heap.get? a) : obsP n fa fn pr xb g = (hookP n fa fn pr xb).obs s := by
  have e : g = s.heap.get? := funext h
  rw [e] <;> rfl
end My

set_option Elab.async false
set_option linter.all false
set_option maxRecDepth 100000
set_option maxHeartbeats 4000000
namespace L2
open PySem PySem.Spec PyProof.Rows PySem.W PySem.Calls NdefX
/-! ### an own exception whose __init__ says super().__init__("..") -/
/-- what the written part says of such an __init__ -/
structure SupF (K : PySem.W.Frag) (C fI cc : Addr) (F : NF) (file : Str) : Prop where
  fn : ∃ oc od doc pm ctv osl, K.lookup fI = some ⟨oc, od, .func (F.fd doc pm ctv), osl⟩
  cl : F.cl = [(("__class__" : Str), cc)]
  code : codeIn K (.ref F.c) F.qual = true
  cda : ∃ o vs tf, K.lookup F.c = some o ∧ o.data = .fields vs ∧ vs[2]? = some (.str file tf)
  cell : ∃ cl cld csl, K.lookup cc = some ⟨cl, cld, .cell (some (.ref C)), csl⟩
  cls : ∃ cd, clsIn K C = some cd
  mro : mroIn K C (.ref C) = some true
  sup : ks_superIn K C C "__init__" = some (some (.builtin "ValueError.__init__"))
  val : subIn K (.ref C) (.type "ValueError") = some true
  opq : nsIn K cStatics "thirdparty.any" = some none
  oex : OexC K C
theorem fn_super {CX : CXT} {P : Program} {w : World} {K : PySem.W.Frag} {mg : Str → Option Value} {base : Heap} {N ps : List Str} {F : NF} {file : Str} {C fI cc : Addr} {k : Nat} {sp : Sp} {p0 p1 p2 p3 p4 p5 : Pos} {z : Str} {kk : Nat} {rest : List Stmt} {ar : Arg} {doc pm ctv : Value}
    (hS : SupF K C fI cc F file) (hfd : ∃ oc od osl, K.lookup fI = some ⟨oc, od, .func (F.fd doc pm ctv), osl⟩) (S : NScope N ps ["__class__"] F.scope)
    (hbd : F.body = .Expr (.Call (.Attribute (.Call (.Name "super" p0) [] [] p1) "__init__" p2) [.Constant (.str z) kk p3] [] p4) p5 :: rest)
    (hfile : ((P.main.file : Str) == file) = true) (htop : (P.main.scope.names.lookup ("super" : Str)).isSome = false) (hsup : mg "super" = none)
    (hp : (F.params.posonlyargs ++ F.params.args).head? = some ar) (har : ps[0]? = some ar.arg) (nd : ps.Nodup) (hks : F.scope.names.lookup ("super" : Str) = some .globalImplicit)
    (hi : ∀ L, interactive (envF F fI L) = false)
    (hsw : ∀ L, swapsWith (.Call (.Attribute (.Call (.Name "super" p0) [] [] p1) "__init__" p2) [.Constant (.str z) kk p3] [] p4) none p5.line (envF F fI L) = pure false)
    (he : ∀ L, ∃ pl, eval (.Call (.Attribute (.Call (.Name "super" p0) [] [] p1) "__init__" p2) [.Constant (.str z) kk p3] [] p4) (envF F fI L) = (do
      let ov ← attributeBase (.Call (.Name "super" p0) [] [] p1) "__init__" (envF F fI L) (eval (.Call (.Name "super" p0) [] [] p1) (envF F fI L))
      standAt p2.atName
      let (f, first) ← holding [ov] (getMethod ov "__init__" pl)
      callWith p4 f first (backTo p4 (starEach [.Constant (.str z) kk p3] (envF F fI L))) []))
    (hst : ∀ L, starEach [.Constant (.str z) kk p3] (envF F fI L) = [(false, eval (.Constant (.str z) kk p3) (envF F fI L))])
    (len : ∀ vs H Q E, sp vs H Q E → vs.length = ps.length)
    (hbody : ∀ (A : Around) (outer : List Env) (s : Shared) (H : Hp) (vs : List V) (Q : VK) (E : XK), Room k (A.deeper (envF F fI s.heap.objs.size)) → sp vs H Q E →
      ∃ a us, vs = .ref a :: us ∧ H a = some (exo a C none) ∧ ∃ t, PSs (ncx CX P w K mg base N F fI A outer s H E) rest t ∧ t { nx := fun _ H' => Q .non H', rt := Q } (startF N vs [some (.ref C)]) H) :
    FnOk P w K mg base CX (k + 1) fI (F.fd doc pm ctv) ps sp := by
  refine ⟨len, fun A outer s H args us vs Q E hr e0 hb r hsp => ?_⟩
  obtain ⟨oc, od, osl, ho⟩ := hfd
  obtain ⟨cl, cld, csl, hcell⟩ := hS.cell
  have hl := len _ _ _ _ hsp
  have lim : s.heap.NoLimit := e0.mod.nolimit.keeps fun b o e => (e0.bs b o e).1
  have KX : K.In s.heap := e0.mod.kin.keeps fun b o e => (e0.bs b o e).1
  obtain ⟨a, vr, hv, ha, t, ht, hq⟩ := hbody A outer s H vs Q E (hr.deeper _) hsp
  refine ks_codeAny_call_defAt hr.depth (KX _ _ ho) rfl lim (codeRec_of KX hS.code) rfl hb S.nocell (fun ⟨n, _⟩ hy => S.par n (List.of_mem_zip hy).1) (fun h₁ hns kp => ?_) S.co S.gen S.kind
  have Cc : CellsAt F.cl ["__class__"] [some (.ref C)] s.heap H := by
    rw [hS.cl]
    refine ⟨rfl, fun y c e => ?_, fun x y c e1 e2 => ?_, fun i y e => ?_⟩
    · have e : (if (y == ("__class__" : Str)) = true then some cc else none) = some c := by
        have := e
        simp only [List.lookup] at this
        split at this <;> simp_all
      split at e
      · cases e
        exact ⟨(e0.bs _ _ (e0.mod.kin _ _ hcell)).2, _, _, KX _ _ hcell, rfl⟩
      · cases e
    · simp only [List.lookup] at e1 e2
      split at e1
      · split at e2
        · rename_i q1 _ q2
          rw [eq_of_beq q1, eq_of_beq q2]
        · cases e2
      · cases e1
    · match i, e with
      | 0, e =>
        cases e
        refine ⟨cc, by simp [List.lookup], fun v hv => ?_⟩
        cases hv
        exact ⟨.ref C, rfl, _, KX _ _ hcell, rfl⟩
  have I : Inv (ncx CX P w K mg base N F fI A outer s H E) [] (startF N vs [some (.ref C)]) H { s with heap := h₁, toks := s.toks + (ps.zip us).length } := inv_startN S hr.hd e0 hl r Cc hns kp
  have hx := exo_at I.hok ha
  obtain ⟨t1, hx⟩ := hx
  have KX1 : K.In h₁ := KX.keeps kp
  obtain ⟨cd, hcd⟩ := hS.cls
  obtain ⟨oD, hD1, hD2⟩ : ∃ oD, h₁.get? C = some oD ∧ oD.data = .cls cd := by
    have hD := hcd
    unfold clsIn at hD
    split at hD
    · rename_i c d cd' sl ho
      cases hD
      exact ⟨_, KX1 _ _ ho, rfl⟩
    · cases hD
  obtain ⟨oc2, vs2, tf, hc1, hc2, hc3⟩ := hS.cda
  have hks' : (envF F fI s.heap.objs.size).kindOf "super" = some .globalImplicit := hks
  have hkc : (envF F fI s.heap.objs.size).kindOf "__class__" = some .free := S.frk _ (by simp)
  have hka : (envF F fI s.heap.objs.size).kindOf ar.arg = some .local := S.par _ (List.mem_of_getElem? har)
  show PySem.wpAt (model P w) (A.deeper (envF F fI s.heap.objs.size)) (.func F.body (envF F fI s.heap.objs.size)) (execs F.body (envF F fI s.heap.objs.size)) _ _ _
  rw [hbd]
  obtain ⟨pl, hev⟩ := he s.heap.objs.size
  refine ks_wpAt_execs_cons (ks_wpAt_Expr_any (ks_wpAt_MethodCall (pl := pl) ?_ hev) (hi _) (hsw _))
  refine ks_wpAt_super_base (f := fI) hks' hkc (by decide) rfl (KX1 _ _ ho) rfl hp rfl (KX1 _ _ hc1) hc2 hc3 hfile htop ?_
  obtain ⟨mb, m1, m2⟩ := I.mod.blt
  refine ks_loadName_global S.kind hks (Calls.loadGlobal_builtin (by exact I.mod.glob.keeps I.bk) hsup (by exact m1.keeps I.bk) ((m2 _ (by decide)).trans (by decide +kernel : bootBuiltins "super" = some (.type "super"))) ⟨rfl, ?_⟩)
  refine wpAny_loadName_free (c := cc) (v := .ref C) S.kind hkc (by show F.cl.lookup ("__class__" : Str) = some cc; rw [hS.cl]; rfl) ⟨_, KX1 _ _ hcell, rfl⟩ ?_
  have hu0 : us[0]? = some (.ref a) := by
    rw [hv] at r
    cases r with
    | cons r1 r2 =>
      cases r1
      rfl
  refine wpAny_loadName_local S.kind hka hns (v := .ref a) (zip_look nd har hu0) ?_
  refine ks_wpAny_isType_cls hD1 hD2 ⟨rfl, ?_⟩
  refine ks_wpAny_call_super hD1 hD2 hx rfl (fun c e => by cases e) (looks_mroIn KX1 hS.mro) (fun h2 e2 k2 => ?_)
  have KX2 : K.In h2 := KX1.keeps k2
  have hx2 := k2 _ _ hx
  have Ia : InstAt h2 a { cls := .ref C, dict := none, data := .fields #[.ref t1, .none, .none, .none, .bool false, .none] } C none := ⟨hx2, rfl, rfl, trivial⟩
  have hm : alongIn K "__init__" ((cd.mro.dropWhile (· != .ref C)).drop 1) = some (some (.builtin "ValueError.__init__")) := by
    have := hS.sup
    unfold ks_superIn at this
    rw [hcd] at this
    exact this
  refine kxs_getMethod kxs_ValueError (x := a) (C := C) (D := C) e2 (looks_opaque KX2 hS.opq) (l₀ := cd.mro) (fun A Q E s k q => wpAny_bind ((looks_clsIn KX2 hcd) A _ E s k (wpAny_pure q))) rfl KX2 hm (Ia.type.andThen (looks_subIn KX2 hS.val)) (ks_ne KX2 Ia hcd) rfl ?_
  have k3 : ∀ b o, h2.get? b = some o → (h2.push (kxs_mw "ValueError.__init__" a)).get? b = some o := fun b o e => Heap.get?_push_of_some _ e
  have hmw : (h2.push (kxs_mw "ValueError.__init__" a)).get? h2.objs.size = some (kxs_mw "ValueError.__init__" a) := Heap.get?_push_at rfl rfl
  generalize (h2.push (kxs_mw "ValueError.__init__" a)) = h3 at k3 hmw
  rw [hst]
  refine kxs_callWith (i := "ValueError.__init__") (x := a) rfl (Calls.evalArgs_plain (Calls.spliced_cons (Calls.Constant_str (k := kk) (pos := p3) (Calls.spliced_nil ⟨hmw, ?_⟩))))
  show wpAny (model P w) (A.deeper (envF F fI s.heap.objs.size)) (call (.ref h2.objs.size) [.str z (s.toks + (ps.zip us).length + 1)]) _ _ _
  have kk3 : ∀ b o, h₁.get? b = some o → h3.get? b = some o := fun b o e => k3 b o (k2 b o e)
  have KX3 : K.In h3 := KX1.keeps kk3
  obtain ⟨nm, q, Nn, bs, bm, sn, sub, ab, col, dd, k0, k1, k2', k3', k5, hC, hbm⟩ := hS.oex.cls
  refine wpAny_call (codeAny_of_tree ?_)
  show wpAny _ (A.deeper (envF F fI s.heap.objs.size)).in1 (callAny (.ref h2.objs.size) ⟨[.str z (s.toks + (ps.zip us).length + 1)], []⟩) _ _ _
  simp only [callAny]
  refine wpAny_bind (wpAny_load hmw ?_)
  simp only [kxs_mw, show (Value.type "method-wrapper" == Value.type "method" || Value.type "method-wrapper" == Value.type "builtin_function_or_method" || Value.type "method-wrapper" == Value.type "method-wrapper") = true by decide, if_true]
  refine KFB.if_so (by decide) ?_
  refine wpAny_bind (check_bound_init PySem.F.excBase_ValueError.toExcCallFacts (KX3 _ _ hC) (kk3 _ _ hx) rfl ?_)
  refine wpAny_bind (wpAny_pure (wpAny_pure ?_))
  refine ⟨plainId_quiet PySem.F.excBase_ValueError.init.plain _, codeAny_builtin PySem.F.excBase_ValueError.initEntry ?_⟩
  refine exc_init_tree (cls := .ref C) (t0 := t1) (dv := none) (c2 := .none) (c3 := .none) (b4 := .bool false) (kk3 _ _ hx) (by show 1 ≤ sizeLine; decide) (fun h' k' hx' _ => ?_)
  have I3 : Inv (ncx CX P w K mg base N F fI A outer s H E) [] (startF N vs [some (.ref C)]) H { heap := h3, gens := s.gens, drawn := s.drawn, toks := s.toks + (ps.zip us).length + 1 + 1, os := s.os } := I.kept (t' := s.toks + (ps.zip us).length + 1 + 1) kk3
  have J := I3.write (t' := s.toks + (ps.zip us).length + 1 + 1) (x := a) (e := a) (o := exo a C none) (by rw [ha]; exact True.intro) (.inl rfl) k' ⟨_, hx'⟩ (exo_ok hx')
  have eu : upd H a (exo a C none) = H := by
    funext b
    by_cases hb : b = a
    · rw [hb, upd_same, ha]
    · rw [upd_ne hb]
  rw [eu] at J
  refine wpAt_of_wpAny (wpAny_mono (ht.run [] _ (startF N vs [some (.ref C)]) H _ J hq) (fun fl s' hs => ?_) fun e s' hs => hs)
  have fin : ∀ {σ' : L2.St} {H' : Hp} {v : V} {u : Value}, Inv (ncx CX P w K mg base N F fI A outer s H E) [] σ' H' s' → L2.RelV v u → Q v H' → CE outer P w H s Q u s' :=
    fun {σ' H' v u} J rv q => ⟨v, H', J.os, J.bare, J.base, J.hok, rv, q⟩
  cases fl with
  | ret u =>
    obtain ⟨v, σ', H', J, rv, q⟩ := hs
    exact fin J rv q
  | next =>
    obtain ⟨σ', H', J, q⟩ := hs
    exact fin (v := V.non) (u := Value.none) J rfl q
  | brk =>
    obtain ⟨_, _, _, q⟩ := hs
    exact False.elim q
  | cont =>
    obtain ⟨_, _, _, q⟩ := hs
    exact False.elim q
end L2

set_option Elab.async false
set_option linter.all false
set_option maxRecDepth 100000
set_option maxHeartbeats 4000000
namespace My
open PySem PySem.Spec PyProof.Rows L2 NdefX
/-! ### the facts of own exceptions with an __init__ over super().__init__ -/
def oexB (K : PySem.W.Frag) (C : Addr) : Bool := (match K.lookup C with
  | some ⟨.type "type", _, .cls cd, sl⟩ => (match cd.mro, sl.toList with
    | .ref C' :: bm, [_, _, _, _, some (.builtin n), _] => decide (C' = C) && (decide (n = "ValueError.__new__") && (!cd.hasDel && (cd.hasDict && PySem.HandSPX.refsVE bm)))
    | _, _ => false)
  | _ => false) && (He.eqO (PySem.W.findIn K (.ref C) "__setattr__") (some (some (.builtin "object.__setattr__"))) && (decide (PySem.W.subIn K (.ref C) (.type "BaseException") = some true) &&
  (decide (PySem.W.typeIn K (.ref C) = some (.type "type")) && PySem.W.keepIn K (.ref C))))
theorem oexB_ok {K : PySem.W.Frag} {C : Addr} (h : oexB K C = true) : OexC K C := by
  obtain ⟨h1, h⟩ := He.ba h
  obtain ⟨h2, h⟩ := He.ba h
  obtain ⟨h3, h⟩ := He.ba h
  obtain ⟨h4, h5⟩ := He.ba h
  refine ⟨?_, He.eqO_ok h2, of_decide_eq_true h3, of_decide_eq_true h4, h5⟩
  split at h1
  · rename_i dd cd sl ho
    split at h1
    · rename_i C' bm k0 k1 k2 k3 n k5 hm hs
      obtain ⟨g1, h1⟩ := He.ba h1
      obtain ⟨g2, h1⟩ := He.ba h1
      obtain ⟨g3, h1⟩ := He.ba h1
      obtain ⟨g4, g5⟩ := He.ba h1
      have g1 := of_decide_eq_true g1
      have g2 := of_decide_eq_true g2
      obtain ⟨nm, bs, mro, ns, qn, hd, sn, sb, ab, col, del⟩ := cd
      dsimp only at hm g3 g4
      have g3 : del = false := by simpa using g3
      subst g1 g2 hm g3 g4
      have es : sl = #[k0, k1, k2, k3, some (.builtin "ValueError.__new__"), k5] := by
        rw [← hs]
      subst es
      exact ⟨nm, qn, ns, bs, bm, sn, sb, ab, col, dd, k0, k1, k2, k3, k5, ho, g5⟩
    · cases h1
  · cases h1
abbrev FnS : Type := Option (Str × Str × Arguments × FuncBody × Scope × Addr × List Str × Addr)
def fnS (K : PySem.W.Frag) (p : Str × Option Str) : FnS := match K.lookup (He.fAd K p) with
  | some ⟨_, _, .func fd, _⟩ => some (fd.name, fd.qualname, fd.params, fd.body, fd.scope, fd.globals, fd.closure.map (·.1), fd.builtins)
  | _ => none
def valS (d : He.DefD) : FnS := some (d.name, d.qual, d.params, .stmts d.body, d.scope, mainGlobals, [("__class__" : Str)], builtinsNs)
/-- its cell, its code -/
def cellAd (K : PySem.W.Frag) (p : Str × Option Str) : Addr := match K.lookup (He.fAd K p) with
  | some ⟨_, _, .func fd, _⟩ => (match fd.closure with
    | [(_, c)] => c
    | _ => 0)
  | _ => 0
def codeAd (K : PySem.W.Frag) (p : Str × Option Str) : Addr := match K.lookup (He.fAd K p) with
  | some ⟨_, _, .func fd, _⟩ => (match fd.code with
    | .ref c => c
    | _ => 0)
  | _ => 0
def supNF (K : PySem.W.Frag) (d : He.DefD) : NF := ⟨d.name, d.qual, d.params, d.body, d.scope, [(("__class__" : Str), cellAd K d.at_)], codeAd K d.at_⟩
def supB (K : PySem.W.Frag) (file : Str) (x : Str) (d : He.DefD) (fs : List Str) : Bool :=
  (match K.lookup (He.fAd K d.at_) with
  | some ⟨_, _, .func fd, _⟩ => decide (fd.code = .ref (codeAd K d.at_)) && (decide (fd.closure.map (·.2) = [cellAd K d.at_]) && (decide (fd.defaults = .none) && (decide (fd.kwdefaults = .none) && decide (fd.annotations = none))))
  | _ => false) &&
  (PySem.W.codeIn K (.ref (codeAd K d.at_)) d.qual &&
  ((match K.lookup (codeAd K d.at_) with
    | some ⟨_, _, .fields vs, _⟩ => (match (vs[2]? : Option Value) with
      | some (Value.str f _) => decide (f = file)
      | _ => false)
    | _ => false) &&
  ((match K.lookup (cellAd K d.at_) with
    | some ⟨_, _, .cell (some (.ref C)), _⟩ => decide (C = He.ga K x)
    | _ => false) &&
  ((PySem.W.clsIn K (He.ga K x)).isSome &&
  (decide (PySem.W.mroIn K (He.ga K x) (.ref (He.ga K x)) = some true) &&
  (He.eqO (PySem.W.ks_superIn K (He.ga K x) (He.ga K x) "__init__") (some (some (.builtin "ValueError.__init__"))) &&
  (decide (PySem.W.subIn K (.ref (He.ga K x)) (.type "ValueError") = some true) &&
  (He.eqO (PySem.W.nsIn K cStatics "thirdparty.any") (some none) &&
  (oexB K (He.ga K x) &&
  (He.eqO (PySem.W.findIn K (.ref (He.ga K x)) "__init__") (some (some (.ref (He.fAd K d.at_)))) &&
  (decide (PySem.W.typeIn K (.ref (He.fAd K d.at_)) = some (.type "function")) &&
  (xfB K (He.ga K x) && fs.all fun f => He.eqO (PySem.W.findIn K (.ref (He.ga K x)) f) (some none)))))))))))))
/-- what is told of such a class -/
structure ExI (K : PySem.W.Frag) (file : Str) (x : Str) (d : He.DefD) (fs : List Str) : Prop where
  sup : SupF K (He.ga K x) (He.fAd K d.at_) (cellAd K d.at_) (supNF K d) file
  fn : ∃ doc pm ctv oc od osl, K.lookup (He.fAd K d.at_) = some ⟨oc, od, .func ((supNF K d).fd doc pm ctv), osl⟩
  ini : PySem.W.findIn K (.ref (He.ga K x)) "__init__" = some (some (.ref (He.fAd K d.at_)))
  typ : PySem.W.typeIn K (.ref (He.fAd K d.at_)) = some (.type "function")
  xf : XfC K (He.ga K x)
  nof : ∀ f ∈ fs, PySem.W.findIn K (.ref (He.ga K x)) f = some none
theorem supB_ok {K : PySem.W.Frag} {file x : Str} {d : He.DefD} {fs : List Str} (e : fnS K d.at_ = valS d) (h : supB K file x d fs = true) : ExI K file x d fs := by
  obtain ⟨h1, h⟩ := He.ba h
  obtain ⟨h2, h⟩ := He.ba h
  obtain ⟨h3, h⟩ := He.ba h
  obtain ⟨h4, h⟩ := He.ba h
  obtain ⟨h5, h⟩ := He.ba h
  obtain ⟨h6, h⟩ := He.ba h
  obtain ⟨h7, h⟩ := He.ba h
  obtain ⟨h8, h⟩ := He.ba h
  obtain ⟨h9, h⟩ := He.ba h
  obtain ⟨h10, h⟩ := He.ba h
  obtain ⟨h11, h⟩ := He.ba h
  obtain ⟨h12, h⟩ := He.ba h
  obtain ⟨h13, h14⟩ := He.ba h
  have fn : ∃ doc pm ctv oc od osl, K.lookup (He.fAd K d.at_) = some ⟨oc, od, .func ((supNF K d).fd doc pm ctv), osl⟩ := by
    unfold fnS at e
    cases q : K.lookup (He.fAd K d.at_) with
    | none => rw [q] at h1; cases h1
    | some o =>
      obtain ⟨oc, od, dt, osl⟩ := o
      rw [q] at h1 e
      cases dt with
      | func fd =>
        obtain ⟨b1, h1⟩ := He.ba h1
        obtain ⟨b2, h1⟩ := He.ba h1
        obtain ⟨b3, h1⟩ := He.ba h1
        obtain ⟨b4, b5⟩ := He.ba h1
        have g1 := of_decide_eq_true b1
        have g2 := of_decide_eq_true b2
        have g3 := of_decide_eq_true b3
        have g4 := of_decide_eq_true b4
        have g5 := of_decide_eq_true b5
        clear b1 b2 b3 b4 b5 h1
        obtain ⟨n1, n2, n3, n4, n5, n6, n7, n8, n9, n10, n11, n12, n13, n14, n15⟩ := fd
        have e2 : (some (n1, n2, n3, n4, n5, n6, n7.map (·.1), n15) : FnS) = some (d.name, d.qual, d.params, .stmts d.body, d.scope, mainGlobals, [("__class__" : Str)], builtinsNs) := e
        simp only [Option.some.injEq, Prod.mk.injEq] at e2
        obtain ⟨e1, e2, e3, e4, e5, e6, e7, e8⟩ := e2
        dsimp only at g1 g2 g3 g4 g5
        have ec : n7 = [(("__class__" : Str), cellAd K d.at_)] := by
          match n7, e7, g2 with
          | [(a, b)], e7, g2 =>
            simp only [List.map_cons, List.map_nil, List.cons.injEq, and_true] at e7 g2
            rw [e7, g2]
        subst g1 g3 g4 g5 ec e1 e2 e3 e4 e5 e6 e8
        exact ⟨n10, n11, n14, oc, od, osl, rfl⟩
      | _ => cases h1
  obtain ⟨doc, pm, ctv, oc, od, osl, fn'⟩ := id fn
  refine ⟨⟨⟨oc, od, doc, pm, ctv, osl, fn'⟩, rfl, h2, ?_, ?_, Option.isSome_iff_exists.mp h5, of_decide_eq_true h6, He.eqO_ok h7, of_decide_eq_true h8, He.eqO_ok h9, oexB_ok h10⟩, fn, He.eqO_ok h11, of_decide_eq_true h12, xfB_ok h13, fun f hf => He.eqO_ok (List.all_eq_true.mp h14 f hf)⟩
  · show ∃ o vs tf, K.lookup (codeAd K d.at_) = some o ∧ o.data = .fields vs ∧ vs[2]? = some (.str file tf)
    cases q : K.lookup (codeAd K d.at_) with
    | none => rw [q] at h3; cases h3
    | some o =>
      obtain ⟨oc, od, dt, osl⟩ := o
      rw [q] at h3
      cases dt with
      | fields vs =>
        cases q2 : vs[2]? with
        | none => simp [q2] at h3
        | some v =>
          cases v with
          | str f tf =>
            simp only [q2] at h3
            have h3 := of_decide_eq_true h3
            subst h3
            exact ⟨_, vs, tf, rfl, rfl, q2⟩
          | _ => simp [q2] at h3
      | _ => cases h3
  · cases q : K.lookup (cellAd K d.at_) with
    | none => rw [q] at h4; cases h4
    | some o =>
      obtain ⟨oc, od, dt, osl⟩ := o
      rw [q] at h4
      cases dt with
      | cell v =>
        cases v with
        | none => cases h4
        | some v =>
          cases v with
          | ref C =>
            have h4 : C = He.ga K x := of_decide_eq_true h4
            subst h4
            exact ⟨oc, od, osl, rfl⟩
          | _ => cases h4
      | _ => cases h4
end My

set_option Elab.async false
set_option linter.all false
set_option maxRecDepth 100000
set_option maxHeartbeats 4000000
namespace My
open PySem PySem.Spec PyProof.Rows L2 NdefX
/-! ### raising own exceptions whose __init__ keeps fields -/
abbrev supS (z : Str) (kk : Nat) (p0 p1 p2 p3 p4 : Pos) : Expr := .Call (.Attribute (.Call (.Name "super" p0) [] [] p1) "__init__" p2) [.Constant (.str z) kk p3] [] p4
/-- how super().__init__(z) is read in an environment -/
structure SupE (env : Env) (z : Str) (kk : Nat) (p0 p1 p2 p3 p4 : Pos) (ln : Nat) : Prop where
  i : interactive env = false
  sw : swapsWith (supS z kk p0 p1 p2 p3 p4) none ln env = pure false
  ev : ∃ pl, eval (supS z kk p0 p1 p2 p3 p4) env = (do
      let ov ← attributeBase (.Call (.Name "super" p0) [] [] p1) "__init__" env (eval (.Call (.Name "super" p0) [] [] p1) env)
      standAt p2.atName
      let (f, first) ← holding [ov] (getMethod ov "__init__" pl)
      callWith p4 f first (backTo p4 (starEach [.Constant (.str z) kk p3] env)) [])
  st : starEach [.Constant (.str z) kk p3] env = [(false, eval (.Constant (.str z) kk p3) env)]
/-- the program's own facts -/
structure PrOk (P : Program) (file : Str) : Prop where
  file : ((P.main.file : Str) == file) = true
  top : (P.main.scope.names.lookup ("super" : Str)).isSome = false
def spI1 (K : PySem.W.Frag) (x f : Str) : Sp := fun vs H Q _ => ∃ a v, vs = [.ref a, v] ∧ H a = some (exo a (He.ga K x) none) ∧ ∀ dx, H dx = none → dx ≠ a → Q .non (upd (upd H dx (exd dx [(f, v)])) a (exo a (He.ga K x) (some dx)))
def spI2 (K : PySem.W.Frag) (x f g : Str) : Sp := fun vs H Q _ => ∃ a v u, vs = [.ref a, v, u] ∧ H a = some (exo a (He.ga K x) none) ∧ ∀ dx H', H dx = none → dx ≠ a → H' a = some (exo a (He.ga K x) (some dx)) → H' dx = some (exd dx [(g, u), (f, v)]) → (∀ b, b ≠ a → b ≠ dx → H' b = H b) → Q .non H'
section
variable {P : Program} {w : World} {K : PySem.W.Frag} {mg : Str → Option Value} {base : Heap} {file x f g : Str} {d : He.DefD} {fs : List Str} {z : Str} {kk : Nat} {p0 p1 p2 p3 p4 p5 q0 q1 q2 q3 r0 r1 r2 r3 : Pos}
theorem ini1 {ar : Arg} (E : ExI K file x d fs) (hP : PrOk P file) (hs : mg "super" = none) (S : NScope ["self", f, "__class__"] ["self", f] ["__class__"] d.scope) (hf : f ∈ fs)
    (hbd : d.body = [.Expr (supS z kk p0 p1 p2 p3 p4) p5, .Assign [.Attribute (.Name "self" q0) f q1] (.Name f q2) q3])
    (hp : (d.params.posonlyargs ++ d.params.args).head? = some ar) (har : ar.arg = "self") (hks : d.scope.names.lookup ("super" : Str) = some .globalImplicit)
    (hd : (f == ("__debug__" : Str)) = false) (hcd : (f == ("__classdict__" : Str)) = false)
    (hE : ∀ L, SupE (envF (supNF K d) (He.fAd K d.at_) L) z kk p0 p1 p2 p3 p4 p5.line) (hsw : ∀ L, swapsWith (.Name f q2) (some (.Attribute (.Name "self" q0) f q1)) q3.line (envF (supNF K d) (He.fAd K d.at_) L) = pure false)
    (hb : ∀ doc pm ctv (us : List Value), us.length = 2 → bindArgs ((supNF K d).fd doc pm ctv) ⟨us, []⟩ = pure ((["self", f] : List Str).zip us)) :
    ∃ fd, FnOk P w K mg base CX0 1 (He.fAd K d.at_) fd ["self", f] (spI1 K x f) ∧ Binds K fd ["self", f] [] := by
  obtain ⟨doc, pm, ctv, oc, od, osl, hfn⟩ := E.fn
  have nd : (["self", f] : List Str).Nodup := S.nd.sublist (show (["self", f] : List Str).Sublist (["self", f, "__class__"] : List Str) from List.take_sublist 2 (["self", f, "__class__"] : List Str))
  refine ⟨_, fn_super (rest := [.Assign [.Attribute (.Name "self" q0) f q1] (.Name f q2) q3]) E.sup ⟨oc, od, osl, hfn⟩ S hbd hP.file hP.top hs hp (by rw [har]; rfl) nd hks (fun L => (hE L).i) (fun L => (hE L).sw) (fun L => (hE L).ev) (fun L => (hE L).st) (fun vs H Q E h => ?_) (fun A outer s H vs Q E' hr h => ?_), .all fun us hl => hb doc pm ctv us hl⟩
  · obtain ⟨a, v, rfl, _⟩ := h
    rfl
  · obtain ⟨a, v, rfl, ha, k⟩ := h
    refine ⟨a, [v], rfl, ha, _, pss_cons (ps_ost (pe_var (i := 0) rfl (.inl (S.par _ (by simp)))) (pe_var (i := 1) rfl (.inl (S.par _ (by simp))) hd hcd) (hsw _)) pss_nil, ?_⟩
    refine ⟨_, rfl, _, rfl, a, He.ga K x, rfl, E.sup.oex, E.nof f hf, .inl ⟨ha, fun dx n ne => k dx n ne⟩⟩
end
/-- an own exception that may be made -/
structure CalX (P : Program) (w : World) (K : PySem.W.Frag) (mg : Str → Option Value) (base : Heap) (k : Nat) (x : Str) (ps : List Str) (sp : Sp) : Prop where
  ex : ∃ fI fd, OexC K (He.ga K x) ∧ PySem.W.findIn K (.ref (He.ga K x)) "__init__" = some (some (.ref fI)) ∧ PySem.W.typeIn K (.ref fI) = some (.type "function") ∧ FnOk P w K mg base CX0 k fI fd ps sp ∧ Binds K fd ps [] ∧ mg x = some (.ref (He.ga K x))
theorem CalX.of {P : Program} {w : World} {K : PySem.W.Frag} {mg : Str → Option Value} {base : Heap} {k : Nat} {file x : Str} {d : He.DefD} {fs ps : List Str} {sp : Sp} (E : ExI K file x d fs) (h : ∃ fd, FnOk P w K mg base CX0 k (He.fAd K d.at_) fd ps sp ∧ Binds K fd ps []) (g : mg x = some (.ref (He.ga K x))) : CalX P w K mg base k x ps sp := by
  obtain ⟨fd, h1, h2⟩ := h
  exact ⟨_, fd, E.sup.oex, E.ini, E.typ, h1, h2, g⟩
/-- C(e, ..) where an exception may be handled later: its context is told too -/
theorem pmk_oexN {X : Cx} {x : Str} {C fI : Addr} {k : Nat} {fd : FuncData} {ps : List Str} {sp : Sp} {e : Expr} {es : List Expr} {ta : TA} {p pos : Pos} (T : OexC X.K C) (iC : PySem.W.findIn X.K (.ref C) "__init__" = some (some (.ref fI))) (tI : PySem.W.typeIn X.K (.ref fI) = some (.type "function"))
    (F1 : FnOk X.prog X.w X.K X.mg X.base CX0 k fI fd ps sp) (hr : Room (k + 1) X.A) (hb : Binds X.K fd ps []) (hx : Passes CX0 X (fun _ _ _ => False)) (hg : Gl X x) (hm : X.mg x = some (.ref C)) (ha : PA X (e :: es) ta)
    (hdb : (x == ("__debug__" : Str)) = false) (he : starEach (e :: es) X.env = (false, eval e X.env) :: starEach es X.env) (hpl : (backTo pos (starEach es X.env)).any (·.1) = false) : L2N.PMk X (.Call (.Name x p) (e :: es) [] pos) (tMkO C sp [] ta) := by
  intro pins s σ H Q I h
  obtain ⟨n0, n1, n2, n3, bm, n4, n5, n6, n7, n8, m0, m1, m2, m3, m5, hC, hbm⟩ := T.cls
  refine wpAny_Call_Name_kw (ld_glob I hg hm ?_ hdb)
  refine PySem.W.callWith_K (h₀ := X.base) I.ok.mod.kin T.kC (thn (ha.run pos pins s σ H _ I h) fun us s1 ⟨vs, H1, I1, r1, hz, q1⟩ => ⟨I1.kIn, ?_⟩) he hpl
  show wpAny _ _ (call (.ref C) us) _ _ _
  obtain ⟨g0, g1, g2, g3, g4⟩ := s1
  have le1 : g0.objs.size ≤ g0.objs.size + 1 := Nat.le_succ _
  have nw := I1.hok.fresh le1
  have q2 := q1 (g0.objs.size + 1) nw
  have kp : ∀ b o, g0.get? b = some o → ((g0.push (PySem.W.kdv_tup us)).push (PySem.HandSPX.excO C g0.objs.size)).get? b = some o := fun b o e => Heap.get?_push_of_some _ (Heap.get?_push_of_some _ e)
  have at1 : ((g0.push (PySem.W.kdv_tup us)).push (PySem.HandSPX.excO C g0.objs.size)).get? (g0.objs.size + 1) = some (PySem.HandSPX.excO C g0.objs.size) := by heap_get
  have I2 : Inv X pins σ (upd H1 (g0.objs.size + 1) (exo (g0.objs.size + 1) C none)) ⟨(g0.push (PySem.W.kdv_tup us)).push (PySem.HandSPX.excO C g0.objs.size), g1, g2, g3, g4⟩ :=
    I1.laid (t' := g3) (a := g0.objs.size + 1) (o := exo (g0.objs.size + 1) C none) kp le1 (exo_ok at1)
  rw [List.append_nil] at q2
  have r2 : Vals (V.ref (g0.objs.size + 1) :: vs) (Value.ref (g0.objs.size + 1) :: us) := .cons rfl r1
  have ln : (Value.ref (g0.objs.size + 1) :: us).length = ps.length := by rw [← r2.length]; exact F1.len _ _ _ _ q2
  have lu : us.length ≤ sizeLine := by
    rw [← Paired.length r1, sizeLine_eq]
    omega
  have bd := hb _ (Value.ref (g0.objs.size + 1) :: us) I2.kIn (by rw [List.append_nil]; exact ln)
  rw [List.append_nil] at bd
  refine wpAny_call (PySem.HandSPX.call_own F.excBase_ValueError (fun Y => PySem.HandSPX.refsVE_contains Y bm hbm) (I1.kIn _ _ hC) (PySem.W.looks_findIn I1.kIn iC) (fun self => PySem.W.bind_fn I1.kIn self tI) lu
    (codeAny_mono (F1.run _ X.stack _ _ ⟨Value.ref (g0.objs.size + 1) :: us, []⟩ _ _ _ (fun _ _ _ => False) (hr.make C us []) (I2.env0.make C us []) bd r2 q2) fun r s' hq' => ?_))
  cases r with
  | error er => exact hx pins σ _ _ er s' I2 hq'
  | ok fl =>
    cases fl with
    | ret u =>
      obtain ⟨v, H2, o2, b2, u2, k2, rv, ev, d, fs, ea, ed, nd, q3⟩ := hq'
      subst ev
      obtain ⟨w0, w1, w2, w3, w4⟩ := s'
      obtain ⟨t0, G, J, kG, ge, hoe, na⟩ := mk_end0 (d2 := w2) (t2 := w3) I1 le1 kp u2 k2 o2 b2 ea ed nd
      exact ⟨rv, _, _, _, ⟨G, w1, w2, w3, w4⟩, _, .ref C, some d, rfl, J, kG, ge, hoe, ⟨rfl, rfl, fun z hz => by cases hz; rfl⟩, rfl, rfl, na, rfl, b2, raises_own T.exC T.tyC, q3⟩
    | next => exact False.elim hq'
    | brk => exact False.elim hq'
    | cont => exact False.elim hq'
theorem pmk_sup {X : Cx} {k : Nat} {x : Str} {ps : List Str} {sp : Sp} {e : Expr} {es : List Expr} {ta : TA} {p pos : Pos} (c : CalX X.prog X.w X.K X.mg X.base k x ps sp) (hr : Room (k + 1) X.A) (ha : PA X (e :: es) ta) (hg : Gl X x := by rfl)
    (hdb : (x == ("__debug__" : Str)) = false := by decide) (he : starEach (e :: es) X.env = (false, eval e X.env) :: starEach es X.env := by rfl) (hpl : (backTo pos (starEach es X.env)).any (·.1) = false := by rfl) :
    L2N.PMk X (.Call (.Name x p) (e :: es) [] pos) (tMkO (He.ga X.K x) sp [] ta) := by
  obtain ⟨fI, fd, h1, h2, h3, F, b, g⟩ := c.ex
  exact pmk_oexN h1 h2 h3 F hr b pass0 hg g ha hdb he hpl
/-- what a raised exception with one field leaves -/
theorem raised1 {K : PySem.W.Frag} {x f : Str} {H : Hp} {v : V} {E : XK} {Q : XK} (k : ∀ dx Hf, Hf dx = some (.xd [(f, v)]) → Same H Hf → Q (.ref (He.ga K x)) (some dx) Hf) :
    [v].length ≤ 1000 ∧ ∀ a, H a = none → spI1 K x f (.ref a :: ([v] ++ [])) (upd H a (exo a (He.ga K x) none)) (fun u H2 => u = .non ∧ ∃ (d : Addr) (fs : List (Str × V)), H2 a = some (exo a (He.ga K x) (some d)) ∧ H2 d = some (exd d fs) ∧ H d = none ∧ Q (.ref (He.ga K x)) (some d) (upd (del H2 a) d (.xd fs))) E := by
  refine ⟨by show 1 ≤ 1000; decide, fun a na => ⟨a, v, rfl, upd_same, fun dx ndx ne => ⟨rfl, dx, [(f, v)], upd_same, by rw [upd_ne ne]; exact upd_same, by rw [upd_ne ne] at ndx; exact ndx, k dx _ upd_same fun b o hb => ?_⟩⟩⟩
  have n1 : b ≠ a := ne_of_none hb na
  have n2 : b ≠ dx := by
    rw [upd_ne ne] at ndx
    exact ne_of_none hb ndx
  rw [upd_ne n2, del_ne n1, upd_ne n1, upd_ne n2, upd_ne n1]
  exact hb
/-- e.n, e the exception that is handled: its class is told by the reading -/
def tXfA (K : PySem.W.Frag) (a : Addr) (cls : Value) (d : Option Addr) (n : Str) (te : TE) : TE := fun σ H Q => ∃ C, cls = .ref C ∧ XfC K C ∧ PySem.W.findIn K (.ref C) n = some none ∧ tXf a cls d C n te σ H Q
theorem pe_xfA {X : Cx} {K : PySem.W.Frag} {a : Addr} {oe : Obj} {cls : Value} {d : Option Addr} {e : Expr} {te : TE} {pos : Pos} {n : Str} (eK : X.K = K) (hz : L2N.Zn cls d oe) (hf : ∃ vs, oe.data = .fields vs) (hp : (a, oe) ∈ X.pn) (he : PE X e te)
    (hb : attributeBase e n X.env (eval e X.env) = eval e X.env := by rfl) : PE X (.Attribute e n pos) (tXfA K a cls d n te) := by
  subst eK
  refine ⟨fun pins s σ H Q I ⟨C, _, T, hno, h⟩ => ?_⟩
  refine attr_of hb (thn (he.run pins s σ H _ I h) fun u s1 hh => ?_)
  obtain ⟨x, H1, I1, rx, ex, ec, dd, fs, v, ed, ea, l, q⟩ := hh
  subst ex
  obtain rfl : u = Value.ref a := rx
  subst ec
  subst ed
  obtain ⟨ha, _⟩ := I1.pin (a, oe) (List.mem_append_left _ hp)
  obtain ⟨vs, hd⟩ := hf
  have hx : ObjOk X.prog X.w H1 s1.heap dd (.xd fs) := I1.hok dd _ ea
  obtain ⟨mA, hns, hr⟩ := hx
  obtain ⟨od, ho, hl⟩ := lookIn_ns hns
  obtain ⟨u, hu, ru⟩ := RelO.some_of (v := v) (o := mA n) (by rw [← l]; exact hr n)
  have hz := hz.zc
  have J : PySem.W.InstAt s1.heap a oe C (some od) := ⟨ha, hz.1, by unfold PySem.W.notCls; rw [hd] <;> rfl, by rw [hz.2]; exact ho⟩
  exact HandSPX.exc_get I1.kIn J T.ga T.gg T.exC (PySem.W.findObj_own T.hdC hno rfl (by rw [hl, hu])) (handed_of ru) ⟨v, H1, I1.tok _, ru, q⟩
/-! ### the head with getters and own exceptions -/
def asS (g : Addr → Option Obj) (n : Nat) : List Addr := cStatics :: He.asD g n
abbrev SuD : Type := Str × He.DefD × List Str
abbrev AlS : Type := He.AlD × (Bool × (List He.FnW × List FnS))
def obsK (fa : List He.Fa) (fn pr : List He.DefD) (su : List SuD) (file : Str) (xb : PySem.W.Frag → Bool) (K : PySem.W.Frag) : AlS :=
  (He.obsD fa fn K, ((xb K && (pr.all (fun d => propB K d) && su.all fun s => supB K file s.1 s.2.1 s.2.2)), (pr.map fun d => fnP K d.at_, su.map fun (s : SuD) => fnS K s.2.1.at_)))
def obsS (n : Nat) (fa : List He.Fa) (fn pr : List He.DefD) (su : List SuD) (file : Str) (xb : PySem.W.Frag → Bool) (g : Addr → Option Obj) : AlS := obsK fa fn pr su file xb (He.frG g (asS g n))
def hookS (n : Nat) (fa : List He.Fa) (fn pr : List He.DefD) (su : List SuD) (file : Str) (xb : PySem.W.Frag → Bool) : PySem.W.Hook where
  α := AlS
  obs := fun s => obsS n fa fn pr su file xb s.heap.get?
  val := fun _ => (He.valD fn, (true, (pr.map He.DefD.val, su.map fun (s : SuD) => valS s.2.1)))
  says := fun _ h => ∃ K : PySem.W.Frag, K.In h ∧ He.SaysD fa fn K ∧ (xb K && (pr.all (fun d => propB K d) && su.all fun s => supB K file s.1 s.2.1 s.2.2)) = true ∧ (pr.map fun d => fnP K d.at_) = pr.map He.DefD.val ∧ (su.map fun (s : SuD) => fnS K s.2.1.at_) = su.map fun (s : SuD) => valS s.2.1
  of := fun _ _ e => ⟨_, He.frG_in, congrArg Prod.fst e, congrArg (fun z : AlS => z.2.1) e, congrArg (fun z : AlS => z.2.2.1) e, congrArg (fun z : AlS => z.2.2.2) e⟩
  keeps := fun _ _ _ ⟨K, hK, c⟩ k => ⟨K, PySem.W.Frag.In.keeps hK k, c⟩
theorem obsS_eq {n : Nat} {fa : List He.Fa} {fn pr : List He.DefD} {su : List SuD} {file : Str} {xb : PySem.W.Frag → Bool} {g : Addr → Option Obj} {s : Shared} (h : ∀ a, g a = s.heap.get? a) : obsS n fa fn pr su file xb g = (hookS n fa fn pr su file xb).obs s := by
  have e : g = s.heap.get? := funext h
  rw [e] <;> rfl
end My

set_option Elab.async false
set_option linter.all false
set_option maxRecDepth 100000
set_option maxHeartbeats 4000000
namespace My
open PySem PySem.Spec PyProof.Rows L2
/-- a keyword-only parameter's default, if it is an object -/
def kwdAt (f : Str × Option Str) (x : Str) (K : PySem.W.Frag) : Addr := match K.lookup (He.fAd K f) with
  | some ⟨_, _, .func fd, _⟩ => (match fd.kwdefaults with
    | .ref D => (match PySem.W.nsIn K D x with
      | some (some (.ref a)) => a
      | _ => 0)
    | _ => 0)
  | _ => 0
/-- a class that may be called with keywords -/
structure CalKw (P : Program) (w : World) (K : PySem.W.Frag) (mg : Str → Option Value) (base : Heap) (CX : CXT) (k : Nat) (x : Str) (C : Addr) (n : Nat) (ks : List Str) (gV : List V → List V → List V) (ps : List Str) (sp : Sp) : Prop where
  g : mg x = some (.ref C)
  ex : ∃ f fd g, Mk K C f ∧ FnOk P w K mg base CX k f fd ps sp ∧ KBn K fd ps (n + 1) ks g gV
def tMakeKS (C : Addr) (n m : Nat) (sp : Sp) (gV : List V → List V → List V) (W : WX) (t tk : TA) : TE := fun σ H Q => t σ H fun vs H1 => tk σ H1 fun zs H2 => vs.length = n ∧ zs.length = m ∧ ∀ x dx, H2 x = none → H2 dx = none → dx ≠ x →
  sp (gV (.ref x :: vs) zs) (upd (upd H2 dx (.own x)) x (.ins C dx [])) (fun v H3 => v = .non ∧ Q (.ref x) H3) (WE W σ)
section
variable {X : Cx} {k n : Nat} {C : Addr} {ps ks : List Str} {sp : Sp} {W : WX} {x : Str} {p pos : Pos} {e : Expr} {es : List Expr} {kws : List Keyword} {t tkk : TA} {gV : List V → List V → List V}
theorem pcS_makeK (c : CalKw X.prog X.w X.K X.mg X.base (L2N.CX X.prog X.w) k x C n ks gV ps sp) (hr : Room (k + 1) X.A) (tk : L2N.Takes X W) (ha : PA X (e :: es) t) (hkw : PK X kws tkk) (hg : Gl X x := by rfl)
    (hall : (backToKw pos (keywordEach kws X.env)).all (·.1.isSome) = true := by rfl) (hks : (backToKw pos (keywordEach kws X.env)).filterMap (·.1) = ks := by rfl) (hdb : (x == ("__debug__" : Str)) = false := by decide)
    (he : starEach (e :: es) X.env = (false, eval e X.env) :: starEach es X.env := by rfl) (hpl : ((backTo pos (starEach (e :: es) X.env)).any (·.1) || (backToKw pos (keywordEach kws X.env)).any (·.1.isNone)) = false := by rfl) :
    PE X (.Call (.Name x p) (e :: es) kws pos) (tMakeKS C n ks.length sp gV W t tkk) := by
  obtain ⟨f, fd, g, M, F, hb⟩ := c.ex
  refine ⟨fun pins s σ H Q I h => ?_⟩
  refine wpAny_Call_Name_kw (ld_glob I hg c.g ?_ hdb)
  refine PySem.W.callWith_KW (h₀ := X.base) I.ok.mod.kin M.kp hall (thn (ha.run pos pins s σ H _ I h) fun us s1 ⟨vs, H1, I1, r, q⟩ => ?_) hpl he
  refine thn (hkw.run pos pins s1 σ H1 _ I1 q) fun ws s2 ⟨zs, H2, I2, rz, l1, l2, q2⟩ => ⟨I2.kIn, ?_⟩
  rw [hks]
  have q3 := q2 (s2.heap.objs.size + 1) s2.heap.objs.size (I2.hok.fresh (Nat.le_succ _)) (I2.hok.fresh (Nat.le_refl _)) (Nat.ne_of_lt (Nat.lt_succ_self _))
  have J := Inv.made (C := C) I2
  have r1 : Vals (V.ref (s2.heap.objs.size + 1) :: vs) (Value.ref (s2.heap.objs.size + 1) :: us) := .cons rfl r
  have n1 : (Value.ref (s2.heap.objs.size + 1) :: us).length = n + 1 := by rw [List.length_cons, ← r.length, l1]
  refine wpAny_call (make_map (f := f) I2.kIn M.makes M.init (beq_iff_eq.mp M.fn) (codeAny_mono (F.run _ X.stack _ _ ⟨Value.ref (s2.heap.objs.size + 1) :: us, ks.zip ws⟩ (g (Value.ref (s2.heap.objs.size + 1) :: us) ws) _ _ (WE W σ) (hr.make C us (ks.zip ws))
    (J.env0.make C us (ks.zip ws)) (hb.to _ (Value.ref (s2.heap.objs.size + 1) :: us) ws J.kIn n1 (rz.length.symm.trans l2)) (hb.rel r1 rz) q3) fun r s' hq' => ?_))
  cases r with
  | error e => exact L2N.passAt tk σ pins _ _ e s' J hq'
  | ok fl =>
    cases fl with
    | ret u =>
      obtain ⟨v, H', I3, rv, ev, q4⟩ := J.after hq'
      subst ev
      exact ⟨rv, ⟨V.ref (s2.heap.objs.size + 1), H', I3, rfl, q4⟩⟩
    | next => exact False.elim hq'
    | brk => exact False.elim hq'
    | cont => exact False.elim hq'
end
end My

set_option Elab.async false
set_option linter.all false
set_option maxRecDepth 100000
set_option maxHeartbeats 4000000
/-! enumerate over a text; written constants -/
namespace My
open PySem PySem.Spec PyProof.Rows L2
/-- a module's constant -/
theorem pe_globS {X : Cx} {x z : Str} {pos : Pos} (hg : Gl X x) (hm : ∃ t, X.mg x = some (.str z t)) (hd : (x == ("__debug__" : Str)) = false := by decide) : PE X (.Name x pos) (tC (.str z)) := by
  obtain ⟨t, hm⟩ := hm
  exact pe_glob hg hm ⟨t, rfl⟩ hd
theorem pe_globI {X : Cx} {x : Str} {i : Int} {pos : Pos} (hg : Gl X x) (hm : ∃ t, X.mg x = some (.int i t)) (hd : (x == ("__debug__" : Str)) = false := by decide) : PE X (.Name x pos) (tC (.int i)) := by
  obtain ⟨t, hm⟩ := hm
  exact pe_glob hg hm ⟨t, rfl⟩ hd
/-- the text z, each sign in a new pair -/
def IteS (z : Str) : It :=
  ⟨fun i _ => i < z.cps.size, fun i H v H' => ∃ T c, v = .ref T ∧ H T = none ∧ z.cps.toList[i]? = some c ∧ H' = upd H T (.tup [.int (i : Nat), .str ⟨#[c]⟩]), fun i _ => i = z.cps.size⟩
theorem turn_enumS {P : Program} {w : World} {K : PySem.W.Frag} {elts : List Expr} {kk : Nat} {tpos : Pos} (z : Str) (t : Tok) (e it : Addr) :
    Turn P w K (.Tuple elts kk tpos) (IteS z) [e, it] e (fun i h => (∃ old, IsEnum h e it ((i : Nat) : Int) old) ∧ h.IsStrIter it (strIterType z) z t i ∧ e ≠ it) where
  mem := by simp
  obj := fun i h st b hb => by
    obtain ⟨⟨old, he⟩, ⟨o, ho, hc, hd⟩, _⟩ := st
    have e' : b = e ∨ b = it := by simpa using hb
    rcases e' with z | z
    · rw [z]; exact ⟨_, he, fun v q => nomatch q⟩
    · rw [z]; exact ⟨o, ho, fun v q => by rw [hd] at q; cases q⟩
  keep := fun i h h' st k => let ⟨⟨old, he⟩, ⟨o, ho, r⟩, hne⟩ := st; ⟨⟨old, k e (by simp) _ he⟩, ⟨o, k it (by simp) o ho, r⟩, hne⟩
  item := by
    intro X hP hw hK hc i pins s σ H E I hf st hg
    subst hP hw hK
    obtain ⟨⟨old, he⟩, hit, hne⟩ := st
    have hlt : i < z.cps.size := hg
    have hel : e < s.heap.objs.size := Heap.lt_size he
    have hil : it < s.heap.objs.size := by obtain ⟨_, q, _⟩ := hit; exact Heap.lt_size q
    have D := Draws.text (prog := X.prog) (w := X.w) (A := X.A.in1) (show X.A.in1.handled = none from I.ok.hd hc) it z t
    refine wpAny_pyNext_enum_itemD D he hit hlt hne (by simpa using hne) fun x' h' tk hxi ho hst hT hsz hk => ?_
    obtain ⟨c, u, hc', ex⟩ := hxi
    subst ex
    have hc2 : z.cps.toList[i]? = some c := by simpa using hc'
    refine ⟨_, rfl, wpAny_letOwnedTupleGo_enum (s := { s with heap := h', toks := tk + 1 }) ho fun h'' he' sb => ?_⟩
    have hT2 : h''.get? s.heap.objs.size = some { cls := .type "tuple", data := .seq #[.int i tk, .str ⟨#[c]⟩ u] } := (sb.2 _ (Nat.ne_of_gt hel)).trans hT
    have new : ObjOk X.prog X.w (upd H s.heap.objs.size (.tup [.int (i : Nat), .str ⟨#[c]⟩])) h'' s.heap.objs.size (.tup [.int (i : Nat), .str ⟨#[c]⟩]) :=
      ⟨by show 2 ≤ sizeLine; decide, [.int i tk, .str ⟨#[c]⟩ u], .cons ⟨_, rfl⟩ (.cons ⟨_, rfl⟩ .nil), ⟨_, hT2, rfl, _, rfl⟩⟩
    have I1 : Inv X pins σ (upd H s.heap.objs.size (.tup [.int (i : Nat), .str ⟨#[c]⟩])) { s with heap := h'', toks := tk + 1 } :=
      I.turnedNew (ch := [e, it]) (fun b ob hb q => (sb.2 b (fun z => hb (by simp [z]))).trans (hk b ob (fun z => hb (by simp [z])) (fun z => hb (by simp [z])) q)) hf (Nat.le_refl _) new
    refine ⟨.ref s.heap.objs.size, _, I1, rfl, ⟨_, c, rfl, I.hok.fresh (Nat.le_refl _), hc2, rfl⟩, ⟨⟨.str ⟨#[c]⟩ u, ?_⟩, ?_, hne⟩, fun b hb => ?_⟩
    · have e1 : ((i + 1 : Nat) : Int) = (i : Int) + 1 := by omega
      rw [e1]; exact he'
    · obtain ⟨o, ho', r⟩ := hst
      exact ⟨o, (sb.2 it (Ne.symm hne)).trans ho', r⟩
    · have hb' : b < s.heap.objs.size := by
        have e' : b = e ∨ b = it := by simpa using hb
        rcases e' with z | z
        · rw [z]; exact hel
        · rw [z]; exact hil
      rw [upd_ne (Nat.ne_of_lt hb')]
      exact (hf b hb).1
  done := by
    intro X hP hw hK hc i pins s σ H E I hf st hg
    subst hP hw hK
    obtain ⟨⟨old, he⟩, hit, hne⟩ := st
    have D := Draws.text (prog := X.prog) (w := X.w) (A := X.A.in1) (show X.A.in1.handled = none from I.ok.hd hc) it z t
    obtain ⟨f0, f1, f2, f3, f4, f5⟩ := hf it (by simp)
    have hg : i = z.cps.size := hg
    subst hg
    exact wpAny_pyNext_enum_endD D he hit fun h' eb => ⟨rfl, I.turned (t' := s.toks) (fun b o hb q => eb b o hb q) f0 f1 f3 f4 f5⟩
  self := fun A i s Q E st h => let ⟨⟨_, he⟩, _⟩ := st; wpAny_pyIter_enum he h
def iEnumS (ta : TA) : TI := fun σ H R => ta σ H fun vs H1 => ∃ z, vs = [.str z] ∧ R (IteS z) H1
theorem pi_enumS {X : Cx} {e : Expr} {ta : TA} {p pos tpos : Pos} {elts : List Expr} {kk : Nat} (hg : Gl X "enumerate") (hm : X.mg "enumerate" = none) (ha : PA X [e] ta) (hs : starEach [e] X.env = [(false, eval e X.env)] := by rfl) :
    PI X (.Tuple elts kk tpos) (.Call (.Name "enumerate" p) [e] [] pos) (iEnumS ta) := by
  refine ⟨fun pins s σ H R I h => ?_⟩
  refine Call_ (ld_blt I hg hm boot_enumerate (PyProof.Rows.callWith_type1 (thn (ha.run pos pins s σ H _ I h) fun us s1 ⟨vs, H1, I1, r1, q1⟩ => ?_) hs rfl))
  obtain ⟨z, ex, q⟩ := q1
  subst ex
  cases r1 with
  | cons r rr =>
    cases rr
    obtain ⟨t, rfl⟩ := r
    refine call_enumerate_str fun h' he hit hsz hk => wpAny_pyIter_enum he ?_
    have I2 : Inv X pins σ H1 { s1 with heap := h' } := I1.kept (t' := s1.toks) hk
    refine ⟨s1.heap.objs.size + 1, [s1.heap.objs.size + 1, s1.heap.objs.size], _, _, H1, rfl, I2, turn_enumS z t (s1.heap.objs.size + 1) s1.heap.objs.size, ⟨⟨.none, he⟩, hit, Nat.succ_ne_self _⟩, fun b hb => ?_, q⟩
    have e' : b = s1.heap.objs.size + 1 ∨ b = s1.heap.objs.size := by simpa using hb
    have hle : s1.heap.objs.size ≤ b := by
      rcases e' with z | z
      · rw [z]; exact Nat.le_add_right _ _
      · rw [z]; exact Nat.le_refl _
    exact I1.fpOk hle (I1.hok.fresh hle)
theorem walk_enumS {z : Str} : Walk (IteS z) z.cps.size (fun _ => True) (fun i H v H' => ∃ T c, v = .ref T ∧ H T = none ∧ z.cps.toList[i]? = some c ∧ H' = upd H T (.tup [.int (i : Nat), .str ⟨#[c]⟩])) :=
  ⟨fun i _ hi _ => hi, fun _ _ => rfl, fun i H v H' _ _ y => y⟩
end My

set_option Elab.async false
set_option linter.all false
set_option maxRecDepth 100000
set_option maxHeartbeats 4000000
/-! sorted(t) of a tuple t of nested data -/
namespace My
open PySem PySem.Calls PySem.Spec PyProof.Rows PySem.W L2
section
variable {prog : Program} {w : World} {A : Around} {E : Value → Shared → Prop} {s : Shared}
theorem collect_tupT {l : Addr} {vs : List Value} {Q : List Value → Shared → Prop} (hl : IsTup s.heap l vs.toArray)
    (h : Q vs { s with heap := (s.heap.push (seqObj "list" #[] 0)).update s.heap.objs.size (Obj.mapSeq (· ++ vs.toArray)) }) (hsz : vs.length ≤ sizeLine) :
    wpAny (model prog w) A (collect (.ref l)) Q E s := by
  obtain ⟨o, ho, hc, n, hd⟩ := id hl
  unfold collect
  refine wpAny_bind (wpAny_runValue (codeAny_builtin entry_proto_collect' ?_))
  show wpAny _ _ (do again (.builtin "list.__iadd__" ⟨[← newList [], .ref l], []⟩)) _ _ s
  refine wpAny_bind (wpAny_newList (wpAny_pure ⟨Code.quiet_builtin _ (by decide +kernel), codeAny_builtin entry_list_iadd' ?_⟩))
  show wpAny _ _ (Builtin.List.listExtendWith (.ref s.heap.objs.size) (.ref l) (.ref s.heap.objs.size)) _ _ { s with heap := s.heap.push (seqObj "list" #[] 0) }
  unfold Builtin.List.listExtendWith
  have ho' : (s.heap.push (seqObj "list" #[] 0)).get? l = some o := Heap.get?_push_of_some _ ho
  refine wpAny_bind (wpAny_typeOf (T := "tuple") ⟨o, ho', hc⟩ ?_)
  rw [if_pos (by rw [show (Value.type "tuple" == Value.type "tuple") = true from rfl]; simp)]
  refine wpAny_bind (listItems_at ho' hd ?_)
  refine wpAny_bind (listItems_at (xs := #[]) (n := 0) (Heap.get?_push_size _ rfl) rfl ?_)
  rw [if_neg (by simp)]
  refine wpAny_bind (listUpdate_at (xs := #[]) (n := 0) (Heap.get?_push_size _ rfl) rfl ?_ (Nat.zero_le _) (by show (#[] ++ vs.toArray).size ≤ sizeLine + 1; simp only [Array.size_append, List.size_toArray, List.length_nil]; omega))
  refine wpAny_pure ?_
  refine wpAny_bind (wpAny_load (get?_update_seq (Heap.get?_push_size _ rfl) _) ?_)
  show wpAny _ _ (pure ((#[] : Array Value) ++ vs.toArray).toList) Q E _
  rw [show ((#[] : Array Value) ++ vs.toArray).toList = vs by simp]
  exact wpAny_pure h
theorem sorted_tupT {l : Addr} {vs : List Value} {κ : PyProof.Rows.KeyKind} {Q : Value → Shared → Prop} (hl : IsTup s.heap l vs.toArray) (S : SortsAt prog w A.in1.in1 { s with heap := sortingHeap (copyHeap s.heap vs) (s.heap.objs.size + 1) vs } κ vs) (hL : vs.length ≤ sizeLine)
    (h : Q (.ref (s.heap.objs.size + 1)) { s with heap := sortedAll s.heap vs (sortVals κ false vs vs).toArray }) : wpAny (model prog w) A (call (.builtin "sorted") [.ref l]) Q E s := by
  refine call_function_entry_kw kind_sorted plain_sorted entry_sorted (args_sorted1 _) ?_
  unfold Builtin.«sorted»
  refine wpAny_bind (m := checkCount "sorted" 1 1 _) (wpAny_pure ?_)
  refine wpAny_bind (collect_tupT hl ?_ hL)
  refine wpAny_bind (wpAny_newList ?_ hL)
  have hsz : ((s.heap.push (seqObj "list" #[] 0)).update s.heap.objs.size (Obj.mapSeq (· ++ vs.toArray))).objs.size = s.heap.objs.size + 1 := by
    rw [Heap.size_update, size_push']
  show wpAny _ _ _ _ _ { s with heap := copyHeap s.heap vs }
  rw [hsz]
  refine wpAny_bind (wpAny_holding (wpAny_call_entry_kw slot_list_sort ⟨_, copyHeap_at s.heap vs, rfl⟩ entry_list_sort ?body (args_list_sort _)))
  case body =>
    show wpAny (model prog w) A.in1.in1 (Builtin.«list.sort» ⟨[.ref (s.heap.objs.size + 1)], []⟩) _ _ _
    refine wpAny_mono (list_sort_vals (P := fun f s' => f = .done (.ret .none) ∧ Q (.ref (s.heap.objs.size + 1)) s') (s := { s with heap := copyHeap s.heap vs }) (copyHeap_at s.heap vs) S hL ⟨rfl, h⟩) (fun f s' hf => ?_) fun _ _ e => e
    obtain ⟨rfl, hq⟩ := hf
    exact ⟨_, rfl, wpAny_pure ⟨_, rfl, hq⟩⟩
theorem sorted_dataT {β : Type} {l : Addr} {vs : List Value} {bs : List β} {enc : β → PyData} {R : Value → β → Prop} {Q : Value → Shared → Prop} (hl : IsTup s.heap l vs.toArray) (e : EachIs R vs bs) (er : EachIs (fun v b => ∃ as, Reads s.heap v (enc b) as) vs bs) (hal : AllAlike (bs.map enc)) (hk : Sortable (bs.map enc)) (hL : bs.length ≤ sizeLine)
    (hu : ∀ b, b ∈ bs → A.units + 2 + (enc b).depth < cLine) (h : ∀ out, out.length = bs.length → EachIs R out (bs.mergeSort (dataLe false enc)) → Q (.ref (s.heap.objs.size + 1)) { s with heap := sortedAll s.heap vs (List.toArray out) }) :
    wpAny (model prog w) A (call (.builtin "sorted") [.ref l]) Q E s := by
  have er' : EachIs (fun v b => ∃ as, Reads (sortingHeap (copyHeap s.heap vs) (s.heap.objs.size + 1) vs) v (enc b) as) vs bs := er.mono fun _ _ ⟨as, r⟩ => ⟨as, PyProof.Rows.Reads.keeps (fun _ _ => sorting_copy_old) r⟩
  exact sorted_tupT hl (SortsAt.data (s := { s with heap := sortingHeap (copyHeap s.heap vs) (s.heap.objs.size + 1) vs }) (each_map (R := fun v d => ∃ as, Reads (sortingHeap (copyHeap s.heap vs) (s.heap.objs.size + 1) vs) v d as) enc er') hal hk (bound_map hu)) (by rw [e.length]; exact hL)
    (h _ (by rw [sortVals_length false rfl]; exact e.length) (sortVals_data false e er' hal))
end
/-- sorted(t), t a tuple of data, each beside its value -/
def rSortDT (K : PySem.W.Frag) : List V → Hp → VK → Prop := fun vs H Q => ∃ (a : Addr) (bs : List (V × PyData)), vs = [.ref a] ∧ SqT K H a (bs.map Prod.fst) ∧ (∀ b ∈ bs, Dp K H b.1 b.2) ∧ PySem.W.AllAlike (bs.map Prod.snd) ∧ PySem.W.Sortable (bs.map Prod.snd) ∧ (∀ b ∈ bs, b.2.depth ≤ 100) ∧
  ∀ p, H p = none → Q (.ref p) (upd H p (.lst ((bs.mergeSort (PySem.W.dataLe false Prod.snd)).map Prod.fst)))
theorem cr_sortedDT {X : Cx} {k : Nat} (hr : Room k X.A) : CallR X (.builtin "sorted") (rSortDT X.K) := by
  have hu : X.A.units + 200 < cLine := by have := hr.un; omega
  intro pins s σ H vs us Q I r h
  obtain ⟨a, bs, rfl, hS, hD, hal, hk, hd, q⟩ := h
  rw [Vals.ref1 r]
  obtain ⟨its, rv, pl, hz⟩ := I.tuple hS
  have hl : bs.length = its.length := by rw [← rv.length, List.length_map]
  refine sorted_dataT (R := fun u (b : V × PyData) => RelV b.1 u) (enc := Prod.snd) pl (each_of_vals rv) (each_reads I hD rv) hal hk (by simpa [hl] using hz) (fun b hb => by have := hd b hb; omega) fun out ho eo => ?_
  obtain ⟨c, hc⟩ := sortedAll_at s.heap its out.toArray
  have hn : H (s.heap.objs.size + 1) = none := I.hok.fresh (Nat.le_succ _)
  have rv2 := vals_of_each (f := Prod.fst) eo
  refine ⟨.ref (s.heap.objs.size + 1), upd H (s.heap.objs.size + 1) (.lst ((bs.mergeSort (PySem.W.dataLe false Prod.snd)).map Prod.fst)), I.laid (t' := s.toks) (fun _ _ => sortedAll_old) (Nat.le_succ _) ⟨?_, out, c, rv2, hc⟩, rfl, q _ hn⟩
  rw [List.length_map, List.length_mergeSort]
  simpa [hl] using hz
theorem takes2 {X : Cx} : L2.Takes X (fun _ _ _ _ => False) := fun u s' x => by
  obtain ⟨a, B, sI, pins, σ, H, cls, d, e, I, nb, up, sky, na, os, ag, w⟩ := x
  exact w.elim
/-- text * n: so many signs -/
def rRepS : R2 := fun x y H Q => ∃ (z : Str) (n : Int), x = .str z ∧ y = .int n ∧ 1 ≤ z.length ∧ z.length ≤ 1000 ∧ 2 ≤ n ∧ n ≤ 1000 ∧ ∀ z' : Str, z'.length = n.toNat * z.length → Q (.str z') H
theorem fold_size {α : Type} (a : Array α) : ∀ (m : Nat) (b : Array α), ((List.replicate m a).foldl (· ++ ·) b).size = b.size + m * a.size
  | 0, b => by simp
  | m + 1, b => by
    rw [List.replicate_succ, List.foldl_cons, fold_size a m, Array.size_append, Nat.succ_mul]
    omega
theorem op_repS {X : Cx} : OpR X (binaryOp .Mult) rRepS := by
  intro pins s σ H x y v u Q I rx ry h
  obtain ⟨z, n, rfl, rfl, z1, z2, n1, n2, q⟩ := h
  obtain ⟨t, rfl⟩ := rx
  obtain ⟨t', rfl⟩ := ry
  have hm : n.toNat * z.length ≤ 1000 * 1000 := Nat.mul_le_mul (by omega) z2
  have hi : n * (z.length : Int) ≤ 1000 * 1000 := Int.mul_le_mul n2 (by omega) (by omega) (by omega)
  have hne : (n == 1 || z.length == 0) = false := by
    rw [beq_eq_false_iff_ne.mpr (by omega : n ≠ 1), beq_eq_false_iff_ne.mpr (by omega : z.length ≠ 0)]
    rfl
  have sl : (⟨(List.replicate n.toNat z.cps).foldl (· ++ ·) #[]⟩ : Str).length = n.toNat * z.length := by
    show ((List.replicate n.toNat z.cps).foldl (· ++ ·) #[]).size = _
    rw [fold_size, Array.size_empty, Nat.zero_add]
    rfl
  refine PySem.P.mul_str (by rw [decide_eq_false (by omega), decide_eq_false (by omega)]; rfl) (fun _ _ => ?_) (fun _ _ => ?_) ?_
  · have : (z.length : Int) ≤ (2 ^ 63 - 1) / n := Int.le_ediv_of_mul_le (by omega) (by rw [Int.mul_comm]; omega)
    omega
  · show decide (z.length * n.toNat > sizeLine) = false
    rw [sizeLine_eq, Nat.mul_comm]
    exact decide_eq_false (by omega)
  · rw [if_neg (by omega), if_neg (by rw [hne]; decide)]
    exact ⟨by rw [sl, sizeLine_eq]; omega, .str _, H, I.tok _, ⟨_, rfl⟩, q _ sl⟩
end My

set_option Elab.async false
set_option linter.all false
set_option maxRecDepth 100000
set_option maxHeartbeats 4000000
/-! defs with *args, classes made with any number of arguments, own __iter__ over a list, exceptions with two fields -/
namespace My
open PySem PySem.Spec PyProof.Rows L2 NdefX
/-! ### exceptions with two fields -/
section
variable {P : Program} {w : World} {K : PySem.W.Frag} {mg : Str → Option Value} {base : Heap} {file x f g : Str} {d : He.DefD} {fs : List Str} {z : Str} {kk : Nat} {p0 p1 p2 p3 p4 p5 q0 q1 q2 q3 r0 r1 r2 r3 : Pos}
theorem ini2 {ar : Arg} (E : ExI K file x d fs) (hP : PrOk P file) (hs : mg "super" = none) (S : NScope ["self", f, g, "__class__"] ["self", f, g] ["__class__"] d.scope) (hf : f ∈ fs) (hg : g ∈ fs)
    (hbd : d.body = [.Expr (supS z kk p0 p1 p2 p3 p4) p5, .Assign [.Attribute (.Name "self" q0) f q1] (.Name f q2) q3, .Assign [.Attribute (.Name "self" r0) g r1] (.Name g r2) r3])
    (hp : (d.params.posonlyargs ++ d.params.args).head? = some ar) (har : ar.arg = "self") (hks : d.scope.names.lookup ("super" : Str) = some .globalImplicit)
    (hd : (f == ("__debug__" : Str)) = false) (hcd : (f == ("__classdict__" : Str)) = false) (hd2 : (g == ("__debug__" : Str)) = false) (hcd2 : (g == ("__classdict__" : Str)) = false)
    (hE : ∀ L, SupE (envF (supNF K d) (He.fAd K d.at_) L) z kk p0 p1 p2 p3 p4 p5.line) (hsw : ∀ L, swapsWith (.Name f q2) (some (.Attribute (.Name "self" q0) f q1)) q3.line (envF (supNF K d) (He.fAd K d.at_) L) = pure false)
    (hsw2 : ∀ L, swapsWith (.Name g r2) (some (.Attribute (.Name "self" r0) g r1)) r3.line (envF (supNF K d) (He.fAd K d.at_) L) = pure false)
    (hb : ∀ doc pm ctv (us : List Value), us.length = 3 → bindArgs ((supNF K d).fd doc pm ctv) ⟨us, []⟩ = pure ((["self", f, g] : List Str).zip us)) :
    ∃ fd, FnOk P w K mg base CX0 1 (He.fAd K d.at_) fd ["self", f, g] (spI2 K x f g) ∧ Binds K fd ["self", f, g] [] := by
  obtain ⟨doc, pm, ctv, oc, od, osl, hfn⟩ := E.fn
  have nd : (["self", f, g] : List Str).Nodup := S.nd.sublist (show (["self", f, g] : List Str).Sublist (["self", f, g, "__class__"] : List Str) from List.take_sublist 3 (["self", f, g, "__class__"] : List Str))
  refine ⟨_, fn_super (rest := [.Assign [.Attribute (.Name "self" q0) f q1] (.Name f q2) q3, .Assign [.Attribute (.Name "self" r0) g r1] (.Name g r2) r3]) E.sup ⟨oc, od, osl, hfn⟩ S hbd hP.file hP.top hs hp (by rw [har]; rfl) nd hks (fun L => (hE L).i) (fun L => (hE L).sw) (fun L => (hE L).ev) (fun L => (hE L).st) (fun vs H Q E h => ?_) (fun A outer s H vs Q E' hr h => ?_), .all fun us hl => hb doc pm ctv us hl⟩
  · obtain ⟨a, v, u, rfl, _⟩ := h
    rfl
  · obtain ⟨a, v, u, rfl, ha, k⟩ := h
    refine ⟨a, [v, u], rfl, ha, _, pss_cons (ps_ost (pe_var (i := 0) rfl (.inl (S.par _ (by simp)))) (pe_var (i := 1) rfl (.inl (S.par _ (by simp))) hd hcd) (hsw _)) (pss_cons (ps_ost (pe_var (i := 0) rfl (.inl (S.par _ (by simp)))) (pe_var (i := 2) rfl (.inl (S.par _ (by simp))) hd2 hcd2) (hsw2 _)) pss_nil), ?_⟩
    refine ⟨_, rfl, _, rfl, a, He.ga K x, rfl, E.sup.oex, E.nof f hf, .inl ⟨ha, fun dx n ne => ?_⟩⟩
    refine ⟨_, rfl, _, rfl, a, He.ga K x, rfl, E.sup.oex, E.nof g hg, .inr ⟨dx, [(f, v)], upd_same, by rw [upd_ne ne]; exact upd_same, by show 1 ≤ 900; decide, ?_⟩⟩
    refine k dx _ n ne (by rw [upd_ne (Ne.symm ne)]; exact upd_same) upd_same fun b n1 n2 => ?_
    rw [upd_ne n2, upd_ne n1, upd_ne n2]
end
/-- what a raised exception with two fields leaves -/
theorem raised2 {K : PySem.W.Frag} {x f g : Str} {H : Hp} {v u : V} {Q : XK} (k : ∀ dx Hf, Hf dx = some (.xd [(g, u), (f, v)]) → Same H Hf → Q (.ref (He.ga K x)) (some dx) Hf) :
    [v, u].length ≤ 1000 ∧ ∀ a, H a = none → spI2 K x f g (.ref a :: ([v, u] ++ [])) (upd H a (exo a (He.ga K x) none)) (fun y H2 => y = .non ∧ ∃ (d : Addr) (fs : List (Str × V)), H2 a = some (exo a (He.ga K x) (some d)) ∧ H2 d = some (exd d fs) ∧ H d = none ∧ Q (.ref (He.ga K x)) (some d) (upd (del H2 a) d (.xd fs))) (fun _ _ _ => False) := by
  refine ⟨by show 2 ≤ 1000; decide, fun a na => ⟨a, v, u, rfl, upd_same, fun dx H' ndx ne ha hd hb => ⟨rfl, dx, [(g, u), (f, v)], ha, hd, by rw [upd_ne ne] at ndx; exact ndx, k dx _ upd_same fun b o hbo => ?_⟩⟩⟩
  have n1 : b ≠ a := ne_of_none hbo na
  have n2 : b ≠ dx := by
    rw [upd_ne ne] at ndx
    exact ne_of_none hbo ndx
  rw [upd_ne n2, del_ne n1, hb b n1 n2, upd_ne n1]
  exact hbo
/-! ### def f(.., *v) -/
theorem cxUpN {P : Program} {w : World} : StX.CXUp (L2N.CX P w) := by
  rintro outer s H s2 H2 E e s' un kp ho ⟨a, B, H', cls, d, ea, fl, hok, ub, na, os, ag, he⟩
  refine ⟨a, B, H', cls, d, ea, fl, hok, ⟨fun b o q n hb => ub.keep b o (kp b o q) (un.free b o q n (by simp)) hb, fun b o q hb => ub.slot b o (kp b o q) hb, fun b o q n => ub.free b o (kp b o q) (un.free b o q n (by simp)),
    fun b o q hb => ub.there b o (kp b o q) hb, fun b xs q => ub.tups b xs (un.tups b xs q), fun b o xs q => ub.frzs b o xs (un.frzs b o xs q), fun b ps q => ?_⟩, na, os.trans ho, ag, he⟩
  obtain ⟨m1, e1⟩ := un.tbls b ps q
  obtain ⟨m2, e2⟩ := ub.tbls b _ e1
  exact ⟨m1 ++ m2, by rw [e2, Array.append_assoc]⟩
section
variable {P : Program} {w : World} {K : PySem.W.Frag} {mg : Str → Option Value} {base : Heap} {x qual : Str} {params : Arguments} {body : List Stmt} {scope : Scope} {f : Addr} {fd : FuncData}
theorem FunD.star {CX : CXT} {N ps : List Str} {pv : Str} {k : Nat} {sp : Sp} (F : FunD K x qual params body scope [] [] f fd) (S : FnScope N (ps ++ [pv]) scope) (hCX : StX.CXUp CX)
    (hb : ∀ (kV doc pm : Value) (an : Option Addr) (cdv ct : Value) (us rest : List Value), us.length = ps.length → bindArgs (PySem.W.fnOf x qual params body scope .none kV doc pm an cdv ct) ⟨us ++ rest, []⟩ = (newTuple rest >>= fun t => pure (ps.zip us ++ [(pv, t)])))
    (hbody : ∀ (cdv : Value) (A : Around) (outer : List Env) (s : Shared) (H : Hp) (vs : List V) (Q : VK) (E : XK), Room k (A.deeper (envOfC qual scope s.heap.objs.size f cdv)) → sp vs H Q E →
      ∃ t, PSs (cxOf CX P w K mg base N qual scope f cdv A outer s H E) body t ∧ t { nx := fun _ H' => Q .non H', rt := Q } (start N vs) H) :
    FnR P w K mg base CX (k + 1) f (fun vs H Q E => ∃ ws rest, vs = ws ++ rest ∧ ws.length = ps.length ∧ rest.length ≤ sizeLine ∧ ∀ p, H p = Option.none → sp (ws ++ [V.ref p]) (upd H p (.tup rest)) Q E) := by
  obtain ⟨oc, od, dV, kV, doc, pm, an, cdv, ct, osl, rfl, lk, hcd, hD, hK⟩ := F.ex
  rcases hD with ⟨_, rfl⟩ | ⟨e, _⟩
  · exact StX.fn_star lk hcd S hCX (fun us rest hl => hb kV doc pm an cdv ct us rest hl) fun A outer s H vs Q E hr hsp => hbody cdv A outer s H vs Q E hr hsp
  · exact absurd rfl e
end
/-- a class that is made with any number of arguments -/
structure CalR (P : Program) (w : World) (K : PySem.W.Frag) (mg : Str → Option Value) (base : Heap) (CX : CXT) (k : Nat) (x : Str) (C : Addr) (sp : Sp) : Prop where
  g : mg x = some (.ref C)
  ex : ∃ f, Mk K C f ∧ FnR P w K mg base CX k f sp
def tMakeRS (C : Addr) (sp : Sp) (W : WX) (t : TA) : TE := fun σ H Q => t σ H fun vs H1 => ∀ x dx, H1 x = none → H1 dx = none → dx ≠ x →
  sp (.ref x :: vs) (upd (upd H1 dx (.own x)) x (.ins C dx [])) (fun v H2 => v = .non ∧ Q (.ref x) H2) (WE W σ)
theorem pcS_makeR {X : Cx} {k : Nat} {C : Addr} {sp : Sp} {W : WX} {x : Str} {p pos : Pos} {e : Expr} {es : List Expr} {t : TA} (c : CalR X.prog X.w X.K X.mg X.base (L2N.CX X.prog X.w) k x C sp) (hr : Room (k + 1) X.A) (tk : L2N.Takes X W) (ha : PA X (e :: es) t) (hg : Gl X x := by rfl) (hdb : (x == ("__debug__" : Str)) = false := by decide)
    (he : starEach (e :: es) X.env = (false, eval e X.env) :: starEach es X.env := by rfl) (hpl : (backTo pos (starEach es X.env)).any (·.1) = false := by rfl) : PE X (.Call (.Name x p) (e :: es) [] pos) (tMakeRS C sp W t) := by
  obtain ⟨f, M, F⟩ := c.ex
  refine ⟨fun pins s σ H Q I h => wpAny_Call_Name_kw (ld_glob I hg c.g (PySem.W.callWith_K (h₀ := X.base) I.ok.mod.kin M.kp (thn (ha.run pos pins s σ H _ I h) fun us s1 ⟨vs, H1, I1, r, hq⟩ => ⟨I1.kIn, ?_⟩) he hpl) hdb)⟩
  have hq0 := hq (s1.heap.objs.size + 1) s1.heap.objs.size (I1.hok.fresh (Nat.le_succ _)) (I1.hok.fresh (Nat.le_refl _)) (Nat.ne_of_lt (Nat.lt_succ_self _))
  have I2 := Inv.made (C := C) I1
  have r2 : Vals (V.ref (s1.heap.objs.size + 1) :: vs) (Value.ref (s1.heap.objs.size + 1) :: us) := .cons rfl r
  refine wpAny_call (make_map (f := f) I1.kIn M.makes M.init (beq_iff_eq.mp M.fn) (codeAny_mono (F _ X.stack _ _ (Value.ref (s1.heap.objs.size + 1) :: us) _ _ (WE W σ) (hr.make C us []) (I2.env0.make C us []) r2 hq0) fun r s' hq' => ?_))
  cases r with
  | error e => exact L2N.passAt tk σ pins _ _ e s' I2 hq'
  | ok fl =>
    cases fl with
    | ret u =>
      obtain ⟨v, H', I3, rv, ev, q3⟩ := I2.after hq'
      subst ev
      exact ⟨rv, ⟨V.ref (s1.heap.objs.size + 1), H', I3, rfl, q3⟩⟩
    | next => exact False.elim hq'
    | brk => exact False.elim hq'
    | cont => exact False.elim hq'
/-! ### an own __iter__ that hands back a list's iterator -/
/-- a promise that knows how large the heap was -/
structure FnN (P : Program) (w : World) (K : PySem.W.Frag) (mg : Str → Option Value) (base : Heap) (CX : CXT) (k : Nat) (f : Addr) (fd : FuncData) (ps : List Str) (sp : Nat → Sp) : Prop where
  len : ∀ n vs H Q E, sp n vs H Q E → vs.length = ps.length
  run : ∀ (A : Around) (outer : List Env) (s : Shared) (H : Hp) (args : Args) (us : List Value) (vs : List V) (Q : VK) (E : XK), Room k A → Env0 P w K mg base A outer s H → BindsTo s fd args (ps.zip us) → Vals vs us → sp s.heap.objs.size vs H Q E →
    codeAny (model P w) A (.call (.ref f) args) (CR CX outer P w H s Q E) s
theorem FunD.okN {P : Program} {w : World} {K : PySem.W.Frag} {mg : Str → Option Value} {base : Heap} {x qual : Str} {params : Arguments} {body : List Stmt} {scope : Scope} {dvs : List V} {kws : List (Str × V)} {f : Addr} {fd : FuncData} {CX : CXT} {N ps : List Str} {k : Nat} {sp : Nat → Sp}
    (F : FunD K x qual params body scope dvs kws f fd) (S : FnScope N ps scope) (len : ∀ n vs H Q E, sp n vs H Q E → vs.length = ps.length)
    (hbody : ∀ (cdv : Value) (A : Around) (outer : List Env) (s : Shared) (H : Hp) (vs : List V) (Q : VK) (E : XK), Room k (A.deeper (envOfC qual scope s.heap.objs.size f cdv)) → sp s.heap.objs.size vs H Q E →
      ∃ t, PSs (cxOf CX P w K mg base N qual scope f cdv A outer s H E) body t ∧ t { nx := fun _ H' => Q .non H', rt := Q } (start N vs) H) : FnN P w K mg base CX (k + 1) f fd ps sp := by
  obtain ⟨oc, od, dV, kV, doc, pm, an, cdv, ct, osl, rfl, lk, hcd, _, _⟩ := F.ex
  refine ⟨len, fun A outer s H args us vs Q E hr e0 hb r hsp => ?_⟩
  have hl := len _ _ _ _ _ hsp
  have KX : K.In s.heap := e0.mod.kin.keeps fun b o e => (e0.bs b o e).1
  have lim : s.heap.NoLimit := e0.mod.nolimit.keeps fun b o e => (e0.bs b o e).1
  have hkind : ∀ y ∈ ps.zip us, scope.names.lookup y.1 = some .local ∨ (scope.names.lookup y.1 = some .cell ∧ ((cellsFrom (s.heap.objs.size + 1) scope.names []).lookup y.1).isSome = true) := fun ⟨n, v⟩ hy => by
    rcases S.par n (List.of_mem_zip hy).1 with q | q
    · exact .inl q
    · exact .inr ⟨q, PySem.W.cellsFrom_some _ _ _ (.inl q)⟩
  refine codeAny_call_function hr.depth (KX _ _ lk) rfl S.co S.gen rfl (PySem.W.codeRec_of KX hcd) (hb _ _ _ _ ?_)
  refine wpAny_newFunctionEnv_cells S.kind hkind fun env he s1 x => ?_
  subst he
  refine ⟨lim.keeps x.toInCall.keep, codeAny_func ?_⟩
  obtain ⟨t, ht, hq⟩ := hbody cdv A outer s H vs Q E (hr.deeper _) hsp
  have I : Inv (cxOf CX P w K mg base N qual scope f cdv A outer s H E) [] (start N vs) H s1 := inv_start S hr.hd e0 hl r x
  refine wpAny_mono (ht.run [] s1 (start N vs) H _ I hq) (fun fl s' hs => ?_) fun e s' hs => hs
  have fin : ∀ {σ' : L2.St} {H' : Hp} {v : V} {u : Value}, Inv (cxOf CX P w K mg base N qual scope f cdv A outer s H E) [] σ' H' s' → RelV v u → Q v H' → CE outer P w H s Q u s' :=
    fun {σ' H' v u} J rv q => ⟨v, H', J.os, J.bare, J.base, J.hok, rv, q⟩
  cases fl with
  | ret u =>
    obtain ⟨v, σ', H', J, rv, q⟩ := hs
    exact fin J rv q
  | next =>
    obtain ⟨σ', H', J, q⟩ := hs
    exact fin (v := V.non) (u := Value.none) J rfl q
  | brk =>
    obtain ⟨_, _, _, q⟩ := hs
    exact False.elim q
  | cont =>
    obtain ⟨_, _, _, q⟩ := hs
    exact False.elim q
/-- return iter(self.f), f a list -/
def spIt (K : PySem.W.Frag) (C : Addr) (f : Str) : Nat → Sp := fun n vs H Q _ => ∃ (a dx l : Addr) (fs : List (Str × V)) (xs : List V), vs = [.ref a] ∧ H a = some (.ins C dx fs) ∧ fs.lookup f = some (.ref l) ∧ SqL K H l xs ∧ ∀ it, H it = none → n ≤ it → Q (.ref it) (upd H it (ItO l it 0))
structure CalIt (P : Program) (w : World) (K : PySem.W.Frag) (mg : Str → Option Value) (base : Heap) (k : Nat) (C : Addr) (f : Str) : Prop where
  ex : ∃ g fd, Meth K C "__iter__" g ∧ FnN P w K mg base CX0 k g fd ["self"] (spIt K C f) ∧ Binds K fd ["self"] []
def iOwn (K : PySem.W.Frag) (C : Addr) (f : Str) (te : TE) : TI := fun σ H R => te σ H fun x H1 => ∃ (a dx l : Addr) (fs : List (Str × V)) (xs : List V), x = .ref a ∧ H1 a = some (.ins C dx fs) ∧ fs.lookup f = some (.ref l) ∧ SqL K H1 l xs ∧ R (Itl K l) H1
theorem pi_own {X : Cx} {k : Nat} {C : Addr} {f : Str} {tg e : Expr} {te : TE} {K : PySem.W.Frag} (eK : X.K = K) (c : CalIt X.prog X.w X.K X.mg X.base k C f) (hr : Room k X.A) (he : PE X e te) : PI X tg e (iOwn K C f te) := by
  subst eK
  obtain ⟨g, fd, M, F, hb⟩ := c.ex
  refine ⟨fun pins s σ H R I h => ?_⟩
  refine thn (he.run pins s σ H _ I h) fun v s1 ⟨x, H1, I1, r1, q1⟩ => ?_
  obtain ⟨a, dx, l, fs, xs, ex, ha, hf, hl, q⟩ := q1
  subst ex
  cases r1
  obtain ⟨mA, J, _⟩ := ins_get I1.hok ha
  obtain ⟨od, J, _⟩ := J.look
  obtain ⟨m0, hF⟩ := I1.fr
  refine PySem.W.owit_iter hF I1.ok.mod.kin J M.at_ M.fn ?_
  have hsp : spIt X.K C f s1.heap.objs.size [.ref a] H1 (fun v H' => ∃ it, v = .ref it ∧ s1.heap.objs.size ≤ it ∧ H1 it = none ∧ H' = upd H1 it (ItO l it 0)) (fun _ _ _ => False) := ⟨a, dx, l, fs, xs, rfl, ha, hf, hl, fun it n1 n2 => ⟨it, rfl, n2, n1, rfl⟩⟩
  have r2 : Vals [V.ref a] [Value.ref a] := .cons rfl .nil
  refine wpAny_call (codeAny_mono (F.run X.A X.stack s1 H1 ⟨[.ref a], []⟩ [.ref a] [.ref a] _ (fun _ _ _ => False) hr I1.env0 (by
    have := hb s1 [.ref a] I1.kIn rfl
    simpa using this) r2 hsp) fun r s' hq' => ?_)
  cases r with
  | error e => exact False.elim hq'
  | ok fl =>
    cases fl with
    | next => exact False.elim hq'
    | brk => exact False.elim hq'
    | cont => exact False.elim hq'
    | ret u =>
      obtain ⟨v, H', I', rv, it, ev, n2, n1, eH⟩ := I1.after hq'
      subst ev
      rw [eH] at I'
      cases rv
      have hi : (upd H1 it (ItO l it 0)) it = some (ItO l it 0) := upd_same
      have eo := itO_get I' hi
      have st : s'.heap.IsListIter it l 0 := ⟨_, eo, rfl, rfl⟩
      have I2 := ItX.inv_drop I' hi
      have fp := ItX.inv_fp I' hi (Nat.le_trans I1.sz n2)
      rw [ItX.dropH_upd n1] at I2 fp
      unfold PySem.W.OwitIt specialOf
      refine wpAny_bind (wpAny_typeOf (T := "list_iterator") ⟨_, eo, rfl⟩ ?_)
      rw [PySem.slot_listiter_next.lookup]
      refine wpAny_pure ?_
      exact ⟨it, [it], _, _, H1, rfl, I2, turn_list l it, st, fun b hb => by
        have e : b = it := by simpa using hb
        rw [e]
        exact fp, q⟩
theorem pe_revTK {X : Cx} {K : PySem.W.Frag} {e : Expr} {te : TE} {k : Nat} {p1 p2 p3 pos : Pos} (eK : X.K = K) (he : PE X e te) : PE X (.Subscript e (.Slice none none (some (.UnaryOp .USub (.Constant (.int 1) k p1) p2)) p3) pos) (tRevT K te) := by
  subst eK
  exact pe_revT he
end My

set_option Elab.async false
set_option linter.all false
set_option maxRecDepth 100000
set_option maxHeartbeats 4000000
namespace My
open PySem PySem.Spec PyProof.Rows L2
/-! set(l) of a list of ints: by the road of the library's own rule for tuples -/
abbrev newSet (w : World) : Obj := { cls := .type "set", dict := none, data := .set #[] 0 (.fresh 0 0 (!w.params.followText "set-order")) }
section
variable {P : Program} {w : World} {A : Around} {E : Value → Shared → Prop} {s : Shared}
set_option maxHeartbeats 8000000 in
theorem set_of_ints {l : Addr} {items : Array Value} (ns : List Int) {Q : Value → Shared → Prop} (hh : A.handled = none) (hl : s.heap.IsList l items) (hit : IntsAre items.toList ns) (hb : ns.length + 1 < scanBound)
    (h : ∀ (h' : Heap) (tk c : Nat), SetR w h' s.heap.objs.size (fun j => decide (j ∈ ns)) c → c ≤ ns.length → (∀ b o, s.heap.get? b = some o → h'.get? b = some o) → Q (.ref s.heap.objs.size) { s with heap := h', toks := tk }) :
    wpAny (model P w) A (call (.type "set") [.ref l]) Q E s := by
  have hisz : items.size = ns.length := by
    have q := IntsAre.length hit
    rw [Array.length_toList] at q
    exact q
  obtain ⟨c, tl, hmro⟩ := F.called_set.mro
  have hmade := F.called_set.made
  have hsub := F.called_set.sub
  refine wpAny_call (codeAny_of_tree ?_)
  show wpAny _ _ (callAny (.type "set") _) _ _ _
  refine wpAny_pure ⟨Code.quiet_builtin _ (by decide +kernel), codeAny_builtin F.entry_type_call ?_⟩
  rw [Around.under_plain (weight_type_call_type "set" [.ref l] []) rfl]
  have h1 := F.called_set.notType
  have h2 := F.called_set.canCreate
  have hct := F.typeCall_set_1 (.ref l)
  repeat (any_goals (first | assumption | wp_step))

  refine codeAny_mono (code_set_led1 (.ref l) (E := E) (Q₁ := fun obj s₁ => obj = .ref s.heap.objs.size ∧ s₁ = { s with heap := s.heap.push (newSet w) }) ⟨rfl, rfl⟩) fun r s₁ hr => ?_
  cases r with
  | error e => exact hr
  | ok fl =>
    cases fl with
    | ret obj =>
      obtain ⟨rfl, rfl⟩ := hr
      have hS : (s.heap.push (newSet w)).get? s.heap.objs.size = some (newSet w) := Heap.get?_push_size _ rfl
      have hT : Shared.TypeIs { s with heap := s.heap.push (newSet w) } (.ref s.heap.objs.size) "set" := ⟨_, hS, rfl⟩
      have hli := F.called_set.init.lookup
      have hbi := F.called_set.init.bind (.ref s.heap.objs.size)
      repeat (any_goals (first | assumption | wp_step))

      refine codeAny_mono (codeAny_call_builtin (R := wants (fun r s₂ => r = .none ∧ ∃ h' tk c, s₂ = { s with heap := h', toks := tk } ∧ SetR w h' s.heap.objs.size (fun j => decide (j ∈ ns)) c ∧ c ≤ ns.length ∧
          (∀ b o, s.heap.get? b = some o → h'.get? b = some o)) E) F.called_set.init.plain F.entry_set_init (check_set_init_1 hT ?_)) fun r₂ s₂ hr₂ => ?_
      · obtain ⟨ol, hol, hcl, nl, hdl⟩ := hl
        obtain ⟨ocls, odict, odata, oslots⟩ := ol
        simp only at hcl hdl
        subst hcl; subst hdl
        have hol' : (s.heap.push (newSet w)).get? l = some { cls := .type "list", dict := odict, data := .seq items nl, slots := oslots } := Heap.get?_push_of_some _ hol
        have hsls := F.sub_list_set
        have hslf := F.sub_list_frozenset
        have hne : (Value.type "list" == Value.type "dict") = false := by decide
        have hl1 : (s.heap.push (newSet w)).IsList l items := ⟨_, hol', rfl, nl, rfl⟩
        unfold Builtin.«set.__init__» noKeywords Builtin.Frozenset.updateFrom
        generalize hPI : pyIter = PI
        wp_walk
        subst hPI

        refine wpAny_pyIter_list hl1 ?_
        refine wpAny_bind (wpAny_runValue ?_)
        have hlS : l < s.heap.objs.size := Heap.lt_size hol
        have hh3 : A.in1.in1.in1.handled = none := by simp [hh]
        have hz1 : (s.heap.push (newSet w)).objs.size = s.heap.objs.size + 1 := Heap.size_push ..
        have hneI : l ≠ (s.heap.push (newSet w)).objs.size := by
          rw [Heap.size_push]; exact Nat.ne_of_lt (Nat.lt_succ_of_lt hlS)
        have hSf : s.heap.objs.size ∉ [(s.heap.push (newSet w)).objs.size, l] := by
          rw [Heap.size_push]; simp only [List.mem_cons, List.mem_singleton, List.not_mem_nil, or_false, not_or]
          exact ⟨Nat.ne_of_lt (Nat.lt_succ_self _), Nat.ne_of_gt hlS⟩
        have hval : ∀ (i : Nat) (v : Value), items[i]? = some v → ∃ k t, ns[i]? = some k ∧ v = .int k t := fun i v hv => by
          have hi : i < ns.length := by rw [← hisz]; exact (Array.getElem?_eq_some_iff.mp hv).1
          obtain ⟨t, e⟩ := PyProof.Rows.IntsAre.int_at hit i v (by rw [Array.getElem?_toList]; exact hv)
          refine ⟨ns[i], t, List.getElem?_eq_getElem hi, ?_⟩
          rw [e, List.getD_eq_getElem?_getD, List.getElem?_eq_getElem hi] <;> rfl
        refine set_update_ints ((Walks.list hh3 _ l hneI items).toS) s.heap.objs.size
          hSf ns hisz hb hval (items.size - 0) 0 _ (by omega) (Nat.zero_le _)
          ⟨⟨_, Heap.get?_push_size _ rfl, rfl, rfl⟩, (hl1.push _)⟩ ?hS0 ?hR
        case hS0 =>
          have hget : ((s.heap.push (newSet w)).push { cls := .type "list_iterator", data := .fields #[.ref l, .int 0 0] }).get? s.heap.objs.size
              = some (newSet w) := Heap.get?_push_of_some _ hS
          exact ⟨0, Nat.le_refl 0, setR_new_at hget⟩
        case hR =>
          intro s' c' hm hc' hS'
          obtain ⟨h', g2, d', tk', os'⟩ := s'
          have eg : g2 = s.gens := hm.gens
          have ed : d' = s.drawn := hm.drawn
          have eo : os' = s.os := hm.os
          subst eg; subst ed; subst eo
          show wpAny _ _ _ _ _ _
          refine wpAny_pure ?_
          show wpAny _ _ (ret Value.none) _ _ _
          rw [hisz] at hc'
          refine wpAny_pure ⟨rfl, h', tk', c', rfl, hS', hc', fun b o e => ?_⟩
          have hb0 : b < s.heap.objs.size := Heap.lt_size e
          have hb1 : b ≠ s.heap.objs.size := Nat.ne_of_lt hb0
          have hb2 : b ≠ (s.heap.push (newSet w)).objs.size := by
            rw [Heap.size_push]; exact Nat.ne_of_lt (Nat.lt_succ_of_lt hb0)
          exact hm.heap b o (by simp only [List.mem_cons, List.mem_singleton, List.not_mem_nil, or_false, not_or]; exact ⟨hb1, hb2⟩) (Heap.get?_push_of_some _ (Heap.get?_push_of_some _ e))

      · cases r₂ with
        | error e => exact hr₂
        | ok fl₂ =>
          cases fl₂ with
          | ret r =>
            obtain ⟨rfl, h', tk, c', rfl, hS', hc', hk'⟩ := hr₂
            repeat (any_goals (first | assumption | wp_step))
            exact h _ _ _ hS' hc' hk'
          | _ => exact hr₂.elim
    | _ => exact hr.elim
end
section
variable {X : Cx}
def rSetL (K : PySem.W.Frag) (w : World) : List V → Hp → VK → Prop := fun vs H Q => ∃ (a : Addr) (ns : List Int), vs = [.ref a] ∧ SqL K H a (ns.map V.int) ∧ ns.length < 60 ∧
  ∀ p n, H p = none → n ≤ ns.length → Q (.ref p) (upd H p (SetO w p (fun k => decide (k ∈ ns)) n))
theorem cr_setL (hc : X.calm = true) : CallR X (.type "set") (rSetL X.K X.w) := by
  intro pins s σ H vs us Q I r h
  obtain ⟨a, ns, rfl, hS, hl, q⟩ := h
  rw [Vals.ref1 r]
  obtain ⟨its, rv, pl, hz⟩ := I.list hS
  have hn : H s.heap.objs.size = none := I.hok.fresh (Nat.le_refl _)
  refine set_of_ints (P := X.prog) (w := X.w) ns (I.ok.hd hc) pl.isList (by simpa using ints_of_vals rv) (Nat.lt_of_lt_of_le (Nat.succ_lt_succ hl) (by decide)) fun h' tk c R hcn k => ?_
  exact ⟨.ref s.heap.objs.size, upd H s.heap.objs.size (SetO X.w s.heap.objs.size (fun j => decide (j ∈ ns)) c), I.laid (t' := tk) k (Nat.le_refl _) (setO_new R), rfl, q _ c hn hcn⟩
end
end My

set_option Elab.async false
set_option linter.all false
set_option maxRecDepth 100000
set_option maxHeartbeats 4000000
namespace My
open PySem PySem.Spec PyProof.Rows L2
def top (i : Nat) : Stmt := PySem.Challenge.pw_mostsalike_k06_schema_ties_refused.main.body.getD i (.Pass ⟨0, 0, 0, 0⟩)
def file : Str := PySem.Challenge.pw_mostsalike_k06_schema_ties_refused.main.file
abbrev s__law_source : Stmt := top 36
abbrev N__law_source : List Str := ["script"]
abbrev P__law_source : List Str := ["script"]
theorem sc__law_source : FnScope N__law_source P__law_source (defScope s__law_source) := ⟨rfl, rfl, rfl, by decide +kernel, rfl, by decide +kernel, by decide +kernel⟩
def d__law_source : He.DefD := ⟨("_law_source", none), "_law_source", "_law_source", defArgs s__law_source, defBody s__law_source, defScope s__law_source, [], []⟩
abbrev s__law_draw : Stmt := top 37
abbrev N__law_draw : List Str := ["source", "many", "cell", "drawn", "turn", "first", "second"]
abbrev P__law_draw : List Str := ["source", "many"]
theorem sc__law_draw : FnScope N__law_draw P__law_draw (defScope s__law_draw) := ⟨rfl, rfl, rfl, by decide +kernel, rfl, by decide +kernel, by decide +kernel⟩
def d__law_draw : He.DefD := ⟨("_law_draw", none), "_law_draw", "_law_draw", defArgs s__law_draw, defBody s__law_draw, defScope s__law_draw, [], []⟩
abbrev s__law_name : Stmt := top 38
abbrev N__law_name : List Str := ["source", "taken", "signs", "size", "text", "k"]
abbrev P__law_name : List Str := ["source", "taken"]
theorem sc__law_name : FnScope N__law_name P__law_name (defScope s__law_name) := ⟨rfl, rfl, rfl, by decide +kernel, rfl, by decide +kernel, by decide +kernel⟩
def d__law_name : He.DefD := ⟨("_law_name", none), "_law_name", "_law_name", defArgs s__law_name, defBody s__law_name, defScope s__law_name, [], []⟩
abbrev s__law_names : Stmt := top 39
abbrev N__law_names : List Str := ["source", "many", "names", "k"]
abbrev P__law_names : List Str := ["source", "many"]
theorem sc__law_names : FnScope N__law_names P__law_names (defScope s__law_names) := ⟨rfl, rfl, rfl, by decide +kernel, rfl, by decide +kernel, by decide +kernel⟩
def d__law_names : He.DefD := ⟨("_law_names", none), "_law_names", "_law_names", defArgs s__law_names, defBody s__law_names, defScope s__law_names, [], []⟩
abbrev s__law_schema : Stmt := top 40
abbrev N__law_schema : List Str := ["tables", "made", "t"]
abbrev P__law_schema : List Str := ["tables"]
theorem sc__law_schema : FnScope N__law_schema P__law_schema (defScope s__law_schema) := ⟨rfl, rfl, rfl, by decide +kernel, rfl, by decide +kernel, by decide +kernel⟩
def d__law_schema : He.DefD := ⟨("_law_schema", none), "_law_schema", "_law_schema", defArgs s__law_schema, defBody s__law_schema, defScope s__law_schema, [], []⟩
abbrev s__law_table : Stmt := top 41
abbrev N__law_table : List Str := ["tables", "name", "t"]
abbrev P__law_table : List Str := ["tables", "name"]
theorem sc__law_table : FnScope N__law_table P__law_table (defScope s__law_table) := ⟨rfl, rfl, rfl, by decide +kernel, rfl, by decide +kernel, by decide +kernel⟩
def d__law_table : He.DefD := ⟨("_law_table", none), "_law_table", "_law_table", defArgs s__law_table, defBody s__law_table, defScope s__law_table, [], []⟩
abbrev s__law_whole : Stmt := top 42
abbrev N__law_whole : List Str := ["number"]
abbrev P__law_whole : List Str := ["number"]
theorem sc__law_whole : FnScope N__law_whole P__law_whole (defScope s__law_whole) := ⟨rfl, rfl, rfl, by decide +kernel, rfl, by decide +kernel, by decide +kernel⟩
def d__law_whole : He.DefD := ⟨("_law_whole", none), "_law_whole", "_law_whole", defArgs s__law_whole, defBody s__law_whole, defScope s__law_whole, [], []⟩
abbrev s__law_same : Stmt := top 43
abbrev N__law_same : List Str := ["actual", "expected", "k"]
abbrev P__law_same : List Str := ["actual", "expected"]
theorem sc__law_same : FnScope N__law_same P__law_same (defScope s__law_same) := ⟨rfl, rfl, rfl, by decide +kernel, rfl, by decide +kernel, by decide +kernel⟩
def d__law_same : He.DefD := ⟨("_law_same", none), "_law_same", "_law_same", defArgs s__law_same, defBody s__law_same, defScope s__law_same, [], []⟩
abbrev s__law_marks : Stmt := top 44
abbrev N__law_marks : List Str := ["why", "found", "one"]
abbrev P__law_marks : List Str := ["why"]
theorem sc__law_marks : FnScope N__law_marks P__law_marks (defScope s__law_marks) := ⟨rfl, rfl, rfl, by decide +kernel, rfl, by decide +kernel, by decide +kernel⟩
def d__law_marks : He.DefD := ⟨("_law_marks", none), "_law_marks", "_law_marks", defArgs s__law_marks, defBody s__law_marks, defScope s__law_marks, [], []⟩
abbrev s__law_error : Stmt := top 45
abbrev N__law_error : List Str := ["why"]
abbrev P__law_error : List Str := ["why"]
theorem sc__law_error : FnScope N__law_error P__law_error (defScope s__law_error) := ⟨rfl, rfl, rfl, by decide +kernel, rfl, by decide +kernel, by decide +kernel⟩
def d__law_error : He.DefD := ⟨("_law_error", none), "_law_error", "_law_error", defArgs s__law_error, defBody s__law_error, defScope s__law_error, [], []⟩
abbrev s__law_drawn_tables : Stmt := top 46
abbrev N__law_drawn_tables : List Str := ["source", "many", "names", "kinds", "k", "lists", "tables", "width", "extra", "mark", "bonds", "column", "pick", "target", "late"]
abbrev P__law_drawn_tables : List Str := ["source", "many"]
theorem sc__law_drawn_tables : FnScope N__law_drawn_tables P__law_drawn_tables (defScope s__law_drawn_tables) := ⟨rfl, rfl, rfl, by decide +kernel, rfl, by decide +kernel, by decide +kernel⟩
def d__law_drawn_tables : He.DefD := ⟨("_law_drawn_tables", none), "_law_drawn_tables", "_law_drawn_tables", defArgs s__law_drawn_tables, defBody s__law_drawn_tables, defScope s__law_drawn_tables, [], []⟩
abbrev s__law_first_fault : Stmt := top 47
abbrev N__law_first_fault : List Str := ["tables", "k", "t", "bonds", "j", "target"]
abbrev P__law_first_fault : List Str := ["tables"]
theorem sc__law_first_fault : FnScope N__law_first_fault P__law_first_fault (defScope s__law_first_fault) := ⟨rfl, rfl, rfl, by decide +kernel, rfl, by decide +kernel, by decide +kernel⟩
def d__law_first_fault : He.DefD := ⟨("_law_first_fault", none), "_law_first_fault", "_law_first_fault", defArgs s__law_first_fault, defBody s__law_first_fault, defScope s__law_first_fault, [], []⟩
abbrev s__law_mended : Stmt := top 48
abbrev N__law_mended : List Str := ["tables", "fault", "fresh", "k", "j", "t"]
abbrev P__law_mended : List Str := ["tables", "fault", "fresh"]
theorem sc__law_mended : FnScope N__law_mended P__law_mended (defScope s__law_mended) := ⟨rfl, rfl, rfl, by decide +kernel, rfl, by decide +kernel, by decide +kernel⟩
def d__law_mended : He.DefD := ⟨("_law_mended", none), "_law_mended", "_law_mended", defArgs s__law_mended, defBody s__law_mended, defScope s__law_mended, [], []⟩
abbrev s__law_tried : Stmt := top 49
abbrev N__law_tried : List Str := ["tables", "turned", "handed", "t", "schema", "e"]
abbrev P__law_tried : List Str := ["tables", "turned"]
theorem sc__law_tried : FnScope N__law_tried P__law_tried (defScope s__law_tried) := ⟨rfl, rfl, rfl, by decide +kernel, rfl, by decide +kernel, by decide +kernel⟩
def d__law_tried : He.DefD := ⟨("_law_tried", none), "_law_tried", "_law_tried", defArgs s__law_tried, defBody s__law_tried, defScope s__law_tried, [], []⟩
abbrev s__law_shows : Stmt := top 50
abbrev N__law_shows : List Str := ["schema", "tables", "seen", "one", "k", "made"]
abbrev P__law_shows : List Str := ["schema", "tables"]
theorem sc__law_shows : FnScope N__law_shows P__law_shows (defScope s__law_shows) := ⟨rfl, rfl, rfl, by decide +kernel, rfl, by decide +kernel, by decide +kernel⟩
def d__law_shows : He.DefD := ⟨("_law_shows", none), "_law_shows", "_law_shows", defArgs s__law_shows, defBody s__law_shows, defScope s__law_shows, [], []⟩
abbrev s_law : Stmt := top 51
abbrev N_law : List Str := ["script", "source", "turned", "tables", "turn", "fault", "found", "t"]
abbrev P_law : List Str := ["script"]
theorem sc_law : FnScope N_law P_law (defScope s_law) := ⟨rfl, rfl, rfl, by decide +kernel, rfl, by decide +kernel, by decide +kernel⟩
def d_law : He.DefD := ⟨("law", none), "law", "law", defArgs s_law, defBody s_law, defScope s_law, [], []⟩
abbrev s_Table_DinitD : Stmt := inClass (top 33) 0
abbrev N_Table_DinitD : List Str := ["self", "name", "width", "key", "ties", "ordered", "column", "target", "columns", "_", "place"]
abbrev P_Table_DinitD : List Str := ["self", "name", "width", "key", "ties"]
theorem sc_Table_DinitD : FnScope N_Table_DinitD P_Table_DinitD (defScope s_Table_DinitD) := ⟨rfl, rfl, rfl, by decide +kernel, rfl, by decide +kernel, by decide +kernel⟩
def d_Table_DinitD : He.DefD := ⟨("Table", some "__init__"), "__init__", "Table.__init__", defArgs s_Table_DinitD, defBody s_Table_DinitD, defScope s_Table_DinitD, [], [("key", .non), ("ties", (.adr (kwdAt ("Table", some "__init__") "ties")))]⟩
abbrev s_Table_is_list : Stmt := inClass (top 33) 2
abbrev N_Table_is_list : List Str := ["self"]
abbrev P_Table_is_list : List Str := ["self"]
theorem sc_Table_is_list : FnScope N_Table_is_list P_Table_is_list (defScope s_Table_is_list) := ⟨rfl, rfl, rfl, by decide +kernel, rfl, by decide +kernel, by decide +kernel⟩
def d_Table_is_list : He.DefD := ⟨("Table", some "is_list"), "is_list", "Table.is_list", defArgs s_Table_is_list, defBody s_Table_is_list, defScope s_Table_is_list, [], []⟩
abbrev s_Schema_DinitD : Stmt := inClass (top 34) 0
abbrev N_Schema_DinitD : List Str := ["self", "tables", "by_name", "table", "column", "target"]
abbrev P_Schema_DinitD : List Str := ["self", "tables"]
theorem sc_Schema_DinitD : FnScope N_Schema_DinitD P_Schema_DinitD (defScope s_Schema_DinitD) := ⟨rfl, rfl, rfl, by decide +kernel, rfl, by decide +kernel, by decide +kernel⟩
def d_Schema_DinitD : He.DefD := ⟨("Schema", some "__init__"), "__init__", "Schema.__init__", defArgs s_Schema_DinitD, defBody s_Schema_DinitD, defScope s_Schema_DinitD, [], []⟩
abbrev s_Schema_DiterD : Stmt := inClass (top 34) 4
abbrev N_Schema_DiterD : List Str := ["self"]
abbrev P_Schema_DiterD : List Str := ["self"]
theorem sc_Schema_DiterD : FnScope N_Schema_DiterD P_Schema_DiterD (defScope s_Schema_DiterD) := ⟨rfl, rfl, rfl, by decide +kernel, rfl, by decide +kernel, by decide +kernel⟩
def d_Schema_DiterD : He.DefD := ⟨("Schema", some "__iter__"), "__iter__", "Schema.__iter__", defArgs s_Schema_DiterD, defBody s_Schema_DiterD, defScope s_Schema_DiterD, [], []⟩
abbrev s_is_name : Stmt := top 31
abbrev N_is_name : List Str := ["name", "place", "sign"]
abbrev P_is_name : List Str := ["name"]
theorem sc_is_name : FnScope N_is_name P_is_name (defScope s_is_name) := ⟨rfl, rfl, rfl, by decide +kernel, rfl, by decide +kernel, by decide +kernel⟩
def d_is_name : He.DefD := ⟨("is_name", none), "is_name", "is_name", defArgs s_is_name, defBody s_is_name, defScope s_is_name, [], []⟩
abbrev s_InvalidName_DinitD : Stmt := inClass (top 3) 0
theorem nsc_InvalidName : NdefX.NScope ["self", "name", "__class__"] ["self", "name"] ["__class__"] (defScope s_InvalidName_DinitD) := NdefX.nscope_by (by decide +kernel)
def d_InvalidName_DinitD : He.DefD := ⟨("InvalidName", some "__init__"), "__init__", "InvalidName.__init__", defArgs s_InvalidName_DinitD, defBody s_InvalidName_DinitD, defScope s_InvalidName_DinitD, [], []⟩
abbrev s_InvalidTable_DinitD : Stmt := inClass (top 7) 0
theorem nsc_InvalidTable : NdefX.NScope ["self", "name", "__class__"] ["self", "name"] ["__class__"] (defScope s_InvalidTable_DinitD) := NdefX.nscope_by (by decide +kernel)
def d_InvalidTable_DinitD : He.DefD := ⟨("InvalidTable", some "__init__"), "__init__", "InvalidTable.__init__", defArgs s_InvalidTable_DinitD, defBody s_InvalidTable_DinitD, defScope s_InvalidTable_DinitD, [], []⟩
abbrev s_DuplicateName_DinitD : Stmt := inClass (top 4) 0
theorem nsc_DuplicateName : NdefX.NScope ["self", "name", "__class__"] ["self", "name"] ["__class__"] (defScope s_DuplicateName_DinitD) := NdefX.nscope_by (by decide +kernel)
def d_DuplicateName_DinitD : He.DefD := ⟨("DuplicateName", some "__init__"), "__init__", "DuplicateName.__init__", defArgs s_DuplicateName_DinitD, defBody s_DuplicateName_DinitD, defScope s_DuplicateName_DinitD, [], []⟩
abbrev s_UnknownName_DinitD : Stmt := inClass (top 5) 0
theorem nsc_UnknownName : NdefX.NScope ["self", "name", "__class__"] ["self", "name"] ["__class__"] (defScope s_UnknownName_DinitD) := NdefX.nscope_by (by decide +kernel)
def d_UnknownName_DinitD : He.DefD := ⟨("UnknownName", some "__init__"), "__init__", "UnknownName.__init__", defArgs s_UnknownName_DinitD, defBody s_UnknownName_DinitD, defScope s_UnknownName_DinitD, [], []⟩
abbrev s_InvalidTie_DinitD : Stmt := inClass (top 8) 0
theorem nsc_InvalidTie : NdefX.NScope ["self", "name", "column", "__class__"] ["self", "name", "column"] ["__class__"] (defScope s_InvalidTie_DinitD) := NdefX.nscope_by (by decide +kernel)
def d_InvalidTie_DinitD : He.DefD := ⟨("InvalidTie", some "__init__"), "__init__", "InvalidTie.__init__", defArgs s_InvalidTie_DinitD, defBody s_InvalidTie_DinitD, defScope s_InvalidTie_DinitD, [], []⟩
abbrev s_WrongSize_DinitD : Stmt := inClass (top 21) 0
theorem nsc_WrongSize : NdefX.NScope ["self", "what", "__class__"] ["self", "what"] ["__class__"] (defScope s_WrongSize_DinitD) := NdefX.nscope_by (by decide +kernel)
def d_WrongSize_DinitD : He.DefD := ⟨("WrongSize", some "__init__"), "__init__", "WrongSize.__init__", defArgs s_WrongSize_DinitD, defBody s_WrongSize_DinitD, defScope s_WrongSize_DinitD, [], []⟩
def marked : List Str := ["InvalidName", "DuplicateName", "UnknownName", "UnboundVariable", "InvalidTable", "InvalidAtom", "InvalidTie", "InvalidRow", "KeyConflict", "BrokenTie", "InvalidTimes", "BatchError", "InvalidTerm", "InvalidSign", "InvalidKind", "InvalidColumn", "InvalidText", "WrongSize", "Mismatch", "NotTold", "InvalidProduct", "ZeroBottom"]
def raised : List Str := ["DuplicateName", "UnknownName", "InvalidTie"]
def owned : List Str := ["Table"]
def xbK (K : PySem.W.Frag) : Bool := (raised.all fun x => marksB K marked x) && (ownedB K owned && ((emptyB K (kwdAt d_Table_DinitD.at_ "ties" K)) && He.tupB K "WORDS" [.str "count", .str "sum", .str "max", .str "min", .str "avg", .str "by", .str "from", .str "where"]))
def fa : List He.Fa := [.glo "_law_source", .glo "_law_draw", .glo "_law_name", .glo "_law_names", .glo "_law_schema", .glo "_law_table", .glo "_law_whole", .glo "_law_same", .glo "_law_marks", .glo "_law_error", .glo "_law_drawn_tables", .glo "_law_first_fault", .glo "_law_mended", .glo "_law_tried", .glo "_law_shows", .glo "law", .glo "is_name", .glo "MostsError", .glo "InvalidName", .glo "DuplicateName", .glo "UnknownName", .glo "UnboundVariable", .glo "InvalidTable", .glo "InvalidTie", .glo "InvalidRow", .glo "InvalidTimes", .glo "KeyConflict", .glo "BrokenTie", .glo "BatchError", .glo "InvalidTerm", .glo "InvalidAtom", .glo "InvalidSign", .glo "InvalidKind", .glo "InvalidColumn", .glo "InvalidText", .glo "InvalidProduct", .glo "WrongSize", .glo "Mismatch", .glo "NotTold", .glo "ZeroBottom", .glo "Table", .glo "Schema", .int "MOST_TABLES" (6), .int "MOST_COLUMNS" (3), .str "LETTERS" "abcdefghijklmnopqrstuvwxyz", .str "DIGITS" "0123456789", .glo "WORDS", .free "ValueError", .free "bool", .free "enumerate", .free "int", .free "isinstance", .free "iter", .free "len", .free "list", .free "range", .free "sorted", .free "str", .free "super", .free "tuple", .cls "Table", .mkr "Table", .noat "Table" "name", .noat "Table" "width", .noat "Table" "key", .noat "Table" "ties", .meth "Table" "is_list", .cls "Schema", .mkr "Schema", .noat "Schema" "tables", .noat "Schema" "by_name", .meth "Schema" "__iter__", .exm "DuplicateName" "MostsError" true, .exm "UnknownName" "MostsError" true, .exm "InvalidTie" "MostsError" true]
def fn : List He.DefD := [d__law_source, d__law_draw, d__law_name, d__law_names, d__law_schema, d__law_table, d__law_whole, d__law_same, d__law_marks, d__law_error, d__law_drawn_tables, d__law_first_fault, d__law_mended, d__law_tried, d__law_shows, d_law, d_Table_DinitD, d_Table_is_list, d_Schema_DinitD, d_Schema_DiterD, d_is_name]
def su : List SuD := [("InvalidName", d_InvalidName_DinitD, ["name"]), ("InvalidTable", d_InvalidTable_DinitD, ["name"]), ("DuplicateName", d_DuplicateName_DinitD, ["name"]), ("UnknownName", d_UnknownName_DinitD, ["name"]), ("InvalidTie", d_InvalidTie_DinitD, ["name", "column"]), ("WrongSize", d_WrongSize_DinitD, ["what"])]
def pr : List He.DefD := []
/-- what the top has written -/
structure Txt (K : PySem.W.Frag) (mg : Str → Option Value) : Prop where
  ex : ∃ h : Heap, K.In h ∧ h.Ns mainGlobals mg
  c : He.SaysD fa fn K
  xb : xbK K = true
  pb : (pr.all fun d => propB K d) = true
  pe : (pr.map fun d => fnP K d.at_) = pr.map He.DefD.val
  sb : (su.all fun s => supB K file s.1 s.2.1 s.2.2) = true
  se : (su.map fun (s : SuD) => fnS K s.2.1.at_) = su.map fun (s : SuD) => valS s.2.1
theorem Txt.g__law_source {K : PySem.W.Frag} {mg : Str → Option Value} (T : Txt K mg) : mg "_law_source" = some (.ref (He.ga K "_law_source")) := by
  obtain ⟨h, X, G⟩ := T.ex
  exact He.glo_ok X G (T.c.fact 0 rfl)
theorem Txt.g__law_draw {K : PySem.W.Frag} {mg : Str → Option Value} (T : Txt K mg) : mg "_law_draw" = some (.ref (He.ga K "_law_draw")) := by
  obtain ⟨h, X, G⟩ := T.ex
  exact He.glo_ok X G (T.c.fact 1 rfl)
theorem Txt.g__law_name {K : PySem.W.Frag} {mg : Str → Option Value} (T : Txt K mg) : mg "_law_name" = some (.ref (He.ga K "_law_name")) := by
  obtain ⟨h, X, G⟩ := T.ex
  exact He.glo_ok X G (T.c.fact 2 rfl)
theorem Txt.g__law_names {K : PySem.W.Frag} {mg : Str → Option Value} (T : Txt K mg) : mg "_law_names" = some (.ref (He.ga K "_law_names")) := by
  obtain ⟨h, X, G⟩ := T.ex
  exact He.glo_ok X G (T.c.fact 3 rfl)
theorem Txt.g__law_schema {K : PySem.W.Frag} {mg : Str → Option Value} (T : Txt K mg) : mg "_law_schema" = some (.ref (He.ga K "_law_schema")) := by
  obtain ⟨h, X, G⟩ := T.ex
  exact He.glo_ok X G (T.c.fact 4 rfl)
theorem Txt.g__law_table {K : PySem.W.Frag} {mg : Str → Option Value} (T : Txt K mg) : mg "_law_table" = some (.ref (He.ga K "_law_table")) := by
  obtain ⟨h, X, G⟩ := T.ex
  exact He.glo_ok X G (T.c.fact 5 rfl)
theorem Txt.g__law_whole {K : PySem.W.Frag} {mg : Str → Option Value} (T : Txt K mg) : mg "_law_whole" = some (.ref (He.ga K "_law_whole")) := by
  obtain ⟨h, X, G⟩ := T.ex
  exact He.glo_ok X G (T.c.fact 6 rfl)
theorem Txt.g__law_same {K : PySem.W.Frag} {mg : Str → Option Value} (T : Txt K mg) : mg "_law_same" = some (.ref (He.ga K "_law_same")) := by
  obtain ⟨h, X, G⟩ := T.ex
  exact He.glo_ok X G (T.c.fact 7 rfl)
theorem Txt.g__law_marks {K : PySem.W.Frag} {mg : Str → Option Value} (T : Txt K mg) : mg "_law_marks" = some (.ref (He.ga K "_law_marks")) := by
  obtain ⟨h, X, G⟩ := T.ex
  exact He.glo_ok X G (T.c.fact 8 rfl)
theorem Txt.g__law_error {K : PySem.W.Frag} {mg : Str → Option Value} (T : Txt K mg) : mg "_law_error" = some (.ref (He.ga K "_law_error")) := by
  obtain ⟨h, X, G⟩ := T.ex
  exact He.glo_ok X G (T.c.fact 9 rfl)
theorem Txt.g__law_drawn_tables {K : PySem.W.Frag} {mg : Str → Option Value} (T : Txt K mg) : mg "_law_drawn_tables" = some (.ref (He.ga K "_law_drawn_tables")) := by
  obtain ⟨h, X, G⟩ := T.ex
  exact He.glo_ok X G (T.c.fact 10 rfl)
theorem Txt.g__law_first_fault {K : PySem.W.Frag} {mg : Str → Option Value} (T : Txt K mg) : mg "_law_first_fault" = some (.ref (He.ga K "_law_first_fault")) := by
  obtain ⟨h, X, G⟩ := T.ex
  exact He.glo_ok X G (T.c.fact 11 rfl)
theorem Txt.g__law_mended {K : PySem.W.Frag} {mg : Str → Option Value} (T : Txt K mg) : mg "_law_mended" = some (.ref (He.ga K "_law_mended")) := by
  obtain ⟨h, X, G⟩ := T.ex
  exact He.glo_ok X G (T.c.fact 12 rfl)
theorem Txt.g__law_tried {K : PySem.W.Frag} {mg : Str → Option Value} (T : Txt K mg) : mg "_law_tried" = some (.ref (He.ga K "_law_tried")) := by
  obtain ⟨h, X, G⟩ := T.ex
  exact He.glo_ok X G (T.c.fact 13 rfl)
theorem Txt.g__law_shows {K : PySem.W.Frag} {mg : Str → Option Value} (T : Txt K mg) : mg "_law_shows" = some (.ref (He.ga K "_law_shows")) := by
  obtain ⟨h, X, G⟩ := T.ex
  exact He.glo_ok X G (T.c.fact 14 rfl)
theorem Txt.g_law {K : PySem.W.Frag} {mg : Str → Option Value} (T : Txt K mg) : mg "law" = some (.ref (He.ga K "law")) := by
  obtain ⟨h, X, G⟩ := T.ex
  exact He.glo_ok X G (T.c.fact 15 rfl)
theorem Txt.g_is_name {K : PySem.W.Frag} {mg : Str → Option Value} (T : Txt K mg) : mg "is_name" = some (.ref (He.ga K "is_name")) := by
  obtain ⟨h, X, G⟩ := T.ex
  exact He.glo_ok X G (T.c.fact 16 rfl)
theorem Txt.g_MostsError {K : PySem.W.Frag} {mg : Str → Option Value} (T : Txt K mg) : mg "MostsError" = some (.ref (He.ga K "MostsError")) := by
  obtain ⟨h, X, G⟩ := T.ex
  exact He.glo_ok X G (T.c.fact 17 rfl)
theorem Txt.g_InvalidName {K : PySem.W.Frag} {mg : Str → Option Value} (T : Txt K mg) : mg "InvalidName" = some (.ref (He.ga K "InvalidName")) := by
  obtain ⟨h, X, G⟩ := T.ex
  exact He.glo_ok X G (T.c.fact 18 rfl)
theorem Txt.g_DuplicateName {K : PySem.W.Frag} {mg : Str → Option Value} (T : Txt K mg) : mg "DuplicateName" = some (.ref (He.ga K "DuplicateName")) := by
  obtain ⟨h, X, G⟩ := T.ex
  exact He.glo_ok X G (T.c.fact 19 rfl)
theorem Txt.g_UnknownName {K : PySem.W.Frag} {mg : Str → Option Value} (T : Txt K mg) : mg "UnknownName" = some (.ref (He.ga K "UnknownName")) := by
  obtain ⟨h, X, G⟩ := T.ex
  exact He.glo_ok X G (T.c.fact 20 rfl)
theorem Txt.g_UnboundVariable {K : PySem.W.Frag} {mg : Str → Option Value} (T : Txt K mg) : mg "UnboundVariable" = some (.ref (He.ga K "UnboundVariable")) := by
  obtain ⟨h, X, G⟩ := T.ex
  exact He.glo_ok X G (T.c.fact 21 rfl)
theorem Txt.g_InvalidTable {K : PySem.W.Frag} {mg : Str → Option Value} (T : Txt K mg) : mg "InvalidTable" = some (.ref (He.ga K "InvalidTable")) := by
  obtain ⟨h, X, G⟩ := T.ex
  exact He.glo_ok X G (T.c.fact 22 rfl)
theorem Txt.g_InvalidTie {K : PySem.W.Frag} {mg : Str → Option Value} (T : Txt K mg) : mg "InvalidTie" = some (.ref (He.ga K "InvalidTie")) := by
  obtain ⟨h, X, G⟩ := T.ex
  exact He.glo_ok X G (T.c.fact 23 rfl)
theorem Txt.g_InvalidRow {K : PySem.W.Frag} {mg : Str → Option Value} (T : Txt K mg) : mg "InvalidRow" = some (.ref (He.ga K "InvalidRow")) := by
  obtain ⟨h, X, G⟩ := T.ex
  exact He.glo_ok X G (T.c.fact 24 rfl)
theorem Txt.g_InvalidTimes {K : PySem.W.Frag} {mg : Str → Option Value} (T : Txt K mg) : mg "InvalidTimes" = some (.ref (He.ga K "InvalidTimes")) := by
  obtain ⟨h, X, G⟩ := T.ex
  exact He.glo_ok X G (T.c.fact 25 rfl)
theorem Txt.g_KeyConflict {K : PySem.W.Frag} {mg : Str → Option Value} (T : Txt K mg) : mg "KeyConflict" = some (.ref (He.ga K "KeyConflict")) := by
  obtain ⟨h, X, G⟩ := T.ex
  exact He.glo_ok X G (T.c.fact 26 rfl)
theorem Txt.g_BrokenTie {K : PySem.W.Frag} {mg : Str → Option Value} (T : Txt K mg) : mg "BrokenTie" = some (.ref (He.ga K "BrokenTie")) := by
  obtain ⟨h, X, G⟩ := T.ex
  exact He.glo_ok X G (T.c.fact 27 rfl)
theorem Txt.g_BatchError {K : PySem.W.Frag} {mg : Str → Option Value} (T : Txt K mg) : mg "BatchError" = some (.ref (He.ga K "BatchError")) := by
  obtain ⟨h, X, G⟩ := T.ex
  exact He.glo_ok X G (T.c.fact 28 rfl)
theorem Txt.g_InvalidTerm {K : PySem.W.Frag} {mg : Str → Option Value} (T : Txt K mg) : mg "InvalidTerm" = some (.ref (He.ga K "InvalidTerm")) := by
  obtain ⟨h, X, G⟩ := T.ex
  exact He.glo_ok X G (T.c.fact 29 rfl)
theorem Txt.g_InvalidAtom {K : PySem.W.Frag} {mg : Str → Option Value} (T : Txt K mg) : mg "InvalidAtom" = some (.ref (He.ga K "InvalidAtom")) := by
  obtain ⟨h, X, G⟩ := T.ex
  exact He.glo_ok X G (T.c.fact 30 rfl)
theorem Txt.g_InvalidSign {K : PySem.W.Frag} {mg : Str → Option Value} (T : Txt K mg) : mg "InvalidSign" = some (.ref (He.ga K "InvalidSign")) := by
  obtain ⟨h, X, G⟩ := T.ex
  exact He.glo_ok X G (T.c.fact 31 rfl)
theorem Txt.g_InvalidKind {K : PySem.W.Frag} {mg : Str → Option Value} (T : Txt K mg) : mg "InvalidKind" = some (.ref (He.ga K "InvalidKind")) := by
  obtain ⟨h, X, G⟩ := T.ex
  exact He.glo_ok X G (T.c.fact 32 rfl)
theorem Txt.g_InvalidColumn {K : PySem.W.Frag} {mg : Str → Option Value} (T : Txt K mg) : mg "InvalidColumn" = some (.ref (He.ga K "InvalidColumn")) := by
  obtain ⟨h, X, G⟩ := T.ex
  exact He.glo_ok X G (T.c.fact 33 rfl)
theorem Txt.g_InvalidText {K : PySem.W.Frag} {mg : Str → Option Value} (T : Txt K mg) : mg "InvalidText" = some (.ref (He.ga K "InvalidText")) := by
  obtain ⟨h, X, G⟩ := T.ex
  exact He.glo_ok X G (T.c.fact 34 rfl)
theorem Txt.g_InvalidProduct {K : PySem.W.Frag} {mg : Str → Option Value} (T : Txt K mg) : mg "InvalidProduct" = some (.ref (He.ga K "InvalidProduct")) := by
  obtain ⟨h, X, G⟩ := T.ex
  exact He.glo_ok X G (T.c.fact 35 rfl)
theorem Txt.g_WrongSize {K : PySem.W.Frag} {mg : Str → Option Value} (T : Txt K mg) : mg "WrongSize" = some (.ref (He.ga K "WrongSize")) := by
  obtain ⟨h, X, G⟩ := T.ex
  exact He.glo_ok X G (T.c.fact 36 rfl)
theorem Txt.g_Mismatch {K : PySem.W.Frag} {mg : Str → Option Value} (T : Txt K mg) : mg "Mismatch" = some (.ref (He.ga K "Mismatch")) := by
  obtain ⟨h, X, G⟩ := T.ex
  exact He.glo_ok X G (T.c.fact 37 rfl)
theorem Txt.g_NotTold {K : PySem.W.Frag} {mg : Str → Option Value} (T : Txt K mg) : mg "NotTold" = some (.ref (He.ga K "NotTold")) := by
  obtain ⟨h, X, G⟩ := T.ex
  exact He.glo_ok X G (T.c.fact 38 rfl)
theorem Txt.g_ZeroBottom {K : PySem.W.Frag} {mg : Str → Option Value} (T : Txt K mg) : mg "ZeroBottom" = some (.ref (He.ga K "ZeroBottom")) := by
  obtain ⟨h, X, G⟩ := T.ex
  exact He.glo_ok X G (T.c.fact 39 rfl)
theorem Txt.g_Table {K : PySem.W.Frag} {mg : Str → Option Value} (T : Txt K mg) : mg "Table" = some (.ref (He.ga K "Table")) := by
  obtain ⟨h, X, G⟩ := T.ex
  exact He.glo_ok X G (T.c.fact 40 rfl)
theorem Txt.g_Schema {K : PySem.W.Frag} {mg : Str → Option Value} (T : Txt K mg) : mg "Schema" = some (.ref (He.ga K "Schema")) := by
  obtain ⟨h, X, G⟩ := T.ex
  exact He.glo_ok X G (T.c.fact 41 rfl)
theorem Txt.c_MOST_TABLES {K : PySem.W.Frag} {mg : Str → Option Value} (T : Txt K mg) : ∃ t, mg "MOST_TABLES" = some (.int (6) t) := by
  obtain ⟨h, X, G⟩ := T.ex
  exact He.int_ok X G (T.c.fact 42 rfl)
theorem Txt.c_MOST_COLUMNS {K : PySem.W.Frag} {mg : Str → Option Value} (T : Txt K mg) : ∃ t, mg "MOST_COLUMNS" = some (.int (3) t) := by
  obtain ⟨h, X, G⟩ := T.ex
  exact He.int_ok X G (T.c.fact 43 rfl)
theorem Txt.c_LETTERS {K : PySem.W.Frag} {mg : Str → Option Value} (T : Txt K mg) : ∃ t, mg "LETTERS" = some (.str "abcdefghijklmnopqrstuvwxyz" t) := by
  obtain ⟨h, X, G⟩ := T.ex
  exact He.str_ok X G (T.c.fact 44 rfl)
theorem Txt.c_DIGITS {K : PySem.W.Frag} {mg : Str → Option Value} (T : Txt K mg) : ∃ t, mg "DIGITS" = some (.str "0123456789" t) := by
  obtain ⟨h, X, G⟩ := T.ex
  exact He.str_ok X G (T.c.fact 45 rfl)
theorem Txt.g_WORDS {K : PySem.W.Frag} {mg : Str → Option Value} (T : Txt K mg) : mg "WORDS" = some (.ref (He.ga K "WORDS")) := by
  obtain ⟨h, X, G⟩ := T.ex
  exact He.glo_ok X G (T.c.fact 46 rfl)
theorem Txt.f_ValueError {K : PySem.W.Frag} {mg : Str → Option Value} (T : Txt K mg) : mg "ValueError" = none := by
  obtain ⟨h, X, G⟩ := T.ex
  exact He.free_ok X G (T.c.fact 47 rfl)
theorem Txt.f_bool {K : PySem.W.Frag} {mg : Str → Option Value} (T : Txt K mg) : mg "bool" = none := by
  obtain ⟨h, X, G⟩ := T.ex
  exact He.free_ok X G (T.c.fact 48 rfl)
theorem Txt.f_enumerate {K : PySem.W.Frag} {mg : Str → Option Value} (T : Txt K mg) : mg "enumerate" = none := by
  obtain ⟨h, X, G⟩ := T.ex
  exact He.free_ok X G (T.c.fact 49 rfl)
theorem Txt.f_int {K : PySem.W.Frag} {mg : Str → Option Value} (T : Txt K mg) : mg "int" = none := by
  obtain ⟨h, X, G⟩ := T.ex
  exact He.free_ok X G (T.c.fact 50 rfl)
theorem Txt.f_isinstance {K : PySem.W.Frag} {mg : Str → Option Value} (T : Txt K mg) : mg "isinstance" = none := by
  obtain ⟨h, X, G⟩ := T.ex
  exact He.free_ok X G (T.c.fact 51 rfl)
theorem Txt.f_iter {K : PySem.W.Frag} {mg : Str → Option Value} (T : Txt K mg) : mg "iter" = none := by
  obtain ⟨h, X, G⟩ := T.ex
  exact He.free_ok X G (T.c.fact 52 rfl)
theorem Txt.f_len {K : PySem.W.Frag} {mg : Str → Option Value} (T : Txt K mg) : mg "len" = none := by
  obtain ⟨h, X, G⟩ := T.ex
  exact He.free_ok X G (T.c.fact 53 rfl)
theorem Txt.f_list {K : PySem.W.Frag} {mg : Str → Option Value} (T : Txt K mg) : mg "list" = none := by
  obtain ⟨h, X, G⟩ := T.ex
  exact He.free_ok X G (T.c.fact 54 rfl)
theorem Txt.f_range {K : PySem.W.Frag} {mg : Str → Option Value} (T : Txt K mg) : mg "range" = none := by
  obtain ⟨h, X, G⟩ := T.ex
  exact He.free_ok X G (T.c.fact 55 rfl)
theorem Txt.f_sorted {K : PySem.W.Frag} {mg : Str → Option Value} (T : Txt K mg) : mg "sorted" = none := by
  obtain ⟨h, X, G⟩ := T.ex
  exact He.free_ok X G (T.c.fact 56 rfl)
theorem Txt.f_str {K : PySem.W.Frag} {mg : Str → Option Value} (T : Txt K mg) : mg "str" = none := by
  obtain ⟨h, X, G⟩ := T.ex
  exact He.free_ok X G (T.c.fact 57 rfl)
theorem Txt.f_super {K : PySem.W.Frag} {mg : Str → Option Value} (T : Txt K mg) : mg "super" = none := by
  obtain ⟨h, X, G⟩ := T.ex
  exact He.free_ok X G (T.c.fact 58 rfl)
theorem Txt.f_tuple {K : PySem.W.Frag} {mg : Str → Option Value} (T : Txt K mg) : mg "tuple" = none := by
  obtain ⟨h, X, G⟩ := T.ex
  exact He.free_ok X G (T.c.fact 59 rfl)
theorem Txt.cls_Table {K : PySem.W.Frag} {mg : Str → Option Value} (T : Txt K mg) : Cls K (He.ga K "Table") := He.cls_ok (T.c.fact 60 rfl)
theorem Txt.mk_Table {K : PySem.W.Frag} {mg : Str → Option Value} (T : Txt K mg) : Mk K (He.ga K "Table") (He.ma K (He.ga K "Table") "__init__") := He.mkr_ok (T.c.fact 61 rfl)
theorem Txt.na_Table_name {K : PySem.W.Frag} {mg : Str → Option Value} (T : Txt K mg) : NoAttr K (He.ga K "Table") "name" := He.noat_ok (T.c.fact 62 rfl)
theorem Txt.na_Table_width {K : PySem.W.Frag} {mg : Str → Option Value} (T : Txt K mg) : NoAttr K (He.ga K "Table") "width" := He.noat_ok (T.c.fact 63 rfl)
theorem Txt.na_Table_key {K : PySem.W.Frag} {mg : Str → Option Value} (T : Txt K mg) : NoAttr K (He.ga K "Table") "key" := He.noat_ok (T.c.fact 64 rfl)
theorem Txt.na_Table_ties {K : PySem.W.Frag} {mg : Str → Option Value} (T : Txt K mg) : NoAttr K (He.ga K "Table") "ties" := He.noat_ok (T.c.fact 65 rfl)
theorem Txt.me_Table_is_list {K : PySem.W.Frag} {mg : Str → Option Value} (T : Txt K mg) : Meth K (He.ga K "Table") "is_list" (He.ma K (He.ga K "Table") "is_list") := He.meth_ok (T.c.fact 66 rfl)
theorem Txt.cls_Schema {K : PySem.W.Frag} {mg : Str → Option Value} (T : Txt K mg) : Cls K (He.ga K "Schema") := He.cls_ok (T.c.fact 67 rfl)
theorem Txt.mk_Schema {K : PySem.W.Frag} {mg : Str → Option Value} (T : Txt K mg) : Mk K (He.ga K "Schema") (He.ma K (He.ga K "Schema") "__init__") := He.mkr_ok (T.c.fact 68 rfl)
theorem Txt.na_Schema_tables {K : PySem.W.Frag} {mg : Str → Option Value} (T : Txt K mg) : NoAttr K (He.ga K "Schema") "tables" := He.noat_ok (T.c.fact 69 rfl)
theorem Txt.na_Schema_by_name {K : PySem.W.Frag} {mg : Str → Option Value} (T : Txt K mg) : NoAttr K (He.ga K "Schema") "by_name" := He.noat_ok (T.c.fact 70 rfl)
theorem Txt.me_Schema_DiterD {K : PySem.W.Frag} {mg : Str → Option Value} (T : Txt K mg) : Meth K (He.ga K "Schema") "__iter__" (He.ma K (He.ga K "Schema") "__iter__") := He.meth_ok (T.c.fact 71 rfl)
theorem Txt.exm_DuplicateName_MostsError {K : PySem.W.Frag} {mg : Str → Option Value} (T : Txt K mg) : PySem.W.exmOne K (.ref (He.ga K "DuplicateName")) (.ref (He.ga K "MostsError")) = some true := He.exm_ok (T.c.fact 72 rfl)
theorem Txt.exm_UnknownName_MostsError {K : PySem.W.Frag} {mg : Str → Option Value} (T : Txt K mg) : PySem.W.exmOne K (.ref (He.ga K "UnknownName")) (.ref (He.ga K "MostsError")) = some true := He.exm_ok (T.c.fact 73 rfl)
theorem Txt.exm_InvalidTie_MostsError {K : PySem.W.Frag} {mg : Str → Option Value} (T : Txt K mg) : PySem.W.exmOne K (.ref (He.ga K "InvalidTie")) (.ref (He.ga K "MostsError")) = some true := He.exm_ok (T.c.fact 74 rfl)
theorem Txt.raised {K : PySem.W.Frag} {mg : Str → Option Value} (T : Txt K mg) (x : Str) (h : x ∈ raised) : marksB K marked x = true := List.all_eq_true.mp (He.ba T.xb).1 x h
theorem Txt.dflk_Table_DinitD_ties {K : PySem.W.Frag} {mg : Str → Option Value} (T : Txt K mg) (H : Hp) : SqT K H (kwdAt d_Table_DinitD.at_ "ties" K) [] := emptyB_ok (He.ba (He.ba (He.ba T.xb).2).2).1 H
theorem Txt.tup_WORDS {K : PySem.W.Frag} {mg : Str → Option Value} (T : Txt K mg) (H : Hp) : SqT K H (He.ga K "WORDS") [.str "count", .str "sum", .str "max", .str "min", .str "avg", .str "by", .str "from", .str "where"] := He.tupB_ok (He.ba (He.ba (He.ba T.xb).2).2).2 H
theorem Txt.own_Table {K : PySem.W.Frag} {mg : Str → Option Value} (T : Txt K mg) : OwnD K (He.ga K "Table") ∧ ∀ y ∈ owned, PySem.W.kitOne K (.ref (He.ga K "Table")) (.ref (He.ga K y)) = some (decide ("Table" = y)) := ownedB_ok (He.ba (He.ba T.xb).2).1 (by decide)
theorem Txt.I_InvalidName {K : PySem.W.Frag} {mg : Str → Option Value} (T : Txt K mg) : ExI K file "InvalidName" d_InvalidName_DinitD ["name"] := by
  have e := congrArg (fun l => l[0]?) T.se
  exact supB_ok (Option.some.inj e) (List.all_eq_true.mp T.sb ("InvalidName", d_InvalidName_DinitD, ["name"]) (by simp [su]))
theorem ini_InvalidName {P : Program} {w : World} {K : PySem.W.Frag} {mg : Str → Option Value} {base : Heap} (T : Txt K mg) (hP : PrOk P file) : CalX P w K mg base 1 "InvalidName" ["self", "name"] (spI1 K "InvalidName" "name") :=
  CalX.of T.I_InvalidName (ini1 T.I_InvalidName hP T.f_super nsc_InvalidName (by simp) rfl rfl rfl rfl rfl rfl (fun _ => ⟨rfl, rfl, ⟨_, rfl⟩, rfl⟩) (fun _ => rfl) (fun _ _ _ us hl => match us, hl with | [_, _], _ => rfl)) T.g_InvalidName
theorem Txt.I_InvalidTable {K : PySem.W.Frag} {mg : Str → Option Value} (T : Txt K mg) : ExI K file "InvalidTable" d_InvalidTable_DinitD ["name"] := by
  have e := congrArg (fun l => l[1]?) T.se
  exact supB_ok (Option.some.inj e) (List.all_eq_true.mp T.sb ("InvalidTable", d_InvalidTable_DinitD, ["name"]) (by simp [su]))
theorem ini_InvalidTable {P : Program} {w : World} {K : PySem.W.Frag} {mg : Str → Option Value} {base : Heap} (T : Txt K mg) (hP : PrOk P file) : CalX P w K mg base 1 "InvalidTable" ["self", "name"] (spI1 K "InvalidTable" "name") :=
  CalX.of T.I_InvalidTable (ini1 T.I_InvalidTable hP T.f_super nsc_InvalidTable (by simp) rfl rfl rfl rfl rfl rfl (fun _ => ⟨rfl, rfl, ⟨_, rfl⟩, rfl⟩) (fun _ => rfl) (fun _ _ _ us hl => match us, hl with | [_, _], _ => rfl)) T.g_InvalidTable
theorem Txt.I_DuplicateName {K : PySem.W.Frag} {mg : Str → Option Value} (T : Txt K mg) : ExI K file "DuplicateName" d_DuplicateName_DinitD ["name"] := by
  have e := congrArg (fun l => l[2]?) T.se
  exact supB_ok (Option.some.inj e) (List.all_eq_true.mp T.sb ("DuplicateName", d_DuplicateName_DinitD, ["name"]) (by simp [su]))
theorem ini_DuplicateName {P : Program} {w : World} {K : PySem.W.Frag} {mg : Str → Option Value} {base : Heap} (T : Txt K mg) (hP : PrOk P file) : CalX P w K mg base 1 "DuplicateName" ["self", "name"] (spI1 K "DuplicateName" "name") :=
  CalX.of T.I_DuplicateName (ini1 T.I_DuplicateName hP T.f_super nsc_DuplicateName (by simp) rfl rfl rfl rfl rfl rfl (fun _ => ⟨rfl, rfl, ⟨_, rfl⟩, rfl⟩) (fun _ => rfl) (fun _ _ _ us hl => match us, hl with | [_, _], _ => rfl)) T.g_DuplicateName
theorem Txt.I_UnknownName {K : PySem.W.Frag} {mg : Str → Option Value} (T : Txt K mg) : ExI K file "UnknownName" d_UnknownName_DinitD ["name"] := by
  have e := congrArg (fun l => l[3]?) T.se
  exact supB_ok (Option.some.inj e) (List.all_eq_true.mp T.sb ("UnknownName", d_UnknownName_DinitD, ["name"]) (by simp [su]))
theorem ini_UnknownName {P : Program} {w : World} {K : PySem.W.Frag} {mg : Str → Option Value} {base : Heap} (T : Txt K mg) (hP : PrOk P file) : CalX P w K mg base 1 "UnknownName" ["self", "name"] (spI1 K "UnknownName" "name") :=
  CalX.of T.I_UnknownName (ini1 T.I_UnknownName hP T.f_super nsc_UnknownName (by simp) rfl rfl rfl rfl rfl rfl (fun _ => ⟨rfl, rfl, ⟨_, rfl⟩, rfl⟩) (fun _ => rfl) (fun _ _ _ us hl => match us, hl with | [_, _], _ => rfl)) T.g_UnknownName
theorem Txt.I_InvalidTie {K : PySem.W.Frag} {mg : Str → Option Value} (T : Txt K mg) : ExI K file "InvalidTie" d_InvalidTie_DinitD ["name", "column"] := by
  have e := congrArg (fun l => l[4]?) T.se
  exact supB_ok (Option.some.inj e) (List.all_eq_true.mp T.sb ("InvalidTie", d_InvalidTie_DinitD, ["name", "column"]) (by simp [su]))
theorem ini_InvalidTie {P : Program} {w : World} {K : PySem.W.Frag} {mg : Str → Option Value} {base : Heap} (T : Txt K mg) (hP : PrOk P file) : CalX P w K mg base 1 "InvalidTie" ["self", "name", "column"] (spI2 K "InvalidTie" "name" "column") :=
  CalX.of T.I_InvalidTie (ini2 T.I_InvalidTie hP T.f_super nsc_InvalidTie (by simp) (by simp) rfl rfl rfl rfl rfl rfl rfl rfl (fun _ => ⟨rfl, rfl, ⟨_, rfl⟩, rfl⟩) (fun _ => rfl) (fun _ => rfl) (fun _ _ _ us hl => match us, hl with | [_, _, _], _ => rfl)) T.g_InvalidTie
theorem Txt.I_WrongSize {K : PySem.W.Frag} {mg : Str → Option Value} (T : Txt K mg) : ExI K file "WrongSize" d_WrongSize_DinitD ["what"] := by
  have e := congrArg (fun l => l[5]?) T.se
  exact supB_ok (Option.some.inj e) (List.all_eq_true.mp T.sb ("WrongSize", d_WrongSize_DinitD, ["what"]) (by simp [su]))
theorem ini_WrongSize {P : Program} {w : World} {K : PySem.W.Frag} {mg : Str → Option Value} {base : Heap} (T : Txt K mg) (hP : PrOk P file) : CalX P w K mg base 1 "WrongSize" ["self", "what"] (spI1 K "WrongSize" "what") :=
  CalX.of T.I_WrongSize (ini1 T.I_WrongSize hP T.f_super nsc_WrongSize (by simp) rfl rfl rfl rfl rfl rfl (fun _ => ⟨rfl, rfl, ⟨_, rfl⟩, rfl⟩) (fun _ => rfl) (fun _ _ _ us hl => match us, hl with | [_, _], _ => rfl)) T.g_WrongSize
theorem Txt.F__law_source {K : PySem.W.Frag} {mg : Str → Option Value} (T : Txt K mg) : ∃ fd, FunD K d__law_source.name d__law_source.qual (defArgs s__law_source) (defBody s__law_source) (defScope s__law_source) (d__law_source.dvs K) (d__law_source.kws K) (He.fAd K d__law_source.at_) fd := T.c.def_ 0 (d := d__law_source) rfl
theorem Txt.F__law_draw {K : PySem.W.Frag} {mg : Str → Option Value} (T : Txt K mg) : ∃ fd, FunD K d__law_draw.name d__law_draw.qual (defArgs s__law_draw) (defBody s__law_draw) (defScope s__law_draw) (d__law_draw.dvs K) (d__law_draw.kws K) (He.fAd K d__law_draw.at_) fd := T.c.def_ 1 (d := d__law_draw) rfl
theorem Txt.F__law_name {K : PySem.W.Frag} {mg : Str → Option Value} (T : Txt K mg) : ∃ fd, FunD K d__law_name.name d__law_name.qual (defArgs s__law_name) (defBody s__law_name) (defScope s__law_name) (d__law_name.dvs K) (d__law_name.kws K) (He.fAd K d__law_name.at_) fd := T.c.def_ 2 (d := d__law_name) rfl
theorem Txt.F__law_names {K : PySem.W.Frag} {mg : Str → Option Value} (T : Txt K mg) : ∃ fd, FunD K d__law_names.name d__law_names.qual (defArgs s__law_names) (defBody s__law_names) (defScope s__law_names) (d__law_names.dvs K) (d__law_names.kws K) (He.fAd K d__law_names.at_) fd := T.c.def_ 3 (d := d__law_names) rfl
theorem Txt.F__law_schema {K : PySem.W.Frag} {mg : Str → Option Value} (T : Txt K mg) : ∃ fd, FunD K d__law_schema.name d__law_schema.qual (defArgs s__law_schema) (defBody s__law_schema) (defScope s__law_schema) (d__law_schema.dvs K) (d__law_schema.kws K) (He.fAd K d__law_schema.at_) fd := T.c.def_ 4 (d := d__law_schema) rfl
theorem Txt.F__law_table {K : PySem.W.Frag} {mg : Str → Option Value} (T : Txt K mg) : ∃ fd, FunD K d__law_table.name d__law_table.qual (defArgs s__law_table) (defBody s__law_table) (defScope s__law_table) (d__law_table.dvs K) (d__law_table.kws K) (He.fAd K d__law_table.at_) fd := T.c.def_ 5 (d := d__law_table) rfl
theorem Txt.F__law_whole {K : PySem.W.Frag} {mg : Str → Option Value} (T : Txt K mg) : ∃ fd, FunD K d__law_whole.name d__law_whole.qual (defArgs s__law_whole) (defBody s__law_whole) (defScope s__law_whole) (d__law_whole.dvs K) (d__law_whole.kws K) (He.fAd K d__law_whole.at_) fd := T.c.def_ 6 (d := d__law_whole) rfl
theorem Txt.F__law_same {K : PySem.W.Frag} {mg : Str → Option Value} (T : Txt K mg) : ∃ fd, FunD K d__law_same.name d__law_same.qual (defArgs s__law_same) (defBody s__law_same) (defScope s__law_same) (d__law_same.dvs K) (d__law_same.kws K) (He.fAd K d__law_same.at_) fd := T.c.def_ 7 (d := d__law_same) rfl
theorem Txt.F__law_marks {K : PySem.W.Frag} {mg : Str → Option Value} (T : Txt K mg) : ∃ fd, FunD K d__law_marks.name d__law_marks.qual (defArgs s__law_marks) (defBody s__law_marks) (defScope s__law_marks) (d__law_marks.dvs K) (d__law_marks.kws K) (He.fAd K d__law_marks.at_) fd := T.c.def_ 8 (d := d__law_marks) rfl
theorem Txt.F__law_error {K : PySem.W.Frag} {mg : Str → Option Value} (T : Txt K mg) : ∃ fd, FunD K d__law_error.name d__law_error.qual (defArgs s__law_error) (defBody s__law_error) (defScope s__law_error) (d__law_error.dvs K) (d__law_error.kws K) (He.fAd K d__law_error.at_) fd := T.c.def_ 9 (d := d__law_error) rfl
theorem Txt.F__law_drawn_tables {K : PySem.W.Frag} {mg : Str → Option Value} (T : Txt K mg) : ∃ fd, FunD K d__law_drawn_tables.name d__law_drawn_tables.qual (defArgs s__law_drawn_tables) (defBody s__law_drawn_tables) (defScope s__law_drawn_tables) (d__law_drawn_tables.dvs K) (d__law_drawn_tables.kws K) (He.fAd K d__law_drawn_tables.at_) fd := T.c.def_ 10 (d := d__law_drawn_tables) rfl
theorem Txt.F__law_first_fault {K : PySem.W.Frag} {mg : Str → Option Value} (T : Txt K mg) : ∃ fd, FunD K d__law_first_fault.name d__law_first_fault.qual (defArgs s__law_first_fault) (defBody s__law_first_fault) (defScope s__law_first_fault) (d__law_first_fault.dvs K) (d__law_first_fault.kws K) (He.fAd K d__law_first_fault.at_) fd := T.c.def_ 11 (d := d__law_first_fault) rfl
theorem Txt.F__law_mended {K : PySem.W.Frag} {mg : Str → Option Value} (T : Txt K mg) : ∃ fd, FunD K d__law_mended.name d__law_mended.qual (defArgs s__law_mended) (defBody s__law_mended) (defScope s__law_mended) (d__law_mended.dvs K) (d__law_mended.kws K) (He.fAd K d__law_mended.at_) fd := T.c.def_ 12 (d := d__law_mended) rfl
theorem Txt.F__law_tried {K : PySem.W.Frag} {mg : Str → Option Value} (T : Txt K mg) : ∃ fd, FunD K d__law_tried.name d__law_tried.qual (defArgs s__law_tried) (defBody s__law_tried) (defScope s__law_tried) (d__law_tried.dvs K) (d__law_tried.kws K) (He.fAd K d__law_tried.at_) fd := T.c.def_ 13 (d := d__law_tried) rfl
theorem Txt.F__law_shows {K : PySem.W.Frag} {mg : Str → Option Value} (T : Txt K mg) : ∃ fd, FunD K d__law_shows.name d__law_shows.qual (defArgs s__law_shows) (defBody s__law_shows) (defScope s__law_shows) (d__law_shows.dvs K) (d__law_shows.kws K) (He.fAd K d__law_shows.at_) fd := T.c.def_ 14 (d := d__law_shows) rfl
theorem Txt.F_law {K : PySem.W.Frag} {mg : Str → Option Value} (T : Txt K mg) : ∃ fd, FunD K d_law.name d_law.qual (defArgs s_law) (defBody s_law) (defScope s_law) (d_law.dvs K) (d_law.kws K) (He.fAd K d_law.at_) fd := T.c.def_ 15 (d := d_law) rfl
theorem Txt.F_Table_DinitD {K : PySem.W.Frag} {mg : Str → Option Value} (T : Txt K mg) : ∃ fd, FunD K d_Table_DinitD.name d_Table_DinitD.qual (defArgs s_Table_DinitD) (defBody s_Table_DinitD) (defScope s_Table_DinitD) (d_Table_DinitD.dvs K) (d_Table_DinitD.kws K) (He.fAd K d_Table_DinitD.at_) fd := T.c.def_ 16 (d := d_Table_DinitD) rfl
theorem Txt.F_Table_is_list {K : PySem.W.Frag} {mg : Str → Option Value} (T : Txt K mg) : ∃ fd, FunD K d_Table_is_list.name d_Table_is_list.qual (defArgs s_Table_is_list) (defBody s_Table_is_list) (defScope s_Table_is_list) (d_Table_is_list.dvs K) (d_Table_is_list.kws K) (He.fAd K d_Table_is_list.at_) fd := T.c.def_ 17 (d := d_Table_is_list) rfl
theorem Txt.F_Schema_DinitD {K : PySem.W.Frag} {mg : Str → Option Value} (T : Txt K mg) : ∃ fd, FunD K d_Schema_DinitD.name d_Schema_DinitD.qual (defArgs s_Schema_DinitD) (defBody s_Schema_DinitD) (defScope s_Schema_DinitD) (d_Schema_DinitD.dvs K) (d_Schema_DinitD.kws K) (He.fAd K d_Schema_DinitD.at_) fd := T.c.def_ 18 (d := d_Schema_DinitD) rfl
theorem Txt.F_Schema_DiterD {K : PySem.W.Frag} {mg : Str → Option Value} (T : Txt K mg) : ∃ fd, FunD K d_Schema_DiterD.name d_Schema_DiterD.qual (defArgs s_Schema_DiterD) (defBody s_Schema_DiterD) (defScope s_Schema_DiterD) (d_Schema_DiterD.dvs K) (d_Schema_DiterD.kws K) (He.fAd K d_Schema_DiterD.at_) fd := T.c.def_ 19 (d := d_Schema_DiterD) rfl
theorem Txt.F_is_name {K : PySem.W.Frag} {mg : Str → Option Value} (T : Txt K mg) : ∃ fd, FunD K d_is_name.name d_is_name.qual (defArgs s_is_name) (defBody s_is_name) (defScope s_is_name) (d_is_name.dvs K) (d_is_name.kws K) (He.fAd K d_is_name.at_) fd := T.c.def_ 20 (d := d_is_name) rfl
def spMarks (K : PySem.W.Frag) : Addr → Value → Option Addr → Sp := fun a cls d vs H Q _ => ∃ x, x ∈ raised ∧ cls = .ref (He.ga K x) ∧ HD H d ∧ vs = [.ref a] ∧ ∀ H', Same H H' → Q (.int 1) H'
section
variable {P : Program} {w : World} {K : PySem.W.Frag} {mg : Str → Option Value} {base : Heap}
theorem marked_one : ∀ x ∈ raised, List.countP id (marked.map (fun m => decide (m = x)) ++ [!true, !true]) = 1 := by decide +kernel
theorem mk_step {H0 Hi : Hp} {d : Option Addr} {l p2 p3 : Addr} {xs ys : List V} (hd : HD Hi d) (e : Same H0 Hi) (hl : Hi l = some (.lst xs)) (n2 : Hi p2 = none) (n3 : upd Hi p2 (.lst ys) p3 = none) :
    HD (upd (upd Hi p2 (.lst ys)) p3 (.lst (xs ++ ys))) d ∧ Same H0 (upd (upd Hi p2 (.lst ys)) p3 (.lst (xs ++ ys))) ∧ (upd (upd Hi p2 (.lst ys)) p3 (.lst (xs ++ ys))) p3 = some (.lst (xs ++ ys)) :=
  ⟨hd.upd.upd, same_new (same_new e n2) n3, upd_same⟩
theorem ok_marks (T : Txt K mg) : CalE P w K mg base CX0 1 "_law_marks" P__law_marks (spMarks K) := by
  obtain ⟨fd, F⟩ := T.F__law_marks
  refine ⟨_, fd, T.g__law_marks, F.kp, FnE.mk' F sc__law_marks (fun a c d vs H Q E h => ?_) (fun cdv A outer s0 H vs Q E a oe cls d hot hz hf hr h => ?_), F.bindsN fun _ _ _ _ _ _ us hl => match us, hl with | [_], _ => rfl⟩
  · obtain ⟨x, _, _, _, rfl, _⟩ := h
    rfl
  · obtain ⟨x, hx, rfl, hd, rfl, k⟩ := h
    obtain ⟨C, hk, kM, kV⟩ := marksB_ok (T.raised x hx)
    have one := marked_one x hx
    refine ⟨_, PSs.nox (pss_cons (ps_set (i := 1) sc__law_marks.nd rfl (Or.inl rfl) (pe_lst (pa_cons (pe_callB (call_isG (K := K) (a := a) rfl hz hf List.mem_cons_self) (by rfl) T.f_isinstance (by decide +kernel) (pa_cons (pv 0) (pa_cons (pe_glob (v := .ref (He.ga K "InvalidName")) rfl T.g_InvalidName rfl) pa_nil))) (pa_cons (pe_callB (call_isG (K := K) (a := a) rfl hz hf List.mem_cons_self) (by rfl) T.f_isinstance (by decide +kernel) (pa_cons (pv 0) (pa_cons (pe_glob (v := .ref (He.ga K "DuplicateName")) rfl T.g_DuplicateName rfl) pa_nil))) (pa_cons (pe_callB (call_isG (K := K) (a := a) rfl hz hf List.mem_cons_self) (by rfl) T.f_isinstance (by decide +kernel) (pa_cons (pv 0) (pa_cons (pe_glob (v := .ref (He.ga K "UnknownName")) rfl T.g_UnknownName rfl) pa_nil))) pa_nil)))))
    (pss_cons (ps_set (i := 1) sc__law_marks.nd rfl (Or.inl rfl) (pe_op op_cat (pv 1) (pe_lst (pa_cons (pe_callB (call_isG (K := K) (a := a) rfl hz hf List.mem_cons_self) (by rfl) T.f_isinstance (by decide +kernel) (pa_cons (pv 0) (pa_cons (pe_glob (v := .ref (He.ga K "UnboundVariable")) rfl T.g_UnboundVariable rfl) pa_nil))) (pa_cons (pe_callB (call_isG (K := K) (a := a) rfl hz hf List.mem_cons_self) (by rfl) T.f_isinstance (by decide +kernel) (pa_cons (pv 0) (pa_cons (pe_glob (v := .ref (He.ga K "InvalidTable")) rfl T.g_InvalidTable rfl) pa_nil))) (pa_cons (pe_callB (call_isG (K := K) (a := a) rfl hz hf List.mem_cons_self) (by rfl) T.f_isinstance (by decide +kernel) (pa_cons (pv 0) (pa_cons (pe_glob (v := .ref (He.ga K "InvalidAtom")) rfl T.g_InvalidAtom rfl) pa_nil))) pa_nil))))))
    (pss_cons (ps_set (i := 1) sc__law_marks.nd rfl (Or.inl rfl) (pe_op op_cat (pv 1) (pe_lst (pa_cons (pe_callB (call_isG (K := K) (a := a) rfl hz hf List.mem_cons_self) (by rfl) T.f_isinstance (by decide +kernel) (pa_cons (pv 0) (pa_cons (pe_glob (v := .ref (He.ga K "InvalidTie")) rfl T.g_InvalidTie rfl) pa_nil))) (pa_cons (pe_callB (call_isG (K := K) (a := a) rfl hz hf List.mem_cons_self) (by rfl) T.f_isinstance (by decide +kernel) (pa_cons (pv 0) (pa_cons (pe_glob (v := .ref (He.ga K "InvalidRow")) rfl T.g_InvalidRow rfl) pa_nil))) (pa_cons (pe_callB (call_isG (K := K) (a := a) rfl hz hf List.mem_cons_self) (by rfl) T.f_isinstance (by decide +kernel) (pa_cons (pv 0) (pa_cons (pe_glob (v := .ref (He.ga K "KeyConflict")) rfl T.g_KeyConflict rfl) pa_nil))) pa_nil))))))
    (pss_cons (ps_set (i := 1) sc__law_marks.nd rfl (Or.inl rfl) (pe_op op_cat (pv 1) (pe_lst (pa_cons (pe_callB (call_isG (K := K) (a := a) rfl hz hf List.mem_cons_self) (by rfl) T.f_isinstance (by decide +kernel) (pa_cons (pv 0) (pa_cons (pe_glob (v := .ref (He.ga K "BrokenTie")) rfl T.g_BrokenTie rfl) pa_nil))) (pa_cons (pe_callB (call_isG (K := K) (a := a) rfl hz hf List.mem_cons_self) (by rfl) T.f_isinstance (by decide +kernel) (pa_cons (pv 0) (pa_cons (pe_glob (v := .ref (He.ga K "InvalidTimes")) rfl T.g_InvalidTimes rfl) pa_nil))) (pa_cons (pe_callB (call_isG (K := K) (a := a) rfl hz hf List.mem_cons_self) (by rfl) T.f_isinstance (by decide +kernel) (pa_cons (pv 0) (pa_cons (pe_glob (v := .ref (He.ga K "BatchError")) rfl T.g_BatchError rfl) pa_nil))) pa_nil))))))
    (pss_cons (ps_set (i := 1) sc__law_marks.nd rfl (Or.inl rfl) (pe_op op_cat (pv 1) (pe_lst (pa_cons (pe_callB (call_isG (K := K) (a := a) rfl hz hf List.mem_cons_self) (by rfl) T.f_isinstance (by decide +kernel) (pa_cons (pv 0) (pa_cons (pe_glob (v := .ref (He.ga K "InvalidTerm")) rfl T.g_InvalidTerm rfl) pa_nil))) (pa_cons (pe_callB (call_isG (K := K) (a := a) rfl hz hf List.mem_cons_self) (by rfl) T.f_isinstance (by decide +kernel) (pa_cons (pv 0) (pa_cons (pe_glob (v := .ref (He.ga K "InvalidSign")) rfl T.g_InvalidSign rfl) pa_nil))) (pa_cons (pe_callB (call_isG (K := K) (a := a) rfl hz hf List.mem_cons_self) (by rfl) T.f_isinstance (by decide +kernel) (pa_cons (pv 0) (pa_cons (pe_glob (v := .ref (He.ga K "InvalidKind")) rfl T.g_InvalidKind rfl) pa_nil))) pa_nil))))))
    (pss_cons (ps_set (i := 1) sc__law_marks.nd rfl (Or.inl rfl) (pe_op op_cat (pv 1) (pe_lst (pa_cons (pe_callB (call_isG (K := K) (a := a) rfl hz hf List.mem_cons_self) (by rfl) T.f_isinstance (by decide +kernel) (pa_cons (pv 0) (pa_cons (pe_glob (v := .ref (He.ga K "InvalidColumn")) rfl T.g_InvalidColumn rfl) pa_nil))) (pa_cons (pe_callB (call_isG (K := K) (a := a) rfl hz hf List.mem_cons_self) (by rfl) T.f_isinstance (by decide +kernel) (pa_cons (pv 0) (pa_cons (pe_glob (v := .ref (He.ga K "InvalidText")) rfl T.g_InvalidText rfl) pa_nil))) (pa_cons (pe_callB (call_isG (K := K) (a := a) rfl hz hf List.mem_cons_self) (by rfl) T.f_isinstance (by decide +kernel) (pa_cons (pv 0) (pa_cons (pe_glob (v := .ref (He.ga K "WrongSize")) rfl T.g_WrongSize rfl) pa_nil))) pa_nil))))))
    (pss_cons (ps_set (i := 1) sc__law_marks.nd rfl (Or.inl rfl) (pe_op op_cat (pv 1) (pe_lst (pa_cons (pe_callB (call_isG (K := K) (a := a) rfl hz hf List.mem_cons_self) (by rfl) T.f_isinstance (by decide +kernel) (pa_cons (pv 0) (pa_cons (pe_glob (v := .ref (He.ga K "Mismatch")) rfl T.g_Mismatch rfl) pa_nil))) (pa_cons (pe_callB (call_isG (K := K) (a := a) rfl hz hf List.mem_cons_self) (by rfl) T.f_isinstance (by decide +kernel) (pa_cons (pv 0) (pa_cons (pe_glob (v := .ref (He.ga K "NotTold")) rfl T.g_NotTold rfl) pa_nil))) (pa_cons (pe_callB (call_isG (K := K) (a := a) rfl hz hf List.mem_cons_self) (by rfl) T.f_isinstance (by decide +kernel) (pa_cons (pv 0) (pa_cons (pe_glob (v := .ref (He.ga K "InvalidProduct")) rfl T.g_InvalidProduct rfl) pa_nil))) pa_nil))))))
    (pss_cons (ps_set (i := 1) sc__law_marks.nd rfl (Or.inl rfl) (pe_op op_cat (pv 1) (pe_lst (pa_cons (pe_callB (call_isG (K := K) (a := a) rfl hz hf List.mem_cons_self) (by rfl) T.f_isinstance (by decide +kernel) (pa_cons (pv 0) (pa_cons (pe_glob (v := .ref (He.ga K "ZeroBottom")) rfl T.g_ZeroBottom rfl) pa_nil))) (pa_cons (pe_not (pe_callB (call_isG (K := K) (a := a) rfl hz hf List.mem_cons_self) (by rfl) T.f_isinstance (by decide +kernel) (pa_cons (pv 0) (pa_cons (pe_glob (v := .ref (He.ga K "MostsError")) rfl T.g_MostsError rfl) pa_nil)))) (pa_cons (pe_not (pe_callB (call_isG (K := K) (a := a) rfl hz hf List.mem_cons_self) (by rfl) T.f_isinstance (by decide +kernel) (pa_cons (pv 0) (pa_cons (pe_bltn (v := .ty "ValueError") (u := .type "ValueError") (by rfl) T.f_ValueError (by decide +kernel) rfl) pa_nil)))) pa_nil))))))
    (pss_one (ps_ret (pe_callB call_len_seq (by rfl) T.f_len (by decide +kernel) (pa_cons (pe_lcH (own := [("one", 2)]) (g := (gName 2)) ⟨_, hot, List.mem_cons_self⟩ sc__law_marks.nd (pv 1) (blkOk_by (N := N__law_marks) (sc := defScope s__law_marks) (by decide +kernel)) (fun _ _ _ _ _ => (pg_name (i := 2) sc__law_marks.nd rfl (Or.inl rfl))) (fun _ _ _ _ _ => (pts_one (pt_val (pv 2)))) (fun _ _ _ _ _ => (pv 2))) pa_nil)))))))))))), ?_⟩
    refine ⟨_, rfl, _, _, _, _, rfl, C, rfl, .own _, hd, hk "InvalidName" (by decide), _, rfl, _, _, _, _, rfl, C, rfl, .own _, hd, hk "DuplicateName" (by decide), _, rfl, _, _, _, _, rfl, C, rfl, .own _, hd, hk "UnknownName" (by decide), by show 3 ≤ sizeLine; decide, fun p1 n1 => ?_⟩
    refine at_heap (fun H1 e1 => ?_)
    obtain ⟨d1, s1, l1⟩ : HD H1 d ∧ Same H H1 ∧ H1 p1 = some (.lst _) := by rw [e1]; exact ⟨hd.upd, same_new (Same.refl H) n1, upd_same⟩
    clear e1 n1
    refine ⟨_, rfl, _, rfl, _, _, _, _, rfl, C, rfl, .own _, d1, hk "UnboundVariable" (by decide), _, rfl, _, _, _, _, rfl, C, rfl, .own _, d1, hk "InvalidTable" (by decide), _, rfl, _, _, _, _, rfl, C, rfl, .own _, d1, hk "InvalidAtom" (by decide), by show 3 ≤ sizeLine; decide, fun q2 m2 => ⟨_, _, _, _, rfl, rfl, by rw [upd_ne (ne_of_none l1 m2)]; exact l1, upd_same, by show 6 ≤ sizeLine; decide, fun p2 n2 => ?_⟩⟩
    refine at_heap (fun H2 e2 => ?_)
    obtain ⟨d2, s2, l2⟩ := mk_step d1 s1 l1 m2 n2
    rw [← e2] at d2 s2 l2
    clear d1 s1 l1 m2 n2 e2
    refine ⟨_, rfl, _, rfl, _, _, _, _, rfl, C, rfl, .own _, d2, hk "InvalidTie" (by decide), _, rfl, _, _, _, _, rfl, C, rfl, .own _, d2, hk "InvalidRow" (by decide), _, rfl, _, _, _, _, rfl, C, rfl, .own _, d2, hk "KeyConflict" (by decide), by show 3 ≤ sizeLine; decide, fun q3 m3 => ⟨_, _, _, _, rfl, rfl, by rw [upd_ne (ne_of_none l2 m3)]; exact l2, upd_same, by show 9 ≤ sizeLine; decide, fun p3 n3 => ?_⟩⟩
    refine at_heap (fun H3 e3 => ?_)
    obtain ⟨d3, s3, l3⟩ := mk_step d2 s2 l2 m3 n3
    rw [← e3] at d3 s3 l3
    clear d2 s2 l2 m3 n3 e3
    refine ⟨_, rfl, _, rfl, _, _, _, _, rfl, C, rfl, .own _, d3, hk "BrokenTie" (by decide), _, rfl, _, _, _, _, rfl, C, rfl, .own _, d3, hk "InvalidTimes" (by decide), _, rfl, _, _, _, _, rfl, C, rfl, .own _, d3, hk "BatchError" (by decide), by show 3 ≤ sizeLine; decide, fun q4 m4 => ⟨_, _, _, _, rfl, rfl, by rw [upd_ne (ne_of_none l3 m4)]; exact l3, upd_same, by show 12 ≤ sizeLine; decide, fun p4 n4 => ?_⟩⟩
    refine at_heap (fun H4 e4 => ?_)
    obtain ⟨d4, s4, l4⟩ := mk_step d3 s3 l3 m4 n4
    rw [← e4] at d4 s4 l4
    clear d3 s3 l3 m4 n4 e4
    refine ⟨_, rfl, _, rfl, _, _, _, _, rfl, C, rfl, .own _, d4, hk "InvalidTerm" (by decide), _, rfl, _, _, _, _, rfl, C, rfl, .own _, d4, hk "InvalidSign" (by decide), _, rfl, _, _, _, _, rfl, C, rfl, .own _, d4, hk "InvalidKind" (by decide), by show 3 ≤ sizeLine; decide, fun q5 m5 => ⟨_, _, _, _, rfl, rfl, by rw [upd_ne (ne_of_none l4 m5)]; exact l4, upd_same, by show 15 ≤ sizeLine; decide, fun p5 n5 => ?_⟩⟩
    refine at_heap (fun H5 e5 => ?_)
    obtain ⟨d5, s5, l5⟩ := mk_step d4 s4 l4 m5 n5
    rw [← e5] at d5 s5 l5
    clear d4 s4 l4 m5 n5 e5
    refine ⟨_, rfl, _, rfl, _, _, _, _, rfl, C, rfl, .own _, d5, hk "InvalidColumn" (by decide), _, rfl, _, _, _, _, rfl, C, rfl, .own _, d5, hk "InvalidText" (by decide), _, rfl, _, _, _, _, rfl, C, rfl, .own _, d5, hk "WrongSize" (by decide), by show 3 ≤ sizeLine; decide, fun q6 m6 => ⟨_, _, _, _, rfl, rfl, by rw [upd_ne (ne_of_none l5 m6)]; exact l5, upd_same, by show 18 ≤ sizeLine; decide, fun p6 n6 => ?_⟩⟩
    refine at_heap (fun H6 e6 => ?_)
    obtain ⟨d6, s6, l6⟩ := mk_step d5 s5 l5 m6 n6
    rw [← e6] at d6 s6 l6
    clear d5 s5 l5 m6 n6 e6
    refine ⟨_, rfl, _, rfl, _, _, _, _, rfl, C, rfl, .own _, d6, hk "Mismatch" (by decide), _, rfl, _, _, _, _, rfl, C, rfl, .own _, d6, hk "NotTold" (by decide), _, rfl, _, _, _, _, rfl, C, rfl, .own _, d6, hk "InvalidProduct" (by decide), by show 3 ≤ sizeLine; decide, fun q7 m7 => ⟨_, _, _, _, rfl, rfl, by rw [upd_ne (ne_of_none l6 m7)]; exact l6, upd_same, by show 21 ≤ sizeLine; decide, fun p7 n7 => ?_⟩⟩
    refine at_heap (fun H7 e7 => ?_)
    obtain ⟨d7, s7, l7⟩ := mk_step d6 s6 l6 m7 n7
    rw [← e7] at d7 s7 l7
    clear d6 s6 l6 m7 n7 e7
    refine ⟨_, rfl, _, rfl, _, _, _, _, rfl, C, rfl, .own _, d7, hk "ZeroBottom" (by decide), _, rfl, _, _, _, _, rfl, C, rfl, .own _, d7, kM, _, rfl, _, rfl, _, _, _, _, rfl, C, rfl, .ty _, d7, kV, _, rfl, by show 3 ≤ sizeLine; decide, fun q8 m8 => ⟨_, _, _, _, rfl, rfl, by rw [upd_ne (ne_of_none l7 m8)]; exact l7, upd_same, by show 24 ≤ sizeLine; decide, fun p8 n8 => ?_⟩⟩
    refine at_heap (fun H8 e8 => ?_)
    obtain ⟨d8, s8, l8⟩ := mk_step d7 s7 l7 m8 n8
    rw [← e8] at d8 s8 l8
    clear d7 s7 l7 m8 n8 e8
    have lb : H8 p8 = some (.lst ((marked.map (fun m => decide (m = x)) ++ [!true, !true]).map V.bl)) := l8
    clear l8
    have hlen : (marked.map (fun m => decide (m = x)) ++ [!true, !true]).length = 24 := rfl
    generalize marked.map (fun m => decide (m = x)) ++ [!true, !true] = bs at lb one hlen
    · refine ⟨_, rfl, p8, rfl, ⟨_, SqL.of lb⟩, fun D nD => ?_⟩
      refine lc_it (walk_list (xs := bs.map V.bl)) (fun i H' => ∃ acc, Same H8 H' ∧ H' D = some (.lst acc) ∧ acc.length = (bs.take i).countP id) ⟨[], same_new (Same.refl H8) nD, upd_same, rfl⟩ (fun i H' _ q => ?_) ?_ ?_
      · obtain ⟨acc, q, _⟩ := q
        exact q.seq (SqL.of lb)
      · rintro i y H9 _ hi ⟨acc, s9, hD, la⟩ ⟨rfl, hy⟩
        rw [List.length_map] at hi
        obtain ⟨b, hb, rfl⟩ := map_get hy
        have ec : (bs.take (i + 1)).countP id = (bs.take i).countP id + (if b = true then 1 else 0) := by
          rw [take_snoc hb, List.countP_append, List.countP_singleton]
          rfl
        have : (bs.take i).countP id ≤ (bs.take i).length := List.countP_le_length
        rw [List.length_take] at this
        refine ⟨rfl, _, rfl, _, rfl, ?_⟩
        cases b with
        | true => exact ⟨_, rfl, acc, hD, szl (by omega), acc ++ [.bl true], same_mut s9 nD, upd_same, by rw [List.length_append, la, ec]; rfl⟩
        | false => exact ⟨acc, s9, hD, by rw [la, ec]; rfl⟩
      · rintro H9 ⟨acc, s9, hD, la⟩
        rw [List.length_map, List.take_length, one] at la
        refine ⟨D, acc, rfl, .inl (SqL.of hD), ?_⟩
        rw [la]
        exact k H9 (fun b o e => s9 _ _ (s8 _ _ e))
end
section
variable {P : Program} {w : World} {K : PySem.W.Frag} {mg : Str → Option Value} {base : Heap}
theorem merge_src {c : Addr} {a l m d : Int} : mergeK [] (srcK c a l m d) = srcK c a l m d := by
  obtain ⟨h1, h2, h3, h4, h5, h6, h7, h8, h9, h10⟩ := kne
  unfold mergeK srcK putK
  simp [h1, h2, h3, h4, h5, h6, h7, h8, h9, h10]
theorem ok_source (T : Txt K mg) : Cal P w K mg base CX0 1 "_law_source" P__law_source [] (spSource K) := by
  refine Cal.of T.F__law_source T.g__law_source (fun fd F => F.ok sc__law_source (fun vs H Q E h => ?_) (fun cdv A outer s H vs Q E hr h => ?_)) (fun _ _ _ _ _ _ us hl => match us, hl with | [_], _ => rfl)
  · obtain ⟨a, ns, rfl, _⟩ := h
    rfl
  · obtain ⟨a, ns, rfl, hS, k⟩ := h
    refine ⟨_, PSs.nox (pss_one (ps_ret (pe_disp (pps_cons pe_str (pe_callTy call_list_of (by rfl) T.f_list (by decide +kernel) (pa_cons (pv 0) pa_nil)) (pps_cons pe_str pe_int (pps_cons pe_str pe_int (pps_cons pe_str pe_int (pps_cons pe_str pe_int pps_nil))))) (by rfl) (by rfl) (fun z => by cases z) (by decide)))), ?_⟩
    intro p hp
    refine ⟨_, rfl, a, ns.map V.int, rfl, Or.inl ((same_new (Same.refl H) hp).seq hS), fun l hl => ?_⟩
    have npl : p ≠ l := fun e => by rw [e, upd_same] at hl; cases hl
    refine ⟨by rw [upd_ne npl, upd_same], srcK l 0 0 0 0, rfl, by show 5 ≤ 15; decide, ?_⟩
    refine k p l _ hp ((same_new (Same.refl H) hp).free hl) ⟨ns, 0, 0, 0, 0, ?_, ?_, by decide⟩ ?_
    · rw [merge_src, upd_same]
    · rw [upd_ne npl.symm, upd_same]
    · exact same_mut (same_new (same_new (Same.refl H) hp) hl) hp
theorem ok_draw (T : Txt K mg) : Cal P w K mg base CX0 1 "_law_draw" P__law_draw [] spDraw := by
  refine Cal.of T.F__law_draw T.g__law_draw (fun fd F => F.ok sc__law_draw (fun vs H Q E h => ?_) (fun cdv A outer s0 H vs Q E hr h => ?_)) (fun _ _ _ _ _ _ us hl => match us, hl with | [_, _], _ => rfl)
  · obtain ⟨s, c, many, rfl, _⟩ := h
    rfl
  · obtain ⟨s, c, many, rfl, S, hm0, hm1, k⟩ := h
    have ncs := S.ne
    obtain ⟨ns, a, l, m, d, hs, hc, ha⟩ := S.ex
    refine ⟨_, PSs.nox (C8.pss_cut (ps_if (PW.pt (pw_and (pt_cmpR op_eq (pe_dget (hu_of hr) (pv 0) pe_str (fun _ _ => rfl)) pe_int (nomark _)) (pw_and1 (pt_cmpR op_eq (pe_dget (hu_of hr) (pv 0) pe_str (fun _ _ => rfl)) pe_int (nomark _))))) (pss_cons (ps_if (pt_cmpR op_ge (pe_dget (hu_of hr) (pv 0) pe_str (fun _ _ => rfl)) (pe_callB call_len (by rfl) T.f_len (by decide +kernel) (pa_cons (pe_dget (hu_of hr) (pv 0) pe_str (fun _ _ => rfl)) pa_nil)) (nomark _)) (pss_one (ps_ret pe_int))
    pss_nil)
    (pss_cons (ps_set (i := 2) sc__law_draw.nd rfl (Or.inl rfl) (pe_ix ix_list (pe_dget (hu_of hr) (pv 0) pe_str (fun _ _ => rfl)) (pe_dget (hu_of hr) (pv 0) pe_str (fun _ _ => rfl)) (fun _ _ => rfl)))
    (pss_cons (ps_dput (hu_of hr) (pv 0) pe_str (pe_op op_add (pe_dget (hu_of hr) (pv 0) pe_str (fun _ _ => rfl)) pe_int) rfl)
    (C8.pss_cut (ps_if (pt_cmpR op_lt (pv 2) pe_int (nomark _)) (pss_one (ps_set (i := 2) sc__law_draw.nd rfl (Or.inl rfl) (pe_op op_sub (pe_un un_neg (pv 2)) pe_int)))
    pss_nil)
    (pss_one (ps_if (pt_cmpR op_ge (pv 2) (pe_op op_pow pe_int pe_int) (nomark _)) (pss_one (ps_dput (hu_of hr) (pv 0) pe_str (pv 2) rfl))
    (pss_cons (ps_dput (hu_of hr) (pv 0) pe_str (pv 2) rfl)
    (pss_one (ps_dput (hu_of hr) (pv 0) pe_str pe_int rfl)))))))))
    pss_nil)
    (pss_cons (ps_if (pt_cmpR op_gt (pe_dget (hu_of hr) (pv 0) pe_str (fun _ _ => rfl)) pe_int (nomark _)) (pss_cons (ps_set (i := 3) sc__law_draw.nd rfl (Or.inl rfl) (pe_op op_mod (pe_callTy call_int1 (by rfl) T.f_int (by decide +kernel) (pa_cons (pe_dget (hu_of hr) (pv 0) pe_str (fun _ _ => rfl)) pa_nil)) (pv 1)))
    (pss_cons (ps_dput (hu_of hr) (pv 0) pe_str (pe_op op_fdivW (pe_callTy call_int1 (by rfl) T.f_int (by decide +kernel) (pa_cons (pe_dget (hu_of hr) (pv 0) pe_str (fun _ _ => rfl)) pa_nil)) (pv 1)) rfl)
    (pss_one (ps_ret (pv 3)))))
    pss_nil)
    (pss_cons (ps_set (i := 4) sc__law_draw.nd rfl (Or.inl rfl) (pe_dget (hu_of hr) (pv 0) pe_str (fun _ _ => rfl)))
    (pss_cons (ps_dput (hu_of hr) (pv 0) pe_str (pe_op op_sub (pv 4) pe_int) rfl)
    (pss_cons (ps_set (i := 5) sc__law_draw.nd rfl (Or.inl rfl) (pe_op op_mod (pe_callTy call_int1 (by rfl) T.f_int (by decide +kernel) (pa_cons (pe_op op_add (pe_op op_add (pe_op op_mul (pe_dget (hu_of hr) (pv 0) pe_str (fun _ _ => rfl)) pe_int) (pe_op op_mul (pv 4) pe_int)) (pe_op op_mul (pe_dget (hu_of hr) (pv 0) pe_str (fun _ _ => rfl)) pe_int)) pa_nil)) pe_int))
    (pss_cons (ps_set (i := 6) sc__law_draw.nd rfl (Or.inl rfl) (pe_op op_mod (pe_callTy call_int1 (by rfl) T.f_int (by decide +kernel) (pa_cons (pe_op op_add (pe_op op_add (pe_op op_mul (pv 5) (pv 5)) (pe_op op_mul (pv 5) pe_int)) (pe_op op_mul (pv 4) pe_int)) pa_nil)) pe_int))
    (pss_one (ps_ret (pe_op op_mod (pe_callTy call_int1 (by rfl) T.f_int (by decide +kernel) (pa_cons (pv 6) pa_nil)) (pv 1)))))))))), ?_⟩
    refine ⟨fun σ' H' => ∃ cv a l m d, σ' = [some (.ref s), some (.int many), cv, none, none, none, none] ∧ H' s = some (.dK (srcK c a l m d)) ∧ 0 ≤ a ∧ But s H H', ?_, ?_⟩
    · refine ⟨_, rfl, s, _, rfl, g_left hs, rfl, _, rfl, ifI (fun e1 => ?_) (fun e1 => ?_)⟩
      · refine ⟨_, rfl, s, _, rfl, g_mixed hs, rfl, _, rfl, ifI (fun e2 => ?_) (fun e2 => ?_)⟩
        · refine ⟨_, rfl, s, _, rfl, g_at hs, _, rfl, s, _, rfl, g_cells hs, _, _, rfl, .inl ⟨_, SqL.of hc, rfl⟩, _, _, rfl, rfl, _, rfl, ifD (fun e3 => ?_) (fun e3 => ?_)⟩
          · exact k 0 H (Int.le_refl 0) hm0 ⟨ns, a, l, m, d, hs, hc, ha⟩ (But.refl H)
          · rw [List.length_map] at e3
            have hlt : a.toNat < ns.length := by omega
            obtain ⟨cell, hcell⟩ : ∃ z, ns[a.toNat]? = some z := ⟨_, List.getElem?_eq_getElem hlt⟩
            refine ⟨_, rfl, s, _, rfl, g_cells hs, _, rfl, s, _, rfl, g_at hs, c, _, a, .int cell, rfl, rfl, SqL.of hc, atNat (n := a.toNat) (by rw [List.getElem?_map, hcell]; rfl) (by omega), ?_⟩
            refine ⟨_, rfl, s, _, rfl, g_at hs, _, _, rfl, rfl, _, rfl, s, _, rfl, p_at hs, ?_⟩
            have hs1 : (upd H s (.dK (srcK c (a + 1) l m d))) s = some (.dK (srcK c (a + 1) l m d)) := upd_same
            have b1 : But s H (upd H s (.dK (srcK c (a + 1) l m d))) := But.upd
            refine ⟨fun σ' H' => ∃ cv : Int, σ' = [some (.ref s), some (.int many), some (.int cv), none, none, none, none] ∧ H' = upd H s (.dK (srcK c (a + 1) l m d)), ?_, ?_⟩
            · refine ⟨_, rfl, _, _, rfl, rfl, _, rfl, ifD (fun e4 => ?_) (fun e4 => ?_)⟩
              · exact ⟨_, rfl, _, rfl, _, _, rfl, rfl, _, rfl, rfl⟩
              · exact ⟨_, rfl, rfl⟩
            · rintro σ' H' ⟨cv, rfl, rfl⟩
              refine ⟨_, rfl, _, _, rfl, rfl, ⟨by decide, by decide, by decide⟩, _, _, rfl, rfl, _, rfl, ifD (fun e5 => ?_) (fun e5 => ?_)⟩
              · exact ⟨_, rfl, _, rfl, s, _, rfl, p_left hs1, _, _, _, _, _, rfl, upd_same, by omega, b1.trans But.upd⟩
              · exact ⟨_, rfl, _, rfl, s, _, rfl, p_seed hs1, _, rfl, s, _, rfl, p_mixed upd_same, _, _, _, _, _, rfl, upd_same, by omega, (b1.trans But.upd).trans But.upd⟩
        · exact ⟨_, _, _, _, _, rfl, hs, ha, But.refl H⟩
      · exact ⟨_, _, _, _, _, rfl, hs, ha, But.refl H⟩
    · rintro σ' H' ⟨cv, a, l, m, d, rfl, hs', ha', b'⟩
      have hc' : H' c = some (.lst (ns.map V.int)) := b' _ _ ncs hc
      refine ⟨_, rfl, s, _, rfl, g_left hs', _, _, rfl, rfl, _, rfl, ifD (fun e6 => ?_) (fun e6 => ?_)⟩
      · refine ⟨_, rfl, s, _, rfl, g_left hs', .inl ⟨_, rfl, _, rfl, _, _, rfl, rfl, hm0, ?_⟩⟩
        refine ⟨_, rfl, s, _, rfl, g_left hs', .inl ⟨_, rfl, _, rfl, _, _, rfl, rfl, wide_div hm0 (b := 200) (by omega) (by decide) (by decide), _, rfl, s, _, rfl, p_left hs', _, rfl, ?_⟩⟩
        refine k _ _ (Int.emod_nonneg _ (by omega)) (Int.emod_lt_of_pos _ hm0) ⟨ns, _, _, _, _, upd_same, But.upd _ _ ncs hc', ha'⟩ (b'.trans But.upd)
      · refine ⟨_, rfl, s, _, rfl, g_mixed hs', ?_⟩
        refine ⟨_, rfl, _, _, rfl, rfl, _, rfl, s, _, rfl, p_mixed hs', ?_⟩
        refine ⟨_, rfl, s, _, rfl, g_seed upd_same, _, _, rfl, rfl, .inr ⟨by decide, by decide⟩, _, rfl, _, _, rfl, rfl, .inr ⟨by decide, by decide⟩, _, _, rfl, rfl, _, rfl, s, _, rfl, g_at upd_same, _, _, rfl, rfl, .inr ⟨by decide, by decide⟩, _, _, rfl, rfl, .inl ⟨_, rfl, _, _, rfl, rfl, (by show (0 : Int) < 2147483647; decide), ?_⟩⟩
        have f0 : 0 ≤ (d * 48271 + m * 69621 + a * 16807) % 2147483647 := Int.emod_nonneg _ (by decide)
        have f1 : (d * 48271 + m * 69621 + a * 16807) % 2147483647 < 2147483647 := Int.emod_lt_of_pos _ (by decide)
        refine ⟨_, rfl, _, rfl, _, _, rfl, rfl, .inl ⟨Int.lt_of_lt_of_le (by decide) f0, Int.lt_trans f1 (by decide)⟩, _, rfl, _, _, rfl, rfl, .inr ⟨by decide, by decide⟩, _, _, rfl, rfl, _, rfl, _, _, rfl, rfl, .inr ⟨by decide, by decide⟩, _, _, rfl, rfl, .inl ⟨_, rfl, _, _, rfl, rfl, (by show (0 : Int) < 2147483399; decide), ?_⟩⟩
        refine ⟨_, rfl, .inl ⟨_, rfl, _, rfl, _, _, rfl, rfl, hm0, ?_⟩⟩
        exact k _ _ (Int.emod_nonneg _ (by omega)) (Int.emod_lt_of_pos _ hm0) ⟨ns, _, _, _, _, upd_same, But.upd _ _ ncs hc', ha'⟩ (b'.trans But.upd)
end
section
variable {P : Program} {w : World} {K : PySem.W.Frag} {mg : Str → Option Value} {base : Heap}
theorem ok_whole (T : Txt K mg) : Cal P w K mg base CX0 1 "_law_whole" P__law_whole [] spWhole := by
  refine Cal.of T.F__law_whole T.g__law_whole (fun fd F => F.ok sc__law_whole (fun vs H Q E h => ?_) (fun cdv A outer s0 H vs Q E hr h => ?_)) (fun _ _ _ _ _ _ us hl => match us, hl with | [_], _ => rfl)
  · obtain ⟨i, rfl, _⟩ := h
    rfl
  · obtain ⟨i, rfl, k⟩ := h
    refine ⟨_, PSs.nox (pss_one (ps_ret (pe_and (pe_callB call_isi (by rfl) T.f_isinstance (by decide +kernel) (pa_cons (pv 0) (pa_cons (pe_bltn (v := .ty "int") (u := .type "int") (by rfl) T.f_int (by decide +kernel) rfl) pa_nil))) (pe_one (pe_not (pe_callB call_isi (by rfl) T.f_isinstance (by decide +kernel) (pa_cons (pv 0) (pa_cons (pe_bltn (v := .ty "bool") (u := .type "bool") (by rfl) T.f_bool (by decide +kernel) rfl) pa_nil)))))))), ?_⟩
    exact ⟨_, rfl, _, _, _, _, _, rfl, .ty _, .base (.int i), kit_ty kt_int_int, _, rfl, iteT ⟨_, rfl, _, _, _, _, _, rfl, .ty _, .base (.int i), kit_ty kt_int_bool, _, rfl, k⟩⟩
end
section
variable {P : Program} {w : World} {K : PySem.W.Frag} {mg : Str → Option Value} {base : Heap}
theorem ok_same (T : Txt K mg) : ∀ n, Cal P w K mg base CX0 (n + 2) "_law_same" P__law_same [] (spSame K n) := by
  have C__law_whole := ok_whole (P := P) (w := w) (base := base) T
  intro n
  induction n with
  | zero =>
    refine Cal.of T.F__law_same T.g__law_same (fun fd F => F.ok sc__law_same (fun vs H Q E h => ?_) (fun cdv A outer s0 H vs Q E hr h => ?_)) (fun _ _ _ _ _ _ us hl => match us, hl with | [_, _], _ => rfl)
    all_goals (obtain ⟨x, y, d, _, _, _, h, _⟩ := h; exact Bool.noConfusion (show false = true from h))
  | succ n C__law_same =>
    refine Cal.of T.F__law_same T.g__law_same (fun fd F => F.ok sc__law_same (fun vs H Q E h => ?_) (fun cdv A outer s0 H vs Q E hr h => ?_)) (fun _ _ _ _ _ _ us hl => match us, hl with | [_, _], _ => rfl)
    · obtain ⟨x, y, d, rfl, _⟩ := h
      rfl
    · obtain ⟨x, y, d, rfl, hx, hy, hd, k⟩ := h
      refine ⟨_, PSs.nox (pss_cons (ps_if (PW.pt (pw_or (pt_val (pe_callB call_isi (by rfl) T.f_isinstance (by decide +kernel) (pa_cons (pv 1) (pa_cons (pe_bltn (v := .ty "bool") (u := .type "bool") (by rfl) T.f_bool (by decide +kernel) rfl) pa_nil)))) (pw_or (pt_cmpR op_isN (pv 1) pe_non (nomark _)) (pw_or1 (pt_val (pe_callB call_isi (by rfl) T.f_isinstance (by decide +kernel) (pa_cons (pv 1) (pa_cons (pe_bltn (v := .ty "str") (u := .type "str") (by rfl) T.f_str (by decide +kernel) rfl) pa_nil)))))))) (pss_one (ps_ret (pe_and (pe_cmpR op_eq (pe_callB call_isi (by rfl) T.f_isinstance (by decide +kernel) (pa_cons (pv 0) (pa_cons (pe_bltn (v := .ty "bool") (u := .type "bool") (by rfl) T.f_bool (by decide +kernel) rfl) pa_nil))) (pe_callB call_isi (by rfl) T.f_isinstance (by decide +kernel) (pa_cons (pv 1) (pa_cons (pe_bltn (v := .ty "bool") (u := .type "bool") (by rfl) T.f_bool (by decide +kernel) rfl) pa_nil))) (nomark _)) (pe_one (pe_cmpR op_eq (pv 0) (pv 1) (nomark _))))))
    pss_nil)
    (pss_cons (ps_if (pt_val (pe_callB call_isi (by rfl) T.f_isinstance (by decide +kernel) (pa_cons (pv 1) (pa_cons (pe_bltn (v := .ty "int") (u := .type "int") (by rfl) T.f_int (by decide +kernel) rfl) pa_nil)))) (pss_one (ps_ret (pe_and (pc_call C__law_whole (hr.mono (by first | decide | omega)) pass0 (pa_cons (pv 0) pa_nil)) (pe_one (pe_cmpR op_eq (pv 0) (pv 1) (nomark _))))))
    pss_nil)
    (pss_cons (ps_if (PW.pt (pw_or (pt_cmpR op_ne (pe_callB call_isi (by rfl) T.f_isinstance (by decide +kernel) (pa_cons (pv 1) (pa_cons (pe_bltn (v := .ty "tuple") (u := .type "tuple") (by rfl) T.f_tuple (by decide +kernel) rfl) pa_nil))) (pe_callB call_isi (by rfl) T.f_isinstance (by decide +kernel) (pa_cons (pv 0) (pa_cons (pe_bltn (v := .ty "tuple") (u := .type "tuple") (by rfl) T.f_tuple (by decide +kernel) rfl) pa_nil))) (nomark _)) (pw_or1 (pt_cmpR op_ne (pe_callB call_isi (by rfl) T.f_isinstance (by decide +kernel) (pa_cons (pv 1) (pa_cons (pe_bltn (v := .ty "list") (u := .type "list") (by rfl) T.f_list (by decide +kernel) rfl) pa_nil))) (pe_callB call_isi (by rfl) T.f_isinstance (by decide +kernel) (pa_cons (pv 0) (pa_cons (pe_bltn (v := .ty "list") (u := .type "list") (by rfl) T.f_list (by decide +kernel) rfl) pa_nil))) (nomark _))))) (pss_one (ps_ret pe_bl))
    pss_nil)
    (pss_cons (ps_if (pt_cmpR op_ne (pe_callB call_len (by rfl) T.f_len (by decide +kernel) (pa_cons (pv 0) pa_nil)) (pe_callB call_len (by rfl) T.f_len (by decide +kernel) (pa_cons (pv 1) pa_nil)) (nomark _)) (pss_one (ps_ret pe_bl))
    pss_nil)
    (pss_cons (ps_for PassesOwn.never rfl (pi_range1 (by rfl) T.f_range (pa_cons (pe_callB call_len (by rfl) T.f_len (by decide +kernel) (pa_cons (pv 1) pa_nil)) pa_nil)) (pg_name (i := 2) sc__law_same.nd rfl (Or.inl rfl))
    (pss_one (ps_if (pt_not (pt_val (pc_call C__law_same (hr.mono (by first | decide | omega)) pass0 (pa_cons (pe_ix ix_seq (pv 0) (pv 2) (fun _ _ => rfl)) (pa_cons (pe_ix ix_seq (pv 1) (pv 2) (fun _ _ => rfl)) pa_nil))))) (pss_one (ps_ret pe_bl))
    pss_nil)))
    (pss_one (ps_ret pe_bl))))))), ?_⟩
      cases d with
      | none =>
        cases hx
        cases hy
        refine ⟨_, rfl, ⟨_, _, _, _, _, rfl, .ty _, (.base .non), kit_ty kt_NoneType_bool, _, rfl, iteF ⟨_, rfl, rfl, _, rfl, iteT (iteT ?_)⟩⟩⟩
        exact ⟨_, rfl, ⟨_, _, _, _, _, rfl, .ty _, (.base .non), kit_ty kt_NoneType_bool, _, rfl, ⟨_, _, _, _, _, rfl, .ty _, (.base .non), kit_ty kt_NoneType_bool, rfl, _, rfl, iteT ⟨_, rfl, _, rfl, rfl, k⟩⟩⟩⟩
      | bool b =>
        cases hx
        cases hy
        refine ⟨_, rfl, ⟨_, _, _, _, _, rfl, .ty _, (.base (.bl b)), kit_ty kt_bool_bool, _, rfl, iteT (iteT ?_)⟩⟩
        refine ⟨_, rfl, ⟨_, _, _, _, _, rfl, .ty _, (.base (.bl b)), kit_ty kt_bool_bool, _, rfl, ⟨_, _, _, _, _, rfl, .ty _, (.base (.bl b)), kit_ty kt_bool_bool, rfl, _, rfl, iteT ⟨_, rfl, _, rfl, rfl, ?_⟩⟩⟩⟩
        rw [decide_eq_true rfl]
        exact k
      | int i =>
        cases hx
        cases hy
        refine ⟨_, rfl, ⟨_, _, _, _, _, rfl, .ty _, (.base (.int i)), kit_ty kt_int_bool, _, rfl, iteF ⟨_, rfl, rfl, _, rfl, ifF (decide_eq_false fun e => nomatch e) ⟨_, rfl, ⟨_, _, _, _, _, rfl, .ty _, (.base (.int i)), kit_ty kt_int_str, _, rfl, iteF ?_⟩⟩⟩⟩⟩
        refine ⟨_, rfl, ⟨_, _, _, _, _, rfl, .ty _, (.base (.int i)), kit_ty kt_int_int, _, rfl, iteT ⟨_, rfl, i, rfl, _, rfl, iteT ⟨_, rfl, _, rfl, rfl, ?_⟩⟩⟩⟩
        rw [decide_eq_true rfl]
        exact k
      | str z =>
        cases hx
        cases hy
        refine ⟨_, rfl, ⟨_, _, _, _, _, rfl, .ty _, (.base (.str z)), kit_ty kt_str_bool, _, rfl, iteF ⟨_, rfl, rfl, _, rfl, ifF (decide_eq_false fun e => nomatch e) ⟨_, rfl, ⟨_, _, _, _, _, rfl, .ty _, (.base (.str z)), kit_ty kt_str_str, _, rfl, iteT ?_⟩⟩⟩⟩⟩
        refine ⟨_, rfl, ⟨_, _, _, _, _, rfl, .ty _, (.base (.str z)), kit_ty kt_str_bool, _, rfl, ⟨_, _, _, _, _, rfl, .ty _, (.base (.str z)), kit_ty kt_str_bool, rfl, _, rfl, iteT ⟨_, rfl, _, rfl, rfl, ?_⟩⟩⟩⟩
        rw [decide_eq_true rfl]
        exact k
      | list ds =>
        cases hx with
        | lst hxs hxa =>
          cases hy with
          | lst hys hya =>
            rename_i a xs b ys
            obtain ⟨hl, hall⟩ := Bool.and_eq_true_iff.mp (show (decide (ds.length ≤ 100000) && ds.all (okD n)) = true from hd)
            have hl := of_decide_eq_true hl
            have ta := tyx_l hxs
            have tb := tyx_l hys
            refine ⟨_, rfl, ⟨_, _, _, _, _, rfl, .ty _, tb, kit_ty kt_list_bool, _, rfl, iteF ⟨_, rfl, rfl, _, rfl, ifF (decide_eq_false fun e => nomatch e) ⟨_, rfl, ⟨_, _, _, _, _, rfl, .ty _, tb, kit_ty kt_list_str, _, rfl, iteF ?_⟩⟩⟩⟩⟩
            refine ⟨_, rfl, ⟨_, _, _, _, _, rfl, .ty _, tb, kit_ty kt_list_int, _, rfl, iteF ?_⟩⟩
            refine ⟨_, rfl, ⟨_, _, _, _, _, rfl, .ty _, tb, kit_ty kt_list_tuple, _, rfl, ⟨_, _, _, _, _, rfl, .ty _, ta, kit_ty kt_list_tuple, rfl, _, rfl, iteF ⟨_, rfl, ⟨_, _, _, _, _, rfl, .ty _, tb, kit_ty kt_list_list, _, rfl, ⟨_, _, _, _, _, rfl, .ty _, ta, kit_ty kt_list_list, rfl, _, rfl, iteF ?_⟩⟩⟩⟩⟩⟩
            refine ⟨_, rfl, _, _, rfl, .inl ⟨_, hxs, (dp_len hxa).symm⟩, _, rfl, _, _, rfl, .inl ⟨_, hys, (dp_len hya).symm⟩, rfl, _, rfl, ?_⟩
            rw [decide_eq_true rfl]
            refine iteF ⟨_, rfl, _, _, rfl, .inl ⟨_, hys, (dp_len hya).symm⟩, _, rfl, by omega, by omega, ?_⟩
            refine for_range (lo := 0) (n := (((ds.length : Nat) : Int) - 0).toNat) (fun i σ' H' => ∃ v, σ' = [some (.ref a), some (.ref b), v] ∧ H' = H) ⟨_, rfl, rfl⟩ ?_ ?_
            · rintro i σ' H' hi ⟨v, rfl, rfl⟩
              have hid : i < ds.length := by omega
              obtain ⟨dx, hdx⟩ : ∃ d, ds[i]? = some d := ⟨_, List.getElem?_eq_getElem hid⟩
              obtain ⟨x1, hx1, hx2⟩ := dp_get hxa hdx
              obtain ⟨y1, hy1, hy2⟩ := dp_get hya hdx
              have ok1 := List.all_eq_true.mp hall dx (List.mem_of_getElem? hdx)
              refine ⟨_, rfl, _, rfl, .inl ⟨a, xs, _, x1, rfl, rfl, hxs, atNat (n := i) hx1 (by omega), _, rfl, _, rfl, .inl ⟨b, ys, _, y1, rfl, rfl, hys, atNat (n := i) hy1 (by omega), x1, y1, dx, rfl, hx2, hy2, ok1, _, rfl, iteF ?_⟩⟩⟩
              exact ⟨_, rfl, rfl⟩
            · rintro σ' H' ⟨v, rfl, rfl⟩
              exact k
      | tuple ds =>
        cases hx with
        | tup hxs hxa =>
          cases hy with
          | tup hys hya =>
            rename_i a xs b ys
            obtain ⟨hl, hall⟩ := Bool.and_eq_true_iff.mp (show (decide (ds.length ≤ 100000) && ds.all (okD n)) = true from hd)
            have hl := of_decide_eq_true hl
            have ta := tyx_t hxs
            have tb := tyx_t hys
            refine ⟨_, rfl, ⟨_, _, _, _, _, rfl, .ty _, tb, kit_ty kt_tuple_bool, _, rfl, iteF ⟨_, rfl, rfl, _, rfl, ifF (decide_eq_false fun e => nomatch e) ⟨_, rfl, ⟨_, _, _, _, _, rfl, .ty _, tb, kit_ty kt_tuple_str, _, rfl, iteF ?_⟩⟩⟩⟩⟩
            refine ⟨_, rfl, ⟨_, _, _, _, _, rfl, .ty _, tb, kit_ty kt_tuple_int, _, rfl, iteF ?_⟩⟩
            refine ⟨_, rfl, ⟨_, _, _, _, _, rfl, .ty _, tb, kit_ty kt_tuple_tuple, _, rfl, ⟨_, _, _, _, _, rfl, .ty _, ta, kit_ty kt_tuple_tuple, rfl, _, rfl, iteF ⟨_, rfl, ⟨_, _, _, _, _, rfl, .ty _, tb, kit_ty kt_tuple_list, _, rfl, ⟨_, _, _, _, _, rfl, .ty _, ta, kit_ty kt_tuple_list, rfl, _, rfl, iteF ?_⟩⟩⟩⟩⟩⟩
            refine ⟨_, rfl, _, _, rfl, .inr ⟨_, hxs, (dp_len hxa).symm⟩, _, rfl, _, _, rfl, .inr ⟨_, hys, (dp_len hya).symm⟩, rfl, _, rfl, ?_⟩
            rw [decide_eq_true rfl]
            refine iteF ⟨_, rfl, _, _, rfl, .inr ⟨_, hys, (dp_len hya).symm⟩, _, rfl, by omega, by omega, ?_⟩
            refine for_range (lo := 0) (n := (((ds.length : Nat) : Int) - 0).toNat) (fun i σ' H' => ∃ v, σ' = [some (.ref a), some (.ref b), v] ∧ H' = H) ⟨_, rfl, rfl⟩ ?_ ?_
            · rintro i σ' H' hi ⟨v, rfl, rfl⟩
              have hid : i < ds.length := by omega
              obtain ⟨dx, hdx⟩ : ∃ d, ds[i]? = some d := ⟨_, List.getElem?_eq_getElem hid⟩
              obtain ⟨x1, hx1, hx2⟩ := dp_get hxa hdx
              obtain ⟨y1, hy1, hy2⟩ := dp_get hya hdx
              have ok1 := List.all_eq_true.mp hall dx (List.mem_of_getElem? hdx)
              refine ⟨_, rfl, _, rfl, .inr (.inl ⟨a, xs, _, x1, rfl, rfl, hxs, atNat (n := i) hx1 (by omega), _, rfl, _, rfl, .inr (.inl ⟨b, ys, _, y1, rfl, rfl, hys, atNat (n := i) hy1 (by omega), x1, y1, dx, rfl, hx2, hy2, ok1, _, rfl, iteF ?_⟩)⟩)⟩
              exact ⟨_, rfl, rfl⟩
            · rintro σ' H' ⟨v, rfl, rfl⟩
              exact k
      | dict kvs => exact Bool.noConfusion (show false = true from hd)
end
def inS (x y : Str) : Bool := !(Builtin.Str.occurrences y x 0 y.length 1).isEmpty
def isLet (c : Nat) : Bool := inS ⟨#[c]⟩ "abcdefghijklmnopqrstuvwxyz"
def isDig (c : Nat) : Bool := inS ⟨#[c]⟩ "0123456789"
def wordsV : List V := [.str "count", .str "sum", .str "max", .str "min", .str "avg", .str "by", .str "from", .str "where"]
/-- what is_name asks of a text -/
def signOk (i c : Nat) : Bool := isLet c || (decide (i ≠ 0) && isDig c)
def nameOk (z : Str) : Bool := decide (1 ≤ z.length) && (decide (z.length ≤ 8) && (!inV (.str z) wordsV && (List.range z.cps.size).all fun i => match z.cps.toList[i]? with | some c => signOk i c | none => true))
section
variable {P : Program} {w : World} {K : PySem.W.Frag} {mg : Str → Option Value} {base : Heap}
def spIsName : Sp := fun vs H Q _ => ∃ z : Str, vs = [.str z] ∧ z.length ≤ 3000 ∧ ∀ H', Same H H' → Q (.bl (nameOk z)) H'
theorem ok_isname (T : Txt K mg) : Cal P w K mg base CX0 1 "is_name" P_is_name [] spIsName := by
  refine Cal.of T.F_is_name T.g_is_name (fun fd F => F.ok sc_is_name (fun vs H Q E h => ?_) (fun cdv A outer s0 H vs Q E hr h => ?_)) (fun _ _ _ _ _ _ us hl => match us, hl with | [_], _ => rfl)
  · obtain ⟨z, rfl, _⟩ := h
    rfl
  · obtain ⟨z, rfl, hz, kQ⟩ := h
    have k := kQ H (Same.refl H)
    refine ⟨_, PSs.nox (pss_cons (ps_if (PW.pt (pw_or (pt_not (pt_val (pe_callB call_isi (by rfl) T.f_isinstance (by decide +kernel) (pa_cons (pv 0) (pa_cons (pe_bltn (v := .ty "str") (u := .type "str") (by rfl) T.f_str (by decide +kernel) rfl) pa_nil))))) (pw_or (pt_not (pt_chain op_le op_le pe_int (pe_callB call_len (by rfl) T.f_len (by decide +kernel) (pa_cons (pv 0) pa_nil)) pe_int)) (pw_or1 (pt_cmpR op_in_seq (pv 0) (pe_glob (v := .ref (He.ga K "WORDS")) rfl T.g_WORDS rfl) rfl))))) (pss_one (ps_ret pe_bl))
    pss_nil)
    (pss_cons (ps_for PassesOwn.never rfl (pi_enumS (by rfl) T.f_enumerate (pa_cons (pv 0) pa_nil)) (pg_tup rfl (pgs_cons (pg_name (i := 1) sc_is_name.nd rfl (Or.inl rfl)) (pgs_cons (pg_name (i := 2) sc_is_name.nd rfl (Or.inl rfl)) pgs_nil)))
    (pss_one (ps_if (PW.pt (pw_and (pt_cmpR op_notIn_str (pv 2) (pe_globS rfl T.c_LETTERS) rfl) (pw_and1 (PW.pt (pw_or (pt_cmpR op_eq (pv 1) pe_int (nomark _)) (pw_or1 (pt_cmpR op_notIn_str (pv 2) (pe_globS rfl T.c_DIGITS) rfl))))))) (pss_one (ps_ret pe_bl))
    pss_nil)))
    (pss_one (ps_ret pe_bl)))), ?_⟩
    have fw : wordsV.all flatV = true := by decide
    refine ⟨_, rfl, _, _, _, _, _, rfl, .ty _, (.base (.str z)), kit_ty kt_str_str, _, rfl, iteF ?_⟩
    by_cases h1 : 1 ≤ z.length
    · by_cases h2 : z.length ≤ 8
      · refine ⟨_, rfl, _, _, rfl, ⟨sz (by omega), rfl⟩, _, _, rfl, rfl, _, rfl, ifT (decide_eq_true (by omega)) ⟨_, _, rfl, rfl, _, rfl, ?_⟩⟩
        refine ifF (by show (!decide ((z.length : Int) ≤ 8)) = false; rw [decide_eq_true (show (z.length : Int) ≤ 8 by omega)]; rfl) ?_
        refine ⟨_, rfl, _, wordsV, rfl, .inr (T.tup_WORDS H), rfl, fw, _, rfl, ?_⟩
        have nk : nameOk z = (!inV (.str z) wordsV && (List.range z.cps.size).all fun i => match z.cps.toList[i]? with | some c => signOk i c | none => true) := by
          unfold nameOk
          rw [decide_eq_true h1, decide_eq_true h2]
          rfl
        rw [nk] at k
        cases hw : inV (.str z) wordsV with
        | true =>
          rw [hw] at k
          exact iteT k
        | false =>
          rw [hw] at k
          refine iteF ⟨_, rfl, z, rfl, ?_⟩
          refine for_it (walk_enumS (z := z)) (fun i σ' H' => (List.range i).all (fun i => match z.cps.toList[i]? with | some c => signOk i c | none => true) = true ∧ Same H H' ∧ ∃ v1 v2 : Option V, σ' = [some (.str z), v1, v2]) ⟨rfl, Same.refl H, _, _, rfl⟩ (fun _ _ _ _ _ => True.intro) ?_ ?_
          · rintro i y σ' H1 H2 hi ⟨ha, s1, v1, v2, rfl⟩ ⟨t, c, rfl, nt, hc, rfl⟩
            have s2 := same_new s1 (o := .tup [.int (i : Int), .str ⟨#[c]⟩]) nt
            have ea : ((List.range (i + 1)).all fun i => match z.cps.toList[i]? with | some c => signOk i c | none => true) = signOk i c := by
              rw [List.range_succ, List.all_append, ha, Bool.true_and, List.all_cons, List.all_nil, Bool.and_true, hc]
            have bad : signOk i c = false → ((List.range z.cps.size).all fun i => match z.cps.toList[i]? with | some c => signOk i c | none => true) = false := fun e => by
              cases q : (List.range z.cps.size).all fun i => match z.cps.toList[i]? with | some c => signOk i c | none => true with
              | false => rfl
              | true =>
                have := List.all_eq_true.mp q i (List.mem_range.mpr hi)
                rw [hc] at this
                rw [← this, ← e]
            have kk := kQ _ s2
            rw [nk, hw] at kk
            refine ⟨t, _, rfl, SqT.of upd_same, rfl, _, _, rfl, _, _, rfl, rfl, ?_⟩
            refine ⟨_, rfl, _, _, rfl, rfl, _, rfl, ?_⟩
            cases hl : isLet c with
            | true =>
              have hl' : (!!(Builtin.Str.occurrences ("abcdefghijklmnopqrstuvwxyz" : Str) ⟨#[c]⟩ 0 ("abcdefghijklmnopqrstuvwxyz" : Str).length 1).isEmpty) = false := by
                show (!isLet c) = false
                rw [hl]
                rfl
              refine ifF hl' (iteF ⟨?_, s2, _, _, rfl⟩)
              rw [ea]
              unfold signOk
              rw [hl]
              rfl
            | false =>
              have hl' : (!!(Builtin.Str.occurrences ("abcdefghijklmnopqrstuvwxyz" : Str) ⟨#[c]⟩ 0 ("abcdefghijklmnopqrstuvwxyz" : Str).length 1).isEmpty) = true := by
                show (!isLet c) = true
                rw [hl]
                rfl
              refine ifT hl' ⟨_, rfl, rfl, _, rfl, ifI (fun h => ?_) (fun h => ?_)⟩
              · have e : signOk i c = false := by
                  unfold signOk
                  rw [hl, decide_eq_false (show ¬ i ≠ 0 by omega)]
                  rfl
                rw [bad e] at kk
                exact iteT kk
              · refine ⟨_, rfl, _, _, rfl, rfl, _, rfl, ?_⟩
                have e0 : signOk i c = isDig c := by
                  unfold signOk
                  rw [hl, decide_eq_true (show i ≠ 0 by omega)]
                  rfl
                cases hd : isDig c with
                | true =>
                  have hd' : (!!(Builtin.Str.occurrences ("0123456789" : Str) ⟨#[c]⟩ 0 ("0123456789" : Str).length 1).isEmpty) = false := by
                    show (!isDig c) = false
                    rw [hd]
                    rfl
                  refine ifF hd' ⟨?_, s2, _, _, rfl⟩
                  rw [ea, e0, hd]
                | false =>
                  have hd' : (!!(Builtin.Str.occurrences ("0123456789" : Str) ⟨#[c]⟩ 0 ("0123456789" : Str).length 1).isEmpty) = true := by
                    show (!isDig c) = true
                    rw [hd]
                    rfl
                  rw [bad (by rw [e0, hd])] at kk
                  exact ifT hd' kk
          · rintro σ' H1 ⟨ha, s1, v1, v2, rfl⟩
            have kk := kQ _ s1
            rw [nk, hw, ha] at kk
            exact kk
      · refine ⟨_, rfl, _, _, rfl, ⟨sz (by omega), rfl⟩, _, _, rfl, rfl, _, rfl, ifT (decide_eq_true (by omega)) ⟨_, _, rfl, rfl, _, rfl, ?_⟩⟩
        have nk : nameOk z = false := by
          unfold nameOk
          rw [decide_eq_false h2, Bool.false_and, Bool.and_false]
        rw [nk] at k
        exact ifT (by show (!decide ((z.length : Int) ≤ 8)) = true; rw [decide_eq_false (show ¬ (z.length : Int) ≤ 8 by omega)]; rfl) (iteT k)
    · have nk : nameOk z = false := by
        unfold nameOk
        rw [decide_eq_false h1, Bool.false_and]
      rw [nk] at k
      exact ⟨_, rfl, _, _, rfl, ⟨sz (by omega), rfl⟩, _, _, rfl, rfl, _, rfl, ifF (decide_eq_false (by omega)) ⟨_, rfl, iteT (iteT k)⟩⟩
end
theorem but_sqT {s : Addr} {K : PySem.W.Frag} {H H' : Hp} {a : Addr} {xs : List V} {C dx : Addr} {fs : List (Str × V)} (e : But s H H') (hs : H s = some (.ins C dx fs)) (h : SqT K H a xs) : SqT K H' a xs := by
  rcases h with (h | ⟨u, h⟩) | h
  · exact .inl (.inl (e _ _ (ne_of h hs (by intro z; cases z)) h))
  · exact .inl (.inr ⟨u, e _ _ (ne_of h hs (by intro z; cases z)) h⟩)
  · exact .inr h
theorem but_sqL {s : Addr} {K : PySem.W.Frag} {H H' : Hp} {a : Addr} {xs : List V} {C dx : Addr} {fs : List (Str × V)} (e : But s H H') (hs : H s = some (.ins C dx fs)) (h : SqL K H a xs) : SqL K H' a xs := by
  rcases h with (h | ⟨u, h⟩) | h
  · exact .inl (.inl (e _ _ (ne_of h hs (by intro z; cases z)) h))
  · exact .inl (.inr ⟨u, e _ _ (ne_of h hs (by intro z; cases z)) h⟩)
  · exact .inr h
theorem but_sq {s : Addr} {K : PySem.W.Frag} {H H' : Hp} {a : Addr} {xs : List V} {C dx : Addr} {fs : List (Str × V)} (e : But s H H') (hs : H s = some (.ins C dx fs)) (h : Sq K H a xs) : Sq K H' a xs := h.imp (but_sqL e hs) (but_sqT e hs)
mutual
theorem but_dp {s : Addr} {K : PySem.W.Frag} {H H' : Hp} {C dx : Addr} {fs : List (Str × V)} (e : But s H H') (hs : H s = some (.ins C dx fs)) : ∀ {v : V} {d : PyData}, Dp K H v d → Dp K H' v d
  | _, _, .non => .non
  | _, _, .bl b => .bl b
  | _, _, .int i => .int i
  | _, _, .str x => .str x
  | _, _, .lst h t => .lst (but_sqL e hs h) (but_dpAll e hs t)
  | _, _, .tup h t => .tup (but_sqT e hs h) (but_dpAll e hs t)
theorem but_dpAll {s : Addr} {K : PySem.W.Frag} {H H' : Hp} {C dx : Addr} {fs : List (Str × V)} (e : But s H H') (hs : H s = some (.ins C dx fs)) : ∀ {vs : List V} {ds : List PyData}, DpAll K H vs ds → DpAll K H' vs ds
  | _, _, .nil => .nil
  | _, _, .cons h t => .cons (but_dp e hs h) (but_dpAll e hs t)
end
def ptV : Option Int → V
  | none => .non
  | some i => .int i
def dTie (b : Int × Str) : PyData := .tuple [.int b.1, .str b.2]
def tieLe (a b : Int × Str) : Bool := !PySem.W.dataLt (dTie b) (dTie a)
def srt (bs : List (Int × Str)) : List (Int × Str) := bs.mergeSort tieLe
theorem srt_data (bs : List (Int × Str)) : (srt bs).map dTie = (bs.map dTie).mergeSort fun x y => !PySem.W.dataLt y x := List.map_mergeSort (fun _ _ _ _ => rfl)
theorem srt_len (bs : List (Int × Str)) : (srt bs).length = bs.length := List.length_mergeSort _
theorem srt_perm (bs : List (Int × Str)) : (srt bs).Perm bs := List.mergeSort_perm _ _
/-- the columns of ties, one by one -/
def colAt (w : Int) (cs : List Int) (i : Nat) : Bool := match cs[i]? with
  | some c => decide (0 ≤ c) && (decide (c < w) && !inV (.int c) ((cs.take i).map V.int))
  | none => true
def colsOk (w : Int) (cs : List Int) : Bool := (List.range cs.length).all (colAt w cs)
def keyOk (w : Int) : Option Int → Bool
  | none => true
  | some m => decide (0 ≤ m) && decide (m ≤ w)
def tabOk (w : Int) (mk : Option Int) (bs : List (Int × Str)) : Bool := decide (1 ≤ w) && (decide (w ≤ 3) && (keyOk w mk && colsOk w ((srt bs).map Prod.fst)))
theorem noL_tie (b : Int × Str) : noL 3 (dTie b) = true := rfl
theorem noL_ties {as bs : List (Int × Str)} : (as.map dTie ++ bs.map dTie).all (noL 3) = true := by
  rw [List.all_eq_true]
  intro d hd
  rcases List.mem_append.mp hd with h | h
  · obtain ⟨a, _, rfl⟩ := List.mem_map.mp h
    rfl
  · obtain ⟨a, _, rfl⟩ := List.mem_map.mp h
    rfl
theorem allAlike_ties (bs : List (Int × Str)) : PySem.W.AllAlike (bs.map dTie) := PySem.W.AllAlike.of fun a b => rfl
theorem sortable_ties (bs : List (Int × Str)) : PySem.W.Sortable (bs.map dTie) := PySem.W.Sortable.tuples fun a => ⟨_, _, rfl⟩
theorem depth_ties (bs : List (Int × Str)) : ∀ d ∈ bs.map dTie, d.depth ≤ 100 := by
  intro d hd
  obtain ⟨a, _, rfl⟩ := List.mem_map.mp hd
  show max 0 (max 0 0) + 1 ≤ 100
  decide
theorem dp_tieInv {K : PySem.W.Frag} {H : Hp} {v : V} {b : Int × Str} (h : Dp K H v (dTie b)) : ∃ t : Addr, v = .ref t ∧ SqT K H t [.int b.1, .str b.2] := by
  cases h with
  | tup h1 h2 =>
    cases h2 with
    | cons a1 a2 =>
      cases a1
      cases a2 with
      | cons a3 a4 =>
        cases a3
        cases a4
        exact ⟨_, rfl, h1⟩
theorem take_all' {α : Type} {l : List α} {n : Nat} (h : n = l.length) : l.take n = l := by rw [h, List.take_length]
/-- a table -/
def tabF (z : Str) (w : Int) (k t : V) : List (Str × V) := [("name", .str z), ("width", .int w), ("key", k), ("ties", t)]
structure IsTab (K : PySem.W.Frag) (H : Hp) (x : Addr) (z : Str) (w : Int) (mk : Option Int) (bs : List (Int × Str)) : Prop where
  ex : ∃ dx t : Addr, H x = some (.ins (He.ga K "Table") dx (tabF z w (ptV mk) (.ref t))) ∧ Dp K H (.ref t) (.tuple ((srt bs).map dTie))
theorem key_test {σ : L2.St} {H : Hp} {Qb : Bool → Hp → Prop} {wd : Int} {mk : Option Int} (h3 : σ[3]? = some (some (ptV mk))) (h2 : σ[2]? = some (some (.int wd))) (h : Qb (!keyOk wd mk) H) :
    tAnd (tTest (tOp (fun x y H Q => y = V.non ∧ Q (V.bl !decide (x = V.non)) H) (tVar 3) (tC V.non))) (tNot (tTest (tChain (rI0 fun i j => V.bl (decide (i ≤ j))) (rI0 fun i j => V.bl (decide (i ≤ j))) (tC (V.int 0)) (tVar 3) (tVar 2)))) σ H Qb := by
  cases mk with
  | none => exact ⟨_, h3, rfl, _, rfl, iteF h⟩
  | some m =>
    refine ⟨_, h3, rfl, _, rfl, iteT ⟨_, h3, _, _, rfl, rfl, _, rfl, ?_⟩⟩
    by_cases q : 0 ≤ m
    · refine ifT (decide_eq_true q) ⟨_, h2, _, _, rfl, rfl, _, rfl, ?_⟩
      have : (!keyOk wd (some m)) = !decide (m ≤ wd) := by
        show (!(decide (0 ≤ m) && decide (m ≤ wd))) = _
        rw [decide_eq_true q]
        rfl
      rw [this] at h
      exact h
    · refine ifF (decide_eq_false q) ⟨_, rfl, ?_⟩
      have : (!keyOk wd (some m)) = true := by
        show (!(decide (0 ≤ m) && decide (m ≤ wd))) = _
        rw [decide_eq_false q]
        rfl
      rw [this] at h
      exact h
def spTable (K : PySem.W.Frag) : Sp := fun vs H Q E => ∃ (x dx t : Addr) (z : Str) (w : Int) (mk : Option Int) (bs : List (Int × Str)), vs = [.ref x, .str z, .int w, ptV mk, .ref t] ∧ H x = some (.ins (He.ga K "Table") dx []) ∧ Dp K H (.ref t) (.tuple (bs.map dTie)) ∧ z.length ≤ 3000 ∧ bs.length ≤ 100 ∧
  (nameOk z = false → ∀ d H', H' d = some (.xd [("name", .str z)]) → Same H H' → E (.ref (He.ga K "InvalidName")) (some d) H') ∧
  (nameOk z = true → tabOk w mk bs = false → ∀ d H', H' d = some (.xd [("name", .str z)]) → Same H H' → E (.ref (He.ga K "InvalidTable")) (some d) H') ∧
  (nameOk z = true → tabOk w mk bs = true → ∀ H', IsTab K H' x z w mk bs → But x H H' → Q .non H')
section
variable {P : Program} {w : World} {K : PySem.W.Frag} {mg : Str → Option Value} {base : Heap}
theorem ok_tableF (T : Txt K mg) (hP : PrOk P file) {fd : FuncData} (F : FunD K d_Table_DinitD.name d_Table_DinitD.qual (defArgs s_Table_DinitD) (defBody s_Table_DinitD) (defScope s_Table_DinitD) (d_Table_DinitD.dvs K) (d_Table_DinitD.kws K) (He.fAd K d_Table_DinitD.at_) fd) :
    FnOk P w K mg base (L2N.CX P w) 3 (He.fAd K d_Table_DinitD.at_) fd P_Table_DinitD (spTable K) := by
  have C_is_name := ok_isname (P := P) (w := w) (base := base) T
  have R_InvalidName := ini_InvalidName (P := P) (w := w) (base := base) T hP
  have R_InvalidTable := ini_InvalidTable (P := P) (w := w) (base := base) T hP
  refine F.ok sc_Table_DinitD (fun vs H Q E h => ?_) (fun cdv A outer s0 H vs Q E hr h => ?_)
  · obtain ⟨x, dx, t, z, wd, mk, bs, rfl, _⟩ := h
    rfl
  · obtain ⟨x, dx, t, z, wd, mk, bs, rfl, hx, ht, hz, hb, k1, k2, k3⟩ := h
    refine ⟨_, (pss_cons (ps_if (pt_not (pt_val (pc_call C_is_name (hr.mono (by first | decide | omega)) pass0 (pa_cons (pv 1) pa_nil)))) (pss_one (L2N.ps_raise rfl (L2N.takes_of rfl rfl rfl rfl) (pmk_sup R_InvalidName (hr.mono (by first | decide | omega)) (pa_cons (pv 1) pa_nil))))
    pss_nil)
    (pss_cons (ps_if (pt_not (pt_chain op_le op_le pe_int (pv 2) (pe_globI rfl T.c_MOST_COLUMNS))) (pss_one (L2N.ps_raise rfl (L2N.takes_of rfl rfl rfl rfl) (pmk_sup R_InvalidTable (hr.mono (by first | decide | omega)) (pa_cons (pv 1) pa_nil))))
    pss_nil)
    (pss_cons (ps_if (PW.pt (pw_and (pt_cmpR op_notN (pv 3) pe_non (nomark _)) (pw_and1 (pt_not (pt_chain op_le op_le pe_int (pv 3) (pv 2)))))) (pss_one (L2N.ps_raise rfl (L2N.takes_of rfl rfl rfl rfl) (pmk_sup R_InvalidTable (hr.mono (by first | decide | omega)) (pa_cons (pv 1) pa_nil))))
    pss_nil)
    (pss_cons (ps_set (i := 5) sc_Table_DinitD.nd rfl (Or.inl rfl) (pe_callB (cr_sortedDR hr) (by rfl) T.f_sorted (by decide +kernel) (pa_cons (pe_lc (own := [("column", 6), ("target", 7)]) (g := (gTup K 2 (gCons (gName 6) (gCons (gName 7) gNil)))) (tt := tYes) rfl sc_Table_DinitD.nd (pi_tup (pv 4)) (blkOk_by (N := N_Table_DinitD) (sc := defScope s_Table_DinitD) (by decide +kernel)) (fun _ _ _ _ _ => (pg_tup rfl (pgs_cons (pg_name (i := 6) sc_Table_DinitD.nd rfl (Or.inl rfl)) (pgs_cons (pg_name (i := 7) sc_Table_DinitD.nd rfl (Or.inl rfl)) pgs_nil)))) (fun _ _ _ _ _ => pts_nil) (fun _ _ _ _ _ => (pe_tup (pa_cons (pv 6) (pa_cons (pv 7) pa_nil))))) pa_nil)))
    (pss_cons (ps_setLc (i := 8) (own := [("column", 6), ("_", 9)]) (g := (gTup K 2 (gCons (gName 6) (gCons (gName 9) gNil)))) (tt := tYes) rfl sc_Table_DinitD.nd rfl rfl (sw_true rfl rfl rfl (by decide +kernel)) (pi_list (pv 5)) (blkOk_by (N := N_Table_DinitD) (sc := defScope s_Table_DinitD) (by decide +kernel)) (fun _ _ _ _ _ => (pg_tup rfl (pgs_cons (pg_name (i := 6) sc_Table_DinitD.nd rfl (Or.inl rfl)) (pgs_cons (pg_name (i := 9) sc_Table_DinitD.nd rfl (Or.inl rfl)) pgs_nil)))) (fun _ _ _ _ _ => pts_nil) (fun _ _ _ _ _ => (pv 6)))
    (pss_cons (ps_for (passes_of rfl) rfl (pi_enum (by rfl) T.f_enumerate (pa_cons (pv 8) pa_nil)) (pg_tup rfl (pgs_cons (pg_name (i := 10) sc_Table_DinitD.nd rfl (Or.inl rfl)) (pgs_cons (pg_name (i := 6) sc_Table_DinitD.nd rfl (Or.inl rfl)) pgs_nil)))
    (pss_one (ps_if (PW.pt (pw_or (pt_not (pt_chain op_le op_lt pe_int (pv 6) (pv 2))) (pw_or1 (pt_cmpR op_in_seq (pv 6) (pe_slice sl_list (pv 8) po_none (po_some (pv 10))) rfl)))) (pss_one (L2N.ps_raise rfl (L2N.takes_of rfl rfl rfl rfl) (pmk_sup R_InvalidTable (hr.mono (by first | decide | omega)) (pa_cons (pv 1) pa_nil))))
    pss_nil)))
    (pss_cons (ps_fld (pv 0) (pv 1) rfl)
    (pss_cons (ps_fld (pv 0) (pv 2) rfl)
    (pss_cons (ps_fld (pv 0) (pv 3) rfl)
    (pss_one (ps_fld (pv 0) (pe_callTy (call_tupA (K := K) rfl) (by rfl) T.f_tuple (by decide +kernel) (pa_cons (pv 5) pa_nil)) rfl))))))))))), ?_⟩
    have lb : (bs.map dTie).length = bs.length := List.length_map _
    obtain ⟨vs, hsq, hda⟩ : ∃ vs, SqT K H t vs ∧ DpAll K H vs (bs.map dTie) := by
      cases ht with
      | tup hsq hda => exact ⟨_, hsq, hda⟩
    refine ⟨_, rfl, z, rfl, hz, fun H1 s1 => ⟨_, rfl, ?_⟩⟩
    cases hn : nameOk z with
    | false => exact iteT ⟨_, rfl, raised1 fun dd Hf h1 s2 => k1 hn dd Hf h1 fun b o e => s2 _ _ (s1 _ _ e)⟩
    | true =>
      refine iteF ?_
      have bad : tabOk wd mk bs = false → ∀ {H2}, Same H H2 → ∀ dd Hf, Hf dd = some (.xd [("name", .str z)]) → Same H2 Hf → E (.ref (He.ga K "InvalidTable")) (some dd) Hf := fun e {H2} s dd Hf h1 s2 => k2 hn e dd Hf h1 fun b o e => s2 _ _ (s _ _ e)
      by_cases w1 : 1 ≤ wd
      · by_cases w2 : wd ≤ 3
        · refine ⟨_, rfl, _, _, rfl, rfl, _, rfl, ifT (decide_eq_true w1) ⟨_, _, rfl, rfl, _, rfl, ?_⟩⟩
          refine ifF (by rw [decide_eq_true w2]; rfl) ?_
          have tk : tabOk wd mk bs = (keyOk wd mk && colsOk wd ((srt bs).map Prod.fst)) := by
            unfold tabOk
            rw [decide_eq_true w1, decide_eq_true w2]
            rfl
          refine key_test rfl rfl ?_
          cases hk : keyOk wd mk with
          | false =>
            rw [hk] at tk
            exact iteT ⟨_, rfl, raised1 (bad tk s1)⟩
          | true =>
            rw [hk, Bool.true_and] at tk
            refine iteF ?_
            -- ordered
            have hsq1 := same_tup s1 hsq
            refine ⟨_, rfl, t, rfl, ⟨_, hsq1⟩, fun D nD => ?_⟩
            refine lc_it (walk_tup (xs := vs)) (fun i H' => Same H1 H' ∧ ∃ ws : List V, H' D = some (.lst ws) ∧ DpAll K H' ws ((bs.take i).map dTie)) ⟨same_new (Same.refl H1) nD, [], upd_same, .nil⟩ (fun i H' _ q => same_tup q.1 hsq1) ?_ ?_
            · rintro i y _ H2 hi ⟨s2, ws, hD, hw⟩ ⟨rfl, hy⟩
              have lv := dp_len hda
              rw [lb] at lv
              obtain ⟨b, hbi⟩ : ∃ b, bs[i]? = some b := ⟨_, List.getElem?_eq_getElem (by omega)⟩
              obtain ⟨v, hv, dv⟩ := dp_get hda (get_map (f := dTie) hbi)
              rw [hy] at hv
              cases hv
              obtain ⟨tt, rfl, htt⟩ := dp_tieInv dv
              have s02 : Same H H2 := fun b o e => s2 _ _ (s1 _ _ e)
              refine ⟨tt, _, rfl, same_tup s02 htt, rfl, _, _, rfl, _, _, rfl, rfl, rfl, _, rfl, _, rfl, by show 2 ≤ sizeLine; decide, fun t' nt => ?_⟩
              have hD6 : (upd H2 t' (.tup [.int b.1, .str b.2])) D = some (.lst ws) := by rw [upd_ne (ne_of_none hD nt)]; exact hD
              have s6 : Same H2 (upd H2 t' (.tup [.int b.1, .str b.2])) := same_new (Same.refl H2) nt
              have lw : ws.length = i := by
                rw [dp_len hw, List.length_map, List.length_take]
                omega
              refine ⟨ws, hD6, szl (by omega), same_mut (fun b o e => s6 _ _ (s2 _ _ e)) nD, ws ++ [.ref t'], upd_same, ?_⟩
              have d2 : Dp K (upd H2 t' (.tup [.int b.1, .str b.2])) (.ref t') (dTie b) := .tup (SqT.of upd_same) (.cons (.int _) (.cons (.str _) .nil))
              rw [take_snoc hbi, List.map_append]
              exact dpAll_lst hD6 (n := 3) noL_ties (dpAll_snoc d2 (dpAll_same s6 hw))
            · rintro H2 ⟨s2, ws, hD, hw⟩
              have lv := dp_len hda
              rw [lb] at lv
              rw [lv, List.take_length] at hw
              obtain ⟨qs, z1, z2, z3⟩ := dpAll_zip hw
              refine ⟨D, qs, rfl, by rw [z1]; exact SqL.of hD, z3, by rw [z2]; exact allAlike_ties bs, by rw [z2]; exact sortable_ties bs, fun b hb => depth_ties bs _ (by rw [← z2]; exact List.mem_map_of_mem hb), fun p2 np2 => ?_⟩
              have hws := sorted_dp z2 z3
              generalize (qs.mergeSort (PySem.W.dataLe false Prod.snd)).map Prod.fst = w2 at hws np2
              rw [← srt_data] at hws
              generalize q3 : upd H2 p2 (.lst w2) = H3
              have s3 : Same H2 H3 := by rw [← q3]; exact same_new (Same.refl H2) np2
              have hp3 : H3 p2 = some (.lst w2) := by rw [← q3]; exact upd_same
              clear q3
              have hw3 := dpAll_same s3 hws
              have s03 : Same H H3 := fun b o e => s3 _ _ (s2 _ _ (s1 _ _ e))
              have ls := srt_len bs
              have lm : ((srt bs).map dTie).length = bs.length := by rw [List.length_map, ls]
              have lw := dp_len hw3
              rw [lm] at lw
              refine ⟨_, rfl, p2, rfl, ⟨_, SqL.of hp3⟩, fun C nC => ?_⟩
              refine lc_it (walk_list (xs := w2)) (fun i H' => Same H3 H' ∧ H' C = some (.lst ((((srt bs).take i).map Prod.fst).map V.int))) ⟨same_new (Same.refl H3) nC, upd_same⟩ (fun i H' _ q => SqL.of (q.1 _ _ hp3)) ?_ ?_
              · rintro i y _ H4 hi ⟨s4, hC⟩ ⟨rfl, hy⟩
                obtain ⟨b, hbi⟩ : ∃ b, (srt bs)[i]? = some b := ⟨_, List.getElem?_eq_getElem (by omega)⟩
                obtain ⟨v, hv, dv⟩ := dp_get hw3 (get_map (f := dTie) hbi)
                rw [hy] at hv
                cases hv
                obtain ⟨tt, rfl, htt⟩ := dp_tieInv dv
                have ll : ((((srt bs).take i).map Prod.fst).map V.int).length ≤ i := by
                  rw [List.length_map, List.length_map, List.length_take]
                  omega
                refine ⟨tt, _, rfl, same_tup s4 htt, rfl, _, _, rfl, _, _, rfl, rfl, rfl, _, rfl, _, hC, szl (by omega), same_mut s4 nC, ?_⟩
                rw [upd_same, take_snoc hbi, List.map_append, List.map_append]
                rfl
              · rintro H4 ⟨s4, hC⟩
                rw [take_all' (show w2.length = (srt bs).length by omega)] at hC
                generalize hcs : (srt bs).map Prod.fst = cs at hC tk
                have lcs : cs.length ≤ 100 := by rw [← hcs, List.length_map, ls]; exact hb
                refine ⟨_, rfl, C, _, rfl, SqL.of hC, ?_⟩
                refine for_it (walk_enum (xs := cs.map V.int)) (fun i σ' H' => Same H4 H' ∧ ((List.range i).all (colAt wd cs)) = true ∧ ∃ v6 v7 v9 v10 : Option V, σ' = [some (.ref x), some (.str z), some (.int wd), some (ptV mk), some (.ref t), some (.ref p2), v6, v7, some (.ref C), v9, v10]) ⟨Same.refl H4, rfl, _, _, _, _, rfl⟩ (fun i σ' H' _ q => SqL.of (q.1 _ _ hC)) ?_ ?_
                · rintro i y σ' H5 H6 hi ⟨s5, ha, v6, v7, v9, v10, rfl⟩ ⟨tt, u, zz, rfl, ntt, rfl, hu, hzz⟩
                  cases hu
                  obtain ⟨c, hc, rfl⟩ := map_get hzz
                  have s6 := same_new s5 (o := .tup [.int (i : Int), .int c]) ntt
                  refine ⟨tt, _, rfl, SqT.of upd_same, rfl, _, _, rfl, _, _, rfl, rfl, ?_⟩
                  have ea : (List.range (i + 1)).all (colAt wd cs) = colAt wd cs i := by
                    rw [List.range_succ, List.all_append, ha, Bool.true_and, List.all_cons, List.all_nil, Bool.and_true]
                  have ca : colAt wd cs i = (decide (0 ≤ c) && (decide (c < wd) && !inV (.int c) ((cs.take i).map V.int))) := by
                    unfold colAt
                    rw [hc]
                  rw [List.length_map] at hi
                  have bd : colAt wd cs i = false → tabOk wd mk bs = false := fun e => by
                    rw [tk]
                    unfold colsOk
                    cases q : (List.range cs.length).all (colAt wd cs) with
                    | false => rfl
                    | true =>
                      have := List.all_eq_true.mp q i (List.mem_range.mpr hi)
                      rw [e] at this
                      cases this
                  have s06 : Same H (upd H5 tt (.tup [.int (i : Int), .int c])) := fun b o e => s6 _ _ (s4 _ _ (s03 _ _ e))
                  by_cases c1 : 0 ≤ c
                  · by_cases c2 : c < wd
                    · refine ⟨_, rfl, _, _, rfl, rfl, _, rfl, ifT (decide_eq_true c1) ⟨_, rfl, _, _, rfl, rfl, _, rfl, ?_⟩⟩
                      refine ifF (by rw [decide_eq_true c2]; rfl) ?_
                      have hC6 := s6 _ _ hC
                      refine ⟨_, rfl, _, rfl, _, rfl, i, rfl, C, _, rfl, SqL.of hC6, fun q nq => ?_⟩
                      have ec : cutV (cs.map V.int) none (some (i : Int)) = (cs.take i).map V.int := by
                        unfold cutV
                        rw [HT.sIx_none, HT.sIx_nat, List.drop_zero, Nat.sub_zero, List.length_map, Nat.min_eq_left (by omega), List.map_take]
                      have fl : ((cs.take i).map V.int).all flatV = true := by
                        rw [List.all_eq_true]
                        intro y hy
                        obtain ⟨_, _, rfl⟩ := List.mem_map.mp hy
                        rfl
                      have s07 : Same H (upd (upd H5 tt (.tup [.int (i : Int), .int c])) q (.lst (cutV (cs.map V.int) none (some (i : Int))))) := same_new s06 nq
                      refine ⟨q, _, rfl, .inl (SqL.of upd_same), rfl, by rw [ec]; exact fl, _, rfl, ?_⟩
                      have cv : colAt wd cs i = !inV (.int c) (cutV (cs.map V.int) none (some (i : Int))) := by
                        rw [ca, decide_eq_true c1, decide_eq_true c2, ec]
                        rfl
                      cases hin : inV (.int c) (cutV (cs.map V.int) none (some (i : Int))) with
                      | true =>
                        rw [hin] at cv
                        exact iteT ⟨_, rfl, raised1 (bad (bd cv) s07)⟩
                      | false =>
                        rw [hin] at cv
                        exact iteF ⟨same_new s6 nq, by rw [ea, cv]; rfl, _, _, _, _, rfl⟩
                    · have e : colAt wd cs i = false := by rw [ca, decide_eq_false c2, Bool.false_and, Bool.and_false]
                      refine ⟨_, rfl, _, _, rfl, rfl, _, rfl, ifT (decide_eq_true c1) ⟨_, rfl, _, _, rfl, rfl, _, rfl, ?_⟩⟩
                      exact ifT (by rw [decide_eq_false c2]; rfl) (iteT ⟨_, rfl, raised1 (bad (bd e) s06)⟩)
                  · have e : colAt wd cs i = false := by rw [ca, decide_eq_false c1, Bool.false_and]
                    exact ⟨_, rfl, _, _, rfl, rfl, _, rfl, ifF (decide_eq_false c1) ⟨_, rfl, iteT (iteT ⟨_, rfl, raised1 (bad (bd e) s06)⟩)⟩⟩
                · rintro σ' H5 ⟨s5, ha, v6, v7, v9, v10, rfl⟩
                  rw [List.length_map] at ha
                  have s05 : Same H H5 := fun b o e => s5 _ _ (s4 _ _ (s03 _ _ e))
                  have k := k3 hn (by rw [tk]; exact ha)
                  have hx5 := s05 _ _ hx
                  have hp5 := s5 _ _ (s4 _ _ hp3)
                  have dw5 := dpAll_same (fun b o e => s5 _ _ (s4 _ _ e)) hw3
                  refine ⟨_, rfl, _, rfl, x, _, dx, _, rfl, hx5, T.cls_Table, T.na_Table_name, by decide, ?_⟩
                  refine at_heap (fun H6 e6 => ?_)
                  have b6 : But x H5 H6 := by rw [e6]; exact But.upd
                  have hx6 : H6 x = some (.ins (He.ga K "Table") dx [("name", .str z)]) := by rw [e6]; exact upd_same
                  clear e6
                  refine ⟨_, rfl, _, rfl, x, _, dx, _, rfl, hx6, T.cls_Table, T.na_Table_width, by show 1 < 1000; decide, ?_⟩
                  refine at_heap (fun H7 e7 => ?_)
                  have b7 : But x H6 H7 := by rw [e7]; exact But.upd
                  have hx7 : H7 x = some (.ins (He.ga K "Table") dx [("name", .str z), ("width", .int wd)]) := by rw [e7]; exact upd_same
                  clear e7
                  refine ⟨_, rfl, _, rfl, x, _, dx, _, rfl, hx7, T.cls_Table, T.na_Table_key, by show 2 < 1000; decide, ?_⟩
                  refine at_heap (fun H8 e8 => ?_)
                  have b8 : But x H7 H8 := by rw [e8]; exact But.upd
                  have hx8 : H8 x = some (.ins (He.ga K "Table") dx [("name", .str z), ("width", .int wd), ("key", ptV mk)]) := by rw [e8]; exact upd_same
                  clear e8
                  have b58 : But x H5 H8 := (b6.trans b7).trans b8
                  have px : p2 ≠ x := ne_of hp5 hx5 (by intro z; cases z)
                  have hp8 := b58 _ _ px hp5
                  refine ⟨_, rfl, p2, _, rfl, .inl (SqL.of hp8), fun q H9 hq s9 => ⟨_, rfl, x, _, dx, _, rfl, s9 _ _ hx8, T.cls_Table, T.na_Table_ties, by show 3 < 1000; decide, ?_⟩⟩
                  have hx9 := s9 _ _ hx8
                  have d9 := dpAll_same s9 (but_dpAll b58 hx5 dw5)
                  have bf : But x H9 (upd H9 x (.ins (He.ga K "Table") dx (tabF z wd (ptV mk) (.ref q)))) := But.upd
                  exact k _ ⟨dx, q, upd_same, .tup (but_sqT bf hx9 hq) (but_dpAll bf hx9 d9)⟩ (((But.same s05).trans b58).trans ((But.same s9).trans bf))
        · have e : tabOk wd mk bs = false := by
            unfold tabOk
            rw [decide_eq_false w2, Bool.false_and, Bool.and_false]
          refine ⟨_, rfl, _, _, rfl, rfl, _, rfl, ifT (decide_eq_true w1) ⟨_, _, rfl, rfl, _, rfl, ?_⟩⟩
          exact ifT (by rw [decide_eq_false w2]; rfl) ⟨_, rfl, raised1 (bad e s1)⟩
      · have e : tabOk wd mk bs = false := by
          unfold tabOk
          rw [decide_eq_false w1, Bool.false_and]
        exact ⟨_, rfl, _, _, rfl, rfl, _, rfl, ifF (decide_eq_false w1) ⟨_, rfl, iteT ⟨_, rfl, raised1 (bad e s1)⟩⟩⟩
end
theorem kb_ties (D : Addr) (doc pm : Value) (an : Option Addr) (cdv ct a b c k t : Value) : KwChain D [(("key" : Str), k)] (bindArgs (PySem.W.fnOf d_Table_DinitD.name d_Table_DinitD.qual (defArgs s_Table_DinitD) (defBody s_Table_DinitD) (defScope s_Table_DinitD) .none (.ref D) doc pm an cdv ct) ⟨[a, b, c], [("ties", t)]⟩) ((P_Table_DinitD).zip [a, b, c, k, t]) := by
  refine ⟨_, _, _, _, _, _, rfl, rfl, ?_⟩
  unfold KwChain
  kernel_rfl
theorem kb_key (D : Addr) (doc pm : Value) (an : Option Addr) (cdv ct a b c k t : Value) : KwChain D [(("ties" : Str), t)] (bindArgs (PySem.W.fnOf d_Table_DinitD.name d_Table_DinitD.qual (defArgs s_Table_DinitD) (defBody s_Table_DinitD) (defScope s_Table_DinitD) .none (.ref D) doc pm an cdv ct) ⟨[a, b, c], [("key", k)]⟩) ((P_Table_DinitD).zip [a, b, c, k, t]) := by
  refine ⟨_, _, _, _, _, _, rfl, rfl, ?_⟩
  unfold KwChain
  kernel_rfl
theorem kb_none (D : Addr) (doc pm : Value) (an : Option Addr) (cdv ct a b c k t : Value) : KwChain D [(("key" : Str), k), (("ties" : Str), t)] (bindArgs (PySem.W.fnOf d_Table_DinitD.name d_Table_DinitD.qual (defArgs s_Table_DinitD) (defBody s_Table_DinitD) (defScope s_Table_DinitD) .none (.ref D) doc pm an cdv ct) ⟨[a, b, c], []⟩) ((P_Table_DinitD).zip [a, b, c, k, t]) := by
  refine ⟨_, _, _, _, _, _, rfl, rfl, _, _, _, _, _, _, rfl, rfl, ?_⟩
  unfold KwChain
  kernel_rfl
theorem kb_both (D : Addr) (doc pm : Value) (an : Option Addr) (cdv ct a b c k t : Value) : KwChain D [] (bindArgs (PySem.W.fnOf d_Table_DinitD.name d_Table_DinitD.qual (defArgs s_Table_DinitD) (defBody s_Table_DinitD) (defScope s_Table_DinitD) .none (.ref D) doc pm an cdv ct) ⟨[a, b, c], [("key", k), ("ties", t)]⟩) ((P_Table_DinitD).zip [a, b, c, k, t]) := by
  unfold KwChain
  kernel_rfl
theorem kb_turn (D : Addr) (doc pm : Value) (an : Option Addr) (cdv ct a b c k t : Value) : KwChain D [] (bindArgs (PySem.W.fnOf d_Table_DinitD.name d_Table_DinitD.qual (defArgs s_Table_DinitD) (defBody s_Table_DinitD) (defScope s_Table_DinitD) .none (.ref D) doc pm an cdv ct) ⟨[a, b, c], [("ties", t), ("key", k)]⟩) ((P_Table_DinitD).zip [a, b, c, k, t]) := by
  unfold KwChain
  kernel_rfl
theorem vals_rev {vs : List V} {us : List Value} (h : Vals vs us) : Vals vs.reverse us.reverse := h.reverse
section
variable {P : Program} {w : World} {K : PySem.W.Frag} {mg : Str → Option Value} {base : Heap}
theorem ok_tableT (T : Txt K mg) (hP : PrOk P file) : CalKw P w K mg base (L2N.CX P w) 3 "Table" (He.ga K "Table") 2 ["ties"] (fun vs zs => vs ++ [V.non] ++ zs) P_Table_DinitD (spTable K) := by
  obtain ⟨fd, F⟩ := T.F_Table_DinitD
  have ok := ok_tableF (P := P) (w := w) (base := base) T hP F
  obtain ⟨mv, kb⟩ := F.kbinds0 (ps := P_Table_DinitD) 3 ["ties"] [("key", V.non)] (fun us mv ws => us ++ mv ++ ws) (by intro z; cases z) (by intro q hq; cases hq with | head => exact List.mem_cons_self | tail _ h => cases h)
    (fun r1 r2 r3 => (r1.append r2).append r3) (fun D doc pm an cdv ct us mv ws h1 h2 h3 => match us, mv, ws, h1, h2, h3 with | [_, _, _], [_], [_], _, _, _ => kb_ties D doc pm an cdv ct _ _ _ _ _)
  exact ⟨T.g_Table, _, fd, _, T.mk_Table, ok, kb⟩
theorem ok_tableK (T : Txt K mg) (hP : PrOk P file) : CalKw P w K mg base (L2N.CX P w) 3 "Table" (He.ga K "Table") 2 ["key"] (fun vs zs => vs ++ zs ++ [V.ref (kwdAt d_Table_DinitD.at_ "ties" K)]) P_Table_DinitD (spTable K) := by
  obtain ⟨fd, F⟩ := T.F_Table_DinitD
  have ok := ok_tableF (P := P) (w := w) (base := base) T hP F
  obtain ⟨mv, kb⟩ := F.kbinds0 (ps := P_Table_DinitD) 3 ["key"] [("ties", V.ref (kwdAt d_Table_DinitD.at_ "ties" K))] (fun us mv ws => us ++ ws ++ mv) (by intro z; cases z) (by intro q hq; cases hq with | head => exact List.mem_cons_of_mem _ List.mem_cons_self | tail _ h => cases h)
    (fun r1 r2 r3 => (r1.append r3).append r2) (fun D doc pm an cdv ct us mv ws h1 h2 h3 => match us, mv, ws, h1, h2, h3 with | [_, _, _], [_], [_], _, _, _ => kb_key D doc pm an cdv ct _ _ _ _ _)
  exact ⟨T.g_Table, _, fd, _, T.mk_Table, ok, kb⟩
theorem ok_tableB (T : Txt K mg) (hP : PrOk P file) : CalKw P w K mg base (L2N.CX P w) 3 "Table" (He.ga K "Table") 2 ["key", "ties"] (fun vs zs => vs ++ zs) P_Table_DinitD (spTable K) := by
  obtain ⟨fd, F⟩ := T.F_Table_DinitD
  have ok := ok_tableF (P := P) (w := w) (base := base) T hP F
  obtain ⟨mv, kb⟩ := F.kbinds0 (ps := P_Table_DinitD) 3 ["key", "ties"] [] (fun us _ ws => us ++ ws) (by intro z; cases z) (fun q hq => by cases hq)
    (fun r1 _ r3 => r1.append r3) (fun D doc pm an cdv ct us mv ws h1 h2 h3 => match us, mv, ws, h1, h2, h3 with | [_, _, _], [], [_, _], _, _, _ => kb_both D doc pm an cdv ct _ _ _ _ _)
  exact ⟨T.g_Table, _, fd, _, T.mk_Table, ok, kb⟩
theorem ok_tableR (T : Txt K mg) (hP : PrOk P file) : CalKw P w K mg base (L2N.CX P w) 3 "Table" (He.ga K "Table") 2 ["ties", "key"] (fun vs zs => vs ++ zs.reverse) P_Table_DinitD (spTable K) := by
  obtain ⟨fd, F⟩ := T.F_Table_DinitD
  have ok := ok_tableF (P := P) (w := w) (base := base) T hP F
  obtain ⟨mv, kb⟩ := F.kbinds0 (ps := P_Table_DinitD) 3 ["ties", "key"] [] (fun us _ ws => us ++ ws.reverse) (by intro z; cases z) (fun q hq => by cases hq)
    (fun r1 _ r3 => r1.append (vals_rev r3)) (fun D doc pm an cdv ct us mv ws h1 h2 h3 => match us, mv, ws, h1, h2, h3 with | [_, _, _], [], [_, _], _, _, _ => kb_turn D doc pm an cdv ct _ _ _ _ _)
  exact ⟨T.g_Table, _, fd, _, T.mk_Table, ok, kb⟩
theorem ok_table2 (T : Txt K mg) (hP : PrOk P file) : CalI P w K mg base (L2N.CX P w) 3 "Table" (He.ga K "Table") P_Table_DinitD [.non, .ref (kwdAt d_Table_DinitD.at_ "ties" K)] (spTable K) := by
  obtain ⟨fd, F⟩ := T.F_Table_DinitD
  have ok := ok_tableF (P := P) (w := w) (base := base) T hP F
  obtain ⟨ds0, v0, b0⟩ := F.binds0 (ps := P_Table_DinitD) 3 (by intro z; cases z) rfl (fun D doc pm an cdv ct us mv h1 h2 => match us, mv, h1, h2 with | [_, _, _], [_, _], _, _ => kb_none D doc pm an cdv ct _ _ _ _ _)
  exact ⟨T.g_Table, _, fd, _, T.mk_Table, ok, b0, v0⟩
end
/-! names that are names: plain -/
theorem sign_ok : ∀ c ∈ ("abcdefghijklmnopqrstuvwxyz0123456789" : Str).cps.toList, (isLet c || isDig c) = true := List.all_eq_true.mp (by decide +kernel)
theorem sign_let : ∀ c ∈ ("abcdefghijklmnopqrstuvwxyz0123456789" : Str).cps.toList.take 26, isLet c = true := List.all_eq_true.mp (by decide +kernel)
theorem dig_ok : ∀ i, i < 10 → isDig (48 + i) = true := by decide +kernel
theorem dig_nolet : ∀ i, i < 10 → isLet (48 + i) = false := by decide +kernel
theorem dig_text : ∀ i, i < 10 → (Str.ofString (toString (0 + ((i : Nat) : Int)))).cps.toList = [48 + i] := by decide +kernel
theorem eqV_str {a b : Str} : eqV (.str a) (.str b) = true ↔ a = b := by
  show (a == b) = true ↔ a = b
  exact beq_iff_eq
theorem inV_strs {z : Str} {zs : List Str} : inV (.str z) (zs.map V.str) = true ↔ z ∈ zs := by
  unfold inV
  rw [List.any_eq_true]
  constructor
  · rintro ⟨y, hy, e⟩
    obtain ⟨x, hx, rfl⟩ := List.mem_map.mp hy
    rw [← eqV_str.mp e]
    exact hx
  · intro h
    exact ⟨_, List.mem_map_of_mem h, eqV_str.mpr rfl⟩
def words : List Str := ["count", "sum", "max", "min", "avg", "by", "from", "where"]
theorem inW {z : Str} : inV (.str z) wordsV = true ↔ z ∈ words := inV_strs (zs := words)
theorem word_let : ∀ z ∈ words, ∀ c ∈ z.cps.toList, isLet c = true := by
  intro z hz c hc
  have : (words.all fun z => z.cps.toList.all isLet) = true := by decide +kernel
  exact List.all_eq_true.mp (List.all_eq_true.mp this z hz) c hc
theorem word_len : ∀ z ∈ words, z.length ≤ 5 := fun z hz => of_decide_eq_true (List.all_eq_true.mp (show (words.all fun z => decide (z.length ≤ 5)) = true by decide +kernel) z hz)
theorem word_q : ∀ z ∈ words, nameOk ("q" ++ z) = true := fun z hz => List.all_eq_true.mp (show (words.all fun z => nameOk ("q" ++ z)) = true by decide +kernel) z hz
theorem word_7 : ∀ z ∈ words, nameOk (z ++ "7") = true := fun z hz => List.all_eq_true.mp (show (words.all fun z => nameOk (z ++ "7")) = true by decide +kernel) z hz
theorem word_bad {z : Str} (h : z ∈ words) : nameOk z = false := by
  unfold nameOk
  rw [inW.mpr h, Bool.not_true, Bool.false_and, Bool.and_false, Bool.and_false]
/-- the signs of a name -/
def NameL (cs : List Nat) : Prop := (∃ c, cs[0]? = some c ∧ isLet c = true) ∧ ∀ c ∈ cs, (isLet c || isDig c) = true
theorem len_cps (z : Str) : z.length = z.cps.toList.length := rfl
theorem name_of {z : Str} (h : NameL z.cps.toList) (h8 : z.length ≤ 8) (hw : z ∉ words) : nameOk z = true := by
  obtain ⟨⟨c, h0, hl⟩, ha⟩ := h
  have hp : 0 < z.cps.toList.length := (List.getElem?_eq_some_iff.mp h0).1
  unfold nameOk
  have e : inV (.str z) wordsV = false := by
    cases q : inV (.str z) wordsV with
    | false => rfl
    | true => exact absurd (inW.mp q) hw
  rw [e, decide_eq_true (show 1 ≤ z.length by rw [len_cps]; omega), decide_eq_true h8, Bool.true_and, Bool.true_and, Bool.not_false, Bool.true_and, List.all_eq_true]
  intro i hi
  cases q : z.cps.toList[i]? with
  | none => rfl
  | some d =>
    show signOk i d = true
    unfold signOk
    cases i with
    | zero =>
      rw [h0] at q
      cases q
      rw [hl]
      rfl
    | succ i =>
      rw [decide_eq_true (show i + 1 ≠ 0 by omega), Bool.true_and]
      exact ha d (List.mem_of_getElem? q)
theorem name_inv {z : Str} (h : nameOk z = true) : NameL z.cps.toList ∧ 1 ≤ z.length ∧ z.length ≤ 8 ∧ z ∉ words := by
  unfold nameOk at h
  obtain ⟨h1, h⟩ := Bool.and_eq_true_iff.mp h
  obtain ⟨h8, h⟩ := Bool.and_eq_true_iff.mp h
  obtain ⟨hw, ha⟩ := Bool.and_eq_true_iff.mp h
  have h1 := of_decide_eq_true h1
  have h8 := of_decide_eq_true h8
  have ha := List.all_eq_true.mp ha
  have at_ : ∀ i c, z.cps.toList[i]? = some c → signOk i c = true := fun i c hc => by
    have := ha i (List.mem_range.mpr (by have := (List.getElem?_eq_some_iff.mp hc).1; rw [Array.length_toList] at this; exact this))
    rw [hc] at this
    exact this
  refine ⟨⟨⟨_, List.getElem?_eq_getElem (by rw [← len_cps]; omega), ?_⟩, fun c hc => ?_⟩, h1, h8, fun q => ?_⟩
  · have := at_ 0 _ (List.getElem?_eq_getElem (by rw [← len_cps]; omega))
    unfold signOk at this
    simpa using this
  · obtain ⟨i, hi⟩ := List.getElem?_of_mem hc
    have := at_ i c hi
    unfold signOk at this
    cases q : isLet c with
    | true => rfl
    | false =>
      rw [q, Bool.false_or] at this
      exact (Bool.and_eq_true_iff.mp this).2
  · rw [inW.mpr q] at hw
    cases hw
theorem nameL_app {cs : List Nat} {c : Nat} (h : NameL cs) (hc : (isLet c || isDig c) = true) : NameL (cs ++ [c]) := by
  obtain ⟨⟨d, h0, hl⟩, ha⟩ := h
  refine ⟨⟨d, ?_, hl⟩, fun e he => ?_⟩
  · rw [List.getElem?_append_left (List.getElem?_eq_some_iff.mp h0).1]
    exact h0
  · rcases List.mem_append.mp he with q | q
    · exact ha e q
    · rw [List.mem_singleton.mp q]
      exact hc
theorem nameL_take {cs : List Nat} {n : Nat} (h : NameL cs) (hn : 0 < n) : NameL (cs.take n) := by
  obtain ⟨⟨d, h0, hl⟩, ha⟩ := h
  refine ⟨⟨d, ?_, hl⟩, fun e he => ha e (List.mem_of_mem_take he)⟩
  rw [List.getElem?_take, if_pos hn]
  exact h0
theorem cps_app (x y : Str) : (x ++ y).cps.toList = x.cps.toList ++ y.cps.toList := by
  show (x.cps ++ y.cps).toList = _
  exact Array.toList_append
theorem cps_cut7 (z : Str) : (cutS z none (some 7)).cps.toList = z.cps.toList.take 7 := by
  show (z.cps.toList.drop 0).take (min 7 z.length - 0) = z.cps.toList.take 7
  rw [List.drop_zero, Nat.sub_zero, len_cps]
  rw [← List.take_take, List.take_length]
/-- text[:7] + str(i) -/
def cand (z : Str) (i : Nat) : Str := cutS z none (some 7) ++ Str.ofString (toString (0 + ((i : Nat) : Int)))
theorem cand_cps (z : Str) {i : Nat} (h : i < 10) : (cand z i).cps.toList = z.cps.toList.take 7 ++ [48 + i] := by
  unfold cand
  rw [cps_app, cps_cut7, dig_text i h]
theorem cand_ok {z : Str} (h : NameL z.cps.toList) {i : Nat} (hi : i < 10) : nameOk (cand z i) = true := by
  have e := cand_cps z hi
  refine name_of ?_ ?_ fun q => ?_
  · rw [e]
    exact nameL_app (nameL_take h (by decide)) (by rw [dig_ok i hi, Bool.or_true])
  · rw [len_cps, e, List.length_append, List.length_take]
    show _ + 1 ≤ 8
    omega
  · have := word_let _ q (48 + i) (by rw [e]; exact List.mem_append.mpr (.inr List.mem_cons_self))
    rw [dig_nolet i hi] at this
    cases this
theorem cand_inj {z : Str} {i j : Nat} (hi : i < 10) (hj : j < 10) (h : cand z i = cand z j) : i = j := by
  have e := congrArg (fun s : Str => s.cps.toList) h
  simp only [cand_cps z hi, cand_cps z hj] at e
  have := List.append_cancel_left e
  simp at this
  exact this
theorem pigeon {α : Type} [DecidableEq α] : ∀ (l m : List α), l.Nodup → (∀ x ∈ l, x ∈ m) → l.length ≤ m.length
  | [], _, _, _ => Nat.zero_le _
  | x :: l, m, nd, h => by
    rw [List.nodup_cons] at nd
    have hx := h x List.mem_cons_self
    have := pigeon l (m.erase x) nd.2 fun y hy => (List.mem_erase_of_ne fun e => nd.1 (by rw [← e]; exact hy)).mpr (h y (List.mem_cons_of_mem _ hy))
    rw [List.length_erase_of_mem hx] at this
    have : 0 < m.length := List.length_pos_of_mem hx
    rw [List.length_cons]
    omega
theorem cands_free {z : Str} {zs : List Str} (h : ∀ i, i < 10 → cand z i ∈ zs) : 10 ≤ zs.length := by
  have := pigeon ((List.range 10).map (cand z)) zs ?_ ?_
  · rw [List.length_map, List.length_range] at this
    exact this
  · unfold List.Nodup
    rw [List.pairwise_map]
    refine List.Pairwise.imp_of_mem ?_ List.pairwise_lt_range
    intro a b ha hb hab e
    have := cand_inj (List.mem_range.mp ha) (List.mem_range.mp hb) e
    omega
  · intro x hx
    obtain ⟨i, hi, rfl⟩ := List.mem_map.mp hx
    exact h i (List.mem_range.mp hi)
/-- a drawn name: a name, and none of the taken ones -/
def spNameK : Sp := fun vs H Q _ => ∃ (s c l : Addr) (zs : List Str), vs = [.ref s, .ref l] ∧ Src H s c ∧ H l = some (.lst (zs.map V.str)) ∧ l ≠ s ∧ zs.length ≤ 9 ∧ ∀ (z : Str) H', nameOk z = true → z ∉ zs → Src H' s c → But s H H' → Q (.str z) H'
theorem Src.has {H : Hp} {s c : Addr} (S : Src H s c) : ∃ u, H s = some u := by
  obtain ⟨ns, a, l, m, d, hs, _⟩ := S.ex
  exact ⟨_, hs⟩
theorem atI_nat' {α : Type} {xs : List α} {i : Int} {v : α} {n : Nat} (h : xs[n]? = some v) (e : i = (n : Int)) : atI xs i = some v := by
  subst e
  exact atI_nat h
section
variable {P : Program} {w : World} {K : PySem.W.Frag} {mg : Str → Option Value} {base : Heap}
theorem ok_nameK (T : Txt K mg) : Cal P w K mg base CX0 2 "_law_name" P__law_name [] spNameK := by
  have C__law_draw := ok_draw (P := P) (w := w) (base := base) T
  refine Cal.of T.F__law_name T.g__law_name (fun fd F => F.ok sc__law_name (fun vs H Q E h => ?_) (fun cdv A outer s0 H vs Q E hr h => ?_)) (fun _ _ _ _ _ _ us hl => match us, hl with | [_, _], _ => rfl)
  · obtain ⟨s, c, l, zs, rfl, _⟩ := h
    rfl
  · obtain ⟨s, c, l, zs, rfl, S, hl, nls, hz, k⟩ := h
    refine ⟨_, PSs.nox (pss_cons (ps_set (i := 2) sc__law_name.nd rfl (Or.inl rfl) pe_str)
    (pss_cons (ps_set (i := 3) sc__law_name.nd rfl (Or.inl rfl) (pe_op op_add pe_int (pc_call C__law_draw (hr.mono (by first | decide | omega)) pass0 (pa_cons (pv 0) (pa_cons pe_int pa_nil)))))
    (pss_cons (ps_set (i := 4) sc__law_name.nd rfl (Or.inl rfl) (pe_ix ix_str (pv 2) (pc_call C__law_draw (hr.mono (by first | decide | omega)) pass0 (pa_cons (pv 0) (pa_cons pe_int pa_nil))) (fun _ _ => rfl)))
    (pss_cons (ps_for PassesOwn.never rfl (pi_range1 (by rfl) T.f_range (pa_cons (pe_op op_sub (pv 3) pe_int) pa_nil)) (pg_name (i := 5) sc__law_name.nd rfl (Or.inl rfl))
    (pss_one (ps_set (i := 4) sc__law_name.nd rfl (Or.inl rfl) (pe_op op_add_str (pv 4) (pe_ix ix_str (pv 2) (pc_call C__law_draw (hr.mono (by first | decide | omega)) pass0 (pa_cons (pv 0) (pa_cons pe_int pa_nil))) (fun _ _ => rfl))))))
    (C8.pss_cut (ps_if (pt_cmpR op_in_seq (pv 4) (pe_lst (pa_cons pe_str (pa_cons pe_str (pa_cons pe_str (pa_cons pe_str (pa_cons pe_str (pa_cons pe_str (pa_cons pe_str (pa_cons pe_str pa_nil))))))))) rfl) (pss_one (ps_set (i := 4) sc__law_name.nd rfl (Or.inl rfl) (pe_op op_add_str pe_str (pv 4))))
    pss_nil)
    (pss_cons (ps_if (pt_cmpR op_notIn_seq (pv 4) (pv 1) rfl) (pss_one (ps_ret (pv 4)))
    pss_nil)
    (pss_cons (ps_for PassesOwn.never rfl (pi_range1 (by rfl) T.f_range (pa_cons pe_int pa_nil)) (pg_name (i := 5) sc__law_name.nd rfl (Or.inl rfl))
    (pss_one (ps_if (pt_cmpR op_notIn_seq (pe_op op_add_str (pe_slice sl_str (pv 4) po_none (po_some pe_int)) (pe_callTy call_str_int (by rfl) T.f_str (by decide +kernel) (pa_cons (pv 5) pa_nil))) (pv 1) rfl) (pss_one (ps_ret (pe_op op_add_str (pe_slice sl_str (pv 4) po_none (po_some pe_int)) (pe_callTy call_str_int (by rfl) T.f_str (by decide +kernel) (pa_cons (pv 5) pa_nil)))))
    pss_nil)))
    (pss_one (ps_ret (pv 4)))))))))), ?_⟩
    have sg : ("abcdefghijklmnopqrstuvwxyz0123456789" : Str).cps.toList.length = 36 := by decide +kernel
    have sl : ("abcdefghijklmnopqrstuvwxyz0123456789" : Str).length ≤ sizeLine := sz (by decide +kernel)
    have chr : ∀ {r : Int}, 0 ≤ r → r < 36 → ∃ c, atI ("abcdefghijklmnopqrstuvwxyz0123456789" : Str).cps.toList r = some c ∧ (isLet c || isDig c) = true ∧ (r < 26 → isLet c = true) := fun {r} h0 h1 => by
      refine ⟨_, atI_nat' (n := r.toNat) (List.getElem?_eq_getElem (by omega)) (by omega), sign_ok _ (List.getElem_mem _), fun h => sign_let _ ?_⟩
      refine List.mem_of_getElem? (i := r.toNat) ?_
      rw [List.getElem?_take, if_pos (by omega)]
      exact List.getElem?_eq_getElem (by omega)
    have one : ∀ c : Nat, (⟨#[c]⟩ : Str).length = 1 := fun c => rfl
    have lapp : ∀ x y : Str, (x ++ y).length = x.length + y.length := PySem.Str.length_append
    have fall : (zs.map V.str).all flatV = true := by
      rw [List.all_eq_true]
      intro x hx
      obtain ⟨z, _, rfl⟩ := List.mem_map.mp hx
      rfl
    refine ⟨_, rfl, s, c, 8, rfl, S, by decide, by decide, fun r1 H1 a1 b1 S1 e1 => ⟨_, _, rfl, rfl, ?_⟩⟩
    refine ⟨_, rfl, _, rfl, s, c, 26, rfl, S1, by decide, by decide, fun r2 H2 a2 b2 S2 e2 => ?_⟩
    obtain ⟨c2, hc2, _, hl2⟩ := chr a2 (by omega)
    have hl2 := hl2 b2
    refine ⟨_, r2, c2, rfl, rfl, sl, hc2, ?_⟩
    refine ⟨_, rfl, _, _, rfl, rfl, _, rfl, by omega, by omega, for_range (lo := 0) (n := (1 + r1 - 1).toNat) (fun i σ' H' => ∃ (z : Str) (v5 : Option V), σ' = [some (.ref s), some (.ref l), some (.str "abcdefghijklmnopqrstuvwxyz0123456789"), some (.int (1 + r1)), some (.str z), v5] ∧ z.length = i + 1 ∧ NameL z.cps.toList ∧ Src H' s c ∧ But s H H') ⟨⟨#[c2]⟩, _, rfl, rfl, ⟨⟨c2, rfl, hl2⟩, fun d hd => by rw [List.mem_singleton.mp hd, hl2]; rfl⟩, S2, e1.trans e2⟩ ?_ ?_⟩
    · rintro i σ' H3 hi ⟨z, v5, rfl, hlz, nl, S3, e3⟩
      refine ⟨_, rfl, _, rfl, _, rfl, s, c, 36, rfl, S3, by decide, by decide, fun r4 H4 a4 b4 S4 e4 => ?_⟩
      obtain ⟨c4, hc4, hk4, _⟩ := chr a4 b4
      refine ⟨_, r4, c4, rfl, rfl, sl, hc4, _, _, rfl, rfl, sz (by rw [one]; omega), _, _, rfl, by rw [lapp, one, hlz], ?_, S4, e3.trans e4⟩
      rw [cps_app]
      exact nameL_app nl hk4
    · rintro σ' H3 ⟨z, v5, rfl, hlz, nl, S3, e3⟩
      refine ⟨fun σ' H' => ∃ (z : Str), σ' = [some (.ref s), some (.ref l), some (.str "abcdefghijklmnopqrstuvwxyz0123456789"), some (.int (1 + r1)), some (.str z), v5] ∧ nameOk z = true ∧ Src H' s c ∧ But s H H', ?_, ?_⟩
      · refine ⟨_, rfl, by show 8 ≤ sizeLine; decide, fun q nq => ⟨q, _, rfl, .inl (SqL.of upd_same), rfl, rfl, _, rfl, ?_⟩⟩
        refine ifB (fun hw => ?_) (fun hw => ?_)
        · have hw : z ∈ words := inV_strs.mp hw
          have := word_len z hw
          refine ⟨_, rfl, _, _, rfl, rfl, sz ?_, _, rfl, word_q z hw, S3.new nq, e3.new nq S3.has⟩
          have : ("q" : Str).length = 1 := by decide +kernel
          omega
        · refine ⟨z, rfl, name_of nl (by omega) (fun q => ?_), S3.new nq, e3.new nq S3.has⟩
          have := inV_strs.mpr q
          exact absurd (this.symm.trans hw) (by decide)
      · rintro σ' H4 ⟨z, rfl, nz, S4, e4⟩
        obtain ⟨nl, z1, z8, _⟩ := name_inv nz
        have hl4 := e4 _ _ nls hl
        refine ⟨_, rfl, _, rfl, l, _, rfl, .inl (SqL.of hl4), rfl, fall, _, rfl, ?_⟩
        refine ifB (fun hi => ⟨_, rfl, k z H4 nz (fun q => ?_) S4 e4⟩) (fun _ => ?_)
        · rw [inV_strs.mpr q] at hi
          cases hi
        refine ⟨10, rfl, by decide, by decide, for_range (lo := 0) (n := 10) (fun i σ' H' => H' = H4 ∧ (∀ j, j < i → cand z j ∈ zs) ∧ ∃ v5 : Option V, σ' = [some (.ref s), some (.ref l), some (.str "abcdefghijklmnopqrstuvwxyz0123456789"), some (.int (1 + r1)), some (.str z), v5]) ⟨rfl, fun j hj => absurd hj (by omega), _, rfl⟩ ?_ ?_⟩
        · rintro i σ' H' hi ⟨rfl, hf, v5, rfl⟩
          have l1 := cutS_length z none (some 7)
          have l2 : (Str.ofString (toString (0 + (i : Int)))).length ≤ 1921 := int_text_len_1921 (Nat.lt_of_lt_of_le (PySem.Flt.log2_lt_of (k := 10) (by decide) (by omega)) (by decide))
          have lg : (0 + (i : Int)).natAbs.log2 < 1920 := Nat.lt_of_lt_of_le (PySem.Flt.log2_lt_of (k := 10) (by decide) (by omega)) (by decide)
          refine ⟨_, rfl, 7, rfl, z, rfl, sz (by omega), _, rfl, _, rfl, lg, _, _, rfl, rfl, sz (by omega), _, rfl, l, _, rfl, .inl (SqL.of hl4), rfl, fall, _, rfl, ?_⟩
          refine ifB (fun hn => ?_) (fun hn => ⟨rfl, fun j hj => ?_, _, rfl⟩)
          · refine ⟨_, rfl, 7, rfl, z, rfl, sz (by omega), _, rfl, _, rfl, lg, _, _, rfl, rfl, sz (by omega), k (cand z i) H' (cand_ok nl hi) (fun q => ?_) S4 e4⟩
            have := inV_strs.mpr q
            exact absurd hn (by rw [show inV (.str (cutS z none (some 7) ++ Str.ofString (toString (0 + (i : Int))))) (zs.map V.str) = true from this]; decide)
          · rcases Nat.lt_or_ge j i with q | q
            · exact hf j q
            · have : j = i := by omega
              subst this
              refine inV_strs.mp ?_
              cases q : inV (.str (cand z j)) (zs.map V.str) with
              | true => rfl
              | false =>
                have : (!inV (.str (cand z j)) (zs.map V.str)) = false := hn
                rw [q] at this
                cases this
        · rintro σ' H' ⟨rfl, hf, v5, rfl⟩
          have := cands_free (z := z) (zs := zs) fun i hi => hf i hi
          omega
end
/-- what is neither a list nor a dict stays -/
def Firm (H H' : Hp) : Prop := ∀ a o, H a = some o → (∀ l, o ≠ .lst l) → (∀ d, o ≠ .dK d) → H' a = some o
theorem Firm.refl (H : Hp) : Firm H H := fun _ _ e _ _ => e
theorem Firm.trans {H H1 H2 : Hp} (a : Firm H H1) (b : Firm H1 H2) : Firm H H2 := fun x o e l d => b x o (a x o e l d) l d
theorem Firm.same {H H' : Hp} (e : Same H H') : Firm H H' := fun a o h _ _ => e a o h
theorem Firm.but {H H' : Hp} {s c : Addr} (S : Src H s c) (e : But s H H') : Firm H H' := fun a o h _ d => by
  obtain ⟨ns, at_, l, m, sd, hs, _⟩ := S.ex
  refine e a o (fun z => ?_) h
  rw [z, hs] at h
  exact d _ (Option.some.inj h).symm
theorem Firm.lst {H : Hp} {D : Addr} {xs ys : List V} (hD : H D = some (.lst xs)) : Firm H (upd H D (.lst ys)) := fun a o h l _ => by
  rw [upd_ne (ne_of h hD fun z => l _ z)]
  exact h
theorem Firm.tup {K : PySem.W.Frag} {H H' : Hp} {a : Addr} {xs : List V} (e : Firm H H') (h : SqT K H a xs) : SqT K H' a xs := by
  rcases h with (h | ⟨u, h⟩) | h
  · exact .inl (.inl (e _ _ h (fun _ z => by cases z) (fun _ z => by cases z)))
  · exact .inl (.inr ⟨u, e _ _ h (fun _ z => by cases z) (fun _ z => by cases z)⟩)
  · exact .inr h
mutual
theorem dp_firm {K : PySem.W.Frag} {H H' : Hp} (e : Firm H H') : ∀ {n : Nat} {v : V} {d : PyData}, noL n d = true → Dp K H v d → Dp K H' v d
  | 0, _, _, z, _ => by cases z
  | _ + 1, _, _, _, .non => .non
  | _ + 1, _, _, _, .bl b => .bl b
  | _ + 1, _, _, _, .int i => .int i
  | _ + 1, _, _, _, .str x => .str x
  | _ + 1, _, _, z, .lst h t => by cases z
  | n + 1, _, _, z, .tup h t => .tup (e.tup h) (dpAll_firm e (show List.all _ (noL n) = true from z) t)
theorem dpAll_firm {K : PySem.W.Frag} {H H' : Hp} (e : Firm H H') : ∀ {n : Nat} {vs : List V} {ds : List PyData}, ds.all (noL n) = true → DpAll K H vs ds → DpAll K H' vs ds
  | _, _, _, _, .nil => .nil
  | _, _, _, z, .cons h t => by
    rw [List.all_cons, Bool.and_eq_true] at z
    exact .cons (dp_firm e z.1 h) (dpAll_firm e z.2 t)
end
theorem Src.lst {H : Hp} {s c D : Addr} {xs ys : List V} (S : Src H s c) (hD : H D = some (.lst xs)) : D ≠ c → Src (upd H D (.lst ys)) s c := fun n => by
  obtain ⟨ns, at_, l, m, sd, hs, hc, ha⟩ := S.ex
  exact S.put (ne_of hD hs (by intro z; cases z)) n
theorem src_neL {H : Hp} {s c o : Addr} {xs : List V} (S : Src H s c) (h : H o = some (.lst xs)) : o ≠ s := by
  obtain ⟨ns, a, l, m, d, hs, _⟩ := S.ex
  exact ne_of h hs (by intro z; cases z)
theorem catA {K : PySem.W.Frag} {H : Hp} {Q : VK} {a b : Addr} {xs ys : List V} (ha : SqT K H a xs) (hb : SqT K H b ys) (hz : xs.length + ys.length ≤ 100000) (k : ∀ q H', SqT K H' q (xs ++ ys) → Same H H' → Q (.ref q) H') : rCatA K (.ref a) (.ref b) H Q := by
  refine ⟨a, b, xs, ys, rfl, rfl, ha, hb, sz hz, fun e => ?_, fun _ e => ?_, fun _ _ p np => k p _ (SqT.of upd_same) (same_new (Same.refl H) np)⟩
  · subst e
    exact k b H hb (Same.refl H)
  · subst e
    rw [List.append_nil] at k
    exact k a H ha (Same.refl H)
theorem slA {K : PySem.W.Frag} {H : Hp} {Q : VK} {a : Addr} {xs : List V} {lo hi : Option Int} (ha : SqT K H a xs) (k : ∀ q H', SqT K H' q (cutV xs lo hi) → Same H H' → Q (.ref q) H') : rSlA K (.ref a) lo hi H Q := by
  refine ⟨a, xs, rfl, ha, fun e => ?_, fun _ p np => k p _ (SqT.of upd_same) (same_new (Same.refl H) np)⟩
  have : cutV xs lo hi = xs := by
    unfold cutV
    rw [e.1, e.2, List.drop_zero, Nat.sub_zero, List.take_length]
  rw [this] at k
  exact k a H ha (Same.refl H)
def cutG {α : Type} (xs : List α) (lo hi : Option Int) : List α := (xs.drop (HT.sIx xs.length 0 lo)).take (HT.sIx xs.length xs.length hi - HT.sIx xs.length 0 lo)
theorem cutG_map {α : Type} (f : α → V) (xs : List α) (lo hi : Option Int) : cutV (xs.map f) lo hi = (cutG xs lo hi).map f := by
  unfold cutV cutG
  rw [List.length_map, List.map_take, List.map_drop]
theorem cutG_mapD {α β : Type} (f : α → β) (xs : List α) (lo hi : Option Int) : cutG (xs.map f) lo hi = (cutG xs lo hi).map f := by
  unfold cutG
  rw [List.length_map, List.map_take, List.map_drop]
theorem cutG_len {α : Type} (xs : List α) (lo hi : Option Int) : (cutG xs lo hi).length ≤ xs.length := by
  unfold cutG
  rw [List.length_take, List.length_drop]
  omega
theorem cutG_mem {α : Type} {xs : List α} {lo hi : Option Int} {x : α} (h : x ∈ cutG xs lo hi) : x ∈ xs := List.mem_of_mem_drop (List.mem_of_mem_take h)
theorem dpAll_append {K : PySem.W.Frag} {H : Hp} {ws : List V} {es : List PyData} (h : DpAll K H ws es) : ∀ {vs : List V} {ds : List PyData}, DpAll K H vs ds → DpAll K H (vs ++ ws) (ds ++ es)
  | _, _, .nil => h
  | _, _, .cons a t => .cons a (dpAll_append h t)
theorem dpAll_take {K : PySem.W.Frag} {H : Hp} : ∀ {n : Nat} {vs : List V} {ds : List PyData}, DpAll K H vs ds → DpAll K H (vs.take n) (ds.take n)
  | 0, _, _, _ => by rw [List.take_zero, List.take_zero]; exact .nil
  | _ + 1, _, _, .nil => .nil
  | _ + 1, _, _, .cons a t => .cons a (dpAll_take t)
theorem dpAll_drop {K : PySem.W.Frag} {H : Hp} : ∀ {n : Nat} {vs : List V} {ds : List PyData}, DpAll K H vs ds → DpAll K H (vs.drop n) (ds.drop n)
  | 0, _, _, h => h
  | _ + 1, _, _, .nil => .nil
  | n + 1, _, _, .cons a t => dpAll_drop (n := n) t
theorem dpAll_cut {K : PySem.W.Frag} {H : Hp} {vs : List V} {ds : List PyData} {lo hi : Option Int} (h : DpAll K H vs ds) : DpAll K H (cutV vs lo hi) (cutG ds lo hi) := by
  have e := dp_len h
  unfold cutV cutG
  rw [← e]
  exact dpAll_take (dpAll_drop h)
theorem dpAll_rev {K : PySem.W.Frag} {H : Hp} : ∀ {vs : List V} {ds : List PyData}, DpAll K H vs ds → DpAll K H vs.reverse ds.reverse
  | _, _, .nil => .nil
  | _, _, .cons a t => by
    rw [List.reverse_cons, List.reverse_cons]
    exact dpAll_snoc a (dpAll_rev t)
/-! columns and ties: plain -/
theorem inV_ints {c : Int} {cs : List Int} : inV (.int c) (cs.map V.int) = true ↔ c ∈ cs := by
  unfold inV
  rw [List.any_eq_true]
  constructor
  · rintro ⟨y, hy, e⟩
    obtain ⟨x, hx, rfl⟩ := List.mem_map.mp hy
    rw [show x = c from beq_iff_eq.mp e] at hx
    exact hx
  · intro h
    exact ⟨_, List.mem_map_of_mem h, (beq_iff_eq.mpr rfl : (c == c) = true)⟩
theorem colsOk_iff {w : Int} {cs : List Int} : colsOk w cs = true ↔ cs.Nodup ∧ ∀ c ∈ cs, 0 ≤ c ∧ c < w := by
  unfold colsOk
  rw [List.all_eq_true]
  constructor
  · intro h
    have at_ : ∀ i c, cs[i]? = some c → (0 ≤ c ∧ c < w) ∧ c ∉ cs.take i := fun i c hc => by
      have := h i (List.mem_range.mpr (List.getElem?_eq_some_iff.mp hc).1)
      unfold colAt at this
      rw [hc] at this
      obtain ⟨a, b⟩ := Bool.and_eq_true_iff.mp this
      obtain ⟨b, d⟩ := Bool.and_eq_true_iff.mp b
      refine ⟨⟨of_decide_eq_true a, of_decide_eq_true b⟩, fun q => ?_⟩
      have q2 : inV (.int c) ((cs.take i).map V.int) = true := inV_ints.mpr q
      rw [q2] at d
      cases d
    refine ⟨?_, fun c hc => ?_⟩
    · unfold List.Nodup
      rw [List.pairwise_iff_getElem]
      intro i j hi hj hij e
      refine (at_ j _ (List.getElem?_eq_getElem hj)).2 ?_
      rw [← e]
      refine List.mem_of_getElem? (i := i) ?_
      rw [List.getElem?_take, if_pos hij]
      exact List.getElem?_eq_getElem hi
    · obtain ⟨i, hi⟩ := List.getElem?_of_mem hc
      exact (at_ i c hi).1
  · rintro ⟨nd, hr⟩ i hi
    have hi := List.mem_range.mp hi
    unfold colAt
    rw [List.getElem?_eq_getElem hi]
    obtain ⟨r1, r2⟩ := hr _ (List.getElem_mem hi)
    show (decide _ && (decide _ && !inV (.int cs[i]) ((cs.take i).map V.int))) = true
    rw [decide_eq_true r1, decide_eq_true r2]
    cases q : inV (.int cs[i]) ((cs.take i).map V.int) with
    | false => rfl
    | true =>
      obtain ⟨j, hj⟩ := List.getElem?_of_mem (inV_ints.mp q)
      rw [List.getElem?_take] at hj
      by_cases z : j < i
      · rw [if_pos z] at hj
        obtain ⟨hl, hj⟩ := List.getElem?_eq_some_iff.mp hj
        unfold List.Nodup at nd
        rw [List.pairwise_iff_getElem] at nd
        exact absurd hj (nd j i hl hi z)
      · rw [if_neg z] at hj
        cases hj
theorem srt_cols (bs : List (Int × Str)) : ((srt bs).map Prod.fst).Perm (bs.map Prod.fst) := (srt_perm bs).map _
theorem cols_srt {w : Int} {bs : List (Int × Str)} : colsOk w ((srt bs).map Prod.fst) = true ↔ (bs.map Prod.fst).Nodup ∧ ∀ b ∈ bs, 0 ≤ b.1 ∧ b.1 < w := by
  rw [colsOk_iff, (srt_cols bs).nodup_iff]
  refine and_congr_right fun _ => ?_
  constructor
  · intro h b hb
    exact h _ ((srt_cols bs).mem_iff.mpr (List.mem_map_of_mem hb))
  · intro h c hc
    obtain ⟨b, hb, rfl⟩ := List.mem_map.mp ((srt_cols bs).mem_iff.mp hc)
    exact h b hb
theorem cols_bad {w : Int} {bs cs ds : List (Int × Str)} {b : Int × Str} (e : bs = cs ++ [b] ++ ds) (h : ¬(0 ≤ b.1 ∧ b.1 < w) ∨ b.1 ∈ (cs ++ ds).map Prod.fst) : colsOk w ((srt bs).map Prod.fst) = false := by
  cases q : colsOk w ((srt bs).map Prod.fst) with
  | false => rfl
  | true =>
    obtain ⟨nd, hr⟩ := cols_srt.mp q
    subst e
    rcases h with h | h
    · exact absurd (hr b (List.mem_append.mpr (.inl (List.mem_append.mpr (.inr List.mem_cons_self))))) h
    · have p : (cs ++ [b] ++ ds).Perm (b :: (cs ++ ds)) := by
        rw [List.append_assoc]
        exact List.perm_middle
      have nd2 := (p.map Prod.fst).nodup_iff.mp nd
      rw [List.map_cons, List.nodup_cons] at nd2
      exact absurd h nd2.1
theorem cutG_to {α : Type} {xs : List α} {p : Int} (h0 : 0 ≤ p) : cutG xs none (some p) = xs.take p.toNat := by
  obtain ⟨n, rfl⟩ : ∃ n : Nat, p = n := ⟨p.toNat, by omega⟩
  unfold cutG
  rw [HT.sIx_none, HT.sIx_nat, List.drop_zero, Nat.sub_zero, Int.toNat_natCast, ← List.take_take, List.take_length]
theorem cutG_from {α : Type} {xs : List α} {p : Int} (h0 : 0 ≤ p) (h1 : p ≤ xs.length) : cutG xs (some p) none = xs.drop p.toNat := by
  obtain ⟨n, rfl⟩ : ∃ n : Nat, p = n := ⟨p.toNat, by omega⟩
  unfold cutG
  rw [HT.sIx_none, HT.sIx_nat, Int.toNat_natCast, Nat.min_eq_left (by omega)]
  exact List.take_of_length_le (by rw [List.length_drop]; omega)
theorem tieLt_eq (a b : Int × Str) : PySem.W.dataLt (dTie a) (dTie b) = decide (a.1 < b.1 ∨ (a.1 = b.1 ∧ a.2.cps.toList < b.2.cps.toList)) := by
  unfold dTie
  rw [PySem.W.dataLt_pair rfl rfl, PySem.W.dataLt_int, PySem.W.dataLt_str]
  show (if (a.1 == b.1) = true then if (a.2 == b.2) = true then false else decide (a.2.cps.toList < b.2.cps.toList) else decide (a.1 < b.1)) = _
  by_cases h1 : a.1 = b.1
  · rw [if_pos (beq_iff_eq.mpr h1)]
    by_cases h2 : a.2 = b.2
    · rw [if_pos (beq_iff_eq.mpr h2)]
      refine (decide_eq_false ?_).symm
      rintro (h | ⟨_, h⟩)
      · omega
      · rw [h2] at h
        exact List.lt_irrefl _ h
    · rw [if_neg (fun e => h2 (beq_iff_eq.mp e))]
      refine decide_eq_decide.mpr ⟨fun h => .inr ⟨h1, h⟩, ?_⟩
      rintro (h | ⟨_, h⟩)
      · omega
      · exact h
  · rw [if_neg (fun e => h1 (beq_iff_eq.mp e))]
    refine decide_eq_decide.mpr ⟨fun h => .inl h, ?_⟩
    rintro (h | ⟨h, _⟩)
    · exact h
    · exact absurd h h1
theorem tieLe_iff {a b : Int × Str} : tieLe a b = true ↔ a.1 < b.1 ∨ (a.1 = b.1 ∧ a.2.cps.toList ≤ b.2.cps.toList) := by
  unfold tieLe
  rw [tieLt_eq, Bool.not_eq_true', decide_eq_false_iff_not]
  constructor
  · intro h
    by_cases h1 : a.1 = b.1
    · exact .inr ⟨h1, List.not_lt.mp fun q => h (.inr ⟨h1.symm, q⟩)⟩
    · refine .inl ?_
      have : ¬ b.1 < a.1 := fun q => h (.inl q)
      omega
  · rintro (h | ⟨h1, h2⟩) (q | ⟨q1, q2⟩)
    · omega
    · omega
    · omega
    · exact List.not_lt.mpr h2 q2
theorem tieLe_trans (a b c : Int × Str) (h : tieLe a b = true) (h' : tieLe b c = true) : tieLe a c = true := by
  rw [tieLe_iff] at h h' ⊢
  rcases h with h | ⟨h1, h2⟩
  · refine .inl ?_
    rcases h' with h' | ⟨h', _⟩ <;> omega
  · rcases h' with h' | ⟨q1, q2⟩
    · exact .inl (by omega)
    · exact .inr ⟨by omega, List.le_trans h2 q2⟩
theorem tieLe_total (a b : Int × Str) : (tieLe a b || tieLe b a) = true := by
  rw [Bool.or_eq_true, tieLe_iff, tieLe_iff]
  rcases Int.lt_trichotomy a.1 b.1 with h | h | h
  · exact .inl (.inl h)
  · rcases List.le_total a.2.cps.toList b.2.cps.toList with q | q
    · exact .inl (.inr ⟨h, q⟩)
    · exact .inr (.inr ⟨h.symm, q⟩)
  · exact .inr (.inl h)
theorem str_ext {x y : Str} (h : x.cps.toList = y.cps.toList) : x = y := by
  cases x
  cases y
  congr 1
  exact Array.toList_inj.mp h
theorem srt_eq {as bs : List (Int × Str)} (p : as.Perm bs) : srt as = srt bs := by
  refine List.Perm.eq_of_pairwise (le := fun a b => tieLe a b = true) (fun a b _ _ h h' => ?_) (List.pairwise_mergeSort tieLe_trans tieLe_total as) (List.pairwise_mergeSort tieLe_trans tieLe_total bs) (((srt_perm as).trans p).trans (srt_perm bs).symm)
  rw [tieLe_iff] at h h'
  rcases h with h | ⟨h1, h2⟩
  · rcases h' with h' | ⟨h', _⟩ <;> omega
  · rcases h' with h' | ⟨q1, q2⟩
    · omega
    · exact Prod.ext h1 (str_ext (List.le_antisymm h2 q2))
/-- the error that is due -/
def dueT (z : Str) (w : Int) (mk : Option Int) (bs : List (Int × Str)) : Option Str := if nameOk z = true then (if tabOk w mk bs = true then none else some "InvalidTable") else some "InvalidName"
theorem due_cases {z : Str} {w : Int} {mk : Option Int} {bs : List (Int × Str)} {k : Str} (h : dueT z w mk bs = some k) : (k = "InvalidName" ∧ nameOk z = false) ∨ (k = "InvalidTable" ∧ nameOk z = true ∧ tabOk w mk bs = false) := by
  unfold dueT at h
  cases h1 : nameOk z with
  | false =>
    rw [h1] at h
    exact .inl ⟨(Option.some.inj h).symm, rfl⟩
  | true =>
    rw [h1, if_pos rfl] at h
    cases h2 : tabOk w mk bs with
    | false =>
      rw [h2] at h
      exact .inr ⟨(Option.some.inj h).symm, rfl, rfl⟩
    | true =>
      rw [h2] at h
      cases h
theorem mkTab {K : PySem.W.Frag} {H : Hp} {E : XK} {Q : Addr → Hp → Prop} {t : Addr} {z : Str} {w : Int} {mk : Option Int} {bs : List (Int × Str)} (ht : Dp K H (.ref t) (.tuple (bs.map dTie))) (hz : z.length ≤ 3000) (hb : bs.length ≤ 100)
    (kE : ∀ k, dueT z w mk bs = some k → ∀ d H', H' d = some (.xd [("name", .str z)]) → Same H H' → E (.ref (He.ga K k)) (some d) H') (kQ : dueT z w mk bs = none → ∀ x H', IsTab K H' x z w mk bs → Same H H' → Q x H') :
    ∀ x dx, H x = none → H dx = none → dx ≠ x → spTable K [.ref x, .str z, .int w, ptV mk, .ref t] (upd (upd H dx (.own x)) x (.ins (He.ga K "Table") dx [])) (fun v H2 => v = .non ∧ Q x H2) E := by
  intro x dx nx ndx nex
  have s1 : Same H (upd (upd H dx (.own x)) x (.ins (He.ga K "Table") dx [])) := fun y o e => by rw [upd_ne (ne_of_none e nx), upd_ne (ne_of_none e ndx)]; exact e
  refine ⟨x, dx, t, z, w, mk, bs, rfl, upd_same, dp_same s1 ht, hz, hb, fun h1 d H' hd s => ?_, fun h1 h2 d H' hd s => ?_, fun h1 h2 H' ht' b => ⟨rfl, ?_⟩⟩
  · exact kE "InvalidName" (by unfold dueT; rw [h1]; rfl) d H' hd fun b o e => s _ _ (s1 _ _ e)
  · exact kE "InvalidTable" (by unfold dueT; rw [h1, h2]; rfl) d H' hd fun b o e => s _ _ (s1 _ _ e)
  · exact kQ (by unfold dueT; rw [h1, h2]; rfl) x H' ht' fun y o e => b _ _ (ne_of_none e nx) (s1 _ _ e)
theorem isTab_same {K : PySem.W.Frag} {H H' : Hp} {x : Addr} {z : Str} {w : Int} {mk : Option Int} {bs : List (Int × Str)} (s : Same H H') (h : IsTab K H x z w mk bs) : IsTab K H' x z w mk bs := by
  obtain ⟨dx, t, h1, h2⟩ := h.ex
  exact ⟨dx, t, s _ _ h1, dp_same s h2⟩
def ptD : Option Int → PyData
  | none => .none
  | some i => .int i
theorem dp_pt {K : PySem.W.Frag} (H : Hp) (o : Option Int) : Dp K H (ptV o) (ptD o) := by
  cases o with
  | none => exact .non
  | some i => exact .int i
theorem noT (bs : List (Int × Str)) : (bs.map dTie).all (noL 3) = true := by
  have := noL_ties (as := bs) (bs := [])
  simpa using this
theorem tabOk_iff {w : Int} {mk : Option Int} {bs : List (Int × Str)} : tabOk w mk bs = true ↔ 1 ≤ w ∧ w ≤ 3 ∧ keyOk w mk = true ∧ (bs.map Prod.fst).Nodup ∧ ∀ b ∈ bs, 0 ≤ b.1 ∧ b.1 < w := by
  unfold tabOk
  rw [Bool.and_eq_true_iff, Bool.and_eq_true_iff, Bool.and_eq_true_iff, decide_eq_true_iff, decide_eq_true_iff, cols_srt]
theorem mkGood {K : PySem.W.Frag} {H : Hp} {E : XK} {Q : Addr → Hp → Prop} {t : Addr} {z : Str} {w : Int} {mk : Option Int} {bs : List (Int × Str)} (ht : Dp K H (.ref t) (.tuple (bs.map dTie))) (nz : nameOk z = true) (hb : bs.length ≤ 100) (tk : tabOk w mk bs = true)
    (kQ : ∀ x H', IsTab K H' x z w mk bs → Same H H' → Q x H') :
    ∀ x dx, H x = none → H dx = none → dx ≠ x → spTable K [.ref x, .str z, .int w, ptV mk, .ref t] (upd (upd H dx (.own x)) x (.ins (He.ga K "Table") dx [])) (fun v H2 => v = .non ∧ Q x H2) E :=
  mkTab ht (by have := (name_inv nz).2.2.1; omega) hb (fun k hk => by unfold dueT at hk; rw [nz, tk] at hk; cases hk) fun _ => kQ
theorem noT4 (bs : List (Int × Str)) : noL 4 (.tuple (bs.map dTie)) = true := noT bs
theorem isTab_perm {K : PySem.W.Frag} {H : Hp} {x : Addr} {z : Str} {w : Int} {mk : Option Int} {as bs : List (Int × Str)} (p : as.Perm bs) (h : IsTab K H x z w mk as) : IsTab K H x z w mk bs := by
  obtain ⟨dx, t, h1, h2⟩ := h.ex
  rw [srt_eq p] at h2
  exact ⟨dx, t, h1, h2⟩
theorem IsTab.firm {K : PySem.W.Frag} {H H' : Hp} {x : Addr} {z : Str} {w : Int} {mk : Option Int} {bs : List (Int × Str)} (h : IsTab K H x z w mk bs) (e : Firm H H') : IsTab K H' x z w mk bs := by
  obtain ⟨dx, t, h1, h2⟩ := h.ex
  exact ⟨dx, t, e _ _ h1 (fun _ z => by cases z) (fun _ z => by cases z), dp_firm e (noT4 _) h2⟩
/-- a table's data -/
structure TabD where
  nm : Str
  wd : Int
  ky : Option Int
  bs : List (Int × Str)
def TabD.isL (t : TabD) : Bool := decide (t.wd = 1) && (decide (t.ky = some 1) && t.bs.isEmpty)
abbrev IsTabD (K : PySem.W.Frag) (H : Hp) (x : Addr) (t : TabD) : Prop := IsTab K H x t.nm t.wd t.ky t.bs
theorem isTab_but {s : Addr} {K : PySem.W.Frag} {H H' : Hp} {C ds : Addr} {fs : List (Str × V)} {x : Addr} {z : Str} {w : Int} {mk : Option Int} {bs : List (Int × Str)} (e : But s H H') (hs : H s = some (.ins C ds fs)) (n : x ≠ s) (h : IsTab K H x z w mk bs) : IsTab K H' x z w mk bs := by
  obtain ⟨dx, t, h1, h2⟩ := h.ex
  exact ⟨dx, t, e _ _ n h1, but_dp e hs h2⟩
/-- what is wrong -/
inductive Flt where
  | dup (z : Str)
  | unk (z : Str)
  | tie (z : Str) (c : Int)
def tgtD (ts : List TabD) (z : Str) : Option TabD := ts.find? fun t => decide (t.nm = z)
def tieF (ts : List TabD) (nm : Str) : List (Int × Str) → Option Flt
  | [] => none
  | b :: r => match tgtD ts b.2 with
    | none => some (.unk b.2)
    | some u => if u.isL = true then tieF ts nm r else some (.tie nm b.1)
def tiesF (ts : List TabD) : List TabD → Option Flt
  | [] => none
  | t :: r => match tieF ts t.nm (srt t.bs) with
    | some f => some f
    | none => tiesF ts r
def dupF : List Str → List TabD → Option Flt
  | _, [] => none
  | seen, t :: r => if t.nm ∈ seen then some (.dup t.nm) else dupF (seen ++ [t.nm]) r
theorem dupF_cons (seen : List Str) (t : TabD) (r : List TabD) : dupF seen (t :: r) = if t.nm ∈ seen then some (.dup t.nm) else dupF (seen ++ [t.nm]) r := by rw [dupF]
theorem tieF_cons (ts : List TabD) (nm : Str) (b : Int × Str) (r : List (Int × Str)) : tieF ts nm (b :: r) = match tgtD ts b.2 with
    | none => some (.unk b.2)
    | some u => if u.isL = true then tieF ts nm r else some (.tie nm b.1) := by rw [tieF]
theorem tiesF_cons (ts : List TabD) (t : TabD) (r : List TabD) : tiesF ts (t :: r) = match tieF ts t.nm (srt t.bs) with
    | some f => some f
    | none => tiesF ts r := by rw [tiesF]
theorem tgt_snd (L : List (Addr × TabD)) (z : Str) : tgtD (L.map Prod.snd) z = (L.find? fun q => decide (q.2.nm = z)).map Prod.snd := by
  unfold tgtD
  rw [List.find?_map]
  rfl
def faultF (ts : List TabD) : Option Flt := match dupF [] ts with
  | some f => some f
  | none => tiesF ts ts
/-- the exception that is due: its class, what its dict keeps -/
def Flt.cls : Flt → Str
  | .dup _ => "DuplicateName"
  | .unk _ => "UnknownName"
  | .tie _ _ => "InvalidTie"
def Flt.xd : Flt → List (Str × V)
  | .dup z => [("name", .str z)]
  | .unk z => [("name", .str z)]
  | .tie z c => [("column", .int c), ("name", .str z)]
theorem drop_get {α : Type} {l : List α} {i : Nat} {a : α} (h : l[i]? = some a) : l.drop i = a :: l.drop (i + 1) := by
  obtain ⟨hl, he⟩ := List.getElem?_eq_some_iff.mp h
  rw [List.drop_eq_getElem_cons hl, he]
theorem take_get {α : Type} {l : List α} {i : Nat} {a : α} (h : l[i]? = some a) : l.take (i + 1) = l.take i ++ [a] := take_snoc h
/-- the schema at x: its list, its dict -/
structure IsSch (K : PySem.W.Frag) (H : Hp) (x : Addr) (L : List (Addr × TabD)) : Prop where
  ex : ∃ (dx l dd : Addr) (kvs : List (Key × V)), H x = some (.ins (He.ga K "Schema") dx [("tables", .ref l), ("by_name", .ref dd)]) ∧ H l = some (.lst (L.map fun q => V.ref q.1)) ∧ H dd = some (.dK kvs) ∧
    (∀ z : Str, valV kvs (.inr z) = (L.find? fun q => decide (q.2.nm = z)).map fun q => V.ref q.1) ∧ ∀ q ∈ L, IsTabD K H q.1 q.2
def spIsList (K : PySem.W.Frag) : Sp := fun vs H Q _ => ∃ (x : Addr) (t : TabD), vs = [.ref x] ∧ IsTabD K H x t ∧ Q (.bl t.isL) H
def spSchema (K : PySem.W.Frag) : Sp := fun vs H Q E => ∃ (x dx p : Addr) (L : List (Addr × TabD)), vs = [.ref x, .ref p] ∧ H x = some (.ins (He.ga K "Schema") dx []) ∧ H p = some (.tup (L.map fun q => V.ref q.1)) ∧ (∀ q ∈ L, IsTabD K H q.1 q.2) ∧ L.length ≤ 6 ∧
  (∀ f, faultF (L.map Prod.snd) = some f → ∀ d H', H' d = some (.xd f.xd) → Same H H' → E (.ref (He.ga K f.cls)) (some d) H') ∧ (faultF (L.map Prod.snd) = none → ∀ H', IsSch K H' x L → But x H H' → Q .non H')
section
variable {P : Program} {w : World} {K : PySem.W.Frag} {mg : Str → Option Value} {base : Heap}
theorem ok_islist (T : Txt K mg) : CalM P w K mg base CX0 1 (He.ga K "Table") "is_list" P_Table_is_list [] (spIsList K) := by
  refine CalM.of T.F_Table_is_list T.cls_Table T.me_Table_is_list (fun fd F => F.ok sc_Table_is_list (fun vs H Q E h => ?_) (fun cdv A outer s0 H vs Q E hr h => ?_)) (fun _ _ _ _ _ _ us hl => match us, hl with | [_], _ => rfl)
  · obtain ⟨x, t, rfl, _⟩ := h
    rfl
  · obtain ⟨x, t, rfl, hx, k⟩ := h
    refine ⟨_, PSs.nox (pss_one (ps_ret (pe_and (pe_cmpR op_eq (pe_fld (pv 0) rfl) pe_int (nomark _)) (pe_and (pe_cmpR op_eq (pe_fld (pv 0) rfl) pe_int (nomark _)) (pe_one (pe_notT (pe_fld (pv 0) rfl))))))), ?_⟩
    obtain ⟨d1, t1, h1, hd1⟩ := hx.ex
    have fin : ∀ b, b = t.isL → Q (.bl b) H := fun b e => by rw [e]; exact k
    refine ⟨_, rfl, x, _, d1, _, _, rfl, h1, T.cls_Table, T.na_Table_width, rfl, rfl, _, rfl, ?_⟩
    by_cases e1 : t.wd = 1
    · refine ifT (decide_eq_true (congrArg V.int e1)) ⟨_, rfl, x, _, d1, _, _, rfl, h1, T.cls_Table, T.na_Table_key, rfl, ?_⟩
      by_cases e2 : t.ky = some 1
      · rw [e2]
        refine ⟨rfl, _, rfl, ifT (decide_eq_true rfl) ⟨_, rfl, x, _, d1, _, _, rfl, h1, T.cls_Table, T.na_Table_ties, rfl, ?_⟩⟩
        cases hd1 with
        | tup hsq hda =>
          rename_i vs
          have lv := dp_len hda
          rw [List.length_map, srt_len] at lv
          refine ⟨_, .inr (.inl ⟨vs, hsq, rfl⟩), fin _ ?_⟩
          unfold TabD.isL
          rw [e1, e2, decide_eq_true rfl, decide_eq_true rfl, Bool.true_and, Bool.true_and, Bool.not_not]
          cases vs with
          | nil =>
            have : t.bs = [] := List.eq_nil_of_length_eq_zero lv.symm
            rw [this]
            rfl
          | cons v vs =>
            cases hb : t.bs with
            | nil => rw [hb] at lv; cases lv
            | cons b bs => rfl
      · have f2 : t.isL = false := by
          unfold TabD.isL
          rw [decide_eq_false e2, Bool.false_and, Bool.and_false]
        cases hk : t.ky with
        | none => exact ⟨rfl, _, rfl, ifF (decide_eq_false fun e => by cases e) (fin _ f2.symm)⟩
        | some m =>
          refine ⟨rfl, _, rfl, ifF (decide_eq_false fun e => e2 ?_) (fin _ f2.symm)⟩
          rw [hk, V.int.inj e]
    · have f1 : t.isL = false := by
        unfold TabD.isL
        rw [decide_eq_false e1, Bool.false_and]
      exact ifF (decide_eq_false fun e => e1 (V.int.inj e)) (fin _ f1.symm)
theorem ok_schemaF (T : Txt K mg) (hP : PrOk P file) : CalR P w K mg base (L2N.CX P w) 3 "Schema" (He.ga K "Schema") (fun vs H Q E => ∃ ws rest, vs = ws ++ rest ∧ ws.length = ["self"].length ∧ rest.length ≤ sizeLine ∧ ∀ p, H p = none → spSchema K (ws ++ [V.ref p]) (upd H p (.tup rest)) Q E) := by
  have C_Table_is_list := ok_islist (P := P) (w := w) (base := base) T
  have R_DuplicateName := ini_DuplicateName (P := P) (w := w) (base := base) T hP
  have R_UnknownName := ini_UnknownName (P := P) (w := w) (base := base) T hP
  have R_InvalidTie := ini_InvalidTie (P := P) (w := w) (base := base) T hP
  have R_WrongSize := ini_WrongSize (P := P) (w := w) (base := base) T hP
  obtain ⟨fd, F⟩ := T.F_Schema_DinitD
  refine ⟨T.g_Schema, _, T.mk_Schema, FunD.star (ps := ["self"]) (pv := "tables") F sc_Schema_DinitD cxUpN (fun kV doc pm an cdv ct us rest hl => ?_) (fun cdv A outer s0 H vs Q E hr h => ?_)⟩
  · exact StX.bind_star1 (p1 := "self") (pv := "tables") (B := fun l => bindArgs (PySem.W.fnOf d_Schema_DinitD.name d_Schema_DinitD.qual (defArgs s_Schema_DinitD) (defBody s_Schema_DinitD) (defScope s_Schema_DinitD) .none kV doc pm an cdv ct) ⟨l, []⟩) (fun a => by kernel_rfl) (fun a r rs => by kernel_rfl) us rest hl
  · obtain ⟨x, dx, p, L, rfl, hx, hp, ht, lt, kE, kQ⟩ := h
    refine ⟨_, (pss_cons (ps_if (pt_cmpR op_gt (pe_callB call_len_seq (by rfl) T.f_len (by decide +kernel) (pa_cons (pv 1) pa_nil)) (pe_globI rfl T.c_MOST_TABLES) (nomark _)) (pss_one (L2N.ps_raise rfl (L2N.takes_of rfl rfl rfl rfl) (pmk_sup R_WrongSize (hr.mono (by first | decide | omega)) (pa_cons pe_str pa_nil))))
    pss_nil)
    (pss_cons (ps_set (i := 2) sc_Schema_DinitD.nd rfl (Or.inl rfl) pe_dnewK)
    (pss_cons (ps_for (passes_of rfl) rfl (pi_tup (pv 1)) (pg_name (i := 3) sc_Schema_DinitD.nd rfl (Or.inl rfl))
    (pss_cons (ps_if (pt_cmp (pc_din (hu_of hr) (pe_fld (pv 3) rfl) (pv 2))) (pss_one (L2N.ps_raise rfl (L2N.takes_of rfl rfl rfl rfl) (pmk_sup R_DuplicateName (hr.mono (by first | decide | omega)) (pa_cons (pe_fld (pv 3) rfl) pa_nil))))
    pss_nil)
    (pss_one (ps_dput (hu_of hr) (pv 2) (pe_fld (pv 3) rfl) (pv 3) rfl))))
    (pss_cons (ps_for (passes_of rfl) rfl (pi_tup (pv 1)) (pg_name (i := 3) sc_Schema_DinitD.nd rfl (Or.inl rfl))
    (pss_one (ps_for (passes_of rfl) rfl (pi_tup (pe_fld (pv 3) rfl)) (pg_tup rfl (pgs_cons (pg_name (i := 4) sc_Schema_DinitD.nd rfl (Or.inl rfl)) (pgs_cons (pg_name (i := 5) sc_Schema_DinitD.nd rfl (Or.inl rfl)) pgs_nil)))
    (pss_cons (ps_if (pt_cmp (pc_dnotin (hu_of hr) (pv 5) (pv 2))) (pss_one (L2N.ps_raise rfl (L2N.takes_of rfl rfl rfl rfl) (pmk_sup R_UnknownName (hr.mono (by first | decide | omega)) (pa_cons (pv 5) pa_nil))))
    pss_nil)
    (pss_one (ps_if (pt_not (pt_val (pc_meth0 C_Table_is_list (hr.mono (by first | decide | omega)) pass0 (pe_dget (hu_of hr) (pv 2) (pv 5) (fun _ _ => rfl))))) (pss_one (L2N.ps_raise rfl (L2N.takes_of rfl rfl rfl rfl) (pmk_sup R_InvalidTie (hr.mono (by first | decide | omega)) (pa_cons (pe_fld (pv 3) rfl) (pa_cons (pv 4) pa_nil)))))
    pss_nil))))))
    (pss_cons (ps_fld (pv 0) (pe_callTy call_list_of (by rfl) T.f_list (by decide +kernel) (pa_cons (pv 1) pa_nil)) rfl)
    (pss_one (ps_fld (pv 0) (pv 2) rfl))))))), ?_⟩
    have lv : (L.map fun q => V.ref q.1).length = L.length := List.length_map _
    have nx : ∀ q ∈ L, q.1 ≠ x := fun q hq e => by
      obtain ⟨d1, t1, h1, _⟩ := (ht q hq).ex
      rw [e, hx] at h1
      have h2 := congrArg (fun o : Option HO => match o with | some (.ins _ _ fs) => fs.length | _ => 0) h1
      exact absurd h2 (by show ¬(0 = 4); decide)
    refine ⟨_, rfl, p, _, rfl, .inr (SqT.of hp), _, _, rfl, rfl, _, rfl, ifF (decide_eq_false (by omega)) ?_⟩
    intro dd ndd
    have hdd0 : (upd H dd (.dK [])) dd = some (.dK []) := upd_same
    refine ⟨_, rfl, p, rfl, ⟨_, same_tup (same_new (Same.refl H) ndd) (SqT.of hp)⟩, ?_⟩
    refine for_it (walk_tup (xs := L.map fun q => V.ref q.1)) (fun i σ' H' => Same H H' ∧ ∃ (kvs : List (Key × V)) (v3 : Option V), σ' = [some (.ref x), some (.ref p), some (.ref dd), v3, none, none] ∧ H' dd = some (.dK kvs) ∧ kvs.length ≤ i ∧
      (∀ z : Str, valV kvs (.inr z) = ((L.take i).find? fun q => decide (q.2.nm = z)).map fun q => V.ref q.1) ∧ dupF [] (L.map Prod.snd) = dupF (((L.take i).map Prod.snd).map TabD.nm) ((L.drop i).map Prod.snd)) ⟨same_new (Same.refl H) ndd, [], none, rfl, hdd0, Nat.le_refl _, fun z => rfl, rfl⟩ (fun i σ' H' _ q => same_tup q.1 (SqT.of hp)) ?_ ?_
    · rintro i y σ' H1 H2 hi ⟨s1, kvs, v3, rfl, hdd, lk, hv, hdf⟩ ⟨rfl, hy⟩
      obtain ⟨q, hq, rfl⟩ := map_get (f := fun q : Addr × TabD => V.ref q.1) hy
      have hqm := List.mem_of_getElem? hq
      obtain ⟨d1, t1, h1, _⟩ := (isTab_same s1 (ht q hqm)).ex
      rw [drop_get hq, List.map_cons] at hdf
      have hvq := hv q.2.nm
      refine ⟨_, rfl, q.1, _, d1, _, _, rfl, h1, T.cls_Table, T.na_Table_name, rfl, _, rfl, dd, _, rfl, DGet.k (k := .inr q.2.nm) hdd, _, rfl, ?_⟩
      rw [dupF_cons] at hdf
      by_cases hm : q.2.nm ∈ ((L.take i).map Prod.snd).map TabD.nm
      · rw [if_pos hm] at hdf
        have hs : (valV kvs (.inr q.2.nm)).isSome = true := by
          rw [hvq, Option.isSome_map, List.find?_isSome]
          obtain ⟨t, ht, e⟩ := List.mem_map.mp hm
          obtain ⟨u, hu, e2⟩ := List.mem_map.mp ht
          exact ⟨u, hu, decide_eq_true (by rw [e2, e])⟩
        refine ifT hs ⟨_, rfl, q.1, _, d1, _, _, rfl, h1, T.cls_Table, T.na_Table_name, rfl, raised1 fun d Hf hd sf => ?_⟩
        exact kE (.dup q.2.nm) (by unfold faultF; rw [hdf]) d Hf hd fun b o e => sf _ _ (s1 _ _ e)
      · rw [if_neg hm] at hdf
        have hs : valV kvs (.inr q.2.nm) = none := by
          rw [hvq, Option.map_eq_none_iff, List.find?_eq_none]
          intro u hu e
          exact hm (List.mem_map.mpr ⟨u.2, List.mem_map_of_mem hu, of_decide_eq_true e⟩)
        refine ifF (by rw [hs]; rfl) ?_
        refine ⟨_, rfl, _, rfl, _, rfl, q.1, _, d1, _, _, rfl, h1, T.cls_Table, T.na_Table_name, rfl, dd, _, rfl, DPut.k (k := .inr q.2.nm) hdd (by rw [sizeLine_eq]; omega), same_mut s1 ndd, _, _, rfl, upd_same, ?_, ?_, ?_⟩
        · have := length_putK kvs (.inr q.2.nm) (V.ref q.1)
          omega
        · intro z
          rw [valV_put, take_get hq, List.find?_append, hv z]
          by_cases e : z = q.2.nm
          · subst e
            have hn : ((L.take i).find? fun u => decide (u.2.nm = q.2.nm)) = none := by
              rw [hvq] at hs
              exact Option.map_eq_none_iff.mp hs
            rw [if_pos rfl, hn]
            simp
          · rw [if_neg (fun h => e (Sum.inr.inj h)), List.find?_cons_of_neg (by rw [decide_eq_true_iff]; exact fun h => e h.symm), List.find?_nil, Option.or_none]
        · rw [hdf, take_get hq, List.map_append, List.map_append]
          rfl
    · rintro σ' H1 ⟨s1, kvs, v3, rfl, hdd, lk, hv, hdf⟩
      rw [lv, List.take_length] at hv
      rw [lv, List.take_length, List.drop_length] at hdf
      have hdn : dupF [] (L.map Prod.snd) = none := hdf
      have hF : faultF (L.map Prod.snd) = tiesF (L.map Prod.snd) (L.map Prod.snd) := by
        unfold faultF
        rw [hdn]
      have hp1 := s1 _ _ hp
      refine ⟨_, rfl, p, rfl, ⟨_, SqT.of hp1⟩, ?_⟩
      refine for_it (walk_tup (xs := L.map fun q => V.ref q.1)) (fun i σ' H' => H' = H1 ∧ (∃ v3 v4 v5 : Option V, σ' = [some (.ref x), some (.ref p), some (.ref dd), v3, v4, v5]) ∧ tiesF (L.map Prod.snd) (L.map Prod.snd) = tiesF (L.map Prod.snd) ((L.drop i).map Prod.snd)) ⟨rfl, ⟨_, _, _, rfl⟩, rfl⟩ (fun i σ' H' _ q => by rw [q.1]; exact SqT.of hp1) ?_ ?_
      · rintro i y σ' H2 H3 hi ⟨rfl, ⟨v3, v4, v5, rfl⟩, ht2⟩ ⟨rfl, hy⟩
        obtain ⟨q, hq, rfl⟩ := map_get (f := fun q : Addr × TabD => V.ref q.1) hy
        have hqm := List.mem_of_getElem? hq
        obtain ⟨d1, t1, h1, hd1⟩ := (isTab_same s1 (ht q hqm)).ex
        obtain ⟨vs, hsq, hda⟩ : ∃ vs, SqT K H3 t1 vs ∧ DpAll K H3 vs ((srt q.2.bs).map dTie) := by
          cases hd1 with
          | tup hsq hda => exact ⟨_, hsq, hda⟩
        have lvs := dp_len hda
        rw [List.length_map] at lvs
        rw [drop_get hq, List.map_cons, tiesF_cons] at ht2
        refine ⟨_, rfl, q.1, _, d1, _, _, rfl, h1, T.cls_Table, T.na_Table_ties, rfl, t1, rfl, ⟨_, hsq⟩, ?_⟩
        refine for_it (walk_tup (xs := vs)) (fun j σ' H' => H' = H3 ∧ (∃ v4 v5 : Option V, σ' = [some (.ref x), some (.ref p), some (.ref dd), some (.ref q.1), v4, v5]) ∧ tieF (L.map Prod.snd) q.2.nm (srt q.2.bs) = tieF (L.map Prod.snd) q.2.nm ((srt q.2.bs).drop j)) ⟨rfl, ⟨_, _, rfl⟩, rfl⟩ (fun i σ' H' _ q => by rw [q.1]; exact hsq) ?_ ?_
        · rintro j y σ' H4 H5 hj ⟨rfl, ⟨v4, v5, rfl⟩, ht3⟩ ⟨rfl, hy2⟩
          obtain ⟨b, hb⟩ : ∃ b, (srt q.2.bs)[j]? = some b := ⟨_, List.getElem?_eq_getElem (by omega)⟩
          obtain ⟨v, hv2, dv⟩ := dp_get hda (get_map (f := dTie) hb)
          rw [hy2] at hv2
          cases hv2
          obtain ⟨tt, rfl, htt⟩ := dp_tieInv dv
          rw [drop_get hb, tieF_cons] at ht3
          refine ⟨tt, _, rfl, htt, rfl, _, _, rfl, _, _, rfl, rfl, ?_⟩
          refine ⟨_, rfl, _, rfl, dd, _, rfl, DGet.k (k := .inr b.2) hdd, _, rfl, ?_⟩
          cases hu : L.find? fun q => decide (q.2.nm = b.2) with
          | none =>
            have hs : valV kvs (.inr b.2) = none := by rw [hv b.2, hu]; rfl
            have htg : tgtD (L.map Prod.snd) b.2 = none := by rw [tgt_snd, hu]; rfl
            rw [htg] at ht3
            have ht3 : tieF (L.map Prod.snd) q.2.nm (srt q.2.bs) = some (.unk b.2) := ht3
            rw [ht3] at ht2
            exact ifT (by rw [hs]; rfl) ⟨_, rfl, raised1 fun d Hf hd sf => kE (.unk b.2) (by rw [hF, ht2]) d Hf hd fun b o e => sf _ _ (s1 _ _ e)⟩
          | some u =>
            have hum := List.mem_of_find?_eq_some hu
            have hs : valV kvs (.inr b.2) = some (.ref u.1) := by rw [hv b.2, hu]; rfl
            have htg : tgtD (L.map Prod.snd) b.2 = some u.2 := by rw [tgt_snd, hu]; rfl
            rw [htg] at ht3
            have ht3 : tieF (L.map Prod.snd) q.2.nm (srt q.2.bs) = if u.2.isL = true then tieF (L.map Prod.snd) q.2.nm ((srt q.2.bs).drop (j + 1)) else some (.tie q.2.nm b.1) := ht3
            have iu := isTab_same s1 (ht u hum)
            obtain ⟨du, tu, hu1, _⟩ := iu.ex
            refine ifF (by rw [hs]; rfl) ?_
            refine ⟨_, rfl, _, rfl, dd, _, rfl, (by rw [← hs]; exact DGet.k (k := .inr b.2) hdd), u.1, du, _, rfl, hu1, rfl, u.1, u.2, rfl, iu, _, rfl, ?_⟩
            cases hL : u.2.isL with
            | true =>
              rw [hL, if_pos rfl] at ht3
              exact iteF ⟨rfl, ⟨_, _, rfl⟩, ht3⟩
            | false =>
              rw [hL, if_neg (by decide)] at ht3
              rw [ht3] at ht2
              exact iteT ⟨_, rfl, q.1, _, d1, _, _, rfl, h1, T.cls_Table, T.na_Table_name, rfl, _, rfl, raised2 fun d Hf hd sf => kE (.tie q.2.nm b.1) (by rw [hF, ht2]) d Hf hd fun b o e => sf _ _ (s1 _ _ e)⟩
        · rintro σ' H4 ⟨rfl, ⟨v4, v5, rfl⟩, ht3⟩
          rw [lvs, List.drop_length] at ht3
          have ht3 : tieF (L.map Prod.snd) q.2.nm (srt q.2.bs) = none := ht3
          rw [ht3] at ht2
          exact ⟨rfl, ⟨_, _, _, rfl⟩, ht2⟩
      · rintro σ' H2 ⟨rfl, ⟨v3, v4, v5, rfl⟩, ht2⟩
        rw [lv, List.drop_length] at ht2
        have k := kQ (by rw [hF, ht2]; rfl)
        have hx1 := s1 _ _ hx
        refine ⟨_, rfl, p, _, rfl, .inr (SqT.of hp1), fun l nl => ⟨_, rfl, x, _, dx, _, rfl, (by rw [upd_ne (ne_of_none hx1 nl)]; exact hx1), T.cls_Schema, T.na_Schema_tables, by show 0 < 1000; decide, ?_⟩⟩
        have s3 : Same H2 (upd H2 l (.lst (L.map fun q => V.ref q.1))) := same_new (Same.refl H2) nl
        have hl3 : (upd H2 l (.lst (L.map fun q => V.ref q.1))) l = some (.lst (L.map fun q => V.ref q.1)) := upd_same
        have hx3 := s3 _ _ hx1
        have hdd3 := s3 _ _ hdd
        generalize upd H2 l (.lst (L.map fun q => V.ref q.1)) = H3 at s3 hl3 hx3 hdd3
        refine at_heap (fun H6 e6 => ?_)
        have b6 : But x H3 H6 := by rw [e6]; exact But.upd
        have hx6 : H6 x = some (.ins (He.ga K "Schema") dx [("tables", .ref l)]) := by rw [e6]; exact upd_same
        clear e6
        refine ⟨_, rfl, _, rfl, x, _, dx, _, rfl, hx6, T.cls_Schema, T.na_Schema_by_name, by show 1 < 1000; decide, ?_⟩
        refine at_heap (fun H7 e7 => ?_)
        have b7 : But x H6 H7 := by rw [e7]; exact But.upd
        have hx7 : H7 x = some (.ins (He.ga K "Schema") dx [("tables", .ref l), ("by_name", .ref dd)]) := by rw [e7]; exact upd_same
        clear e7
        have b37 := b6.trans b7
        refine k H7 ⟨dx, l, dd, kvs, hx7, b37 _ _ (ne_of hl3 hx3 (by intro z; cases z)) hl3, b37 _ _ (ne_of hdd3 hx3 (by intro z; cases z)) hdd3, hv, fun q hq => isTab_but b37 hx3 (nx q hq) (isTab_same s3 (isTab_same s1 (ht q hq)))⟩ ?_
        exact (But.same s1).trans ((But.same s3).trans b37)
theorem ok_iterS (T : Txt K mg) : CalIt P w K mg base 1 (He.ga K "Schema") "tables" := by
  obtain ⟨fd, F⟩ := T.F_Schema_DiterD
  refine ⟨_, fd, T.me_Schema_DiterD, FunD.okN F sc_Schema_DiterD (fun n vs H Q E h => ?_) (fun cdv A outer s0 H vs Q E hr h => ?_), F.bindsN fun _ _ _ _ _ _ us hl => match us, hl with | [_], _ => rfl⟩
  · obtain ⟨a, dx, l, fs, xs, rfl, _⟩ := h
    rfl
  · obtain ⟨a, dx, l, fs, xs, rfl, ha, hf, hl, k⟩ := h
    refine ⟨_, PSs.nox (pss_one (ps_ret (pe_callB ItX.call_iterN (by rfl) T.f_iter (by decide +kernel) (pa_cons (pe_fld (pv 0) rfl) pa_nil)))), ?_⟩
    exact ⟨_, rfl, a, _, dx, fs, _, rfl, ha, T.cls_Schema, T.na_Schema_tables, hf, l, xs, rfl, hl, fun it n1 n2 => k it n1 n2⟩
end
/-- drawn names: names, no two alike -/
def spNamesK : Sp := fun vs H Q _ => ∃ (s c : Addr) (many : Int), vs = [.ref s, .int many] ∧ Src H s c ∧ 0 ≤ many ∧ many ≤ 9 ∧ ∀ (l : Addr) (zs : List Str) H', H l = none → H' l = some (.lst (zs.map V.str)) → zs.length = many.toNat → zs.Nodup → (∀ z ∈ zs, nameOk z = true) → Src H' s c → But s H H' → Q (.ref l) H'
def dTab (t : TabD) : PyData := .tuple [.str t.nm, .int t.wd, ptD t.ky, .tuple (t.bs.map dTie)]
theorem noL_tab (t : TabD) : noL 5 (dTab t) = true := by
  show (true && (true && (noL 4 (ptD t.ky) && (noL 4 (.tuple (t.bs.map dTie)) && true)))) = true
  rw [noT4]
  cases t.ky <;> rfl
theorem noL_tabs (ts : List TabD) : (ts.map dTab).all (noL 5) = true := by
  rw [List.all_eq_true]
  intro d hd
  obtain ⟨t, _, rfl⟩ := List.mem_map.mp hd
  exact noL_tab t
theorem noL_tabs2 {as bs : List TabD} : (as.map dTab ++ bs.map dTab).all (noL 5) = true := by rw [← List.map_append]; exact noL_tabs _
theorem dp_ptInv {K : PySem.W.Frag} {H : Hp} {v : V} {o : Option Int} (h : Dp K H v (ptD o)) : v = ptV o := by
  cases o with
  | none => cases h; rfl
  | some i => cases h; rfl
theorem dp_tabInv {K : PySem.W.Frag} {H : Hp} {v : V} {t : TabD} (h : Dp K H v (dTab t)) : ∃ tt b : Addr, v = .ref tt ∧ SqT K H tt [.str t.nm, .int t.wd, ptV t.ky, .ref b] ∧ Dp K H (.ref b) (.tuple (t.bs.map dTie)) := by
  unfold dTab at h
  cases h with
  | tup h1 h2 =>
    cases h2 with
    | cons a1 a2 =>
      cases a1
      cases a2 with
      | cons a3 a4 =>
        cases a3
        cases a4 with
        | cons a5 a6 =>
          rw [dp_ptInv a5] at h1
          cases a6 with
          | cons a7 a8 =>
            cases a8
            cases a7 with
            | tup h3 h4 => exact ⟨_, _, rfl, h1, .tup h3 h4⟩
theorem dp_tabMk {K : PySem.W.Frag} {H : Hp} {tt b : Addr} {t : TabD} (h1 : SqT K H tt [.str t.nm, .int t.wd, ptV t.ky, .ref b]) (h2 : Dp K H (.ref b) (.tuple (t.bs.map dTie))) : Dp K H (.ref tt) (dTab t) :=
  .tup h1 (.cons (.str _) (.cons (.int _) (.cons (dp_pt _ _) (.cons h2 .nil))))
/-- tables that may be made -/
def TabsV (ts : List TabD) : Prop := ∀ t ∈ ts, nameOk t.nm = true ∧ tabOk t.wd t.ky t.bs = true ∧ t.bs.length ≤ 100
theorem same_lst {K : PySem.W.Frag} {H H' : Hp} {a : Addr} {xs : List V} (e : Same H H') (h : SqL K H a xs) : SqL K H' a xs := e.seq h
theorem mkSch {K : PySem.W.Frag} {H : Hp} {E : XK} {Q : VK} {L : List (Addr × TabD)} (hL : ∀ q ∈ L, IsTabD K H q.1 q.2) (l6 : L.length ≤ 6)
    (kE : ∀ f, faultF (L.map Prod.snd) = some f → ∀ d H', H' d = some (.xd f.xd) → Same H H' → E (.ref (He.ga K f.cls)) (some d) H') (kQ : faultF (L.map Prod.snd) = none → ∀ x H', IsSch K H' x L → Same H H' → Q (.ref x) H') :
    ∀ x dx, H x = none → H dx = none → dx ≠ x → (fun vs H Q E => ∃ ws rest, vs = ws ++ rest ∧ ws.length = ["self"].length ∧ rest.length ≤ sizeLine ∧ ∀ p, H p = none → spSchema K (ws ++ [V.ref p]) (upd H p (.tup rest)) Q E) (.ref x :: L.map fun q => V.ref q.1) (upd (upd H dx (.own x)) x (.ins (He.ga K "Schema") dx [])) (fun v H2 => v = .non ∧ Q (.ref x) H2) E := by
  intro x dx nx ndx nex
  have s1 : Same H (upd (upd H dx (.own x)) x (.ins (He.ga K "Schema") dx [])) := fun y o e => by rw [upd_ne (ne_of_none e nx), upd_ne (ne_of_none e ndx)]; exact e
  refine ⟨[.ref x], L.map fun q => V.ref q.1, rfl, rfl, by rw [List.length_map, sizeLine_eq]; omega, fun p np => ?_⟩
  have s2 := same_new (Same.refl _) (o := .tup (L.map fun q => V.ref q.1)) np
  have s12 : Same H (upd (upd (upd H dx (.own x)) x (.ins (He.ga K "Schema") dx [])) p (.tup (L.map fun q => V.ref q.1))) := fun b o e => s2 _ _ (s1 _ _ e)
  exact ⟨x, dx, p, L, rfl, s2 _ _ upd_same, upd_same, fun q hq => isTab_same s12 (hL q hq), l6, fun f hf d H' hd s => kE f hf d H' hd fun b o e => s _ _ (s12 _ _ e), fun hf H' ix b => ⟨rfl, kQ hf x H' ix fun c o e => b _ _ (ne_of_none e nx) (s12 _ _ e)⟩⟩
def spMkSch (K : PySem.W.Frag) : Sp := fun vs H Q E => ∃ (l : Addr) (us : List V) (ts : List TabD), vs = [.ref l] ∧ SqL K H l us ∧ DpAll K H us (ts.map dTab) ∧ TabsV ts ∧ 1 ≤ ts.length ∧ ts.length ≤ 4 ∧
  (∀ f, faultF ts = some f → ∀ d H', H' d = some (.xd f.xd) → Same H H' → E (.ref (He.ga K f.cls)) (some d) H') ∧ (faultF ts = none → ∀ x L H', L.map Prod.snd = ts → IsSch K H' x L → Same H H' → Q (.ref x) H')
def spLTab (K : PySem.W.Frag) : Sp := fun vs H Q _ => ∃ (l : Addr) (us : List V) (ts : List TabD) (z : Str), vs = [.ref l, .str z] ∧ SqL K H l us ∧ DpAll K H us (ts.map dTab) ∧ (tgtD ts z = none → Q .non H) ∧ ∀ u tt, tgtD ts z = some u → Dp K H (.ref tt) (dTab u) → Q (.ref tt) H
section
variable {P : Program} {w : World} {K : PySem.W.Frag} {mg : Str → Option Value} {base : Heap}
theorem ok_namesK (T : Txt K mg) : Cal P w K mg base CX0 3 "_law_names" P__law_names [] spNamesK := by
  have C__law_name := ok_nameK (P := P) (w := w) (base := base) T
  refine Cal.of T.F__law_names T.g__law_names (fun fd F => F.ok sc__law_names (fun vs H Q E h => ?_) (fun cdv A outer s0 H vs Q E hr h => ?_)) (fun _ _ _ _ _ _ us hl => match us, hl with | [_, _], _ => rfl)
  · obtain ⟨s, c, many, rfl, _⟩ := h
    rfl
  · obtain ⟨s, c, many, rfl, S, m0, m1, k⟩ := h
    refine ⟨_, PSs.nox (pss_cons (ps_set (i := 2) sc__law_names.nd rfl (Or.inl rfl) (pe_lst pa_nil))
    (pss_cons (ps_for PassesOwn.never rfl (pi_range1 (by rfl) T.f_range (pa_cons (pv 1) pa_nil)) (pg_name (i := 3) sc__law_names.nd rfl (Or.inl rfl))
    (pss_one (ps_expr (pe_bm PySem.F.plainAttrs_list PySem.F.slot_list_append PySem.F.type_list_append mt_append (pv 2) (pa_cons (pc_call C__law_name (hr.mono (by first | decide | omega)) pass0 (pa_cons (pv 0) (pa_cons (pv 2) pa_nil))) pa_nil)))))
    (pss_one (ps_ret (pv 2))))), ?_⟩
    refine ⟨Nat.zero_le _, fun l nl => ?_⟩
    have nls := S.apart nl
    have app : ∀ (zs : List Str) (z : Str), (zs.map V.str) ++ [V.str z] = (zs ++ [z]).map V.str := fun zs z => by rw [List.map_append]; rfl
    refine ⟨_, rfl, _, rfl, by omega, by omega, ?_⟩
    refine for_range (lo := 0) (n := many.toNat) (fun i σ' H' => ∃ (v3 : Option V) (zs : List Str), σ' = [some (.ref s), some (.int many), some (.ref l), v3] ∧ Src H' s c ∧ But s H H' ∧ H' l = some (.lst (zs.map V.str)) ∧ zs.length = i ∧ zs.Nodup ∧ ∀ z ∈ zs, nameOk z = true) ⟨none, [], rfl, S.new nl, (But.refl H).mut nl, upd_same, rfl, List.nodup_nil, fun z h => by cases h⟩ ?_ ?_
    · rintro i σ' H1 hi ⟨v3, zs, rfl, S1, e1, hl1, lz, nd, nk⟩
      have lm : (zs.map V.str).length = zs.length := List.length_map _
      refine ⟨_, rfl, .inl ⟨rfl, _, SqL.of hl1⟩, _, rfl, _, rfl, s, c, l, zs, rfl, S1, hl1, nls.1, by omega, fun z H2 hz hn S2 e2 => ?_⟩
      have hl2 := e2 _ _ nls.1 hl1
      refine ⟨l, _, _, rfl, rfl, hl2, szl (by omega), _, zs ++ [z], rfl, S2.put nls.1 nls.2, (e1.trans e2).mut nl, by rw [upd_same, app], by rw [List.length_append, lz]; rfl, ?_, fun y hy => ?_⟩
      · rw [List.nodup_append]
        exact ⟨nd, List.nodup_cons.mpr ⟨fun h => (by cases h), List.nodup_nil⟩, fun a ha b hb e => hn (by rw [← List.mem_singleton.mp hb, ← e]; exact ha)⟩
      · rcases List.mem_append.mp hy with h | h
        · exact nk y h
        · rw [List.mem_singleton.mp h]
          exact hz
    · rintro σ' H1 ⟨v3, zs, rfl, S1, e1, hl1, lz, nd, nk⟩
      exact ⟨_, rfl, k l zs H1 nl hl1 lz nd nk S1 e1⟩
theorem ok_ltab (T : Txt K mg) : Cal P w K mg base CX0 1 "_law_table" P__law_table [] (spLTab K) := by
  refine Cal.of T.F__law_table T.g__law_table (fun fd F => F.ok sc__law_table (fun vs H Q E h => ?_) (fun cdv A outer s0 H vs Q E hr h => ?_)) (fun _ _ _ _ _ _ us hl => match us, hl with | [_, _], _ => rfl)
  · obtain ⟨l, us, ts, z, rfl, _⟩ := h
    rfl
  · obtain ⟨l, us, ts, z, rfl, hs, hd, k0, k1⟩ := h
    refine ⟨_, PSs.nox (pss_cons (ps_for PassesOwn.never rfl (pi_list (pv 0)) (pg_name (i := 2) sc__law_table.nd rfl (Or.inl rfl))
    (pss_one (ps_if (pt_cmpR op_eq (pe_ix ix_tup (pv 2) pe_int (fun _ _ => rfl)) (pv 1) (nomark _)) (pss_one (ps_ret (pv 2)))
    pss_nil)))
    (pss_one (ps_ret pe_non))), ?_⟩
    have lu := dp_len hd
    rw [List.length_map] at lu
    refine ⟨_, rfl, l, rfl, ⟨_, hs⟩, ?_⟩
    refine for_it (walk_list (xs := us)) (fun i σ' H' => H' = H ∧ (∃ v2 : Option V, σ' = [some (.ref l), some (.str z), v2]) ∧ tgtD ts z = tgtD (ts.drop i) z) ⟨rfl, ⟨_, rfl⟩, rfl⟩ (fun i σ' H' _ q => by rw [q.1]; exact hs) ?_ ?_
    · rintro i y σ' H1 H2 hi ⟨rfl, ⟨v2, rfl⟩, ht⟩ ⟨rfl, hy⟩
      obtain ⟨t, hti⟩ : ∃ t, ts[i]? = some t := ⟨_, List.getElem?_eq_getElem (by omega)⟩
      obtain ⟨v, hv, dv⟩ := dp_get hd (get_map (f := dTab) hti)
      rw [hy] at hv
      cases hv
      obtain ⟨tt, b, rfl, htt, htb⟩ := dp_tabInv dv
      rw [drop_get hti] at ht
      have ht : tgtD ts z = if t.nm = z then some t else tgtD (ts.drop (i + 1)) z := by
        rw [ht]
        unfold tgtD
        by_cases e : t.nm = z
        · rw [if_pos e, List.find?_cons_of_pos (p := fun t : TabD => decide (t.nm = z)) (decide_eq_true e)]
        · rw [if_neg e, List.find?_cons_of_neg (p := fun t : TabD => decide (t.nm = z)) (by rw [decide_eq_false e]; decide)]
      refine ⟨_, rfl, tt, _, 0, _, rfl, rfl, htt, rfl, _, rfl, rfl, _, rfl, ?_⟩
      by_cases e : t.nm = z
      · rw [if_pos e] at ht
        exact ifT (decide_eq_true (congrArg V.str e)) ⟨_, rfl, k1 t tt ht (dp_tabMk htt htb)⟩
      · rw [if_neg e] at ht
        exact ifF (decide_eq_false fun h => e (V.str.inj h)) ⟨rfl, ⟨_, rfl⟩, ht⟩
    · rintro σ' H1 ⟨rfl, ⟨v2, rfl⟩, ht⟩
      rw [lu, List.drop_length] at ht
      exact k0 ht
theorem ok_mksch (T : Txt K mg) (hP : PrOk P file) : Cal P w K mg base (L2N.CX P w) 5 "_law_schema" P__law_schema [] (spMkSch K) := by
  have V_Schema := ok_schemaF (P := P) (w := w) (base := base) T hP
  have K_Table_key_ties := ok_tableB (P := P) (w := w) (base := base) T hP
  refine Cal.of T.F__law_schema T.g__law_schema (fun fd F => F.ok sc__law_schema (fun vs H Q E h => ?_) (fun cdv A outer s0 H vs Q E hr h => ?_)) (fun _ _ _ _ _ _ us hl => match us, hl with | [_], _ => rfl)
  · obtain ⟨l, us, ts, rfl, _⟩ := h
    rfl
  · obtain ⟨l, us, ts, rfl, hs, hd, hv, l1, l4, kE, kQ⟩ := h
    refine ⟨_, (pss_cons (ps_setLc (i := 1) (own := [("t", 2)]) (g := (gName 2)) (tt := tYes) rfl sc__law_schema.nd rfl rfl (sw_true rfl rfl rfl (by decide +kernel)) (pi_list (pv 0)) (blkOk_by (N := N__law_schema) (sc := defScope s__law_schema) (by decide +kernel)) (fun _ _ _ _ _ => (pg_name (i := 2) sc__law_schema.nd rfl (Or.inl rfl))) (fun _ _ _ _ _ => pts_nil) (fun _ _ _ _ _ => (pcS_makeK K_Table_key_ties (hr.mono (by first | decide | omega)) takesNo (pa_cons (pe_ix (ix_tupK (K := K) rfl) (pv 2) pe_int (fun _ _ => rfl)) (pa_cons (pe_ix (ix_tupK (K := K) rfl) (pv 2) pe_int (fun _ _ => rfl)) pa_nil)) (pk_cons (pe_ix (ix_tupK (K := K) rfl) (pv 2) pe_int (fun _ _ => rfl)) (pk_cons (pe_ix (ix_tupK (K := K) rfl) (pv 2) pe_int (fun _ _ => rfl)) pk_nil)))))
    (pss_cons (ps_if (pt_cmpR op_eq (pe_callB call_len_seq (by rfl) T.f_len (by decide +kernel) (pa_cons (pv 1) pa_nil)) pe_int (nomark _)) (pss_one (ps_ret (pcS_makeR V_Schema (hr.mono (by first | decide | omega)) (L2N.takes_of rfl rfl rfl rfl) (pa_cons (pe_ix ix_list (pv 1) pe_int (fun _ _ => rfl)) pa_nil))))
    pss_nil)
    (pss_cons (ps_if (pt_cmpR op_eq (pe_callB call_len_seq (by rfl) T.f_len (by decide +kernel) (pa_cons (pv 1) pa_nil)) pe_int (nomark _)) (pss_one (ps_ret (pcS_makeR V_Schema (hr.mono (by first | decide | omega)) (L2N.takes_of rfl rfl rfl rfl) (pa_cons (pe_ix ix_list (pv 1) pe_int (fun _ _ => rfl)) (pa_cons (pe_ix ix_list (pv 1) pe_int (fun _ _ => rfl)) pa_nil)))))
    pss_nil)
    (pss_cons (ps_if (pt_cmpR op_eq (pe_callB call_len_seq (by rfl) T.f_len (by decide +kernel) (pa_cons (pv 1) pa_nil)) pe_int (nomark _)) (pss_one (ps_ret (pcS_makeR V_Schema (hr.mono (by first | decide | omega)) (L2N.takes_of rfl rfl rfl rfl) (pa_cons (pe_ix ix_list (pv 1) pe_int (fun _ _ => rfl)) (pa_cons (pe_ix ix_list (pv 1) pe_int (fun _ _ => rfl)) (pa_cons (pe_ix ix_list (pv 1) pe_int (fun _ _ => rfl)) pa_nil))))))
    pss_nil)
    (pss_one (ps_ret (pcS_makeR V_Schema (hr.mono (by first | decide | omega)) (L2N.takes_of rfl rfl rfl rfl) (pa_cons (pe_ix ix_list (pv 1) pe_int (fun _ _ => rfl)) (pa_cons (pe_ix ix_list (pv 1) pe_int (fun _ _ => rfl)) (pa_cons (pe_ix ix_list (pv 1) pe_int (fun _ _ => rfl)) (pa_cons (pe_ix ix_list (pv 1) pe_int (fun _ _ => rfl)) pa_nil))))))))))), ?_⟩
    have lu := dp_len hd
    rw [List.length_map] at lu
    refine ⟨_, rfl, l, rfl, ⟨_, hs⟩, fun D nD => ?_⟩
    refine lc_it (walk_list (xs := us)) (fun i H' => Same H H' ∧ ∃ L : List (Addr × TabD), H' D = some (.lst (L.map fun q => V.ref q.1)) ∧ L.map Prod.snd = ts.take i ∧ ∀ q ∈ L, IsTabD K H' q.1 q.2) ⟨same_new (Same.refl H) nD, [], upd_same, rfl, fun q hq => by cases hq⟩ (fun i H' _ q => same_lst q.1 hs) ?_ ?_
    · rintro i y _ H2 hi ⟨s2, L, hD, hL, hT⟩ ⟨rfl, hy⟩
      obtain ⟨t, hti⟩ : ∃ t, ts[i]? = some t := ⟨_, List.getElem?_eq_getElem (by omega)⟩
      obtain ⟨v, hv2, dv⟩ := dp_get hd (get_map (f := dTab) hti)
      rw [hy] at hv2
      cases hv2
      obtain ⟨tt, b, rfl, htt, htb⟩ := dp_tabInv (dp_same s2 dv)
      obtain ⟨n1, n2, n3⟩ := hv t (List.mem_of_getElem? hti)
      refine ⟨rfl, _, rfl, tt, _, 0, _, rfl, rfl, htt, rfl, _, rfl, tt, _, 1, _, rfl, rfl, htt, rfl, _, rfl, tt, _, 2, _, rfl, rfl, htt, rfl, _, rfl, tt, _, 3, _, rfl, rfl, htt, rfl, rfl, rfl, mkGood htb n1 n3 n2 fun x H3 ix s3 => ?_⟩
      have hD3 := s3 _ _ hD
      have lL : L.length = i := by
        have := congrArg List.length hL
        rw [List.length_map, List.length_take] at this
        omega
      have ll : (L.map fun q => V.ref q.1).length = L.length := List.length_map _
      refine ⟨_, hD3, szl (by omega), same_mut (fun b o e => s3 _ _ (s2 _ _ e)) nD, L ++ [(x, t)], by rw [upd_same, List.map_append]; rfl, by rw [List.map_append, hL, take_get hti]; rfl, fun q hq => ?_⟩
      have f3 : Firm H3 (upd H3 D (.lst ((L.map fun q => V.ref q.1) ++ [V.ref x]))) := Firm.lst hD3
      rcases List.mem_append.mp hq with h | h
      · exact (isTab_same s3 (hT q h)).firm f3
      · rw [List.mem_singleton.mp h]
        exact ix.firm f3
    · rintro H2 ⟨s2, L, hD, hL, hT⟩
      rw [lu, List.take_length] at hL
      have lL : L.length = ts.length := by rw [← hL, List.length_map]
      have ll : (L.map fun q => V.ref q.1).length = L.length := List.length_map _
      have go := mkSch (Q := Q) (E := E) hT (by omega) (fun f hf d H' hd s => kE f (by rw [← hL]; exact hf) d H' hd fun b o e => s _ _ (s2 _ _ e)) (fun hf x H' ix s => kQ (by rw [← hL]; exact hf) x L H' hL ix fun b o e => s _ _ (s2 _ _ e))
      have nd : ∀ i j : Int, i ≠ j → decide (V.int i = V.int j) = false := fun i j h => decide_eq_false fun e => h (V.int.inj e)
      match L, lL, hD, go with
      | [], lL, _, _ => exact absurd lL (by show ¬(0 = ts.length); omega)
      | [q1], lL, hD, go =>
        exact ⟨_, rfl, D, _, rfl, .inl (SqL.of hD), rfl, _, rfl, ifT (decide_eq_true rfl) ⟨_, rfl, D, _, 0, _, rfl, rfl, SqL.of hD, rfl, go⟩⟩
      | [q1, q2], lL, hD, go =>
        refine ⟨_, rfl, D, _, rfl, .inl (SqL.of hD), rfl, _, rfl, ifF (nd _ _ (by show ((2 : Nat) : Int) ≠ 1; decide)) ?_⟩
        exact ⟨_, rfl, D, _, rfl, .inl (SqL.of hD), rfl, _, rfl, ifT (decide_eq_true rfl) ⟨_, rfl, D, _, 0, _, rfl, rfl, SqL.of hD, rfl, _, rfl, D, _, 1, _, rfl, rfl, SqL.of hD, rfl, go⟩⟩
      | [q1, q2, q3], lL, hD, go =>
        refine ⟨_, rfl, D, _, rfl, .inl (SqL.of hD), rfl, _, rfl, ifF (nd _ _ (by show ((3 : Nat) : Int) ≠ 1; decide)) ?_⟩
        refine ⟨_, rfl, D, _, rfl, .inl (SqL.of hD), rfl, _, rfl, ifF (nd _ _ (by show ((3 : Nat) : Int) ≠ 2; decide)) ?_⟩
        exact ⟨_, rfl, D, _, rfl, .inl (SqL.of hD), rfl, _, rfl, ifT (decide_eq_true rfl) ⟨_, rfl, D, _, 0, _, rfl, rfl, SqL.of hD, rfl, _, rfl, D, _, 1, _, rfl, rfl, SqL.of hD, rfl, _, rfl, D, _, 2, _, rfl, rfl, SqL.of hD, rfl, go⟩⟩
      | [q1, q2, q3, q4], lL, hD, go =>
        refine ⟨_, rfl, D, _, rfl, .inl (SqL.of hD), rfl, _, rfl, ifF (nd _ _ (by show ((4 : Nat) : Int) ≠ 1; decide)) ?_⟩
        refine ⟨_, rfl, D, _, rfl, .inl (SqL.of hD), rfl, _, rfl, ifF (nd _ _ (by show ((4 : Nat) : Int) ≠ 2; decide)) ?_⟩
        refine ⟨_, rfl, D, _, rfl, .inl (SqL.of hD), rfl, _, rfl, ifF (nd _ _ (by show ((4 : Nat) : Int) ≠ 3; decide)) ?_⟩
        exact ⟨_, rfl, D, _, 0, _, rfl, rfl, SqL.of hD, rfl, _, rfl, D, _, 1, _, rfl, rfl, SqL.of hD, rfl, _, rfl, D, _, 2, _, rfl, rfl, SqL.of hD, rfl, _, rfl, D, _, 3, _, rfl, rfl, SqL.of hD, rfl, go⟩
      | q1 :: q2 :: q3 :: q4 :: q5 :: r, lL, _, _ => exact absurd lL (by rw [List.length_cons, List.length_cons, List.length_cons, List.length_cons, List.length_cons]; omega)
end
/-- the error as the law writes it -/
def Flt.d : Flt → PyData
  | .dup z => .list [.str "DuplicateName", .str z]
  | .unk z => .list [.str "UnknownName", .str z]
  | .tie z c => .list [.str "InvalidTie", .str z, .int c]
def spErrF (K : PySem.W.Frag) : Addr → Value → Option Addr → Sp := fun a cls d vs H Q _ => ∃ (f : Flt) (dd : Addr), cls = .ref (He.ga K f.cls) ∧ d = some dd ∧ H dd = some (.xd f.xd) ∧ vs = [.ref a] ∧ ∀ l H', Same H H' → Dp K H' (.ref l) f.d → Q (.ref l) H'
def revT (t : TabD) : TabD := ⟨t.nm, t.wd, t.ky, t.bs.reverse⟩
def tnT (b : Bool) (ts : List TabD) : List TabD := if b = true then ts.map revT else ts
theorem tnT_len (b : Bool) (ts : List TabD) : (tnT b ts).length = ts.length := by
  unfold tnT
  split
  · rw [List.length_map]
  · rfl
theorem tabOk_perm {w : Int} {mk : Option Int} {as bs : List (Int × Str)} (p : as.Perm bs) : tabOk w mk as = tabOk w mk bs := by
  unfold tabOk
  rw [srt_eq p]
theorem tnT_V {b : Bool} {ts : List TabD} (h : TabsV ts) : TabsV (tnT b ts) := by
  unfold tnT
  split
  · intro t ht
    obtain ⟨u, hu, rfl⟩ := List.mem_map.mp ht
    obtain ⟨h1, h2, h3⟩ := h u hu
    exact ⟨h1, by show tabOk u.wd u.ky u.bs.reverse = true; rw [tabOk_perm (List.reverse_perm _)]; exact h2, by show u.bs.reverse.length ≤ 100; rw [List.length_reverse]; exact h3⟩
  · exact h
theorem revT_isL (t : TabD) : (revT t).isL = t.isL := by
  show (decide (t.wd = 1) && (decide (t.ky = some 1) && t.bs.reverse.isEmpty)) = (decide (t.wd = 1) && (decide (t.ky = some 1) && t.bs.isEmpty))
  rw [List.isEmpty_reverse]
theorem tgt_rev (ts : List TabD) (z : Str) : tgtD (ts.map revT) z = (tgtD ts z).map revT := by
  unfold tgtD
  rw [List.find?_map]
  rfl
theorem tie_rev (ts : List TabD) (nm : Str) : ∀ l, tieF (ts.map revT) nm l = tieF ts nm l
  | [] => rfl
  | b :: r => by
    rw [tieF_cons, tieF_cons, tgt_rev, tie_rev ts nm r]
    cases tgtD ts b.2 with
    | none => rfl
    | some u =>
      show (if (revT u).isL = true then _ else _) = _
      rw [revT_isL]
theorem ties_rev (ts : List TabD) : ∀ rs, tiesF (ts.map revT) (rs.map revT) = tiesF ts rs
  | [] => rfl
  | t :: r => by
    rw [List.map_cons, tiesF_cons, tiesF_cons, ties_rev ts r, tie_rev]
    show (match tieF ts t.nm (srt t.bs.reverse) with | some f => some f | none => tiesF ts r) = _
    rw [srt_eq (List.reverse_perm t.bs)]
theorem dup_rev : ∀ (seen : List Str) (ts : List TabD), dupF seen (ts.map revT) = dupF seen ts
  | _, [] => rfl
  | seen, t :: r => by
    rw [List.map_cons, dupF_cons, dupF_cons, dup_rev _ r]
    rfl
theorem tnT_fault {b : Bool} {ts : List TabD} : faultF (tnT b ts) = faultF ts := by
  unfold tnT
  split
  · unfold faultF
    rw [dup_rev, ties_rev]
  · rfl
theorem isSch_same {K : PySem.W.Frag} {H H' : Hp} {x : Addr} {L : List (Addr × TabD)} (e : Same H H') (h : IsSch K H x L) : IsSch K H' x L := by
  obtain ⟨dx, l, dd, kvs, h1, h2, h3, h4, h5⟩ := h.ex
  exact ⟨dx, l, dd, kvs, e _ _ h1, e _ _ h2, e _ _ h3, h4, fun q hq => isTab_same e (h5 q hq)⟩
theorem isSch_tn {K : PySem.W.Frag} {H : Hp} {x : Addr} {L : List (Addr × TabD)} {b : Bool} {ts : List TabD} (e : L.map Prod.snd = tnT b ts) (h : IsSch K H x L) : ∃ L2 : List (Addr × TabD), L2.map Prod.snd = ts ∧ IsSch K H x L2 := by
  unfold tnT at e
  split at e
  · refine ⟨L.map fun q => (q.1, revT q.2), ?_, ?_⟩
    · have : (L.map fun q => (q.1, revT q.2)).map Prod.snd = (L.map Prod.snd).map revT := by
        rw [List.map_map, List.map_map]
        rfl
      rw [this, e, List.map_map]
      conv => rhs; rw [← List.map_id ts]
      refine List.map_congr_left fun t _ => ?_
      show TabD.mk t.nm t.wd t.ky t.bs.reverse.reverse = t
      rw [List.reverse_reverse]
    · obtain ⟨dx, l, dd, kvs, h1, h2, h3, h4, h5⟩ := h.ex
      refine ⟨dx, l, dd, kvs, h1, ?_, h3, fun z => ?_, fun q hq => ?_⟩
      · rw [h2, List.map_map]
        rfl
      · rw [h4 z, List.find?_map, Option.map_map]
        rfl
      · obtain ⟨u, hu, rfl⟩ := List.mem_map.mp hq
        exact isTab_perm (List.reverse_perm u.2.bs).symm (h5 u hu)
  · exact ⟨L, e, h⟩
def spTriedS (K : PySem.W.Frag) : Sp := fun vs H Q _ => ∃ (l : Addr) (us : List V) (ts : List TabD) (tn : Bool), vs = [.ref l, .bl tn] ∧ SqL K H l us ∧ DpAll K H us (ts.map dTab) ∧ TabsV ts ∧ 1 ≤ ts.length ∧ ts.length ≤ 4 ∧
  (∀ f, faultF ts = some f → ∀ r m H', Same H H' → H' r = some (.lst [.non, .ref m]) → Dp K H' (.ref m) f.d → Q (.ref r) H') ∧
  (faultF ts = none → ∀ r x L H', Same H H' → L.map Prod.snd = ts → IsSch K H' x L → H' r = some (.lst [.ref x, .non]) → Q (.ref r) H')
theorem okD_ties (n : Nat) (bs : List (Int × Str)) (h : bs.length ≤ 100000) : okD (n + 3) (.tuple (bs.map dTie)) = true := by
  show (decide ((bs.map dTie).length ≤ 100000) && (bs.map dTie).all (okD (n + 2))) = true
  rw [List.length_map, decide_eq_true h, Bool.true_and, List.all_eq_true]
  intro d hd
  obtain ⟨b, _, rfl⟩ := List.mem_map.mp hd
  rfl
theorem okD_pt (n : Nat) (o : Option Int) : okD (n + 1) (ptD o) = true := by cases o <;> rfl
theorem okD_dTab {t : TabD} (h : t.bs.length ≤ 100) : okD 5 (dTab t) = true := by
  show (decide (4 ≤ 100000) && (true && (true && (okD 4 (ptD t.ky) && (okD 4 (.tuple (t.bs.map dTie)) && true))))) = true
  rw [okD_pt 3, okD_ties 1 t.bs (by omega)]
  rfl
def spShows (K : PySem.W.Frag) : Sp := fun vs H Q _ => ∃ (x l : Addr) (L : List (Addr × TabD)) (us : List V), vs = [.ref x, .ref l] ∧ IsSch K H x L ∧ SqL K H l us ∧ DpAll K H us ((L.map Prod.snd).map dTab) ∧ (∀ q ∈ L, srt q.2.bs = q.2.bs ∧ q.2.bs.length ≤ 100) ∧ L.length ≤ 6 ∧ ∀ H', Same H H' → Q (.bl true) H'
section
variable {P : Program} {w : World} {K : PySem.W.Frag} {mg : Str → Option Value} {base : Heap}
theorem ok_errF (T : Txt K mg) : CalE P w K mg base CX0 2 "_law_error" P__law_error (spErrF K) := by
  have C__law_marks := ok_marks (P := P) (w := w) (base := base) T
  obtain ⟨fd, F⟩ := T.F__law_error
  refine ⟨_, fd, T.g__law_error, F.kp, FnE.mk' F sc__law_error (fun a c d vs H Q E h => ?_) (fun cdv A outer s0 H vs Q E a oe cls d hot hz hf hr h => ?_), F.bindsN fun _ _ _ _ _ _ us hl => match us, hl with | [_], _ => rfl⟩
  · obtain ⟨f, dd, _, _, _, rfl, _⟩ := h
    rfl
  · obtain ⟨f, dd, rfl, rfl, hd, rfl, k⟩ := h
    refine ⟨_, PSs.nox (pss_cons (ps_if (pt_cmpR op_ne (pcE_call C__law_marks (hr.mono (by first | decide | omega)) hot hz hf List.mem_cons_self (pa_cons (pv 0) pa_nil)) pe_int (nomark _)) (pss_one (ps_ret (pe_lst (pa_cons pe_str pa_nil))))
    pss_nil)
    (pss_cons (ps_if (pt_val (pe_callB (call_isG (K := K) (a := a) rfl hz hf List.mem_cons_self) (by rfl) T.f_isinstance (by decide +kernel) (pa_cons (pv 0) (pa_cons (pe_glob (v := .ref (He.ga K "DuplicateName")) rfl T.g_DuplicateName rfl) pa_nil)))) (pss_one (ps_ret (pe_lst (pa_cons pe_str (pa_cons (pe_xfA (K := K) (a := a) rfl hz hf List.mem_cons_self (pv 0)) pa_nil)))))
    pss_nil)
    (pss_cons (ps_if (pt_val (pe_callB (call_isG (K := K) (a := a) rfl hz hf List.mem_cons_self) (by rfl) T.f_isinstance (by decide +kernel) (pa_cons (pv 0) (pa_cons (pe_glob (v := .ref (He.ga K "UnknownName")) rfl T.g_UnknownName rfl) pa_nil)))) (pss_one (ps_ret (pe_lst (pa_cons pe_str (pa_cons (pe_xfA (K := K) (a := a) rfl hz hf List.mem_cons_self (pv 0)) pa_nil)))))
    pss_nil)
    (pss_cons (ps_if (pt_val (pe_callB (call_isG (K := K) (a := a) rfl hz hf List.mem_cons_self) (by rfl) T.f_isinstance (by decide +kernel) (pa_cons (pv 0) (pa_cons (pe_glob (v := .ref (He.ga K "InvalidTie")) rfl T.g_InvalidTie rfl) pa_nil)))) (pss_one (ps_ret (pe_lst (pa_cons pe_str (pa_cons (pe_xfA (K := K) (a := a) rfl hz hf List.mem_cons_self (pv 0)) (pa_cons (pe_xfA (K := K) (a := a) rfl hz hf List.mem_cons_self (pv 0)) pa_nil))))))
    pss_nil)
    (pss_one (ps_ret (pe_lst (pa_cons pe_str pa_nil)))))))), ?_⟩
    have mem : f.cls ∈ raised := by
      cases f
      · exact (by decide : ("DuplicateName" : Str) ∈ raised)
      · exact (by decide : ("UnknownName" : Str) ∈ raised)
      · exact (by decide : ("InvalidTie" : Str) ∈ raised)
    obtain ⟨C, hk, kM, kV⟩ := marksB_ok (T.raised f.cls mem)
    have hd1 : HD H (some dd) := fun dx e => by cases e; exact ⟨_, hd⟩
    refine ⟨_, rfl, _, mem, rfl, hd1, rfl, fun H1 s1 => ⟨rfl, _, rfl, ifF rfl ?_⟩⟩
    have hd2 : HD H1 (some dd) := fun dx e => by cases e; exact ⟨_, s1 _ _ hd⟩
    have hdd := s1 _ _ hd
    cases f with
    | dup z =>
      refine ⟨_, rfl, _, _, _, _, rfl, C, rfl, .own _, hd2, hk "DuplicateName" (by decide), _, rfl, iteT ?_⟩
      exact ⟨He.ga K "DuplicateName", rfl, T.I_DuplicateName.xf, T.I_DuplicateName.nof "name" (by simp), _, rfl, rfl, rfl, dd, _, .str z, rfl, hdd, rfl, by show 2 ≤ sizeLine; decide, fun l nl => k l _ (fun b o e => same_new (Same.refl H1) nl _ _ (s1 _ _ e)) (.lst (SqL.of upd_same) (.cons (.str _) (.cons (.str _) .nil)))⟩
    | unk z =>
      refine ⟨_, rfl, _, _, _, _, rfl, C, rfl, .own _, hd2, hk "DuplicateName" (by decide), _, rfl, iteF ?_⟩
      refine ⟨_, rfl, _, _, _, _, rfl, C, rfl, .own _, hd2, hk "UnknownName" (by decide), _, rfl, iteT ?_⟩
      exact ⟨He.ga K "UnknownName", rfl, T.I_UnknownName.xf, T.I_UnknownName.nof "name" (by simp), _, rfl, rfl, rfl, dd, _, .str z, rfl, hdd, rfl, by show 2 ≤ sizeLine; decide, fun l nl => k l _ (fun b o e => same_new (Same.refl H1) nl _ _ (s1 _ _ e)) (.lst (SqL.of upd_same) (.cons (.str _) (.cons (.str _) .nil)))⟩
    | tie z c =>
      refine ⟨_, rfl, _, _, _, _, rfl, C, rfl, .own _, hd2, hk "DuplicateName" (by decide), _, rfl, iteF ?_⟩
      refine ⟨_, rfl, _, _, _, _, rfl, C, rfl, .own _, hd2, hk "UnknownName" (by decide), _, rfl, iteF ?_⟩
      refine ⟨_, rfl, _, _, _, _, rfl, C, rfl, .own _, hd2, hk "InvalidTie" (by decide), _, rfl, iteT ?_⟩
      exact ⟨He.ga K "InvalidTie", rfl, T.I_InvalidTie.xf, T.I_InvalidTie.nof "name" (by simp), _, rfl, rfl, rfl, dd, _, .str z, rfl, hdd, rfl, He.ga K "InvalidTie", rfl, T.I_InvalidTie.xf, T.I_InvalidTie.nof "column" (by simp), _, rfl, rfl, rfl, dd, _, .int c, rfl, hdd, rfl, by show 3 ≤ sizeLine; decide, fun l nl => k l _ (fun b o e => same_new (Same.refl H1) nl _ _ (s1 _ _ e)) (.lst (SqL.of upd_same) (.cons (.str _) (.cons (.str _) (.cons (.int _) .nil))))⟩
theorem ok_triedS (T : Txt K mg) (hP : PrOk P file) : Cal P w K mg base CX0 6 "_law_tried" P__law_tried [] (spTriedS K) := by
  have C__law_schema := ok_mksch (P := P) (w := w) (base := base) T hP
  have C__law_error := ok_errF (P := P) (w := w) (base := base) T
  refine Cal.of T.F__law_tried T.g__law_tried (fun fd F => F.ok sc__law_tried (fun vs H Q E h => ?_) (fun cdv A outer s0 H vs Q E hr h => ?_)) (fun _ _ _ _ _ _ us hl => match us, hl with | [_, _], _ => rfl)
  · obtain ⟨l, us, ts, tn, rfl, _⟩ := h
    rfl
  · obtain ⟨l, us, ts, tn, rfl, hs, hd, hv, l1, l4, kE, kQ⟩ := h
    refine ⟨_, PSs.nox (pss_cons (ps_setLc (i := 2) (own := [("t", 3)]) (g := (gName 3)) (tt := tYes) rfl sc__law_tried.nd rfl rfl (sw_true rfl rfl rfl (by decide +kernel)) (pi_list (pv 0)) (blkOk_by (N := N__law_tried) (sc := defScope s__law_tried) (by decide +kernel)) (fun _ _ _ _ _ => (pg_name (i := 3) sc__law_tried.nd rfl (Or.inl rfl))) (fun _ _ _ _ _ => pts_nil) (fun _ _ _ _ _ => (pv 3)))
    (C8.pss_cut (ps_if (pt_val (pv 1)) (pss_one (ps_setLc (i := 2) (own := [("t", 3)]) (g := (gName 3)) (tt := tYes) rfl sc__law_tried.nd rfl rfl (sw_true rfl rfl rfl (by decide +kernel)) (pi_list (pv 0)) (blkOk_by (N := N__law_tried) (sc := defScope s__law_tried) (by decide +kernel)) (fun _ _ _ _ _ => (pg_name (i := 3) sc__law_tried.nd rfl (Or.inl rfl))) (fun _ _ _ _ _ => pts_nil) (fun _ _ _ _ _ => (pe_tup (pa_cons (pe_ix (ix_tupK (K := K) rfl) (pv 3) pe_int (fun _ _ => rfl)) (pa_cons (pe_ix (ix_tupK (K := K) rfl) (pv 3) pe_int (fun _ _ => rfl)) (pa_cons (pe_ix (ix_tupK (K := K) rfl) (pv 3) pe_int (fun _ _ => rfl)) (pa_cons (pe_revTK (K := K) rfl (pe_ix (ix_tupK (K := K) rfl) (pv 3) pe_int (fun _ _ => rfl))) pa_nil))))))))
    pss_nil)
    (pss_cons (L2N.ps_try_as (i := 5) rfl rfl sc__law_tried.nd rfl rfl ⟨rfl, by decide, .inl T.g_MostsError⟩ takesNo (fun W pn xe tk po =>
    (pss_one (ps_set (i := 4) sc__law_tried.nd rfl (Or.inl rfl) (pcS_call C__law_schema (hr.mono (by first | decide | omega)) tk (pa_cons (pv 2) pa_nil)))))
    (fun a oe cls d pn hz hf =>
    (pss_one (ps_ret (pe_lst (pa_cons pe_non (pa_cons (pcE_call C__law_error (roomH_mark (hr.mono (by first | decide | omega)) _) (hot_mark hz hf) hz hf List.mem_cons_self (pa_cons (pv 5) pa_nil)) pa_nil)))))))
    (pss_one (ps_ret (pe_lst (pa_cons (pv 4) (pa_cons pe_non pa_nil)))))))), ?_⟩
    have lu := dp_len hd
    rw [List.length_map] at lu
    refine ⟨_, rfl, l, rfl, ⟨_, hs⟩, fun D nD => ?_⟩
    refine lc_it (walk_list (xs := us)) (fun i H' => Same H H' ∧ ∃ ws : List V, H' D = some (.lst ws) ∧ DpAll K H' ws ((ts.take i).map dTab)) ⟨same_new (Same.refl H) nD, [], upd_same, .nil⟩ (fun i H' _ q => same_lst q.1 hs) ?_ ?_
    · rintro i y _ H2 hi ⟨s2, ws, hD, hw⟩ ⟨rfl, hy⟩
      obtain ⟨t, hti⟩ : ∃ t, ts[i]? = some t := ⟨_, List.getElem?_eq_getElem (by omega)⟩
      obtain ⟨v, hv2, dv⟩ := dp_get hd (get_map (f := dTab) hti)
      rw [hy] at hv2
      cases hv2
      have lw := dp_len hw
      rw [List.length_map, List.length_take] at lw
      refine ⟨rfl, _, rfl, ws, hD, szl (by omega), same_mut s2 nD, ws ++ [y], upd_same, ?_⟩
      rw [take_get hti, List.map_append]
      exact dpAll_firm (Firm.lst hD) noL_tabs2 (dpAll_snoc (dp_same s2 dv) hw)
    rintro H2 ⟨s2, ws, hD, hw⟩
    rw [lu, List.take_length] at hw
    refine ⟨fun σ' H' => ∃ (D' : Addr) (ws' : List V) (b : Bool), σ' = [some (.ref l), some (.bl tn), some (.ref D'), none, none, none] ∧ Same H H' ∧ H' D' = some (.lst ws') ∧ DpAll K H' ws' ((tnT b ts).map dTab), ?_, ?_⟩
    · refine ⟨_, rfl, _, rfl, ?_⟩
      cases tn with
      | false => exact iteF ⟨D, ws, false, rfl, s2, hD, hw⟩
      | true =>
        refine iteT ⟨_, rfl, l, rfl, ⟨_, same_lst s2 hs⟩, fun D2 nD2 => ?_⟩
        refine lc_it (walk_list (xs := us)) (fun i H' => Same H2 H' ∧ ∃ ws : List V, H' D2 = some (.lst ws) ∧ DpAll K H' ws (((ts.take i).map revT).map dTab)) ⟨same_new (Same.refl H2) nD2, [], upd_same, .nil⟩ (fun i H' _ q => same_lst (fun b o e => q.1 _ _ (s2 _ _ e)) hs) ?_ ?_
        · rintro i y _ H4 hi ⟨s4, ws, hD, hw⟩ ⟨rfl, hy⟩
          obtain ⟨t, hti⟩ : ∃ t, ts[i]? = some t := ⟨_, List.getElem?_eq_getElem (by omega)⟩
          obtain ⟨v, hv2, dv⟩ := dp_get hd (get_map (f := dTab) hti)
          rw [hy] at hv2
          cases hv2
          have s04 : Same H H4 := fun b o e => s4 _ _ (s2 _ _ e)
          obtain ⟨tt, b, rfl, htt, htb⟩ := dp_tabInv (dp_same s04 dv)
          obtain ⟨bvs, hbsq, hbda⟩ : ∃ bvs, SqT K H4 b bvs ∧ DpAll K H4 bvs (t.bs.map dTie) := by
            cases htb with
            | tup hsq hda => exact ⟨_, hsq, hda⟩
          have lw := dp_len hw
          rw [List.length_map, List.length_map, List.length_take] at lw
          refine ⟨rfl, _, rfl, tt, _, 0, _, rfl, rfl, htt, rfl, _, rfl, tt, _, 1, _, rfl, rfl, htt, rfl, _, rfl, tt, _, 2, _, rfl, rfl, htt, rfl, _, rfl, tt, _, 3, _, rfl, rfl, htt, rfl, b, bvs, rfl, hbsq, fun p np => ⟨by show 4 ≤ sizeLine; decide, fun t2 nt2 => ?_⟩⟩
          have s5 := same_new (Same.refl H4) (o := .tup bvs.reverse) np
          have hb5 : Dp K (upd H4 p (.tup bvs.reverse)) (.ref p) (.tuple ((revT t).bs.map dTie)) := .tup (SqT.of upd_same) (by show DpAll K _ bvs.reverse (t.bs.reverse.map dTie); rw [List.map_reverse]; exact dpAll_rev (dpAll_same s5 hbda))
          have s6 := same_new (Same.refl (upd H4 p (.tup bvs.reverse))) (o := .tup [V.str t.nm, V.int t.wd, ptV t.ky, V.ref p]) nt2
          have d6 : Dp K (upd (upd H4 p (.tup bvs.reverse)) t2 (.tup [V.str t.nm, V.int t.wd, ptV t.ky, V.ref p])) (.ref t2) (dTab (revT t)) := dp_tabMk (SqT.of upd_same) (dp_same s6 hb5)
          generalize upd (upd H4 p (.tup bvs.reverse)) t2 (.tup [V.str t.nm, V.int t.wd, ptV t.ky, V.ref p]) = H6 at s6 d6
          have s46 : Same H4 H6 := fun b o e => s6 _ _ (s5 _ _ e)
          have hD6 := s46 _ _ hD
          refine ⟨ws, hD6, szl (by omega), same_mut (fun b o e => s46 _ _ (s4 _ _ e)) nD2, ws ++ [.ref t2], upd_same, ?_⟩
          rw [take_get hti, List.map_append, List.map_append]
          exact dpAll_firm (Firm.lst hD6) noL_tabs2 (dpAll_snoc d6 (dpAll_same s46 hw))
        · rintro H4 ⟨s4, ws, hD, hw⟩
          rw [lu, List.take_length] at hw
          exact ⟨D2, ws, true, rfl, fun b o e => s4 _ _ (s2 _ _ e), hD, hw⟩
    rintro σ' H4 ⟨D', ws', b, rfl, s4, hD, hw⟩
    have hl := tnT_len b ts
    refine ⟨_, rfl, D', ws', tnT b ts, rfl, SqL.of hD, hw, tnT_V hv, by omega, by omega, fun f hf d H' hd s => ?_, fun hf x L H' hL ix s => ?_⟩
    · rw [tnT_fault] at hf
      have suite : ∀ a, H' a = none → spErrF K a (.ref (He.ga K f.cls)) (some d) [.ref a] H' (fun v H2 => 2 ≤ sizeLine ∧ ∀ m, H2 m = none → Q (.ref m) (upd H2 m (.lst [.non, v]))) E0 := fun a _ => ⟨f, d, rfl, rfl, hd, rfl, fun l H2 s2 hl => ⟨by decide, fun m nm => kE f hf m l _ (same_new (fun b o e => s2 _ _ (s _ _ (s4 _ _ e))) nm) upd_same (dp_same (same_new (Same.refl H2) nm) hl)⟩⟩
      cases f with
      | dup z => exact ⟨true, T.exm_DuplicateName_MostsError, fun _ a na => ⟨_, rfl, suite a na⟩, fun z => Bool.noConfusion z⟩
      | unk z => exact ⟨true, T.exm_UnknownName_MostsError, fun _ a na => ⟨_, rfl, suite a na⟩, fun z => Bool.noConfusion z⟩
      | tie z c => exact ⟨true, T.exm_InvalidTie_MostsError, fun _ a na => ⟨_, rfl, suite a na⟩, fun z => Bool.noConfusion z⟩
    · rw [tnT_fault] at hf
      obtain ⟨L2, hL2, ix2⟩ := isSch_tn hL ix
      exact ⟨_, rfl, by show 2 ≤ sizeLine; decide, fun m nm => kQ hf m x L2 _ (same_new (fun b o e => s _ _ (s4 _ _ e)) nm) hL2 (isSch_same (same_new (Same.refl H') nm) ix2) upd_same⟩
theorem ok_shows (T : Txt K mg) : Cal P w K mg base CX0 8 "_law_shows" P__law_shows [] (spShows K) := by
  have C__law_same := ok_same (P := P) (w := w) (base := base) T 5
  have It_Schema := ok_iterS (P := P) (w := w) (base := base) T
  refine Cal.of T.F__law_shows T.g__law_shows (fun fd F => F.ok sc__law_shows (fun vs H Q E h => ?_) (fun cdv A outer s0 H vs Q E hr h => ?_)) (fun _ _ _ _ _ _ us hl => match us, hl with | [_, _], _ => rfl)
  · obtain ⟨x, l, L, us, rfl, _⟩ := h
    rfl
  · obtain ⟨x, l, L, us, rfl, hx, hs, hd, hb, l6, k⟩ := h
    refine ⟨_, PSs.nox (pss_cons (ps_setLc (i := 2) (own := [("one", 3)]) (g := (gName 3)) (tt := tYes) rfl sc__law_shows.nd rfl rfl (sw_true rfl rfl rfl (by decide +kernel)) (pi_own (K := K) rfl It_Schema (hr.mono (by first | decide | omega)) (pv 0)) (blkOk_by (N := N__law_shows) (sc := defScope s__law_shows) (by decide +kernel)) (fun _ _ _ _ _ => (pg_name (i := 3) sc__law_shows.nd rfl (Or.inl rfl))) (fun _ _ _ _ _ => pts_nil) (fun _ _ _ _ _ => (pv 3)))
    (pss_cons (ps_if (pt_cmpR op_ne (pe_callB call_len_seq (by rfl) T.f_len (by decide +kernel) (pa_cons (pv 2) pa_nil)) (pe_callB call_len_seq (by rfl) T.f_len (by decide +kernel) (pa_cons (pv 1) pa_nil)) (nomark _)) (pss_one (ps_ret pe_bl))
    pss_nil)
    (pss_cons (ps_for PassesOwn.never rfl (pi_range1 (by rfl) T.f_range (pa_cons (pe_callB call_len_seq (by rfl) T.f_len (by decide +kernel) (pa_cons (pv 1) pa_nil)) pa_nil)) (pg_name (i := 4) sc__law_shows.nd rfl (Or.inl rfl))
    (pss_cons (ps_set (i := 5) sc__law_shows.nd rfl (Or.inl rfl) (pe_ix ix_list (pv 2) (pv 4) (fun _ _ => rfl)))
    (pss_cons (ps_if (pt_not (pt_val (pe_callB call_isi (by rfl) T.f_isinstance (by decide +kernel) (pa_cons (pv 5) (pa_cons (pe_glob (v := .ref (He.ga K "Table")) rfl T.g_Table rfl) pa_nil))))) (pss_one (ps_ret pe_bl))
    pss_nil)
    (pss_one (ps_if (pt_not (pt_val (pc_call C__law_same (hr.mono (by first | decide | omega)) pass0 (pa_cons (pe_tup (pa_cons (pe_fld (pv 5) rfl) (pa_cons (pe_fld (pv 5) rfl) (pa_cons (pe_fld (pv 5) rfl) (pa_cons (pe_fld (pv 5) rfl) pa_nil))))) (pa_cons (pe_ix ix_list (pv 1) (pv 4) (fun _ _ => rfl)) pa_nil))))) (pss_one (ps_ret pe_bl))
    pss_nil)))))
    (pss_one (ps_ret pe_bl))))), ?_⟩
    obtain ⟨dx, l0, dd, kvs, hx0, hl0, hdd, hv, hT⟩ := hx.ex
    have lv : (L.map fun q => V.ref q.1).length = L.length := List.length_map _
    have lu := dp_len hd
    rw [List.length_map, List.length_map] at lu
    refine ⟨_, rfl, x, dx, l0, _, _, rfl, hx0, rfl, SqL.of hl0, fun D nD => ?_⟩
    refine lc_it (walk_list (xs := L.map fun q => V.ref q.1)) (fun i H' => Same H H' ∧ H' D = some (.lst ((L.take i).map fun q => V.ref q.1))) ⟨same_new (Same.refl H) nD, upd_same⟩ (fun i H' _ q => SqL.of (q.1 _ _ hl0)) ?_ ?_
    · rintro i y _ H2 hi ⟨s2, hD⟩ ⟨rfl, hy⟩
      obtain ⟨q, hq, rfl⟩ := map_get (f := fun q : Addr × TabD => V.ref q.1) hy
      have lt : ((L.take i).map fun q => V.ref q.1).length ≤ i := by
        rw [List.length_map, List.length_take]
        omega
      refine ⟨rfl, _, rfl, _, hD, szl (by omega), same_mut s2 nD, ?_⟩
      rw [upd_same, take_get hq, List.map_append]
      rfl
    rintro H2 ⟨s2, hD⟩
    rw [lv, List.take_length] at hD
    have hs2 := same_lst s2 hs
    refine ⟨_, rfl, D, _, rfl, .inl (SqL.of hD), _, rfl, l, us, rfl, .inl hs2, rfl, _, rfl, ifF ?_ ?_⟩
    · rw [lv, lu]
      exact (by simp)
    refine ⟨_, rfl, l, us, rfl, .inl hs2, _, rfl, by omega, by omega, ?_⟩
    refine for_range (lo := 0) (n := ((us.length : Nat) : Int).toNat) (fun i σ' H' => Same H2 H' ∧ ∃ v4 v5 : Option V, σ' = [some (.ref x), some (.ref l), some (.ref D), none, v4, v5]) ⟨Same.refl H2, _, _, rfl⟩ ?_ ?_
    · rintro i σ' H3 hi ⟨s3, v4, v5, rfl⟩
      obtain ⟨q, hq⟩ : ∃ q, L[i]? = some q := ⟨_, List.getElem?_eq_getElem (by omega)⟩
      have hqm := List.mem_of_getElem? hq
      have s03 : Same H H3 := fun b o e => s3 _ _ (s2 _ _ e)
      obtain ⟨d1, t1, h1, hd1⟩ := (isTab_same s03 (hT q hqm)).ex
      obtain ⟨v, hv2, dv⟩ := dp_get hd (get_map (f := dTab) (get_map (f := Prod.snd) hq))
      have hD3 := s3 _ _ hD
      have hs3 := same_lst s03 hs
      refine ⟨_, rfl, _, rfl, D, _, _, _, rfl, rfl, SqL.of hD3, atNat (n := i) (get_map (f := fun q : Addr × TabD => V.ref q.1) hq) (by omega), ?_⟩
      refine ⟨_, rfl, _, _, _, _, _, rfl, .own _, tyx_ins h1 T.cls_Table T.own_Table.1, T.own_Table.1.is, _, rfl, iteF ?_⟩
      refine ⟨_, rfl, q.1, _, d1, _, _, rfl, h1, T.cls_Table, T.na_Table_name, rfl, _, rfl, q.1, _, d1, _, _, rfl, h1, T.cls_Table, T.na_Table_width, rfl, _, rfl, q.1, _, d1, _, _, rfl, h1, T.cls_Table, T.na_Table_key, rfl, _, rfl, q.1, _, d1, _, _, rfl, h1, T.cls_Table, T.na_Table_ties, rfl, by show 4 ≤ sizeLine; decide, fun t4 nt4 => ?_⟩
      have s4 := same_new (Same.refl H3) (o := .tup [V.str q.2.nm, V.int q.2.wd, ptV q.2.ky, V.ref t1]) nt4
      obtain ⟨b1, b2⟩ := hb q hqm
      rw [b1] at hd1
      have s04 : Same H (upd H3 t4 (.tup [V.str q.2.nm, V.int q.2.wd, ptV q.2.ky, V.ref t1])) := fun b o e => s4 _ _ (s03 _ _ e)
      refine ⟨_, rfl, _, rfl, l, us, _, v, rfl, rfl, same_lst s4 hs3, atNat (n := i) hv2 (by omega), _, _, dTab q.2, rfl, dp_tabMk (SqT.of upd_same) (dp_same s4 hd1), dp_same s04 dv, okD_dTab b2, _, rfl, iteF ?_⟩
      exact ⟨fun b o e => s4 _ _ (s3 _ _ e), _, _, rfl⟩
    · rintro σ' H3 ⟨s3, v4, v5, rfl⟩
      exact k H3 fun b o e => s3 _ _ (s2 _ _ e)
end
/-- where it stands -/
def PlaceOf (ts : List TabD) (f : Flt) (k j : Int) : Prop :=
  (∃ (n : Nat) (t : TabD), k = (n : Int) ∧ j = -1 ∧ ts[n]? = some t ∧ f = .dup t.nm ∧ t.nm ∈ (ts.take n).map TabD.nm ∧ ((ts.take n).map TabD.nm).Nodup) ∨
  ∃ (n m : Nat) (t : TabD) (b : Int × Str), k = (n : Int) ∧ j = (m : Int) ∧ ts[n]? = some t ∧ t.bs[m]? = some b ∧ (ts.map TabD.nm).Nodup
def spFF (K : PySem.W.Frag) : Sp := fun vs H Q _ => ∃ (l : Addr) (us : List V) (ts : List TabD), vs = [.ref l] ∧ SqL K H l us ∧ DpAll K H us (ts.map dTab) ∧ ts.length ≤ 100 ∧ (∀ t ∈ ts, srt t.bs = t.bs ∧ t.bs.length ≤ 100) ∧
  (faultF ts = none → ∀ H', Same H H' → Q .non H') ∧ ∀ f k j r m H', faultF ts = some f → PlaceOf ts f k j → Same H H' → H' r = some (.lst [.ref m, .int k, .int j]) → Dp K H' (.ref m) f.d → Q (.ref r) H'
/-- a place mended -/
def mendT (t : TabD) (j : Int) (z : Str) : TabD := if j < 0 then ⟨z, t.wd, t.ky, t.bs⟩ else ⟨t.nm, t.wd, t.ky, t.bs.take j.toNat ++ t.bs.drop (j.toNat + 1)⟩
def spMend (K : PySem.W.Frag) : Sp := fun vs H Q _ => ∃ (l r : Addr) (us : List V) (ts : List TabD) (u : V) (n : Nat) (j : Int) (z : Str) (t : TabD), vs = [.ref l, .ref r, .str z] ∧ SqL K H l us ∧ DpAll K H us (ts.map dTab) ∧ H r = some (.lst [u, .int (n : Int), .int j]) ∧ ts[n]? = some t ∧ -1 ≤ j ∧ j < t.bs.length ∧ ts.length ≤ 100 ∧ t.bs.length ≤ 100 ∧
  ∀ l' us' H', Same H H' → H l' = none → H' l' = some (.lst us') → DpAll K H' us' ((ts.take n ++ [mendT t j z] ++ ts.drop (n + 1)).map dTab) → Q (.ref l') H'
section
variable {P : Program} {w : World} {K : PySem.W.Frag} {mg : Str → Option Value} {base : Heap}
theorem ok_ff (T : Txt K mg) : Cal P w K mg base CX0 2 "_law_first_fault" P__law_first_fault [] (spFF K) := by
  have C__law_table := ok_ltab (P := P) (w := w) (base := base) T
  refine Cal.of T.F__law_first_fault T.g__law_first_fault (fun fd F => F.ok sc__law_first_fault (fun vs H Q E h => ?_) (fun cdv A outer s0 H vs Q E hr h => ?_)) (fun _ _ _ _ _ _ us hl => match us, hl with | [_], _ => rfl)
  · obtain ⟨l, us, ts, rfl, _⟩ := h
    rfl
  · obtain ⟨l, us, ts, rfl, hs, hd, l1, hb, k0, k1⟩ := h
    refine ⟨_, PSs.nox (pss_cons (ps_for PassesOwn.never rfl (pi_range1 (by rfl) T.f_range (pa_cons (pe_callB call_len_seq (by rfl) T.f_len (by decide +kernel) (pa_cons (pv 0) pa_nil)) pa_nil)) (pg_name (i := 1) sc__law_first_fault.nd rfl (Or.inl rfl))
    (pss_one (ps_if (pt_cmpR op_in_seq (pe_ix ix_tup (pe_ix ix_list (pv 0) (pv 1) (fun _ _ => rfl)) pe_int (fun _ _ => rfl)) (pe_lc (own := [("t", 2)]) (g := (gName 2)) (tt := tYes) rfl sc__law_first_fault.nd (pi_list (pe_slice sl_list (pv 0) po_none (po_some (pv 1)))) (blkOk_by (N := N__law_first_fault) (sc := defScope s__law_first_fault) (by decide +kernel)) (fun _ _ _ _ _ => (pg_name (i := 2) sc__law_first_fault.nd rfl (Or.inl rfl))) (fun _ _ _ _ _ => pts_nil) (fun _ _ _ _ _ => (pe_ix (ix_tupK (K := K) rfl) (pv 2) pe_int (fun _ _ => rfl)))) rfl) (pss_one (ps_ret (pe_lst (pa_cons (pe_lst (pa_cons pe_str (pa_cons (pe_ix ix_tup (pe_ix ix_list (pv 0) (pv 1) (fun _ _ => rfl)) pe_int (fun _ _ => rfl)) pa_nil))) (pa_cons (pv 1) (pa_cons (pe_un un_neg pe_int) pa_nil))))))
    pss_nil)))
    (pss_cons (ps_for PassesOwn.never rfl (pi_range1 (by rfl) T.f_range (pa_cons (pe_callB call_len_seq (by rfl) T.f_len (by decide +kernel) (pa_cons (pv 0) pa_nil)) pa_nil)) (pg_name (i := 1) sc__law_first_fault.nd rfl (Or.inl rfl))
    (pss_cons (ps_set (i := 3) sc__law_first_fault.nd rfl (Or.inl rfl) (pe_ix ix_tup (pe_ix ix_list (pv 0) (pv 1) (fun _ _ => rfl)) pe_int (fun _ _ => rfl)))
    (pss_one (ps_for PassesOwn.never rfl (pi_range1 (by rfl) T.f_range (pa_cons (pe_callB call_len_seq (by rfl) T.f_len (by decide +kernel) (pa_cons (pv 3) pa_nil)) pa_nil)) (pg_name (i := 4) sc__law_first_fault.nd rfl (Or.inl rfl))
    (pss_cons (ps_set (i := 5) sc__law_first_fault.nd rfl (Or.inl rfl) (pc_call C__law_table (hr.mono (by first | decide | omega)) pass0 (pa_cons (pv 0) (pa_cons (pe_ix ix_tup (pe_ix ix_tup (pv 3) (pv 4) (fun _ _ => rfl)) pe_int (fun _ _ => rfl)) pa_nil))))
    (pss_cons (ps_if (pt_cmpR op_isN (pv 5) pe_non (nomark _)) (pss_one (ps_ret (pe_lst (pa_cons (pe_lst (pa_cons pe_str (pa_cons (pe_ix ix_tup (pe_ix ix_tup (pv 3) (pv 4) (fun _ _ => rfl)) pe_int (fun _ _ => rfl)) pa_nil))) (pa_cons (pv 1) (pa_cons (pv 4) pa_nil))))))
    pss_nil)
    (pss_one (ps_if (PW.pt (pw_or (pt_cmpR op_ne (pe_ix ix_tup (pv 5) pe_int (fun _ _ => rfl)) pe_int (nomark _)) (pw_or (pt_cmpR op_ne (pe_ix ix_tup (pv 5) pe_int (fun _ _ => rfl)) pe_int (nomark _)) (pw_or1 (pt_cmpR op_gt (pe_callB call_len_seq (by rfl) T.f_len (by decide +kernel) (pa_cons (pe_ix ix_tup (pv 5) pe_int (fun _ _ => rfl)) pa_nil)) pe_int (nomark _)))))) (pss_one (ps_ret (pe_lst (pa_cons (pe_lst (pa_cons pe_str (pa_cons (pe_ix ix_tup (pe_ix ix_list (pv 0) (pv 1) (fun _ _ => rfl)) pe_int (fun _ _ => rfl)) (pa_cons (pe_ix ix_tup (pe_ix ix_tup (pv 3) (pv 4) (fun _ _ => rfl)) pe_int (fun _ _ => rfl)) pa_nil)))) (pa_cons (pv 1) (pa_cons (pv 4) pa_nil))))))
    pss_nil))))))))
    (pss_one (ps_ret pe_non)))), ?_⟩
    have lu := dp_len hd
    rw [List.length_map] at lu
    have tab : ∀ {i : Nat} {H' : Hp}, i < us.length → Same H H' → ∃ (t : TabD) (tt b : Addr), ts[i]? = some t ∧ us[i]? = some (.ref tt) ∧ SqT K H' tt [.str t.nm, .int t.wd, ptV t.ky, .ref b] ∧ Dp K H' (.ref b) (.tuple (t.bs.map dTie)) := fun {i H'} hi s => by
      obtain ⟨t, hti⟩ : ∃ t, ts[i]? = some t := ⟨_, List.getElem?_eq_getElem (by omega)⟩
      obtain ⟨v, hv, dv⟩ := dp_get hd (get_map (f := dTab) hti)
      obtain ⟨tt, b, rfl, htt, htb⟩ := dp_tabInv (dp_same s dv)
      exact ⟨t, tt, b, hti, hv, htt, htb⟩
    refine ⟨_, rfl, l, us, rfl, .inl hs, _, rfl, by omega, by omega, ?_⟩
    refine for_range (lo := 0) (n := ((us.length : Nat) : Int).toNat) (fun i σ' H' => Same H H' ∧ (∃ v1 : Option V, σ' = [some (.ref l), v1, none, none, none, none]) ∧ dupF [] ts = dupF ((ts.take i).map TabD.nm) (ts.drop i) ∧ ((ts.take i).map TabD.nm).Nodup) ⟨Same.refl H, ⟨none, rfl⟩, rfl, List.nodup_nil⟩ ?_ ?_
    · rintro i σ' H1 hi ⟨s1, ⟨v1, rfl⟩, hdf, hnd⟩
      obtain ⟨t, tt, b, hti, hv, htt, htb⟩ := tab (i := i) (by omega) s1
      have hs1 := same_lst s1 hs
      rw [drop_get hti, dupF_cons] at hdf
      refine ⟨_, rfl, _, rfl, l, us, _, _, rfl, rfl, hs1, atNat (n := i) hv (by omega), tt, _, 0, _, rfl, rfl, htt, rfl, ?_⟩
      refine ⟨_, rfl, _, rfl, _, rfl, l, us, rfl, hs1, fun q nq => ⟨q, rfl, ⟨_, SqL.of upd_same⟩, fun D nD => ?_⟩⟩
      have ec : cutV us none (some (0 + (i : Int))) = us.take i := by
        rw [show (0 + (i : Int)) = (i : Int) by omega]
        unfold cutV
        rw [HT.sIx_none, HT.sIx_nat, List.drop_zero, Nat.sub_zero, Nat.min_eq_left (by omega)]
      have sq : Same H1 (upd H1 q (.lst (cutV us none (some (0 + (i : Int)))))) := same_new (Same.refl H1) nq
      have hq : (upd H1 q (.lst (cutV us none (some (0 + (i : Int)))))) q = some (.lst (us.take i)) := by rw [upd_same, ec]
      generalize upd H1 q (.lst (cutV us none (some (0 + (i : Int))))) = H2 at sq hq nD
      have lt : (us.take i).length = i := by rw [List.length_take]; omega
      refine lc_it (walk_list (xs := us.take i)) (fun j H' => Same H2 H' ∧ H' D = some (.lst (((ts.take j).map TabD.nm).map V.str))) ⟨same_new (Same.refl H2) nD, upd_same⟩ (fun j H' _ q => SqL.of (q.1 _ _ hq)) ?_ ?_
      · rintro j y _ H3 hj ⟨s3, hD⟩ ⟨rfl, hy⟩
        obtain ⟨u, ut, ub, huj, hvu, hut, _⟩ := tab (i := j) (by omega) (fun b o e => s3 _ _ (sq _ _ (s1 _ _ e)) : Same H H3)
        rw [List.getElem?_take, if_pos (by omega), hvu] at hy
        cases hy
        have ll : (((ts.take j).map TabD.nm).map V.str).length ≤ j := by
          rw [List.length_map, List.length_map, List.length_take]
          omega
        refine ⟨rfl, _, rfl, ut, _, 0, _, rfl, rfl, hut, rfl, _, hD, szl (by omega), same_mut s3 nD, ?_⟩
        rw [upd_same, take_get huj, List.map_append, List.map_append]
        rfl
      rintro H3 ⟨s3, hD⟩
      rw [lt] at hD
      have s13 : Same H1 H3 := fun b o e => s3 _ _ (sq _ _ e)
      have s03 : Same H H3 := fun b o e => s13 _ _ (s1 _ _ e)
      have fall : (((ts.take i).map TabD.nm).map V.str).all flatV = true := by
        rw [List.all_eq_true]
        intro x hx
        obtain ⟨z, _, rfl⟩ := List.mem_map.mp hx
        rfl
      refine ⟨D, _, rfl, .inl (SqL.of hD), rfl, fall, _, rfl, ?_⟩
      by_cases hm : t.nm ∈ (ts.take i).map TabD.nm
      · rw [if_pos hm] at hdf
        have hF : faultF ts = some (.dup t.nm) := by
          unfold faultF
          rw [hdf]
        have hs3 := same_lst s03 hs
        have htt3 := same_tup s13 htt
        refine ifT (inV_strs.mpr hm) ⟨_, rfl, _, rfl, l, us, _, _, rfl, rfl, hs3, atNat (n := i) hv (by omega), tt, _, 0, _, rfl, rfl, htt3, rfl, by show 2 ≤ sizeLine; decide, fun m nm => ⟨_, rfl, 1, rfl, by show 3 ≤ sizeLine; decide, fun r nr => ?_⟩⟩
        have s4 := same_new (Same.refl H3) (o := .lst [V.str "DuplicateName", V.str t.nm]) nm
        have s5 := same_new (Same.refl _) (o := .lst [V.ref m, V.int (0 + (i : Int)), V.int (-1)]) nr
        exact k1 (.dup t.nm) (0 + (i : Int)) (-1) r m _ hF (.inl ⟨i, t, by omega, rfl, hti, rfl, hm, hnd⟩) (fun b o e => s5 _ _ (s4 _ _ (s03 _ _ e))) upd_same (dp_same s5 (.lst (SqL.of upd_same) (.cons (.str _) (.cons (.str _) .nil))))
      · rw [if_neg hm] at hdf
        have hf : inV (.str t.nm) (((ts.take i).map TabD.nm).map V.str) = false := by
          cases q : inV (.str t.nm) (((ts.take i).map TabD.nm).map V.str) with
          | false => rfl
          | true => exact absurd (inV_strs.mp q) hm
        refine ifF hf ⟨s03, ⟨_, rfl⟩, ?_, ?_⟩
        · rw [hdf, take_get hti, List.map_append]
          rfl
        · rw [take_get hti, List.map_append, List.nodup_append]
          exact ⟨hnd, List.nodup_cons.mpr ⟨fun h => (by cases h), List.nodup_nil⟩, fun a ha b hb e => hm (by rw [← List.mem_singleton.mp hb, ← e]; exact ha)⟩
    rintro σ' H1 ⟨s1, ⟨v1, rfl⟩, hdf, hnd⟩
    rw [Int.toNat_natCast, lu, List.drop_length] at hdf
    rw [Int.toNat_natCast, lu, List.take_length] at hnd
    have hdn : dupF [] ts = none := hdf
    have hF : faultF ts = tiesF ts ts := by
      unfold faultF
      rw [hdn]
    have hs1 := same_lst s1 hs
    refine ⟨_, rfl, l, us, rfl, .inl hs1, _, rfl, by omega, by omega, ?_⟩
    refine for_range (lo := 0) (n := ((us.length : Nat) : Int).toNat) (fun i σ' H' => Same H H' ∧ (∃ v1 v3 v4 v5 : Option V, σ' = [some (.ref l), v1, none, v3, v4, v5]) ∧ tiesF ts ts = tiesF ts (ts.drop i)) ⟨s1, ⟨_, _, _, _, rfl⟩, rfl⟩ ?_ ?_
    · rintro i σ' H2 hi ⟨s2, ⟨v1, v3, v4, v5, rfl⟩, htf⟩
      obtain ⟨t, tt, b, hti, hv, htt, htb⟩ := tab (i := i) (by omega) s2
      have hs2 := same_lst s2 hs
      obtain ⟨b1, b2⟩ := hb t (List.mem_of_getElem? hti)
      rw [drop_get hti, tiesF_cons, b1] at htf
      obtain ⟨bvs, hbsq, hbda⟩ : ∃ bvs, SqT K H2 b bvs ∧ DpAll K H2 bvs (t.bs.map dTie) := by
        cases htb with
        | tup hsq hda => exact ⟨_, hsq, hda⟩
      have lb := dp_len hbda
      rw [List.length_map] at lb
      refine ⟨_, rfl, _, rfl, l, us, _, _, rfl, rfl, hs2, atNat (n := i) hv (by omega), tt, _, 3, _, rfl, rfl, htt, rfl, ?_⟩
      refine ⟨_, rfl, b, bvs, rfl, .inr hbsq, _, rfl, by omega, by omega, ?_⟩
      refine for_range (lo := 0) (n := ((bvs.length : Nat) : Int).toNat) (fun j σ' H' => H' = H2 ∧ (∃ v4 v5 : Option V, σ' = [some (.ref l), some (.int (0 + (i : Int))), none, some (.ref b), v4, v5]) ∧ tieF ts t.nm t.bs = tieF ts t.nm (t.bs.drop j)) ⟨rfl, ⟨_, _, rfl⟩, rfl⟩ ?_ ?_
      · rintro j σ' H3 hj ⟨rfl, ⟨v4, v5, rfl⟩, htj⟩
        obtain ⟨bd, hbd⟩ : ∃ bd, t.bs[j]? = some bd := ⟨_, List.getElem?_eq_getElem (by omega)⟩
        obtain ⟨w0, hw0, dw⟩ := dp_get hbda (get_map (f := dTie) hbd)
        obtain ⟨bt, rfl, hbt⟩ := dp_tieInv dw
        rw [drop_get hbd, tieF_cons] at htj
        refine ⟨_, rfl, _, rfl, _, rfl, b, bvs, _, _, rfl, rfl, hbsq, atNat (n := j) hw0 (by omega), bt, _, 1, _, rfl, rfl, hbt, rfl, l, us, ts, bd.2, rfl, hs2, dpAll_same s2 hd, fun hn => ?_, fun u ut hu du => ?_⟩
        · rw [hn] at htj
          have htj : tieF ts t.nm t.bs = some (.unk bd.2) := htj
          rw [htj] at htf
          have hF2 : faultF ts = some (.unk bd.2) := by rw [hF, htf]
          refine ⟨_, rfl, rfl, _, rfl, ifT (decide_eq_true rfl) ?_⟩
          refine ⟨_, rfl, _, rfl, b, bvs, _, _, rfl, rfl, hbsq, atNat (n := j) hw0 (by omega), bt, _, 1, _, rfl, rfl, hbt, rfl, by show 2 ≤ sizeLine; decide, fun m nm => ⟨_, rfl, _, rfl, by show 3 ≤ sizeLine; decide, fun r nr => ?_⟩⟩
          have s4 := same_new (Same.refl H3) (o := .lst [V.str "UnknownName", V.str bd.2]) nm
          have s5 := same_new (Same.refl _) (o := .lst [V.ref m, V.int (0 + (i : Int)), V.int (0 + (j : Int))]) nr
          exact k1 (.unk bd.2) (0 + (i : Int)) (0 + (j : Int)) r m _ hF2 (.inr ⟨i, j, t, bd, by omega, by omega, hti, hbd, hnd⟩) (fun b o e => s5 _ _ (s4 _ _ (s2 _ _ e))) upd_same (dp_same s5 (.lst (SqL.of upd_same) (.cons (.str _) (.cons (.str _) .nil))))
        · rw [hu] at htj
          have htj : tieF ts t.nm t.bs = if u.isL = true then tieF ts t.nm (t.bs.drop (j + 1)) else some (.tie t.nm bd.1) := htj
          obtain ⟨ut', ub, e1, hut, hub⟩ := dp_tabInv du
          cases e1
          obtain ⟨uvs, husq, huda⟩ : ∃ uvs, SqT K H3 ub uvs ∧ DpAll K H3 uvs (u.bs.map dTie) := by
            cases hub with
            | tup hsq hda => exact ⟨_, hsq, hda⟩
          have lub := dp_len huda
          rw [List.length_map] at lub
          refine ⟨_, rfl, rfl, _, rfl, ifF (decide_eq_false fun e => by cases e) ?_⟩
          have bad : u.isL = false → faultF ts = some (.tie t.nm bd.1) := fun e => by
            rw [e, if_neg (by decide)] at htj
            rw [htj] at htf
            rw [hF, htf]
          by_cases e1 : u.wd = 1
          · refine ⟨_, rfl, ut, _, 1, _, rfl, rfl, hut, rfl, rfl, _, rfl, ifF (by rw [e1]; rfl) ?_⟩
            by_cases e2 : u.ky = some 1
            · refine ⟨_, rfl, ut, _, 2, _, rfl, rfl, hut, rfl, ?_⟩
              rw [e2]
              refine ⟨rfl, _, rfl, ifF rfl ?_⟩
              refine ⟨_, rfl, ut, _, 3, _, rfl, rfl, hut, rfl, ub, uvs, rfl, .inr husq, _, _, rfl, rfl, _, rfl, ?_⟩
              by_cases e3 : u.bs = []
              · have : u.isL = true := by
                  unfold TabD.isL
                  rw [e1, e2, e3]
                  rfl
                rw [this, if_pos rfl] at htj
                have l0 : uvs.length = 0 := by rw [lub, e3]; rfl
                exact ifF (by rw [l0]; rfl) ⟨rfl, ⟨_, _, rfl⟩, htj⟩
              · have : u.isL = false := by
                  unfold TabD.isL
                  rw [List.isEmpty_eq_false_iff.mpr e3, Bool.and_false, Bool.and_false]
                have hF2 := bad this
                have l0 : 0 < uvs.length := by rw [lub]; exact List.length_pos_iff.mpr e3
                refine ifT (decide_eq_true (by omega)) ?_
                exact ⟨_, rfl, _, rfl, l, us, _, _, rfl, rfl, hs2, atNat (n := i) hv (by omega), tt, _, 0, _, rfl, rfl, htt, rfl, _, rfl, _, rfl, b, bvs, _, _, rfl, rfl, hbsq, atNat (n := j) hw0 (by omega), bt, _, 0, _, rfl, rfl, hbt, rfl, by show 3 ≤ sizeLine; decide, fun m nm => ⟨_, rfl, _, rfl, by show 3 ≤ sizeLine; decide, fun r nr => k1 (.tie t.nm bd.1) (0 + (i : Int)) (0 + (j : Int)) r m _ hF2 (.inr ⟨i, j, t, bd, by omega, by omega, hti, hbd, hnd⟩) (fun b o e => same_new (Same.refl _) nr _ _ (same_new (Same.refl H3) nm _ _ (s2 _ _ e))) upd_same (dp_same (same_new (Same.refl _) nr) (.lst (SqL.of upd_same) (.cons (.str _) (.cons (.str _) (.cons (.int _) .nil)))))⟩⟩
            · have : u.isL = false := by
                unfold TabD.isL
                rw [decide_eq_false e2, Bool.false_and, Bool.and_false]
              have hF2 := bad this
              refine ⟨_, rfl, ut, _, 2, _, rfl, rfl, hut, rfl, ?_⟩
              cases hk : u.ky with
              | none =>
                refine ⟨rfl, _, rfl, ifT rfl (iteT ?_)⟩
                exact ⟨_, rfl, _, rfl, l, us, _, _, rfl, rfl, hs2, atNat (n := i) hv (by omega), tt, _, 0, _, rfl, rfl, htt, rfl, _, rfl, _, rfl, b, bvs, _, _, rfl, rfl, hbsq, atNat (n := j) hw0 (by omega), bt, _, 0, _, rfl, rfl, hbt, rfl, by show 3 ≤ sizeLine; decide, fun m nm => ⟨_, rfl, _, rfl, by show 3 ≤ sizeLine; decide, fun r nr => k1 (.tie t.nm bd.1) (0 + (i : Int)) (0 + (j : Int)) r m _ hF2 (.inr ⟨i, j, t, bd, by omega, by omega, hti, hbd, hnd⟩) (fun b o e => same_new (Same.refl _) nr _ _ (same_new (Same.refl H3) nm _ _ (s2 _ _ e))) upd_same (dp_same (same_new (Same.refl _) nr) (.lst (SqL.of upd_same) (.cons (.str _) (.cons (.str _) (.cons (.int _) .nil)))))⟩⟩
              | some m0 =>
                refine ⟨rfl, _, rfl, ifT (by show (!decide (V.int m0 = V.int 1)) = true; rw [decide_eq_false fun e => e2 (by rw [hk, V.int.inj e])]; rfl) (iteT ?_)⟩
                exact ⟨_, rfl, _, rfl, l, us, _, _, rfl, rfl, hs2, atNat (n := i) hv (by omega), tt, _, 0, _, rfl, rfl, htt, rfl, _, rfl, _, rfl, b, bvs, _, _, rfl, rfl, hbsq, atNat (n := j) hw0 (by omega), bt, _, 0, _, rfl, rfl, hbt, rfl, by show 3 ≤ sizeLine; decide, fun m nm => ⟨_, rfl, _, rfl, by show 3 ≤ sizeLine; decide, fun r nr => k1 (.tie t.nm bd.1) (0 + (i : Int)) (0 + (j : Int)) r m _ hF2 (.inr ⟨i, j, t, bd, by omega, by omega, hti, hbd, hnd⟩) (fun b o e => same_new (Same.refl _) nr _ _ (same_new (Same.refl H3) nm _ _ (s2 _ _ e))) upd_same (dp_same (same_new (Same.refl _) nr) (.lst (SqL.of upd_same) (.cons (.str _) (.cons (.str _) (.cons (.int _) .nil)))))⟩⟩
          · have : u.isL = false := by
              unfold TabD.isL
              rw [decide_eq_false e1, Bool.false_and]
            have hF2 := bad this
            refine ⟨_, rfl, ut, _, 1, _, rfl, rfl, hut, rfl, rfl, _, rfl, ifT (by show (!decide (V.int u.wd = V.int 1)) = true; rw [decide_eq_false fun e => e1 (V.int.inj e)]; rfl) (iteT ?_)⟩
            exact ⟨_, rfl, _, rfl, l, us, _, _, rfl, rfl, hs2, atNat (n := i) hv (by omega), tt, _, 0, _, rfl, rfl, htt, rfl, _, rfl, _, rfl, b, bvs, _, _, rfl, rfl, hbsq, atNat (n := j) hw0 (by omega), bt, _, 0, _, rfl, rfl, hbt, rfl, by show 3 ≤ sizeLine; decide, fun m nm => ⟨_, rfl, _, rfl, by show 3 ≤ sizeLine; decide, fun r nr => k1 (.tie t.nm bd.1) (0 + (i : Int)) (0 + (j : Int)) r m _ hF2 (.inr ⟨i, j, t, bd, by omega, by omega, hti, hbd, hnd⟩) (fun b o e => same_new (Same.refl _) nr _ _ (same_new (Same.refl H3) nm _ _ (s2 _ _ e))) upd_same (dp_same (same_new (Same.refl _) nr) (.lst (SqL.of upd_same) (.cons (.str _) (.cons (.str _) (.cons (.int _) .nil)))))⟩⟩
      · rintro σ' H3 ⟨rfl, ⟨v4, v5, rfl⟩, htj⟩
        rw [Int.toNat_natCast, lb, List.drop_length] at htj
        have htj : tieF ts t.nm t.bs = none := htj
        rw [htj] at htf
        exact ⟨s2, ⟨_, _, _, _, rfl⟩, htf⟩
    · rintro σ' H2 ⟨s2, ⟨v1, v3, v4, v5, rfl⟩, htf⟩
      rw [Int.toNat_natCast, lu, List.drop_length] at htf
      exact k0 (by rw [hF, htf]; rfl) H2 s2
theorem ok_mend (T : Txt K mg) : Cal P w K mg base CX0 1 "_law_mended" P__law_mended [] (spMend K) := by
  refine Cal.of T.F__law_mended T.g__law_mended (fun fd F => F.ok sc__law_mended (fun vs H Q E h => ?_) (fun cdv A outer s0 H vs Q E hr h => ?_)) (fun _ _ _ _ _ _ us hl => match us, hl with | [_, _, _], _ => rfl)
  · obtain ⟨l, r, us, ts, u, n, j, z, t, rfl, _⟩ := h
    rfl
  · obtain ⟨l, r, us, ts, u, n, j, z, t, rfl, hs, hd, hr, ht, j0, j1, l1, l2, k⟩ := h
    refine ⟨_, PSs.nox (pss_cons (ps_set (i := 3) sc__law_mended.nd rfl (Or.inl rfl) (pe_ix ix_list (pv 1) pe_int (fun _ _ => rfl)))
    (pss_cons (ps_set (i := 4) sc__law_mended.nd rfl (Or.inl rfl) (pe_ix ix_list (pv 1) pe_int (fun _ _ => rfl)))
    (pss_cons (ps_set (i := 5) sc__law_mended.nd rfl (Or.inl rfl) (pe_ix ix_list (pv 0) (pv 3) (fun _ _ => rfl)))
    (C8.pss_cut (ps_if (pt_cmpR op_lt (pv 4) pe_int (nomark _)) (pss_one (ps_set (i := 5) sc__law_mended.nd rfl (Or.inl rfl) (pe_tup (pa_cons (pv 2) (pa_cons (pe_ix ix_tup (pv 5) pe_int (fun _ _ => rfl)) (pa_cons (pe_ix ix_tup (pv 5) pe_int (fun _ _ => rfl)) (pa_cons (pe_ix ix_tup (pv 5) pe_int (fun _ _ => rfl)) pa_nil)))))))
    (pss_one (ps_set (i := 5) sc__law_mended.nd rfl (Or.inl rfl) (pe_tup (pa_cons (pe_ix ix_tup (pv 5) pe_int (fun _ _ => rfl)) (pa_cons (pe_ix ix_tup (pv 5) pe_int (fun _ _ => rfl)) (pa_cons (pe_ix ix_tup (pv 5) pe_int (fun _ _ => rfl)) (pa_cons (pe_op op_catA (pe_slice sl_tupA (pe_ix ix_tup (pv 5) pe_int (fun _ _ => rfl)) po_none (po_some (pv 4))) (pe_slice sl_tupA (pe_ix ix_tup (pv 5) pe_int (fun _ _ => rfl)) (po_some (pe_op op_add (pv 4) pe_int)) po_none)) pa_nil))))))))
    (pss_one (ps_ret (pe_op op_cat (pe_op op_cat (pe_slice sl_list (pv 0) po_none (po_some (pv 3))) (pe_lst (pa_cons (pv 5) pa_nil))) (pe_slice sl_list (pv 0) (po_some (pe_op op_add (pv 3) pe_int)) po_none)))))))), ?_⟩
    have lu := dp_len hd
    rw [List.length_map] at lu
    have hn : n < ts.length := (List.getElem?_eq_some_iff.mp ht).1
    obtain ⟨v, hv, dv⟩ := dp_get hd (get_map (f := dTab) ht)
    obtain ⟨tt, b, rfl, htt, htb⟩ := dp_tabInv dv
    obtain ⟨bvs, hbsq, hbda⟩ : ∃ bvs, SqT K H b bvs ∧ DpAll K H bvs (t.bs.map dTie) := by
      cases htb with
      | tup hsq hda => exact ⟨_, hsq, hda⟩
    have lb := dp_len hbda
    rw [List.length_map] at lb
    refine ⟨_, rfl, r, _, _, _, rfl, rfl, SqL.of hr, rfl, ?_⟩
    refine ⟨_, rfl, r, _, _, _, rfl, rfl, SqL.of hr, rfl, ?_⟩
    refine ⟨_, rfl, _, rfl, l, us, _, _, rfl, rfl, hs, atNat (n := n) hv rfl, ?_⟩
    refine ⟨fun σ' H' => ∃ t2 : Addr, σ' = [some (.ref l), some (.ref r), some (.str z), some (.int (n : Int)), some (.int j), some (.ref t2)] ∧ Same H H' ∧ Dp K H' (.ref t2) (dTab (mendT t j z)), ?_, ?_⟩
    · refine ⟨_, rfl, _, _, rfl, rfl, _, rfl, ifB (fun h => ?_) (fun h => ?_)⟩
      · have h := of_decide_eq_true h
        refine ⟨_, rfl, _, rfl, tt, _, 1, _, rfl, rfl, htt, rfl, _, rfl, tt, _, 2, _, rfl, rfl, htt, rfl, _, rfl, tt, _, 3, _, rfl, rfl, htt, rfl, by show 4 ≤ sizeLine; decide, fun t2 nt2 => ⟨t2, rfl, same_new (Same.refl H) nt2, ?_⟩⟩
        have e : mendT t j z = ⟨z, t.wd, t.ky, t.bs⟩ := if_pos h
        rw [e]
        exact dp_tabMk (t := ⟨z, t.wd, t.ky, t.bs⟩) (SqT.of upd_same) (dp_same (same_new (Same.refl H) nt2) htb)
      · have h := of_decide_eq_false h
        have e : mendT t j z = ⟨t.nm, t.wd, t.ky, t.bs.take j.toNat ++ t.bs.drop (j.toNat + 1)⟩ := if_neg h
        rw [e]
        refine ⟨_, rfl, tt, _, 0, _, rfl, rfl, htt, rfl, _, rfl, tt, _, 1, _, rfl, rfl, htt, rfl, _, rfl, tt, _, 2, _, rfl, rfl, htt, rfl, _, rfl, tt, _, 3, _, rfl, rfl, htt, rfl, _, rfl, j, rfl, ?_⟩
        show rSlA K (.ref b) none (some j) H _
        refine slA hbsq fun p1 H1 hp1 s1 => ?_
        refine ⟨_, rfl, tt, _, 3, _, rfl, rfl, same_tup s1 htt, rfl, _, rfl, _, _, rfl, rfl, j + 1, rfl, ?_⟩
        delta tNoPart
        show rSlA K (.ref b) (some (j + 1)) none H1 _
        have c1 := cutV_length bvs none (some j)
        have c2 := cutV_length bvs (some (j + 1)) none
        refine slA (same_tup s1 hbsq) fun p2 H2 hp2 s2 => catA (same_tup s2 hp1) hp2 (by omega) fun p3 H3 hp3 s3 => ⟨by show 4 ≤ sizeLine; decide, fun t2 nt2 => ⟨t2, rfl, ?_, ?_⟩⟩
        · exact fun b o e => same_new (Same.refl H3) nt2 _ _ (s3 _ _ (s2 _ _ (s1 _ _ e)))
        · have s03 : Same H H3 := fun b o e => s3 _ _ (s2 _ _ (s1 _ _ e))
          have s4 := same_new (Same.refl H3) (o := .tup [V.str t.nm, V.int t.wd, ptV t.ky, V.ref p3]) nt2
          refine dp_tabMk (t := ⟨t.nm, t.wd, t.ky, t.bs.take j.toNat ++ t.bs.drop (j.toNat + 1)⟩) (SqT.of upd_same) (dp_same s4 (.tup hp3 ?_))
          have g1 := cutG_to (xs := t.bs) (p := j) (by omega)
          have g2 := cutG_from (xs := t.bs) (p := j + 1) (by omega) (by omega)
          rw [show (j + 1).toNat = j.toNat + 1 by omega] at g2
          show DpAll K H3 _ ((t.bs.take j.toNat ++ t.bs.drop (j.toNat + 1)).map dTie)
          rw [List.map_append, ← g1, ← g2, ← cutG_mapD, ← cutG_mapD]
          exact dpAll_append (dpAll_cut (dpAll_same s03 hbda)) (dpAll_cut (dpAll_same s03 hbda))
    rintro σ' H1 ⟨t2, rfl, s1, d1⟩
    have e1 : cutV us none (some (n : Int)) = us.take n := by
      unfold cutV
      rw [HT.sIx_none, HT.sIx_nat, List.drop_zero, Nat.sub_zero, Nat.min_eq_left (by omega)]
    have e2 : cutV us (some ((n : Int) + 1)) none = us.drop (n + 1) := by
      unfold cutV
      rw [HT.sIx_none, show ((n : Int) + 1) = ((n + 1 : Nat) : Int) by omega, HT.sIx_nat, Nat.min_eq_left (by omega)]
      exact List.take_of_length_le (by rw [List.length_drop]; omega)
    have l3 : (us.take n).length = n := by rw [List.length_take]; omega
    have l4 : (us.drop (n + 1)).length = us.length - (n + 1) := List.length_drop
    refine ⟨_, rfl, _, rfl, (n : Int), rfl, l, us, rfl, same_lst s1 hs, fun q1 nq1 => ⟨_, rfl, by show 1 ≤ sizeLine; decide, fun q2 nq2 => ?_⟩⟩
    rw [e1] at nq2 ⊢
    have s2 := same_new (Same.refl H1) (o := .lst (us.take n)) nq1
    have hq1 : (upd H1 q1 (.lst (us.take n))) q1 = some (.lst (us.take n)) := upd_same
    generalize upd H1 q1 (.lst (us.take n)) = H2 at s2 hq1 nq2
    have s3 := same_new (Same.refl H2) (o := .lst [V.ref t2]) nq2
    have hq2 : (upd H2 q2 (.lst [V.ref t2])) q2 = some (.lst [V.ref t2]) := upd_same
    generalize upd H2 q2 (.lst [V.ref t2]) = H3 at s3 hq2
    refine ⟨q1, q2, _, _, rfl, rfl, s3 _ _ hq1, hq2, by rw [sizeLine_eq, l3]; show n + 1 ≤ _; omega, fun q3 nq3 => ?_⟩
    have s4 := same_new (Same.refl H3) (o := .lst (us.take n ++ [V.ref t2])) nq3
    have hq3 : (upd H3 q3 (.lst (us.take n ++ [V.ref t2]))) q3 = some (.lst (us.take n ++ [V.ref t2])) := upd_same
    generalize upd H3 q3 (.lst (us.take n ++ [V.ref t2])) = H4 at s4 hq3
    have s14 : Same H1 H4 := fun b o e => s4 _ _ (s3 _ _ (s2 _ _ e))
    have s04 : Same H H4 := fun b o e => s14 _ _ (s1 _ _ e)
    refine ⟨_, rfl, _, rfl, _, _, rfl, rfl, (n : Int) + 1, rfl, ?_⟩
    delta tNoPart
    show rSlL K (.ref l) (some ((n : Int) + 1)) none H4 _
    refine ⟨l, us, rfl, same_lst s04 hs, fun q4 nq4 => ?_⟩
    rw [e2]
    have s5 := same_new (Same.refl H4) (o := .lst (us.drop (n + 1))) nq4
    have hq4 : (upd H4 q4 (.lst (us.drop (n + 1)))) q4 = some (.lst (us.drop (n + 1))) := upd_same
    generalize upd H4 q4 (.lst (us.drop (n + 1))) = H5 at s5 hq4
    have s05 : Same H H5 := fun b o e => s5 _ _ (s04 _ _ e)
    refine ⟨q3, q4, _, _, rfl, rfl, s5 _ _ hq3, hq4, by rw [sizeLine_eq, List.length_append, l3, l4]; show n + 1 + _ ≤ _; omega, fun q5 nq5 => ?_⟩
    have s6 := same_new (Same.refl H5) (o := .lst (us.take n ++ [V.ref t2] ++ us.drop (n + 1))) nq5
    have s06 : Same H (upd H5 q5 (.lst (us.take n ++ [V.ref t2] ++ us.drop (n + 1)))) := fun b o e => s6 _ _ (s05 _ _ e)
    refine k q5 _ _ s06 ?_ upd_same ?_
    · cases q : H q5 with
      | none => rfl
      | some o => rw [s05 _ _ q] at nq5; cases nq5
    · have hd6 := dpAll_same s06 hd
      rw [List.map_append, List.map_append, List.map_take, List.map_drop]
      exact dpAll_append (dpAll_drop hd6) (dpAll_append (.cons (dp_same (fun b o e => s6 _ _ (s5 _ _ (s14 _ _ e))) d1) .nil) (dpAll_take hd6))
end
def Asc (bs : List (Int × Str)) : Prop := bs.Pairwise fun a b => a.1 < b.1
/-- a table as it is drawn -/
structure TabG (t : TabD) : Prop where
  n : nameOk t.nm = true
  w1 : 1 ≤ t.wd
  w2 : t.wd ≤ 3
  k : keyOk t.wd t.ky = true
  a : Asc t.bs
  r : ∀ b ∈ t.bs, 0 ≤ b.1 ∧ b.1 < t.wd
/-- names, at most one twice -/
def Dup1 (ns : List Str) : Prop := ns.Nodup ∨ ∃ (base : List Str) (n m : Nat) (z : Str), base.Nodup ∧ base[m]? = some z ∧ m < n ∧ n < base.length ∧ ns = base.set n z
theorem dpAll_set {K : PySem.W.Frag} {H : Hp} {v : V} {d : PyData} : ∀ (n : Nat) {vs : List V} {ds : List PyData}, Dp K H v d → DpAll K H vs ds → DpAll K H (vs.set n v) (ds.set n d)
  | _, _, _, _, .nil => .nil
  | 0, _, _, h, .cons _ t => .cons h t
  | n + 1, _, _, h, .cons a t => .cons a (dpAll_set n h t)
theorem split {G F : Hp → Prop} {A : Prop} (main : (∀ H', F H' → G H') → A) (suite : ∀ H', F H' → G H') : A := main suite
theorem kind_at {k : Int} (h0 : 0 ≤ k) (h6 : k ≤ 6) : ∃ wd : Int, atI [V.int 1, V.int 2, V.int 1, V.int 2, V.int 1, V.int 1, V.int 3] k = some (.int wd) ∧ 1 ≤ wd ∧ wd ≤ 3 ∧
    ∀ ex : Int, 0 ≤ ex → ex < 4 → ∃ mk : Option Int, atI [V.int 1, V.non, V.non, V.int (1 + ex / 2), V.int 0, V.int 1, V.int ex] k = some (ptV mk) ∧ keyOk wd mk = true := by
  have ok : ∀ {w m : Int}, 0 ≤ m → m ≤ w → keyOk w (some m) = true := fun {w m} a b => by
    show (decide (0 ≤ m) && decide (m ≤ w)) = true
    rw [decide_eq_true a, decide_eq_true b]
    rfl
  have hr : k = 0 ∨ k = 1 ∨ k = 2 ∨ k = 3 ∨ k = 4 ∨ k = 5 ∨ k = 6 := by omega
  rcases hr with rfl | rfl | rfl | rfl | rfl | rfl | rfl
  · exact ⟨1, rfl, by decide, by decide, fun ex _ _ => ⟨some 1, rfl, ok (by decide) (by decide)⟩⟩
  · exact ⟨2, rfl, by decide, by decide, fun ex _ _ => ⟨none, rfl, rfl⟩⟩
  · exact ⟨1, rfl, by decide, by decide, fun ex _ _ => ⟨none, rfl, rfl⟩⟩
  · exact ⟨2, rfl, by decide, by decide, fun ex _ _ => ⟨some (1 + ex / 2), rfl, ok (by omega) (by omega)⟩⟩
  · exact ⟨1, rfl, by decide, by decide, fun ex _ _ => ⟨some 0, rfl, ok (by decide) (by decide)⟩⟩
  · exact ⟨1, rfl, by decide, by decide, fun ex _ _ => ⟨some 1, rfl, ok (by decide) (by decide)⟩⟩
  · exact ⟨3, rfl, by decide, by decide, fun ex _ _ => ⟨some ex, rfl, ok (by omega) (by omega)⟩⟩
def spDrawnT (K : PySem.W.Frag) : Sp := fun vs H Q _ => ∃ (s c : Addr) (many : Int), vs = [.ref s, .int many] ∧ Src H s c ∧ 2 ≤ many ∧ many ≤ 4 ∧ ∀ (l : Addr) (us : List V) (ts : List TabD) H', H l = none → H' l = some (.lst us) → DpAll K H' us (ts.map dTab) → ts.length = many.toNat → (∀ t ∈ ts, TabG t) → Dup1 (ts.map TabD.nm) → Src H' s c → But s H H' → Q (.ref l) H'
section
variable {P : Program} {w : World} {K : PySem.W.Frag} {mg : Str → Option Value} {base : Heap}
theorem ok_drawnT (T : Txt K mg) : Cal P w K mg base CX0 4 "_law_drawn_tables" P__law_drawn_tables [] (spDrawnT K) := by
  have C__law_draw := ok_draw (P := P) (w := w) (base := base) T
  have C__law_names := ok_namesK (P := P) (w := w) (base := base) T
  refine Cal.of T.F__law_drawn_tables T.g__law_drawn_tables (fun fd F => F.ok sc__law_drawn_tables (fun vs H Q E h => ?_) (fun cdv A outer s0 H vs Q E hr h => ?_)) (fun _ _ _ _ _ _ us hl => match us, hl with | [_, _], _ => rfl)
  · obtain ⟨s, c, many, rfl, _⟩ := h
    rfl
  · obtain ⟨s, c, many, rfl, S, m0, m1, k⟩ := h
    refine ⟨_, PSs.nox (pss_cons (ps_set (i := 2) sc__law_drawn_tables.nd rfl (Or.inr rfl) (pc_call C__law_names (hr.mono (by first | decide | omega)) pass0 (pa_cons (pv 0) (pa_cons (pe_op op_add (pv 1) pe_int) pa_nil))))
    (pss_cons (ps_set (i := 3) sc__law_drawn_tables.nd rfl (Or.inr rfl) (pe_lc (own := [("k", 4)]) (g := (gName 4)) (tt := tYes) rfl sc__law_drawn_tables.nd (pi_range1 (by rfl) T.f_range (pa_cons (pv 1) pa_nil)) (blkOk_by (N := N__law_drawn_tables) (sc := defScope s__law_drawn_tables) (by decide +kernel)) (fun _ _ _ _ _ => (pg_name (i := 4) sc__law_drawn_tables.nd rfl (Or.inl rfl))) (fun _ _ _ _ _ => pts_nil) (fun _ _ _ _ _ => (pc_call C__law_draw (hr.mono (by first | decide | omega)) pass0 (pa_cons (pv 0) (pa_cons pe_int pa_nil))))))
    (pss_cons (ps_setLc (i := 5) (own := [("k", 4)]) (g := (gName 4)) rfl sc__law_drawn_tables.nd rfl rfl (sw_true rfl rfl rfl (by decide +kernel)) (pi_range1 (by rfl) T.f_range (pa_cons (pv 1) pa_nil)) (blkOk_by (N := N__law_drawn_tables) (sc := defScope s__law_drawn_tables) (by decide +kernel)) (fun _ _ _ _ _ => (pg_name (i := 4) sc__law_drawn_tables.nd rfl (Or.inl rfl))) (fun _ _ _ _ _ => (pts_one (pt_cmpR op_eq (pe_ix (ix_listK (K := K) rfl) (pv 3) (pv 4) (fun _ _ => rfl)) pe_int (nomark _)))) (fun _ _ _ _ _ => (pe_ix (ix_listK (K := K) rfl) (pv 2) (pv 4) (fun _ _ => rfl))))
    (pss_cons (ps_set (i := 6) sc__law_drawn_tables.nd rfl (Or.inl rfl) (pe_lst pa_nil))
    (pss_cons (ps_for PassesOwn.never rfl (pi_range1 (by rfl) T.f_range (pa_cons (pv 1) pa_nil)) (pg_name (i := 4) sc__law_drawn_tables.nd rfl (Or.inl rfl))
    (pss_cons (ps_set (i := 7) sc__law_drawn_tables.nd rfl (Or.inl rfl) (pe_ix ix_list (pe_lst (pa_cons pe_int (pa_cons pe_int (pa_cons pe_int (pa_cons pe_int (pa_cons pe_int (pa_cons pe_int (pa_cons pe_int pa_nil)))))))) (pe_ix ix_list (pv 3) (pv 4) (fun _ _ => rfl)) (fun _ _ => rfl)))
    (pss_cons (ps_set (i := 8) sc__law_drawn_tables.nd rfl (Or.inl rfl) (pc_call C__law_draw (hr.mono (by first | decide | omega)) pass0 (pa_cons (pv 0) (pa_cons pe_int pa_nil))))
    (pss_cons (ps_set (i := 9) sc__law_drawn_tables.nd rfl (Or.inl rfl) (pe_ix ix_list (pe_lst (pa_cons pe_int (pa_cons pe_non (pa_cons pe_non (pa_cons (pe_op op_add pe_int (pe_op op_fdivW (pv 8) pe_int)) (pa_cons pe_int (pa_cons pe_int (pa_cons (pv 8) pa_nil)))))))) (pe_ix ix_list (pv 3) (pv 4) (fun _ _ => rfl)) (fun _ _ => rfl)))
    (pss_cons (ps_set (i := 10) sc__law_drawn_tables.nd rfl (Or.inl rfl) (pe_lst pa_nil))
    (pss_cons (ps_for PassesOwn.never rfl (pi_range1 (by rfl) T.f_range (pa_cons (pv 7) pa_nil)) (pg_name (i := 11) sc__law_drawn_tables.nd rfl (Or.inl rfl))
    (pss_one (ps_if (PW.pt (pw_or (pt_cmpR op_eq (pe_ix ix_list (pv 3) (pv 4) (fun _ _ => rfl)) pe_int (nomark _)) (pw_or1 (PW.pt (pw_and (pt_cmpR op_ne (pe_ix ix_list (pv 3) (pv 4) (fun _ _ => rfl)) pe_int (nomark _)) (pw_and1 (pt_cmpR op_eq (pc_call C__law_draw (hr.mono (by first | decide | omega)) pass0 (pa_cons (pv 0) (pa_cons pe_int pa_nil))) pe_int (nomark _)))))))) (pss_cons (ps_set (i := 12) sc__law_drawn_tables.nd rfl (Or.inl rfl) (pc_call C__law_draw (hr.mono (by first | decide | omega)) pass0 (pa_cons (pv 0) (pa_cons pe_int pa_nil))))
    (pss_cons (ps_set (i := 13) sc__law_drawn_tables.nd rfl (Or.inl rfl) (pe_ix ix_list (pv 2) (pc_call C__law_draw (hr.mono (by first | decide | omega)) pass0 (pa_cons (pv 0) (pa_cons (pv 1) pa_nil))) (fun _ _ => rfl)))
    (C8.pss_cut (ps_if (pt_cmpR op_eq (pv 12) pe_int (nomark _)) (pss_one (ps_set (i := 13) sc__law_drawn_tables.nd rfl (Or.inl rfl) (pe_ix ix_list (pv 2) (pv 1) (fun _ _ => rfl))))
    (pss_one (ps_if (PW.pt (pw_and (pt_cmpR op_ne (pv 12) pe_int (nomark _)) (pw_and1 (pt_cmpR op_gt (pe_callB call_len_seq (by rfl) T.f_len (by decide +kernel) (pa_cons (pv 5) pa_nil)) pe_int (nomark _))))) (pss_one (ps_set (i := 13) sc__law_drawn_tables.nd rfl (Or.inl rfl) (pe_ix ix_list (pv 5) (pc_call C__law_draw (hr.mono (by first | decide | omega)) pass0 (pa_cons (pv 0) (pa_cons (pe_callB call_len_seq (by rfl) T.f_len (by decide +kernel) (pa_cons (pv 5) pa_nil)) pa_nil))) (fun _ _ => rfl))))
    pss_nil)))
    (pss_one (ps_expr (pe_bm PySem.F.plainAttrs_list PySem.F.slot_list_append PySem.F.type_list_append mt_append (pv 10) (pa_cons (pe_tup (pa_cons (pv 11) (pa_cons (pv 13) pa_nil))) pa_nil)))))))
    pss_nil)))
    (pss_one (ps_expr (pe_bm PySem.F.plainAttrs_list PySem.F.slot_list_append PySem.F.type_list_append mt_append (pv 6) (pa_cons (pe_tup (pa_cons (pe_ix ix_list (pv 2) (pv 4) (fun _ _ => rfl)) (pa_cons (pv 7) (pa_cons (pv 9) (pa_cons (pe_callTy (call_tupA (K := K) rfl) (by rfl) T.f_tuple (by decide +kernel) (pa_cons (pv 10) pa_nil)) pa_nil))))) pa_nil))))))))))
    (C8.pss_cut (ps_if (pt_cmpR op_eq (pc_call C__law_draw (hr.mono (by first | decide | omega)) pass0 (pa_cons (pv 0) (pa_cons pe_int pa_nil))) pe_int (nomark _)) (pss_cons (ps_set (i := 14) sc__law_drawn_tables.nd rfl (Or.inl rfl) (pe_op op_add pe_int (pc_call C__law_draw (hr.mono (by first | decide | omega)) pass0 (pa_cons (pv 0) (pa_cons (pe_op op_sub (pv 1) pe_int) pa_nil)))))
    (pss_one (ps_asg (pe_op op_catA (pe_tup (pa_cons (pe_ix ix_tup (pe_ix ix_list (pv 6) (pc_call C__law_draw (hr.mono (by first | decide | omega)) pass0 (pa_cons (pv 0) (pa_cons (pv 14) pa_nil))) (fun _ _ => rfl)) pe_int (fun _ _ => rfl)) pa_nil)) (pe_slice sl_tupA (pe_ix ix_list (pv 6) (pv 14) (fun _ _ => rfl)) (po_some pe_int) po_none)) (pg_sub (pv 6) (pv 14) set_list))))
    pss_nil)
    (pss_one (ps_ret (pv 6))))))))), ?_⟩
    have szs : ∀ {α : Type} {l : List α} {n : Nat}, l.length = n → n ≤ 1000 → l.length ≤ sizeLine := fun e h => by rw [sizeLine_eq]; omega
    refine ⟨_, rfl, _, rfl, _, _, rfl, rfl, s, c, many + 1, rfl, S, by omega, by omega, fun ln zs H1 nln hl1 lz nd nk S1 e1 => ?_⟩
    have nls := src_neL S1 hl1
    -- kinds
    refine ⟨_, rfl, _, rfl, by omega, by omega, fun lk nlk => ?_⟩
    have nks := S1.apart nlk
    refine lc_it walk_range (fun j H' => Src H' s c ∧ But s H1 H' ∧ ∃ ks : List Int, H' lk = some (.lst (ks.map V.int)) ∧ ks.length = j ∧ ∀ x ∈ ks, 0 ≤ x ∧ x ≤ 6) ⟨S1.new nlk, (But.refl H1).mut nlk, [], upd_same, rfl, fun x h => by cases h⟩ (fun i H' _ q => trivial) ?_ ?_
    · rintro j y H3 H4 hj ⟨S3, e3, ks, hD, lks, kr⟩ ⟨rfl, rfl⟩
      refine ⟨rfl, _, rfl, s, c, 7, rfl, S3, by decide, by decide, fun r H5 a5 b5 S5 e5 => ?_⟩
      have hD5 := e5 _ _ nks.1 hD
      refine ⟨_, hD5, szl (by rw [List.length_map]; omega), S5.put nks.1 nks.2, (e3.trans e5).mut nlk, ks ++ [r], by rw [upd_same, List.map_append]; rfl, by rw [List.length_append, lks]; rfl, fun x hx => ?_⟩
      rcases List.mem_append.mp hx with h | h
      · exact kr x h
      · rw [List.mem_singleton.mp h]
        omega
    rintro H2 ⟨S2, e2, ks, hlk2, lks, kr⟩
    have hln2 := e2 _ _ nls hl1
    -- lists
    refine ⟨_, rfl, _, rfl, by omega, by omega, fun ll nll => ?_⟩
    refine lc_it walk_range (fun j H' => Same H2 H' ∧ ∃ qs : List Str, H' ll = some (.lst (qs.map V.str)) ∧ qs.length ≤ j) ⟨same_new (Same.refl H2) nll, [], upd_same, Nat.le_refl _⟩ (fun i H' _ q => trivial) ?_ ?_
    · rintro j y H3 H4 hj ⟨s3, qs, hD, lq⟩ ⟨rfl, rfl⟩
      obtain ⟨kj, hkj⟩ : ∃ kj, ks[j]? = some kj := ⟨_, List.getElem?_eq_getElem (by omega)⟩
      obtain ⟨zj, hzj⟩ : ∃ zj, zs[j]? = some zj := ⟨_, List.getElem?_eq_getElem (by omega)⟩
      refine ⟨rfl, _, rfl, _, rfl, lk, _, _, _, rfl, rfl, SqL.of (s3 _ _ hlk2), atNat (n := j) (get_map (f := V.int) hkj) (by omega), rfl, _, rfl, ifI (fun _ => ?_) (fun _ => ⟨s3, qs, hD, by omega⟩)⟩
      refine ⟨_, rfl, _, rfl, ln, _, _, _, rfl, rfl, SqL.of (s3 _ _ hln2), atNat (n := j) (get_map (f := V.str) hzj) (by omega), _, hD, szl (by rw [List.length_map]; omega), same_mut s3 nll, qs ++ [zj], by rw [upd_same, List.map_append]; rfl, by rw [List.length_append]; show qs.length + 1 ≤ j + 1; omega⟩
    rintro H3 ⟨s3, qs, hll3, lq⟩
    have S3 := S2.same s3
    have hln3 := s3 _ _ hln2
    have hlk3 := s3 _ _ hlk2
    have nll3 := src_neL S3 hll3
    refine ⟨Nat.zero_le _, fun lt nlt => ?_⟩
    have nts := S3.apart nlt
    have hold : ∀ {H' : Hp}, But s H3 H' → H' ln = some (.lst (zs.map V.str)) ∧ H' lk = some (.lst (ks.map V.int)) ∧ H' ll = some (.lst (qs.map V.str)) := fun e => ⟨e _ _ nls hln3, e _ _ nks.1 hlk3, e _ _ nll3 hll3⟩
    refine ⟨_, rfl, _, rfl, by omega, by omega, ?_⟩
    refine for_range (lo := 0) (n := many.toNat) (fun i σ' H' => ∃ (ts : List TabD) (us : List V) (v4 v7 v8 v9 v10 v11 v12 v13 : Option V), σ' = [some (.ref s), some (.int many), some (.ref ln), some (.ref lk), v4, some (.ref ll), some (.ref lt), v7, v8, v9, v10, v11, v12, v13, none] ∧ Src H' s c ∧ But s H3 H' ∧ H' lt = some (.lst us) ∧ DpAll K H' us (ts.map dTab) ∧ ts.length = i ∧ ts.map TabD.nm = zs.take i ∧ ∀ t ∈ ts, TabG t)
      ⟨[], [], none, none, none, none, none, none, none, none, rfl, S3.new nlt, (But.refl H3).mut nlt, upd_same, .nil, rfl, rfl, fun t h => by cases h⟩ ?_ ?_
    · rintro i σ' H4 hi ⟨ts, us, v4, v7, v8, v9, v10, v11, v12, v13, rfl, S4, e4, hlt4, hd4, lts, hnm, hg⟩
      obtain ⟨hln4, hlk4, hll4⟩ := hold e4
      obtain ⟨ki, hki⟩ : ∃ ki, ks[i]? = some ki := ⟨_, List.getElem?_eq_getElem (by omega)⟩
      obtain ⟨zi, hzi⟩ : ∃ zi, zs[i]? = some zi := ⟨_, List.getElem?_eq_getElem (by omega)⟩
      obtain ⟨k0, k6⟩ := kr ki (List.mem_of_getElem? hki)
      obtain ⟨wd, hwd, w1, w2, hmk⟩ := kind_at k0 k6
      refine ⟨by show 7 ≤ sizeLine; decide, fun q nq => ⟨_, rfl, _, rfl, lk, _, _, _, rfl, rfl, SqL.of (same_new (Same.refl H4) nq _ _ hlk4), atNat (n := i) (get_map (f := V.int) hki) (by omega), q, _, ki, _, rfl, rfl, SqL.of upd_same, hwd, ?_⟩⟩
      have sq4 := same_new (Same.refl H4) (o := .lst [V.int 1, V.int 2, V.int 1, V.int 2, V.int 1, V.int 1, V.int 3]) nq
      refine ⟨_, rfl, s, c, 4, rfl, S4.new nq, by decide, by decide, fun ex H5 a5 b5 S5 e5 => ?_⟩
      have e45 : But s H4 H5 := (But.same sq4).trans e5
      obtain ⟨hln5, hlk5, hll5⟩ := hold (e4.trans e45)
      obtain ⟨mk, hmk, hko⟩ := hmk ex a5 b5
      refine ⟨_, rfl, _, _, rfl, rfl, wide_div (by decide) (b := 2) (by decide) (by decide) (by decide), _, _, rfl, rfl, _, rfl, by show 7 ≤ sizeLine; decide, fun q2 nq2 => ?_⟩
      have sq5 := same_new (Same.refl H5) (o := .lst [V.int 1, V.non, V.non, V.int (1 + ex / 2), V.int 0, V.int 1, V.int ex]) nq2
      refine ⟨_, rfl, _, rfl, lk, _, _, _, rfl, rfl, SqL.of (sq5 _ _ hlk5), atNat (n := i) (get_map (f := V.int) hki) (by omega), q2, _, ki, _, rfl, rfl, SqL.of upd_same, hmk, ?_⟩
      have S5q := S5.new (o := .lst [V.int 1, V.non, V.non, V.int (1 + ex / 2), V.int 0, V.int 1, V.int ex]) nq2
      generalize hH6 : upd H5 q2 (.lst [V.int 1, V.non, V.non, V.int (1 + ex / 2), V.int 0, V.int 1, V.int ex]) = H6 at sq5 S5q
      clear hH6
      have e46 : But s H4 H6 := e45.trans (But.same sq5)
      refine ⟨Nat.zero_le _, fun bl nbl => ?_⟩
      have nbs := S5q.apart nbl
      refine ⟨_, rfl, _, rfl, by omega, by omega, ?_⟩
      refine for_range (lo := 0) (n := wd.toNat) (fun j σ' H' => ∃ (bs : List (Int × Str)) (vs : List V) (v11 v12 v13 : Option V), σ' = [some (.ref s), some (.int many), some (.ref ln), some (.ref lk), some (.int (0 + (i : Int))), some (.ref ll), some (.ref lt), some (.int wd), some (.int ex), some (ptV mk), some (.ref bl), v11, v12, v13, none] ∧ Src H' s c ∧ But s H6 H' ∧ H' bl = some (.lst vs) ∧ DpAll K H' vs (bs.map dTie) ∧ Asc bs ∧ (∀ b ∈ bs, 0 ≤ b.1 ∧ b.1 < (j : Int)) ∧ bs.length ≤ j)
        ⟨[], [], _, _, _, rfl, S5q.new nbl, (But.refl H6).mut nbl, upd_same, .nil, List.Pairwise.nil, fun b h => (by cases h), Nat.le_refl _⟩ ?_ ?_
      · rintro j σ' H7 hj ⟨bs, vs, v11, v12, v13, rfl, S7, e7, hbl7, hd7, has, hbr, lbs⟩
        obtain ⟨hln7, hlk7, hll7⟩ := hold ((e4.trans e46).trans e7)
        have skip : ∀ {H' : Hp}, Src H' s c → But s H7 H' → ∃ (bs : List (Int × Str)) (vs : List V) (w11 w12 w13 : Option V), ([some (.ref s), some (.int many), some (.ref ln), some (.ref lk), some (.int (0 + (i : Int))), some (.ref ll), some (.ref lt), some (.int wd), some (.int ex), some (ptV mk), some (.ref bl), some (.int (0 + (j : Int))), v12, v13, none] : L2.St) = [some (.ref s), some (.int many), some (.ref ln), some (.ref lk), some (.int (0 + (i : Int))), some (.ref ll), some (.ref lt), some (.int wd), some (.int ex), some (ptV mk), some (.ref bl), w11, w12, w13, none] ∧ Src H' s c ∧ But s H6 H' ∧ H' bl = some (.lst vs) ∧ DpAll K H' vs (bs.map dTie) ∧ Asc bs ∧ (∀ b ∈ bs, 0 ≤ b.1 ∧ b.1 < ((j + 1 : Nat) : Int)) ∧ bs.length ≤ j + 1 := fun {H'} S' e' =>
          ⟨bs, vs, _, _, _, rfl, S', e7.trans e', e' _ _ nbs.1 hbl7, dpAll_firm (Firm.but S7 e') (noT bs) hd7, has, fun b hb => by have := hbr b hb; omega, by omega⟩
        apply split (F := fun H' => Src H' s c ∧ But s H7 H')
        · intro suite
          refine ⟨_, rfl, _, rfl, lk, _, _, _, rfl, rfl, SqL.of hlk7, atNat (n := i) (get_map (f := V.int) hki) (by omega), rfl, _, rfl, ifI (fun h => iteT (suite H7 ⟨S7, But.refl H7⟩)) (fun h => ?_)⟩
          refine ⟨_, rfl, _, rfl, lk, _, _, _, rfl, rfl, SqL.of hlk7, atNat (n := i) (get_map (f := V.int) hki) (by omega), rfl, _, rfl, ?_⟩
          by_cases z : ki = 0
          · exact ifF (by rw [z]; rfl) (iteF (skip S7 (But.refl H7)))
          · refine ifT (by show (!decide (V.int ki = V.int 0)) = true; rw [decide_eq_false fun e => z (V.int.inj e)]; rfl) ?_
            refine ⟨_, rfl, s, c, 2, rfl, S7, by decide, by decide, fun r8 H8 a8 b8 S8 e8 => ⟨rfl, _, rfl, ifI (fun h => suite H8 ⟨S8, e8⟩) (fun h => skip S8 e8)⟩⟩
        · rintro H8 ⟨S8, e8⟩
          have e38 := ((e4.trans e46).trans e7).trans e8
          have hbl8 := e8 _ _ nbs.1 hbl7
          refine ⟨_, rfl, s, c, 6, rfl, S8, by decide, by decide, fun pk H9 a9 b9 S9 e9 => ?_⟩
          refine ⟨_, rfl, _, rfl, _, rfl, s, c, many, rfl, S9, by omega, by omega, fun tg H10 a10 b10 S10 e10 => ?_⟩
          have e810 := e9.trans e10
          obtain ⟨hln10, hlk10, hll10⟩ := hold (e38.trans e810)
          obtain ⟨zt, hzt⟩ : ∃ zt, zs[tg.toNat]? = some zt := ⟨_, List.getElem?_eq_getElem (by omega)⟩
          refine ⟨ln, _, tg, _, rfl, rfl, SqL.of hln10, atNat (n := tg.toNat) (get_map (f := V.str) hzt) (by omega), ?_⟩
          refine ⟨fun σ' H' => ∃ z : Str, σ' = [some (.ref s), some (.int many), some (.ref ln), some (.ref lk), some (.int (0 + (i : Int))), some (.ref ll), some (.ref lt), some (.int wd), some (.int ex), some (ptV mk), some (.ref bl), some (.int (0 + (j : Int))), some (.int pk), some (.str z), none] ∧ Src H' s c ∧ But s H8 H', ?_, ?_⟩
          · refine ⟨_, rfl, rfl, _, rfl, ifI (fun h => ?_) (fun h => ?_)⟩
            · obtain ⟨zm, hzm⟩ : ∃ zm, zs[many.toNat]? = some zm := ⟨_, List.getElem?_eq_getElem (by omega)⟩
              exact ⟨_, rfl, _, rfl, ln, _, many, _, rfl, rfl, SqL.of hln10, atNat (n := many.toNat) (get_map (f := V.str) hzm) (by omega), _, rfl, S10, e810⟩
            · refine ⟨_, rfl, rfl, _, rfl, ?_⟩
              by_cases p4 : pk = 4
              · exact ifF (by rw [p4]; rfl) (iteF ⟨zt, rfl, S10, e810⟩)
              · refine ifT (by show (!decide (V.int pk = V.int 4)) = true; rw [decide_eq_false fun e => p4 (V.int.inj e)]; rfl) ⟨_, rfl, ll, _, rfl, .inl (SqL.of hll10), _, _, rfl, rfl, _, rfl, ifB (fun h => ?_) (fun _ => ⟨zt, rfl, S10, e810⟩)⟩
                have hl : (0 : Int) < ((qs.map V.str).length : Int) := of_decide_eq_true h
                have lqm : (qs.map V.str).length = qs.length := List.length_map _
                refine ⟨_, rfl, _, rfl, _, rfl, ll, _, rfl, .inl (SqL.of hll10), s, c, _, rfl, S10, hl, by omega, fun rr H11 a11 b11 S11 e11 => ?_⟩
                obtain ⟨zq, hzq⟩ : ∃ zq, qs[rr.toNat]? = some zq := ⟨_, List.getElem?_eq_getElem (by omega)⟩
                exact ⟨ll, _, rr, _, rfl, rfl, SqL.of (e11 _ _ nll3 hll10), atNat (n := rr.toNat) (get_map (f := V.str) hzq) (by omega), zq, rfl, S11, e810.trans e11⟩
          · rintro σ' H11 ⟨z, rfl, S11, e11⟩
            have hbl11 := e11 _ _ nbs.1 hbl8
            refine ⟨_, rfl, .inl ⟨rfl, _, SqL.of hbl11⟩, _, rfl, _, rfl, by show 2 ≤ sizeLine; decide, fun t' nt' => ?_⟩
            have s12 := same_new (Same.refl H11) (o := .tup [V.int (0 + (j : Int)), V.str z]) nt'
            have d12 : Dp K (upd H11 t' (.tup [V.int (0 + (j : Int)), V.str z])) (.ref t') (dTie (0 + (j : Int), z)) := .tup (SqT.of upd_same) (.cons (.int _) (.cons (.str _) .nil))
            have S12 := S11.new (o := .tup [V.int (0 + (j : Int)), V.str z]) nt'
            generalize upd H11 t' (.tup [V.int (0 + (j : Int)), V.str z]) = H12 at s12 d12 S12
            have hbl12 := s12 _ _ hbl11
            have hd12 := dpAll_firm ((Firm.but S7 (e8.trans e11)).trans (Firm.same s12)) (noT bs) hd7
            have lvs := dp_len hd7
            rw [List.length_map] at lvs
            refine ⟨bl, _, _, rfl, rfl, hbl12, szl (by omega), bs ++ [(0 + (j : Int), z)], vs ++ [.ref t'], _, _, _, rfl, S12.put nbs.1 nbs.2, (((e7.trans e8).trans e11).trans (But.same s12)).mut nbl, upd_same, ?_, ?_, ?_, ?_⟩
            · rw [List.map_append]
              exact dpAll_firm (Firm.lst hbl12) noL_ties (dpAll_snoc d12 hd12)
            · unfold Asc
              rw [List.pairwise_append]
              refine ⟨has, List.pairwise_singleton _ _, fun a ha b hb => ?_⟩
              rw [List.mem_singleton.mp hb]
              have := hbr a ha
              show a.1 < 0 + (j : Int)
              omega
            · intro b hb
              rcases List.mem_append.mp hb with h | h
              · have := hbr b h
                omega
              · rw [List.mem_singleton.mp h]
                show 0 ≤ 0 + (j : Int) ∧ 0 + (j : Int) < ((j + 1 : Nat) : Int)
                omega
            · rw [List.length_append]
              show bs.length + 1 ≤ j + 1
              omega
      · rintro σ' H7 ⟨bs, vs, v11, v12, v13, rfl, S7, e7, hbl7, hd7, has, hbr, lbs⟩
        have e37 := (e4.trans e46).trans e7
        obtain ⟨hln7, hlk7, hll7⟩ := hold e37
        have hlt7 := (e46.trans e7) _ _ nts.1 hlt4
        have ltu := dp_len hd4
        rw [List.length_map] at ltu
        refine ⟨_, rfl, .inl ⟨rfl, _, SqL.of hlt7⟩, _, rfl, _, rfl, ln, _, _, _, rfl, rfl, SqL.of hln7, atNat (n := i) (get_map (f := V.str) hzi) (by omega), _, rfl, _, rfl, _, rfl, bl, _, rfl, .inl (SqL.of hbl7), fun p H8 hp s8 => ⟨by show 4 ≤ sizeLine; decide, fun t' nt' => ?_⟩⟩
        have s9 := same_new (Same.refl H8) (o := .tup [V.str zi, V.int wd, ptV mk, V.ref p]) nt'
        have d9 : Dp K (upd H8 t' (.tup [V.str zi, V.int wd, ptV mk, V.ref p])) (.ref t') (dTab ⟨zi, wd, mk, bs⟩) := dp_tabMk (t := ⟨zi, wd, mk, bs⟩) (SqT.of upd_same) (.tup (same_tup s9 hp) (dpAll_same (fun b o e => s9 _ _ (s8 _ _ e)) hd7))
        have S9 := (S7.same s8).new (o := .tup [V.str zi, V.int wd, ptV mk, V.ref p]) nt'
        generalize upd H8 t' (.tup [V.str zi, V.int wd, ptV mk, V.ref p]) = H9 at s9 d9 S9
        have s79 : Same H7 H9 := fun b o e => s9 _ _ (s8 _ _ e)
        have hlt9 := s79 _ _ hlt7
        have hd9 := dpAll_firm ((Firm.but S4 (e46.trans e7)).trans (Firm.same s79)) (noL_tabs ts) hd4
        refine ⟨lt, _, _, rfl, rfl, hlt9, szl (by omega), ts ++ [⟨zi, wd, mk, bs⟩], us ++ [.ref t'], _, _, _, _, _, _, _, _, rfl, S9.put nts.1 nts.2, (e37.trans (But.same s79)).mut nlt, upd_same, ?_, ?_, ?_, ?_⟩
        · rw [List.map_append]
          exact dpAll_firm (Firm.lst hlt9) noL_tabs2 (dpAll_snoc d9 hd9)
        · rw [List.length_append, lts]
          rfl
        · rw [List.map_append, hnm, take_get hzi]
          rfl
        · intro t ht
          rcases List.mem_append.mp ht with h | h
          · exact hg t h
          · rw [List.mem_singleton.mp h]
            exact ⟨nk zi (List.mem_of_getElem? hzi), w1, w2, hko, has, fun b hb => by have := hbr b hb; show 0 ≤ b.1 ∧ b.1 < wd; omega⟩
    · rintro σ' H4 ⟨ts, us, v4, v7, v8, v9, v10, v11, v12, v13, rfl, S4, e4, hlt4, hd4, lts, hnm, hg⟩
      have e03 : But s H H3 := (e1.trans e2).trans (But.same s3)
      have nltH := e03.free nts.1 nlt
      have ltu := dp_len hd4
      rw [List.length_map] at ltu
      have ndn : (ts.map TabD.nm).Nodup := by
        rw [hnm]
        exact nd.sublist (List.take_sublist _ _)
      refine ⟨fun σ' H' => ∃ (ts : List TabD) (us : List V) (v14 : Option V), σ' = [some (.ref s), some (.int many), some (.ref ln), some (.ref lk), v4, some (.ref ll), some (.ref lt), v7, v8, v9, v10, v11, v12, v13, v14] ∧ Src H' s c ∧ But s H3 H' ∧ H' lt = some (.lst us) ∧ DpAll K H' us (ts.map dTab) ∧ ts.length = many.toNat ∧ (∀ t ∈ ts, TabG t) ∧ Dup1 (ts.map TabD.nm), ?_, ?_⟩
      · refine ⟨_, rfl, s, c, 8, rfl, S4, by decide, by decide, fun r5 H5 a5 b5 S5 e5 => ⟨rfl, _, rfl, ifI (fun h => ?_) (fun h => ?_)⟩⟩
        · refine ⟨_, rfl, _, rfl, _, _, rfl, rfl, s, c, _, rfl, S5, by omega, by omega, fun r6 H6 a6 b6 S6 e6 => ⟨_, _, rfl, rfl, ?_⟩⟩
          refine ⟨_, rfl, _, rfl, _, rfl, s, c, _, rfl, S6, by omega, by omega, fun r7 H7 a7 b7 S7 e7 => ?_⟩
          have e47 := (e5.trans e6).trans e7
          have hlt7 := e47 _ _ nts.1 hlt4
          have hd7 := dpAll_firm (Firm.but S4 e47) (noL_tabs ts) hd4
          obtain ⟨t1, ht1⟩ : ∃ t1, ts[r7.toNat]? = some t1 := ⟨_, List.getElem?_eq_getElem (by omega)⟩
          obtain ⟨t2, ht2⟩ : ∃ t2, ts[(1 + r6).toNat]? = some t2 := ⟨_, List.getElem?_eq_getElem (by omega)⟩
          obtain ⟨x1, hx1, dx1⟩ := dp_get hd7 (get_map (f := dTab) ht1)
          obtain ⟨x2, hx2, dx2⟩ := dp_get hd7 (get_map (f := dTab) ht2)
          obtain ⟨tt1, b1, rfl, htt1, htb1⟩ := dp_tabInv dx1
          obtain ⟨tt2, b2, rfl, htt2, htb2⟩ := dp_tabInv dx2
          refine ⟨lt, us, r7, _, rfl, rfl, SqL.of hlt7, atNat (n := r7.toNat) hx1 (by omega), tt1, _, 0, _, rfl, rfl, htt1, rfl, by show 1 ≤ sizeLine; decide, fun p1 np1 => ?_⟩
          have s8 := same_new (Same.refl H7) (o := .tup [V.str t1.nm]) np1
          have S8 := S7.new (o := .tup [V.str t1.nm]) np1
          have hp1 : (upd H7 p1 (.tup [V.str t1.nm])) p1 = some (.tup [V.str t1.nm]) := upd_same
          generalize upd H7 p1 (.tup [V.str t1.nm]) = H8 at s8 S8 hp1
          refine ⟨_, rfl, _, rfl, lt, us, _, _, rfl, rfl, SqL.of (s8 _ _ hlt7), atNat (n := (1 + r6).toNat) hx2 (by omega), 1, rfl, ?_⟩
          delta tNoPart
          show rSlA K (.ref tt2) (some 1) none H8 _
          refine slA (same_tup s8 htt2) fun p2 H9 hp2 s9 => catA (SqT.of (s9 _ _ hp1)) hp2 (by show 1 + 3 ≤ 100000; decide) fun p3 H10 hp3 s10 => ?_
          have s710 : Same H7 H10 := fun b o e => s10 _ _ (s9 _ _ (s8 _ _ e))
          have hlt10 := s710 _ _ hlt7
          have hix : ixN us.length (1 + r6) = some (1 + r6).toNat := by
            unfold ixN
            rw [if_pos (by omega), if_pos (by omega)]
          have S10 := S7.same s710
          have d10 : Dp K H10 (.ref p3) (dTab ⟨t1.nm, t2.wd, t2.ky, t2.bs⟩) := dp_tabMk (t := ⟨t1.nm, t2.wd, t2.ky, t2.bs⟩) hp3 (dp_same s710 htb2)
          refine ⟨_, rfl, _, rfl, lt, us, _, (1 + r6).toNat, rfl, rfl, hlt10, hix, ts.set (1 + r6).toNat ⟨t1.nm, t2.wd, t2.ky, t2.bs⟩, us.set (1 + r6).toNat (.ref p3), _, rfl, S10.put nts.1 nts.2, ((e4.trans e47).trans (But.same s710)).mut nlt, upd_same, ?_, ?_, ?_, ?_⟩
          · rw [List.map_set]
            refine dpAll_firm (n := 5) (Firm.lst hlt10) ?_ (dpAll_set _ d10 (dpAll_same s710 hd7))
            rw [← List.map_set]
            exact noL_tabs _
          · rw [List.length_set, lts]
          · intro t ht
            rcases List.mem_or_eq_of_mem_set ht with h | h
            · exact hg t h
            · have g1 := hg t1 (List.mem_of_getElem? ht1)
              have g2 := hg t2 (List.mem_of_getElem? ht2)
              rw [h]
              exact ⟨g1.n, g2.w1, g2.w2, g2.k, g2.a, g2.r⟩
          · refine .inr ⟨ts.map TabD.nm, (1 + r6).toNat, r7.toNat, t1.nm, ndn, by rw [List.getElem?_map, ht1]; rfl, by omega, by rw [List.length_map]; omega, ?_⟩
            rw [List.map_set]
        · exact ⟨ts, us, _, rfl, S5, e4.trans e5, e5 _ _ nts.1 hlt4, dpAll_firm (Firm.but S4 e5) (noL_tabs ts) hd4, lts, hg, .inl ndn⟩
      · rintro σ' H5 ⟨ts, us, v14, rfl, S5, e5, hlt5, hd5, lts, hg, hdu⟩
        exact ⟨_, rfl, k lt us ts H5 nltH hlt5 hd5 lts hg hdu S5 (e03.trans e5)⟩
end
theorem srt_asc {bs : List (Int × Str)} (h : Asc bs) : srt bs = bs := by
  have hp : bs.Pairwise fun a b => tieLe a b = true := h.imp fun h => tieLe_iff.mpr (.inl h)
  refine List.Perm.eq_of_pairwise (le := fun a b => tieLe a b = true) (fun a b _ _ h h' => ?_) (List.pairwise_mergeSort tieLe_trans tieLe_total bs) hp (srt_perm bs)
  rw [tieLe_iff] at h h'
  rcases h with h | ⟨h1, h2⟩
  · rcases h' with h' | ⟨h', _⟩ <;> omega
  · rcases h' with h' | ⟨q1, q2⟩
    · omega
    · exact Prod.ext h1 (str_ext (List.le_antisymm h2 q2))
theorem asc_nd {bs : List (Int × Str)} (h : Asc bs) : (bs.map Prod.fst).Nodup := by
  unfold List.Nodup
  rw [List.pairwise_map]
  exact h.imp fun h e => by omega
theorem cols_len3 {w : Int} {bs : List (Int × Str)} (hw : w ≤ 3) (nd : (bs.map Prod.fst).Nodup) (h : ∀ b ∈ bs, 0 ≤ b.1 ∧ b.1 < w) : bs.length ≤ 3 := by
  have := pigeon (bs.map Prod.fst) [0, 1, 2] nd fun x hx => by
    obtain ⟨b, hb, rfl⟩ := List.mem_map.mp hx
    have := h b hb
    have : b.1 = 0 ∨ b.1 = 1 ∨ b.1 = 2 := by omega
    rcases this with e | e | e <;> rw [e] <;> decide
  rw [List.length_map] at this
  exact this
theorem TabG.len {t : TabD} (h : TabG t) : t.bs.length ≤ 3 := cols_len3 h.w2 (asc_nd h.a) h.r
theorem TabG.v {ts : List TabD} (h : ∀ t ∈ ts, TabG t) : TabsV ts := fun t ht => ⟨(h t ht).n, tabOk_iff.mpr ⟨(h t ht).w1, (h t ht).w2, (h t ht).k, asc_nd (h t ht).a, (h t ht).r⟩, by have := (h t ht).len; omega⟩
theorem TabG.s {ts : List TabD} (h : ∀ t ∈ ts, TabG t) : ∀ t ∈ ts, srt t.bs = t.bs ∧ t.bs.length ≤ 100 := fun t ht => ⟨srt_asc (h t ht).a, by have := (h t ht).len; omega⟩
def sumB : List TabD → Nat
  | [] => 0
  | t :: r => t.bs.length + sumB r
theorem sumB_app : ∀ a b : List TabD, sumB (a ++ b) = sumB a + sumB b
  | [], b => by show sumB b = 0 + sumB b; omega
  | t :: r, b => by
    show t.bs.length + sumB (r ++ b) = t.bs.length + sumB r + sumB b
    rw [sumB_app r b]
    omega
theorem sumB_le : ∀ ts : List TabD, (∀ t ∈ ts, TabG t) → sumB ts ≤ 3 * ts.length
  | [], _ => Nat.zero_le _
  | t :: r, h => by
    have h1 := (h t List.mem_cons_self).len
    have h2 := sumB_le r fun u hu => h u (List.mem_cons_of_mem _ hu)
    show t.bs.length + sumB r ≤ 3 * (r.length + 1)
    omega
def wt (ts : List TabD) : Nat := (if (ts.map TabD.nm).Nodup then 0 else 1) + sumB ts
theorem cut_at {α : Type} {l : List α} {n : Nat} {a : α} (h : l[n]? = some a) : l = l.take n ++ [a] ++ l.drop (n + 1) := by
  rw [List.append_assoc, List.singleton_append, ← drop_get h, List.take_append_drop]
theorem set_at {α : Type} {l : List α} {n : Nat} (h : n < l.length) (b : α) : l.take n ++ [b] ++ l.drop (n + 1) = l.set n b := by
  rw [List.set_eq_take_append_cons_drop, if_pos h, List.append_assoc]
  rfl
theorem nd_get {α : Type} {l : List α} (nd : l.Nodup) {i j : Nat} {a : α} (hi : l[i]? = some a) (hj : l[j]? = some a) : i = j := by
  obtain ⟨li, hi⟩ := List.getElem?_eq_some_iff.mp hi
  obtain ⟨lj, hj⟩ := List.getElem?_eq_some_iff.mp hj
  unfold List.Nodup at nd
  rw [List.pairwise_iff_getElem] at nd
  rcases Nat.lt_trichotomy i j with h | h | h
  · exact absurd (hi.trans hj.symm) (nd i j li lj h)
  · exact h
  · exact absurd (hj.trans hi.symm) (nd j i lj li h)
theorem nd_set {α : Type} {l : List α} (nd : l.Nodup) {n : Nat} {b : α} (hb : ∀ i, i ≠ n → l[i]? ≠ some b) : (l.set n b).Nodup := by
  unfold List.Nodup
  rw [List.pairwise_iff_getElem]
  intro i j hi hj hij e
  rw [List.length_set] at hi hj
  rw [List.getElem_set, List.getElem_set] at e
  by_cases h1 : n = i
  · rw [if_pos h1, if_neg (by omega)] at e
    exact hb j (by omega) (by rw [List.getElem?_eq_getElem hj, e])
  · rw [if_neg h1] at e
    by_cases h2 : n = j
    · rw [if_pos h2] at e
      exact hb i (by omega) (by rw [List.getElem?_eq_getElem hi, e])
    · rw [if_neg h2] at e
      unfold List.Nodup at nd
      rw [List.pairwise_iff_getElem] at nd
      exact nd i j hi hj hij e
/-- the first name that stands twice stands where it was put -/
theorem dup_place {ns : List Str} (h : Dup1 ns) {n : Nat} {z : Str} (hz : ns[n]? = some z) (hm : z ∈ ns.take n) {y : Str} (hy : y ∉ ns) : (ns.set n y).Nodup := by
  obtain ⟨i, hi⟩ := List.getElem?_of_mem hm
  rw [List.getElem?_take] at hi
  have hin : i < n := by
    by_cases h : i < n
    · exact h
    · rw [if_neg h] at hi
      cases hi
  rw [if_pos hin] at hi
  rcases h with nd | ⟨base, n0, m, z0, nd, hm0, hmn, hn0, rfl⟩
  · have := nd_get nd hi hz
    omega
  · have en : n = n0 := by
      refine Decidable.byContradiction fun hne => ?_
      rw [List.getElem?_set_ne (by omega)] at hz
      by_cases hi0 : n0 = i
      · subst hi0
        rw [List.getElem?_set_self hn0] at hi
        cases hi
        have := nd_get nd hz hm0
        omega
      · rw [List.getElem?_set_ne hi0] at hi
        have := nd_get nd hz hi
        omega
    subst en
    rw [List.set_set]
    refine nd_set nd fun i hin e => hy ?_
    have : (base.set n z0)[i]? = some y := by rw [List.getElem?_set_ne (by omega)]; exact e
    exact List.mem_of_getElem? this
theorem mend_step {ts : List TabD} {f : Flt} {k j : Int} {z : Str} (hg : ∀ t ∈ ts, TabG t) (hd : Dup1 (ts.map TabD.nm)) (hp : PlaceOf ts f k j) (nz : nameOk z = true) (hz : z ∉ ts.map TabD.nm) :
    ∃ (n : Nat) (t : TabD), k = (n : Int) ∧ ts[n]? = some t ∧ -1 ≤ j ∧ j < t.bs.length ∧ t.bs.length ≤ 100 ∧ (∀ u ∈ ts.take n ++ [mendT t j z] ++ ts.drop (n + 1), TabG u) ∧ Dup1 ((ts.take n ++ [mendT t j z] ++ ts.drop (n + 1)).map TabD.nm) ∧
      (ts.take n ++ [mendT t j z] ++ ts.drop (n + 1)).length = ts.length ∧ wt (ts.take n ++ [mendT t j z] ++ ts.drop (n + 1)) + 1 ≤ wt ts := by
  have key : ∀ (n : Nat) (t : TabD), ts[n]? = some t → TabG (mendT t j z) → (∀ u ∈ ts.take n ++ [mendT t j z] ++ ts.drop (n + 1), TabG u) ∧ (ts.take n ++ [mendT t j z] ++ ts.drop (n + 1)).length = ts.length ∧ (ts.take n ++ [mendT t j z] ++ ts.drop (n + 1)).map TabD.nm = (ts.map TabD.nm).set n (mendT t j z).nm ∧ sumB (ts.take n ++ [mendT t j z] ++ ts.drop (n + 1)) + t.bs.length = sumB ts + (mendT t j z).bs.length := by
    intro n t ht g
    have hn := (List.getElem?_eq_some_iff.mp ht).1
    refine ⟨fun u hu => ?_, ?_, ?_, ?_⟩
    · rw [set_at hn] at hu
      rcases List.mem_or_eq_of_mem_set hu with h | h
      · exact hg u h
      · rw [h]
        exact g
    · rw [set_at hn, List.length_set]
    · rw [set_at hn, List.map_set]
    · have e := congrArg sumB (cut_at ht)
      rw [sumB_app, sumB_app] at e
      rw [e, sumB_app, sumB_app]
      show _ + (_ + 0) + _ + _ = _ + (_ + 0) + _ + _
      omega
  rcases hp with ⟨n, t, rfl, rfl, ht, rfl, hm, hnd⟩ | ⟨n, m, t, b, rfl, rfl, ht, hb, hnd⟩
  · have em : mendT t (-1) z = ⟨z, t.wd, t.ky, t.bs⟩ := if_pos (by decide)
    have gt := hg t (List.mem_of_getElem? ht)
    obtain ⟨a1, a2, a3, a4⟩ := key n t ht (by rw [em]; exact ⟨nz, gt.w1, gt.w2, gt.k, gt.a, gt.r⟩)
    have hnn : (ts.map TabD.nm)[n]? = some t.nm := by rw [List.getElem?_map, ht]; rfl
    have nd' : ((ts.map TabD.nm).set n z).Nodup := dup_place hd hnn (by rw [← List.map_take]; exact hm) hz
    refine ⟨n, t, rfl, ht, by decide, by omega, by have := gt.len; omega, a1, ?_, a2, ?_⟩
    · rw [a3, em]
      exact .inl nd'
    · have hnot : ¬(ts.map TabD.nm).Nodup := fun nd => by
        obtain ⟨i, hi⟩ := List.getElem?_of_mem (show t.nm ∈ (ts.map TabD.nm).take n by rw [← List.map_take]; exact hm)
        rw [List.getElem?_take] at hi
        by_cases h : i < n
        · rw [if_pos h] at hi
          have := nd_get nd hi hnn
          omega
        · rw [if_neg h] at hi
          cases hi
      unfold wt
      rw [a3, em, if_pos nd', if_neg hnot]
      rw [em] at a4
      have a4 : sumB (ts.take n ++ [(⟨z, t.wd, t.ky, t.bs⟩ : TabD)] ++ ts.drop (n + 1)) + t.bs.length = sumB ts + t.bs.length := a4
      omega
  · have em : mendT t (m : Int) z = ⟨t.nm, t.wd, t.ky, t.bs.take m ++ t.bs.drop (m + 1)⟩ := by
      unfold mendT
      rw [if_neg (by omega), Int.toNat_natCast]
    have gt := hg t (List.mem_of_getElem? ht)
    have hml := (List.getElem?_eq_some_iff.mp hb).1
    have sub : (t.bs.take m ++ t.bs.drop (m + 1)).Sublist t.bs := by
      have e := cut_at hb
      rw [List.append_assoc] at e
      conv => rhs; rw [e]
      exact List.Sublist.append_left (List.sublist_cons_self _ _) _
    obtain ⟨a1, a2, a3, a4⟩ := key n t ht (by rw [em]; exact ⟨gt.n, gt.w1, gt.w2, gt.k, gt.a.sublist sub, fun x hx => gt.r x (sub.subset hx)⟩)
    have hnn : (ts.map TabD.nm)[n]? = some t.nm := by rw [List.getElem?_map, ht]; rfl
    have hn := (List.getElem?_eq_some_iff.mp hnn).1
    have same : (ts.map TabD.nm).set n t.nm = ts.map TabD.nm := by
      have := (List.getElem?_eq_some_iff.mp hnn).2
      rw [← this, List.set_getElem_self]
    refine ⟨n, t, rfl, ht, by omega, by omega, by have := gt.len; omega, a1, ?_, a2, ?_⟩
    · rw [a3, em]
      show Dup1 ((ts.map TabD.nm).set n t.nm)
      rw [same]
      exact .inl hnd
    · unfold wt
      rw [a3, em]
      show (if ((ts.map TabD.nm).set n t.nm).Nodup then 0 else 1) + _ + 1 ≤ _
      rw [same, if_pos hnd]
      rw [em] at a4
      have l : (t.bs.take m ++ t.bs.drop (m + 1)).length + 1 = t.bs.length := by
        rw [List.length_append, List.length_take, List.length_drop]
        omega
      have a4 : sumB (ts.take n ++ [(⟨t.nm, t.wd, t.ky, t.bs.take m ++ t.bs.drop (m + 1)⟩ : TabD)] ++ ts.drop (n + 1)) + t.bs.length = sumB ts + (t.bs.take m ++ t.bs.drop (m + 1)).length := a4
      omega
theorem wt_le {ts : List TabD} (h : ∀ t ∈ ts, TabG t) (h4 : ts.length ≤ 4) : wt ts ≤ 13 := by
  have := sumB_le ts h
  unfold wt
  split <;> omega
theorem okD_flt (f : Flt) : okD 5 f.d = true := by cases f <;> rfl
def spLaw (K : PySem.W.Frag) : Sp := fun vs H Q _ => ∃ (a : Addr) (ns : List Int), vs = [.ref a] ∧ SqL K H a (ns.map V.int) ∧ ∀ H', Q (.bl true) H'
section
variable {P : Program} {w : World} {K : PySem.W.Frag} {mg : Str → Option Value} {base : Heap}
theorem ok_law (T : Txt K mg) (hP : PrOk P file) {fd : FuncData} (F : FunD K d_law.name d_law.qual (defArgs s_law) (defBody s_law) (defScope s_law) (d_law.dvs K) (d_law.kws K) (He.fAd K d_law.at_) fd) : FnOk P w K mg base CX0 12 (He.ga K "law") fd P_law (spLaw K) := by
  have C__law_source := ok_source (P := P) (w := w) (base := base) T
  have C__law_draw := ok_draw (P := P) (w := w) (base := base) T
  have C__law_name := ok_nameK (P := P) (w := w) (base := base) T
  have C__law_drawn_tables := ok_drawnT (P := P) (w := w) (base := base) T
  have C__law_first_fault := ok_ff (P := P) (w := w) (base := base) T
  have C__law_tried := ok_triedS (P := P) (w := w) (base := base) T hP
  have C__law_shows := ok_shows (P := P) (w := w) (base := base) T
  have C__law_same := ok_same (P := P) (w := w) (base := base) T 5
  have C__law_mended := ok_mend (P := P) (w := w) (base := base) T
  refine F.ok sc_law (fun vs H Q E h => ?_) (fun cdv A outer s0 H vs Q E hr h => ?_)
  · obtain ⟨a, ns, rfl, _⟩ := h
    rfl
  · obtain ⟨a, ns, rfl, hS, k⟩ := h
    refine ⟨_, PSs.nox (pss_cons (ps_set (i := 1) sc_law.nd rfl (Or.inl rfl) (pc_call C__law_source (hr.mono (by first | decide | omega)) pass0 (pa_cons (pv 0) pa_nil)))
    (pss_cons (ps_set (i := 2) sc_law.nd rfl (Or.inl rfl) (pe_cmpR op_eq (pc_call C__law_draw (hr.mono (by first | decide | omega)) pass0 (pa_cons (pv 1) (pa_cons pe_int pa_nil))) pe_int (nomark _)))
    (pss_cons (ps_set (i := 3) sc_law.nd rfl (Or.inl rfl) (pc_call C__law_drawn_tables (hr.mono (by first | decide | omega)) pass0 (pa_cons (pv 1) (pa_cons (pe_op op_add pe_int (pc_call C__law_draw (hr.mono (by first | decide | omega)) pass0 (pa_cons (pv 1) (pa_cons pe_int pa_nil)))) pa_nil))))
    (pss_cons (ps_for PassesOwn.never rfl (pi_range1 (by rfl) T.f_range (pa_cons pe_int pa_nil)) (pg_name (i := 4) sc_law.nd rfl (Or.inl rfl))
    (pss_cons (ps_set (i := 5) sc_law.nd rfl (Or.inl rfl) (pc_call C__law_first_fault (hr.mono (by first | decide | omega)) pass0 (pa_cons (pv 3) pa_nil)))
    (pss_cons (ps_set (i := 6) sc_law.nd rfl (Or.inl rfl) (pc_call C__law_tried (hr.mono (by first | decide | omega)) pass0 (pa_cons (pv 3) (pa_cons (pv 2) pa_nil))))
    (pss_cons (ps_if (pt_cmpR op_isN (pv 5) pe_non (nomark _)) (pss_one (ps_ret (pe_and (pe_cmpR op_notN (pe_ix ix_list (pv 6) pe_int (fun _ _ => rfl)) pe_non (nomark _)) (pe_one (pc_call C__law_shows (hr.mono (by first | decide | omega)) pass0 (pa_cons (pe_ix ix_list (pv 6) pe_int (fun _ _ => rfl)) (pa_cons (pv 3) pa_nil)))))))
    pss_nil)
    (pss_cons (ps_if (PW.pt (pw_or (pt_cmpR op_notN (pe_ix ix_list (pv 6) pe_int (fun _ _ => rfl)) pe_non (nomark _)) (pw_or1 (pt_not (pt_val (pc_call C__law_same (hr.mono (by first | decide | omega)) pass0 (pa_cons (pe_ix ix_list (pv 6) pe_int (fun _ _ => rfl)) (pa_cons (pe_ix ix_list (pv 5) pe_int (fun _ _ => rfl)) pa_nil)))))))) (pss_one (ps_ret pe_bl))
    pss_nil)
    (pss_one (ps_set (i := 3) sc_law.nd rfl (Or.inl rfl) (pc_call C__law_mended (hr.mono (by first | decide | omega)) pass0 (pa_cons (pv 3) (pa_cons (pv 5) (pa_cons (pc_call C__law_name (hr.mono (by first | decide | omega)) pass0 (pa_cons (pv 1) (pa_cons (pe_lc (own := [("t", 7)]) (g := (gName 7)) (tt := tYes) rfl sc_law.nd (pi_list (pv 3)) (blkOk_by (N := N_law) (sc := defScope s_law) (by decide +kernel)) (fun _ _ _ _ _ => (pg_name (i := 7) sc_law.nd rfl (Or.inl rfl))) (fun _ _ _ _ _ => pts_nil) (fun _ _ _ _ _ => (pe_ix (ix_tupK (K := K) rfl) (pv 7) pe_int (fun _ _ => rfl)))) pa_nil))) pa_nil)))))))))))
    (pss_one (ps_ret pe_bl)))))), ?_⟩
    refine ⟨_, rfl, a, ns, rfl, hS, fun s c H1 _ _ S1 _ => ?_⟩
    refine ⟨_, rfl, s, c, 2, rfl, S1, by decide, by decide, fun r2 H2 a2 b2 S2 _ => ⟨rfl, ?_⟩⟩
    generalize decide (V.int r2 = V.int 1) = tn
    refine ⟨_, rfl, _, rfl, s, c, 3, rfl, S2, by decide, by decide, fun r3 H3 a3 b3 S3 _ => ⟨_, _, rfl, rfl, ?_⟩⟩
    refine ⟨s, c, _, rfl, S3, by omega, by omega, fun l0 us0 ts0 H4 _ hl4 hd4 lt4 hg4 hn4 S4 _ => ?_⟩
    refine ⟨20, rfl, by decide, by decide, ?_⟩
    refine for_range (lo := 0) (n := 20) (fun i σ' H' => ∃ (l : Addr) (us : List V) (ts : List TabD) (v4 v5 v6 v7 : Option V), σ' = [some (.ref a), some (.ref s), some (.bl tn), some (.ref l), v4, v5, v6, v7] ∧ Src H' s c ∧ H' l = some (.lst us) ∧ DpAll K H' us (ts.map dTab) ∧ 2 ≤ ts.length ∧ ts.length ≤ 4 ∧ (∀ t ∈ ts, TabG t) ∧ Dup1 (ts.map TabD.nm) ∧ wt ts + i ≤ 13)
      ⟨l0, us0, ts0, _, _, _, _, rfl, S4, hl4, hd4, by omega, by omega, hg4, hn4, by have := wt_le hg4 (by omega); omega⟩ ?_ ?_
    · rintro i σ' H5 hi ⟨l, us, ts, v4, v5, v6, v7, rfl, S5, hl5, hd5, l2, l4, hg, hn, hw⟩
      have ns5 := src_neL S5 hl5
      refine ⟨_, rfl, l, us, ts, rfl, SqL.of hl5, hd5, by omega, TabG.s hg, fun hf H6 s6 => ?_, fun f k j r m H6 hf hp s6 hr6 hm6 => ?_⟩
      · refine ⟨_, rfl, _, rfl, l, us, ts, tn, rfl, same_lst s6 (SqL.of hl5), dpAll_same s6 hd5, TabG.v hg, by omega, l4, fun f hf' => (by rw [hf] at hf'; cases hf'), fun _ r x L H7 s7 hL ix hr7 => ?_⟩
        refine ⟨_, rfl, rfl, _, rfl, iteT ?_⟩
        have s57 : Same H5 H7 := fun b o e => s7 _ _ (s6 _ _ e)
        refine ⟨_, rfl, r, _, 0, _, rfl, rfl, SqL.of hr7, rfl, rfl, _, rfl, iteT ?_⟩
        exact ⟨_, rfl, r, _, 0, _, rfl, rfl, SqL.of hr7, rfl, _, rfl, x, l, L, us, rfl, ix, same_lst s57 (SqL.of hl5), by rw [hL]; exact dpAll_same s57 hd5, fun q hq => TabG.s hg q.2 (by rw [← hL]; exact List.mem_map_of_mem hq), by have := congrArg List.length hL; rw [List.length_map] at this; omega, fun H8 _ => k H8⟩
      · refine ⟨_, rfl, _, rfl, l, us, ts, tn, rfl, same_lst s6 (SqL.of hl5), dpAll_same s6 hd5, TabG.v hg, by omega, l4, fun f' hf' r7 m7 H7 s7 hr7 hm7 => ?_, fun hf' => (by rw [hf] at hf'; cases hf')⟩
        rw [hf] at hf'
        cases hf'
        have s57 : Same H5 H7 := fun b o e => s7 _ _ (s6 _ _ e)
        refine ⟨_, rfl, rfl, _, rfl, iteF ?_⟩
        refine ⟨_, rfl, r7, _, 0, _, rfl, rfl, SqL.of hr7, rfl, rfl, _, rfl, iteF ?_⟩
        refine ⟨_, rfl, r7, _, 1, _, rfl, rfl, SqL.of hr7, rfl, _, rfl, r, _, 0, _, rfl, rfl, SqL.of (s7 _ _ hr6), rfl, _, _, f.d, rfl, hm7, dp_same s7 hm6, okD_flt f, _, rfl, iteF ?_⟩
        refine ⟨_, rfl, _, rfl, _, rfl, _, rfl, l, rfl, ⟨_, SqL.of (s57 _ _ hl5)⟩, fun D nD => ?_⟩
        have hl7 := s57 _ _ hl5
        have lu := dp_len hd5
        rw [List.length_map] at lu
        have S7 := S5.same s57
        refine lc_it (walk_list (xs := us)) (fun j H' => Same H7 H' ∧ H' D = some (.lst ((ts.take j).map fun t => V.str t.nm))) ⟨same_new (Same.refl H7) nD, upd_same⟩ (fun j H' _ q => same_lst q.1 (SqL.of hl7)) ?_ ?_
        · rintro j y _ H8 hj ⟨s8, hD⟩ ⟨rfl, hy⟩
          obtain ⟨t, hti⟩ : ∃ t, ts[j]? = some t := ⟨_, List.getElem?_eq_getElem (by omega)⟩
          obtain ⟨v, hv2, dv⟩ := dp_get (dpAll_same s57 hd5) (get_map (f := dTab) hti)
          rw [hy] at hv2
          cases hv2
          obtain ⟨tt, b, rfl, htt, htb⟩ := dp_tabInv (dp_same s8 dv)
          refine ⟨rfl, _, rfl, tt, _, 0, _, rfl, rfl, htt, rfl, _, hD, szl (by rw [List.length_map, List.length_take]; omega), same_mut s8 nD, ?_⟩
          rw [upd_same, take_get hti, List.map_append]
          rfl
        rintro H8 ⟨s8, hD⟩
        rw [lu, List.take_length] at hD
        have S8 := S7.same s8
        refine ⟨s, c, D, ts.map TabD.nm, rfl, S8, by rw [List.map_map]; exact hD, src_neL S8 hD, by rw [List.length_map]; omega, fun z H9 nz nm S9 e9 => ?_⟩
        have s58 : Same H5 H8 := fun b o e => s8 _ _ (s57 _ _ e)
        have hr8 := s8 _ _ (s7 _ _ hr6)
        obtain ⟨n, t, rfl, hnt, hj0, hj1, hb1, hg', hn', hl', hw'⟩ := mend_step hg hn hp nz nm
        refine ⟨l, r, us, ts, _, n, j, z, t, rfl, SqL.of (e9 _ _ ns5 (s58 _ _ hl5)), dpAll_firm (Firm.but S8 e9) (noL_tabs ts) (dpAll_same s58 hd5), e9 _ _ (src_neL S8 hr8) hr8, hnt, hj0, hj1, by omega, hb1, fun l' us' H10 s10 _ hl10 hd10 => ?_⟩
        exact ⟨l', us', _, _, _, _, _, rfl, S9.same s10, hl10, hd10, by omega, by omega, hg', hn', by omega⟩
    · rintro σ' H5 ⟨l, us, ts, v4, v5, v6, v7, rfl, S5, hl5, hd5, l2, l4, hg, hn, hw⟩
      omega
end
abbrev R : PySem.W.OpenRow := PySem.W.OpenLaw.row PySem.Challenge.rw_mostsalike_k06_schema_ties_refused
abbrev hk : PySem.W.Hook := hookS 6 fa fn pr su file xbK
def ob (s : PySem.W.SharedT) : AlS := obsS 6 fa fn pr su file xbK (HandSHeadRun.getT s)
theorem ob_eq (s : PySem.W.SharedT) : ob s = hk.obs s.abs := obsS_eq (HandSHeadRun.getT_eq s)
theorem run (w : World) : HandSHeadRun.RunEq R (PySem.W.view R.prog [51]) hk ob 20000 [("_wall" : Str), ("MostsError" : Str), ("InvalidName" : Str), ("DuplicateName" : Str), ("UnknownName" : Str), ("UnboundVariable" : Str), ("InvalidTable" : Str), ("InvalidTie" : Str), ("InvalidRow" : Str), ("InvalidTimes" : Str), ("KeyConflict" : Str), ("BrokenTie" : Str), ("BatchError" : Str), ("InvalidTerm" : Str), ("InvalidAtom" : Str), ("InvalidSign" : Str), ("InvalidKind" : Str), ("InvalidColumn" : Str), ("InvalidText" : Str), ("InvalidProduct" : Str), ("WrongSize" : Str), ("Mismatch" : Str), ("NotTold" : Str), ("ZeroBottom" : Str), ("MOST_TABLES" : Str), ("MOST_COLUMNS" : Str), ("LETTERS" : Str), ("DIGITS" : Str), ("WORDS" : Str), ("is_name" : Str), ("Table" : Str), ("Schema" : Str), ("_law_source" : Str), ("_law_draw" : Str), ("_law_name" : Str), ("_law_names" : Str), ("_law_schema" : Str), ("_law_table" : Str), ("_law_whole" : Str), ("_law_same" : Str), ("_law_marks" : Str), ("_law_error" : Str), ("_law_drawn_tables" : Str), ("_law_first_fault" : Str), ("_law_mended" : Str), ("_law_tried" : Str), ("_law_shows" : Str)] w := by
  intro os
  kernel_rfl
theorem prok : PrOk R.prog file := ⟨by kernel_rfl, by kernel_rfl⟩
end My
open PySem PySem.W PySem.Calls PyProof.Rows
theorem PySem.Challenge.cw_mostsalike_k06_schema_ties_refused_holds : PySem.Challenge.rw_mostsalike_k06_schema_ties_refused.Holds := by
  w_on; o_law
  refine HandSHeadRun.head_any (r := OpenLaw.row PySem.Challenge.rw_mostsalike_k06_schema_ties_refused) (q := view (OpenLaw.row PySem.Challenge.rw_mostsalike_k06_schema_ties_refused).prog [51]) (H := My.hk) (ob := My.ob) (M := 20000) (loose := [("_wall" : Str), ("MostsError" : Str), ("InvalidName" : Str), ("DuplicateName" : Str), ("UnknownName" : Str), ("UnboundVariable" : Str), ("InvalidTable" : Str), ("InvalidTie" : Str), ("InvalidRow" : Str), ("InvalidTimes" : Str), ("KeyConflict" : Str), ("BrokenTie" : Str), ("BatchError" : Str), ("InvalidTerm" : Str), ("InvalidAtom" : Str), ("InvalidSign" : Str), ("InvalidKind" : Str), ("InvalidColumn" : Str), ("InvalidText" : Str), ("InvalidProduct" : Str), ("WrongSize" : Str), ("Mismatch" : Str), ("NotTold" : Str), ("ZeroBottom" : Str), ("MOST_TABLES" : Str), ("MOST_COLUMNS" : Str), ("LETTERS" : Str), ("DIGITS" : Str), ("WORDS" : Str), ("is_name" : Str), ("Table" : Str), ("Schema" : Str), ("_law_source" : Str), ("_law_draw" : Str), ("_law_name" : Str), ("_law_names" : Str), ("_law_schema" : Str), ("_law_table" : Str), ("_law_whole" : Str), ("_law_same" : Str), ("_law_marks" : Str), ("_law_error" : Str), ("_law_drawn_tables" : Str), ("_law_first_fault" : Str), ("_law_mended" : Str), ("_law_tried" : Str), ("_law_shows" : Str)]) (d := HandSHeadRun.topDef (OpenLaw.row PySem.Challenge.rw_mostsalike_k06_schema_ties_refused).prog 51) (kwd := []) My.ob_eq
    (by kernel_rfl) (fun s => by kernel_rfl) My.run (by kernel_rfl) (by kernel_rfl) (by kernel_rfl) (by rfl) (by first | assumption | decide +kernel) (by decide +kernel) ⟨rfl, rfl, rfl, rfl, rfl, by decide +kernel⟩ ?hw ?hc
  case hw => w_witness2
  case hc =>
    refine L2.walk_ofE (l := PySem.Challenge.rw_mostsalike_k06_schema_ties_refused) (n := 63) (k := 12) (x := "script") (CX := L2.CX0) rfl (by decide) (by kernel_rfl) ⟨rfl, by decide, by decide⟩ ?F (fun _ _ _ _ z => z)
    intro w mg fa h Y G hmg0
    obtain ⟨K, KX, c, xb, pe, se⟩ := Y
    have hmg : mg ("law" : PySem.Str) = some (.ref fa) := by
      have e : (HandSHeadRun.topDef (OpenLaw.row PySem.Challenge.rw_mostsalike_k06_schema_ties_refused).prog 51).name = ("law" : PySem.Str) := by kernel_rfl
      rw [← e]
      exact hmg0
    have T : My.Txt K mg := ⟨⟨h, KX, G⟩, c, (He.ba xb).1, (He.ba (He.ba xb).2).1, pe, (He.ba (He.ba xb).2).2, se⟩
    have e := hmg.symm.trans T.g_law
    cases e
    obtain ⟨fd, F⟩ := T.F_law
    exact ⟨K, fd, My.spLaw K, KX, fun s v => L2.FunD.bindsA (ps := ["script"]) F (fun _ _ _ _ _ _ us hl => match us, hl with | [_], _ => rfl) s [v] rfl, fun H a ns _ _ hS => ⟨a, ns, rfl, hS, fun _ => rfl⟩, fun base _ _ => My.ok_law T My.prok F⟩
