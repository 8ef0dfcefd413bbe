import PyProof.Rows.All
import Wide.All
import OpenK.AllK
import Wide.FinOn
import HandS.ForMost
import HandS.Exc
import HandS.Defaults
import HandS.Wide
import HandS.IsInst
import HandS.DictComp
import HandS.Strs
import HandS.Codes
import HandS.SortInts
import HandS.TupAny
import HandS.WordsExc
import HandS.ExcOwn
import HandS.Head0
import HandS.Head1
import HandS.Head2
import HandS.HeadEnd
import HandS.HeadHook1
import HandS.HeadHook2
import HandS.Walk
import KE.KExcIs
import HandS.ExcCtx
import HandS.HotCalls
import HandS.CallSlots
import KE.KCallOwn
import KE.KOpsOwn
import HandS.FStr
import HandS.SetFor
import PySem.Challenge.RW_mostsalike_k03_whole_ratio_arithmetic
set_option Elab.async false
set_option linter.all false
set_option maxRecDepth 100000
set_option maxHeartbeats 4000000
/-! our own base: calls by bundled facts, heaps, the source of draws -/
namespace My
open PySem PySem.Spec PyProof.Rows L2

/-! ### defs that may be called -/
section
variable (P : Program) (w : World) (K : PySem.W.Frag) (mg : Str → Option Value) (base : Heap) (CX : CXT) (k : Nat)
structure Cal (x : Str) (ps : List Str) (dvs : List V) (sp : Sp) : Prop where
  ex : ∃ f fd ds, mg x = some (.ref f) ∧ PySem.W.keepIn K (.ref f) = true ∧ FnOk P w K mg base CX k f fd ps sp ∧ Binds K fd ps ds ∧ Vals dvs ds
structure CalM (C : Addr) (m : Str) (ps : List Str) (dvs : List V) (sp : Sp) : Prop where
  c : Cls K C
  ex : ∃ f fd ds, Meth K C m f ∧ FnOk P w K mg base CX k f fd ps sp ∧ Binds K fd ps ds ∧ Vals dvs ds
structure CalI (x : Str) (C : Addr) (ps : List Str) (dvs : List V) (sp : Sp) : Prop where
  g : mg x = some (.ref C)
  ex : ∃ f fd ds, Mk K C f ∧ FnOk P w K mg base CX k f fd ps sp ∧ Binds K fd ps ds ∧ Vals dvs ds
end
section
variable {X : Cx} {CX : CXT} {k : Nat} {C : Addr} {ps : List Str} {sp : Sp} {dvs : List V} {E : XK} {x m : Str} {p pos apos : Pos} {e o : Expr} {es : List Expr} {ta : TE} {t : TA}
theorem pc_call (c : Cal X.prog X.w X.K X.mg X.base CX k x ps dvs sp) (hr : Room k X.A) (hx : Passes CX X E) (ha : PA X (e :: es) t) (hg : Gl X x := by rfl) (hdb : (x == ("__debug__" : Str)) = false := by decide)
    (he : starEach (e :: es) X.env = (false, eval e X.env) :: starEach es X.env := by rfl) (hpl : (backTo pos (starEach es X.env)).any (·.1) = false := by rfl) : PE X (.Call (.Name x p) (e :: es) [] pos) (tCall sp dvs E t) := by
  obtain ⟨f, fd, ds, h1, h2, F, b, v⟩ := c.ex
  exact pe_call F hr hg h1 h2 b v hx ha hdb he hpl
theorem pc_meth {pl : Sem Bool} (c : CalM X.prog X.w X.K X.mg X.base CX k C m ps dvs sp) (hr : Room k X.A) (hx : Passes CX X E) (ho : PE X o ta) (ha : PA X (e :: es) t)
    (hst : starEach (e :: es) X.env = (false, eval e X.env) :: starEach es X.env := by rfl) (hpl : (backTo pos (starEach es X.env)).any (·.1) = false := by rfl)
    (ht : eval (.Call (.Attribute o m apos) (e :: es) [] pos) X.env = (do
      let ov ← eval o X.env
      standAt apos.atName
      let (f, first) ← holding [ov] (getMethod ov m pl)
      callWith pos f first (backTo pos (starEach (e :: es) X.env)) (backToKw pos (keywordEach [] X.env))) := by rfl) :
    PE X (.Call (.Attribute o m apos) (e :: es) [] pos) (tMeth C m sp dvs E ta t) := by
  obtain ⟨f, fd, ds, h1, F, b, v⟩ := c.ex
  exact pe_meth ho c.c h1 F hr b v hx ha hst hpl ht
theorem pc_meth0 {pl : Sem Bool} (c : CalM X.prog X.w X.K X.mg X.base CX k C m ps dvs sp) (hr : Room k X.A) (hx : Passes CX X E) (ho : PE X o ta)
    (ht : eval (.Call (.Attribute o m apos) [] [] pos) X.env = (do
      let ov ← eval o X.env
      standAt apos.atName
      let (f, first) ← holding [ov] (getMethod ov m pl)
      callWith pos f first (backTo pos (starEach [] X.env)) (backToKw pos (keywordEach [] X.env))) := by rfl) :
    PE X (.Call (.Attribute o m apos) [] [] pos) (tMeth C m sp dvs E ta tNil) := by
  obtain ⟨f, fd, ds, h1, F, b, v⟩ := c.ex
  exact pe_meth0 ho c.c h1 F hr b v hx ht
theorem pc_make (c : CalI X.prog X.w X.K X.mg X.base CX k x C ps dvs sp) (hr : Room (k + 1) X.A) (hx : Passes CX X E) (ha : PA X (e :: es) t) (hg : Gl X x := by rfl) (hdb : (x == ("__debug__" : Str)) = false := by decide)
    (he : starEach (e :: es) X.env = (false, eval e X.env) :: starEach es X.env := by rfl) (hpl : (backTo pos (starEach es X.env)).any (·.1) = false := by rfl) : PE X (.Call (.Name x p) (e :: es) [] pos) (tMake C sp dvs E t) := by
  obtain ⟨f, fd, ds, h1, F, b, v⟩ := c.ex
  exact pe_make h1 F hr hg c.g b v hx ha hdb he hpl
end

section
variable {P : Program} {w : World} {K : PySem.W.Frag} {mg : Str → Option Value} {base : Heap}
theorem Cal.of {CX : CXT} {k : Nat} {x q : Str} {ps : List Str} {sp : Sp} {pa : Arguments} {bd : List Stmt} {sc : Scope} {kws : List (Str × V)} {f : Addr} (F : ∃ fd, FunD K x q pa bd sc [] kws f fd) (hm : mg x = some (.ref f))
    (ok : ∀ fd, FunD K x q pa bd sc [] kws f fd → FnOk P w K mg base CX k f fd ps sp)
    (hb : ∀ (kV doc pm : Value) (an : Option Addr) (cdv ct : Value) (us : List Value), us.length = ps.length → bindArgs (PySem.W.fnOf x q pa bd sc .none kV doc pm an cdv ct) ⟨us, []⟩ = pure (ps.zip us)) : Cal P w K mg base CX k x ps [] sp := by
  obtain ⟨fd, F⟩ := F
  exact ⟨f, fd, [], hm, F.kp, ok fd F, F.bindsN hb, .nil⟩
end

/-! ### heaps -/
/-- what was tracked stands, but at s -/
def But (s : Addr) (H H' : Hp) : Prop := ∀ b o, b ≠ s → H b = some o → H' b = some o
theorem But.refl {s : Addr} (H : Hp) : But s H H := fun _ _ _ e => e
theorem But.trans {s : Addr} {H H1 H2 : Hp} (a : But s H H1) (b : But s H1 H2) : But s H H2 := fun c o n e => b c o n (a c o n e)
theorem But.seq {s : Addr} {K : PySem.W.Frag} {H H' : Hp} {a : Addr} {xs : List V} (e : But s H H') (n : a ≠ s) (h : SqL K H a xs) : SqL K H' a xs := by
  rcases h with (h | ⟨o, h⟩) | h
  · exact .inl (.inl (e _ _ n h))
  · exact .inl (.inr ⟨o, e _ _ n h⟩)
  · exact .inr h
theorem But.tup {s : Addr} {K : PySem.W.Frag} {H H' : Hp} {a : Addr} {xs : List V} (e : But s H H') (n : a ≠ s) (h : SqT K H a xs) : SqT K H' a xs := by
  rcases h with (h | ⟨o, h⟩) | h
  · exact .inl (.inl (e _ _ n h))
  · exact .inl (.inr ⟨o, e _ _ n h⟩)
  · exact .inr h
theorem But.upd {s : Addr} {H : Hp} {o : HO} : But s H (upd H s o) := fun b u n e => by rw [upd_ne n]; exact e
theorem But.new {s p : Addr} {H H' : Hp} {o : HO} (e : But s H H') (hp : H' p = none) (hs : ∃ u, H' s = some u) : But s H (L2.upd H' p o) := fun b u n x => by
  have q := e b u n x
  rw [upd_ne (ne_of_none q hp)]
  exact q
theorem same_new {p : Addr} {H H' : Hp} {o : HO} (e : Same H H') (hp : H' p = none) : Same H (L2.upd H' p o) := fun b u x => by
  rw [upd_ne (ne_of_none (e b u x) hp)]
  exact e b u x
/-- an object that H does not know is changed -/
theorem same_mut {p : Addr} {H H' : Hp} {o : HO} (e : Same H H') (hp : H p = none) : Same H (L2.upd H' p o) := fun b u x => by
  rw [upd_ne (ne_of_none x hp)]
  exact e b u x
theorem But.mut {s p : Addr} {H H' : Hp} {o : HO} (e : But s H H') (hp : H p = none) : But s H (L2.upd H' p o) := fun b u n x => by
  rw [upd_ne (ne_of_none x hp)]
  exact e b u n x
theorem But.same {s : Addr} {H H' : Hp} (e : Same H H') : But s H H' := fun b o _ x => e b o x
theorem same_tup {K : PySem.W.Frag} {H H' : Hp} {a : Addr} {xs : List V} (e : Same H H') (h : SqT K H a xs) : SqT K H' a xs := by
  rcases h with (h | ⟨o, h⟩) | h
  · exact .inl (.inl (e _ _ h))
  · exact .inl (.inr ⟨o, e _ _ h⟩)
  · exact .inr h
theorem But.free {s p : Addr} {H H' : Hp} (e : But s H H') (n : p ≠ s) (h : H' p = none) : H p = none := by
  cases q : H p with
  | none => rfl
  | some o =>
    rw [e p o n q] at h
    cases h
theorem sl_of {K : PySem.W.Frag} {H : Hp} {a : Addr} {xs : List V} (h : H a = some (.lst xs)) : SqL K H a xs := SqL.of h
theorem sz {n : Nat} (h : n ≤ 100000) : n ≤ sizeLine := Nat.le_trans h (by decide)
theorem szl {n : Nat} (h : n < 100000) : n < sizeLine := Nat.lt_of_lt_of_le h (by decide)

/-! ### the source of draws -/
def srcK (c : Addr) (at_ left mixed seed : Int) : List (Key × V) := [(.inr "cells", .ref c), (.inr "at", .int at_), (.inr "left", .int left), (.inr "mixed", .int mixed), (.inr "seed", .int seed)]
structure Src (H : Hp) (s c : Addr) : Prop where
  ex : ∃ (ns : List Int) (at_ left mixed seed : Int), H s = some (.dK (srcK c at_ left mixed seed)) ∧ H c = some (.lst (ns.map V.int)) ∧ 0 ≤ at_
theorem kne : (Sum.inr "cells" : Key) ≠ .inr "at" ∧ (Sum.inr "cells" : Key) ≠ .inr "left" ∧ (Sum.inr "cells" : Key) ≠ .inr "mixed" ∧ (Sum.inr "cells" : Key) ≠ .inr "seed" ∧ (Sum.inr "at" : Key) ≠ .inr "left" ∧ (Sum.inr "at" : Key) ≠ .inr "mixed" ∧
    (Sum.inr "at" : Key) ≠ .inr "seed" ∧ (Sum.inr "left" : Key) ≠ .inr "mixed" ∧ (Sum.inr "left" : Key) ≠ .inr "seed" ∧ (Sum.inr "mixed" : Key) ≠ .inr "seed" := by decide +kernel
theorem src_cells {c : Addr} {a l m d : Int} : valV (srcK c a l m d) (.inr "cells") = some (.ref c) := by
  unfold srcK; rw [valV_pos rfl]
theorem src_at {c : Addr} {a l m d : Int} : valV (srcK c a l m d) (.inr "at") = some (.int a) := by
  obtain ⟨h1, h2, h3, h4, h5, h6, h7, h8, h9, h10⟩ := kne
  unfold srcK; rw [valV_neg h1, valV_pos rfl]
theorem src_left {c : Addr} {a l m d : Int} : valV (srcK c a l m d) (.inr "left") = some (.int l) := by
  obtain ⟨h1, h2, h3, h4, h5, h6, h7, h8, h9, h10⟩ := kne
  unfold srcK; rw [valV_neg h2, valV_neg h5, valV_pos rfl]
theorem src_mixed {c : Addr} {a l m d : Int} : valV (srcK c a l m d) (.inr "mixed") = some (.int m) := by
  obtain ⟨h1, h2, h3, h4, h5, h6, h7, h8, h9, h10⟩ := kne
  unfold srcK; rw [valV_neg h3, valV_neg h6, valV_neg h8, valV_pos rfl]
theorem src_seed {c : Addr} {a l m d : Int} : valV (srcK c a l m d) (.inr "seed") = some (.int d) := by
  obtain ⟨h1, h2, h3, h4, h5, h6, h7, h8, h9, h10⟩ := kne
  unfold srcK; rw [valV_neg h4, valV_neg h7, valV_neg h9, valV_neg h10, valV_pos rfl]
theorem put_at {c : Addr} {a l m d x : Int} : putK (srcK c a l m d) (.inr "at") (.int x) = srcK c x l m d := by
  obtain ⟨h1, h2, h3, h4, h5, h6, h7, h8, h9, h10⟩ := kne
  unfold putK srcK
  simp [h1, h5.symm, h6.symm, h7.symm]
theorem put_left {c : Addr} {a l m d x : Int} : putK (srcK c a l m d) (.inr "left") (.int x) = srcK c a x m d := by
  obtain ⟨h1, h2, h3, h4, h5, h6, h7, h8, h9, h10⟩ := kne
  unfold putK srcK
  simp [h2, h5, h8.symm, h9.symm]
theorem put_mixed {c : Addr} {a l m d x : Int} : putK (srcK c a l m d) (.inr "mixed") (.int x) = srcK c a l x d := by
  obtain ⟨h1, h2, h3, h4, h5, h6, h7, h8, h9, h10⟩ := kne
  unfold putK srcK
  simp [h3, h6, h8, h10.symm]
theorem put_seed {c : Addr} {a l m d x : Int} : putK (srcK c a l m d) (.inr "seed") (.int x) = srcK c a l m x := by
  obtain ⟨h1, h2, h3, h4, h5, h6, h7, h8, h9, h10⟩ := kne
  unfold putK srcK
  simp [h4, h7, h9, h10]
theorem g_cells {H : Hp} {s c : Addr} {a l m d : Int} (h : H s = some (.dK (srcK c a l m d))) : DGet H s (.str "cells") (some (.ref c)) := .inl ⟨_, .inr "cells", .inl h, rfl, src_cells.symm⟩
theorem g_at {H : Hp} {s c : Addr} {a l m d : Int} (h : H s = some (.dK (srcK c a l m d))) : DGet H s (.str "at") (some (.int a)) := .inl ⟨_, .inr "at", .inl h, rfl, src_at.symm⟩
theorem g_left {H : Hp} {s c : Addr} {a l m d : Int} (h : H s = some (.dK (srcK c a l m d))) : DGet H s (.str "left") (some (.int l)) := .inl ⟨_, .inr "left", .inl h, rfl, src_left.symm⟩
theorem g_mixed {H : Hp} {s c : Addr} {a l m d : Int} (h : H s = some (.dK (srcK c a l m d))) : DGet H s (.str "mixed") (some (.int m)) := .inl ⟨_, .inr "mixed", .inl h, rfl, src_mixed.symm⟩
theorem g_seed {H : Hp} {s c : Addr} {a l m d : Int} (h : H s = some (.dK (srcK c a l m d))) : DGet H s (.str "seed") (some (.int d)) := .inl ⟨_, .inr "seed", .inl h, rfl, src_seed.symm⟩
theorem five {c : Addr} {a l m d : Int} : (srcK c a l m d).length < sizeLine := small1000 (by show 5 ≤ 1000; decide)
theorem p_at {H : Hp} {s c : Addr} {a l m d x : Int} (h : H s = some (.dK (srcK c a l m d))) : DPut H s (.str "at") (.int x) (upd H s (.dK (srcK c x l m d))) := .inl ⟨_, .inr "at", h, rfl, five, by rw [put_at]⟩
theorem p_left {H : Hp} {s c : Addr} {a l m d x : Int} (h : H s = some (.dK (srcK c a l m d))) : DPut H s (.str "left") (.int x) (upd H s (.dK (srcK c a x m d))) := .inl ⟨_, .inr "left", h, rfl, five, by rw [put_left]⟩
theorem p_mixed {H : Hp} {s c : Addr} {a l m d x : Int} (h : H s = some (.dK (srcK c a l m d))) : DPut H s (.str "mixed") (.int x) (upd H s (.dK (srcK c a l x d))) := .inl ⟨_, .inr "mixed", h, rfl, five, by rw [put_mixed]⟩
theorem p_seed {H : Hp} {s c : Addr} {a l m d x : Int} (h : H s = some (.dK (srcK c a l m d))) : DPut H s (.str "seed") (.int x) (upd H s (.dK (srcK c a l m x))) := .inl ⟨_, .inr "seed", h, rfl, five, by rw [put_seed]⟩
/-! ### tests of open outcome -/
theorem ifI {i j : Int} {A B : Prop} (h1 : i = j → A) (h2 : i ≠ j → B) : if decide (V.int i = V.int j) = true then A else B := by
  by_cases h : i = j
  · rw [if_pos (decide_eq_true (congrArg V.int h))]
    exact h1 h
  · rw [if_neg (by rw [decide_eq_false fun e => h (V.int.inj e)]; decide)]
    exact h2 h
theorem ifD {c A B : Prop} [Decidable c] (h1 : c → A) (h2 : ¬ c → B) : if decide c = true then A else B := by
  by_cases h : c
  · rw [if_pos (decide_eq_true h)]
    exact h1 h
  · rw [if_neg (by rw [decide_eq_false h]; decide)]
    exact h2 h
theorem ifN {i j : Int} {A B : Prop} (h1 : i ≠ j → A) (h2 : i = j → B) : if (!decide (V.int i = V.int j)) = true then A else B := by
  by_cases h : i = j
  · rw [if_neg (by rw [decide_eq_true (congrArg V.int h)]; decide)]
    exact h2 h
  · rw [if_pos (by rw [decide_eq_false fun e => h (V.int.inj e)]; decide)]
    exact h1 h
theorem ifB {b : Bool} {A B : Prop} (h1 : b = true → A) (h2 : b = false → B) : if b = true then A else B := by
  cases b with
  | true => exact h1 rfl
  | false => exact h2 rfl
theorem ifT {b : Bool} {A B : Prop} (e : b = true) (h : A) : if b = true then A else B := by rw [if_pos e]; exact h
theorem ifF {b : Bool} {A B : Prop} (e : b = false) (h : B) : if b = true then A else B := by rw [e]; exact h
theorem atNat {xs : List V} {i : Int} {v : V} {n : Nat} (h : xs[n]? = some v) (e : i = (n : Int)) : atI xs i = some v := by
  subst e
  exact atI_nat h
theorem tyx_l {K : PySem.W.Frag} {H : Hp} {a : Addr} {xs : List V} (h : SqL K H a xs) : TyX K H (.ref a) (.type "list") := by
  rcases h with (h | ⟨o, h⟩) | ⟨o, its, n, hk, hc, _⟩
  · exact .base (.lst h)
  · exact .base (.frz h)
  · exact .kList hk hc
theorem tyx_t {K : PySem.W.Frag} {H : Hp} {a : Addr} {xs : List V} (h : SqT K H a xs) : TyX K H (.ref a) (.type "tuple") := by
  rcases h with (h | ⟨o, h⟩) | ⟨o, its, n, hk, hc, _⟩
  · exact .base (.tup h)
  · exact .fTuple h
  · exact .kTuple hk hc
theorem isi {K : PySem.W.Frag} {H : Hp} {Q : VK} {x : V} {n t : String} {b : Bool} (ty : TyX K H x (.type t)) (hk : kitB t n = some b) (q : Q (.bl b) H) : rIsi K [x, .ty n] H Q := ⟨x, .ty n, .type t, .type n, b, rfl, .ty n, ty, kit_ty hk, q⟩
theorem kt_NoneType_bool : kitB "NoneType" "bool" = some false := by decide +kernel
theorem kt_NoneType_int : kitB "NoneType" "int" = some false := by decide +kernel
theorem kt_NoneType_str : kitB "NoneType" "str" = some false := by decide +kernel
theorem kt_NoneType_tuple : kitB "NoneType" "tuple" = some false := by decide +kernel
theorem kt_NoneType_list : kitB "NoneType" "list" = some false := by decide +kernel
theorem kt_bool_bool : kitB "bool" "bool" = some true := by decide +kernel
theorem kt_bool_int : kitB "bool" "int" = some true := by decide +kernel
theorem kt_bool_str : kitB "bool" "str" = some false := by decide +kernel
theorem kt_bool_tuple : kitB "bool" "tuple" = some false := by decide +kernel
theorem kt_bool_list : kitB "bool" "list" = some false := by decide +kernel
theorem kt_int_bool : kitB "int" "bool" = some false := by decide +kernel
theorem kt_int_int : kitB "int" "int" = some true := by decide +kernel
theorem kt_int_str : kitB "int" "str" = some false := by decide +kernel
theorem kt_int_tuple : kitB "int" "tuple" = some false := by decide +kernel
theorem kt_int_list : kitB "int" "list" = some false := by decide +kernel
theorem kt_str_bool : kitB "str" "bool" = some false := by decide +kernel
theorem kt_str_int : kitB "str" "int" = some false := by decide +kernel
theorem kt_str_str : kitB "str" "str" = some true := by decide +kernel
theorem kt_str_tuple : kitB "str" "tuple" = some false := by decide +kernel
theorem kt_str_list : kitB "str" "list" = some false := by decide +kernel
theorem kt_list_bool : kitB "list" "bool" = some false := by decide +kernel
theorem kt_list_int : kitB "list" "int" = some false := by decide +kernel
theorem kt_list_str : kitB "list" "str" = some false := by decide +kernel
theorem kt_list_tuple : kitB "list" "tuple" = some false := by decide +kernel
theorem kt_list_list : kitB "list" "list" = some true := by decide +kernel
theorem kt_tuple_bool : kitB "tuple" "bool" = some false := by decide +kernel
theorem kt_tuple_int : kitB "tuple" "int" = some false := by decide +kernel
theorem kt_tuple_str : kitB "tuple" "str" = some false := by decide +kernel
theorem kt_tuple_tuple : kitB "tuple" "tuple" = some true := by decide +kernel
theorem kt_tuple_list : kitB "tuple" "list" = some false := by decide +kernel
theorem kt_dict_bool : kitB "dict" "bool" = some false := by decide +kernel
theorem kt_dict_int : kitB "dict" "int" = some false := by decide +kernel
theorem kt_dict_str : kitB "dict" "str" = some false := by decide +kernel
theorem kt_dict_tuple : kitB "dict" "tuple" = some false := by decide +kernel
theorem kt_dict_list : kitB "dict" "list" = some false := by decide +kernel
/-! ### data: bounded depth and lengths -/
def okD : Nat → PyData → Bool
  | 0, _ => false
  | _ + 1, .none => true
  | _ + 1, .bool _ => true
  | _ + 1, .int _ => true
  | _ + 1, .str _ => true
  | n + 1, .list ds => decide (ds.length ≤ 100000) && ds.all (okD n)
  | n + 1, .tuple ds => decide (ds.length ≤ 100000) && ds.all (okD n)
  | _ + 1, .dict _ => false
theorem dp_len {K : PySem.W.Frag} {H : Hp} : ∀ {vs : List V} {ds : List PyData}, DpAll K H vs ds → vs.length = ds.length
  | _, _, .nil => rfl
  | _, _, .cons _ t => congrArg Nat.succ (dp_len t)
theorem dp_get {K : PySem.W.Frag} {H : Hp} : ∀ {vs : List V} {ds : List PyData} {i : Nat} {d : PyData}, DpAll K H vs ds → ds[i]? = some d → ∃ v, vs[i]? = some v ∧ Dp K H v d
  | _, _, _, _, .nil, e => by simp at e
  | _, _, 0, _, .cons h _, e => by simp at e; subst e; exact ⟨_, rfl, h⟩
  | _, _, i + 1, _, .cons _ t, e => by
    obtain ⟨v, h1, h2⟩ := dp_get (i := i) t (by simpa using e)
    exact ⟨v, by simpa using h1, h2⟩
theorem dp_ints {K : PySem.W.Frag} {H : Hp} : ∀ (ns : List Int), DpAll K H (ns.map V.int) (ns.map PyData.int)
  | [] => .nil
  | n :: ns => .cons (.int n) (dp_ints ns)
theorem okD_ints {n : Nat} {ns : List Int} : (ns.map PyData.int).all (okD (n + 1)) = true := by
  rw [List.all_eq_true]
  intro d hd
  obtain ⟨i, _, rfl⟩ := List.mem_map.mp hd
  rfl
def spWhole : Sp := fun vs H Q _ => ∃ i : Int, vs = [.int i] ∧ Q (.bl true) H
def spSame (K : PySem.W.Frag) (n : Nat) : Sp := fun vs H Q _ => ∃ (x y : V) (d : PyData), vs = [x, y] ∧ Dp K H x d ∧ Dp K H y d ∧ okD n d = true ∧ Q (.bl true) H
def spNumber : Sp := fun vs H Q _ => ∃ s c, vs = [.ref s] ∧ Src H s c ∧ ∀ (r : Int) H', -(10 ^ 20) ≤ r → r ≤ 10 ^ 20 → Src H' s c → But s H H' → Q (.int r) H'
theorem Src.ne {H : Hp} {s c : Addr} (S : Src H s c) : c ≠ s := by
  obtain ⟨ns, a, l, m, d, hs, hc, _⟩ := S.ex
  exact ne_of hc hs (by intro z; cases z)
theorem Src.at {H H' : Hp} {s c : Addr} (S : Src H s c) (e1 : H' s = H s) (e2 : H' c = H c) : Src H' s c := by
  obtain ⟨ns, a, l, m, d, hs, hc, ha⟩ := S.ex
  exact ⟨ns, a, l, m, d, e1.trans hs, e2.trans hc, ha⟩
theorem Src.same {H H' : Hp} {s c : Addr} (S : Src H s c) (e : Same H H') : Src H' s c := by
  obtain ⟨ns, a, l, m, d, hs, hc, ha⟩ := S.ex
  exact ⟨ns, a, l, m, d, e _ _ hs, e _ _ hc, ha⟩
theorem Src.new {H : Hp} {s c p : Addr} {o : HO} (S : Src H s c) (np : H p = none) : Src (L2.upd H p o) s c := S.same (same_new (Same.refl H) np)
theorem Src.put {H : Hp} {s c p : Addr} {o : HO} (S : Src H s c) (h1 : p ≠ s) (h2 : p ≠ c) : Src (L2.upd H p o) s c := S.at (upd_ne h1.symm) (upd_ne h2.symm)
/-- an object that is no source stands apart from it -/
theorem Src.apart {H : Hp} {s c p : Addr} (S : Src H s c) (h : H p = none) : p ≠ s ∧ p ≠ c := by
  obtain ⟨ns, a, l, m, d, hs, hc, ha⟩ := S.ex
  exact ⟨ne_of_none hs h |>.symm, (ne_of_none hc h).symm⟩
/-- the promises of the source's makers -/
def spSource (K : PySem.W.Frag) : Sp := fun vs H Q _ => ∃ (a : Addr) (ns : List Int), vs = [.ref a] ∧ SqL K H a (ns.map V.int) ∧ ∀ s c H', H s = none → H c = none → Src H' s c → Same H H' → Q (.ref s) H'
def spDraw : Sp := fun vs H Q _ => ∃ (s c : Addr) (many : Int), vs = [.ref s, .int many] ∧ Src H s c ∧ 0 < many ∧ many < 2 ^ 200 ∧ ∀ r H', 0 ≤ r → r < many → Src H' s c → But s H H' → Q (.int r) H'
end My

set_option Elab.async false
set_option linter.all false
set_option maxRecDepth 100000
set_option maxHeartbeats 4000000
namespace My
open PySem PySem.Spec PyProof.Rows L2
/-! ### a list or a tuple, walked -/
def Sq (K : PySem.W.Frag) (H : Hp) (a : Addr) (xs : List V) : Prop := SqL K H a xs ∨ SqT K H a xs
theorem sqL_at {K : PySem.W.Frag} {H H' : Hp} {a : Addr} {xs : List V} (e : ∀ o, H a = some o → H' a = some o) (h : SqL K H a xs) : SqL K H' a xs := by
  rcases h with (h | ⟨o, h⟩) | h
  · exact .inl (.inl (e _ h))
  · exact .inl (.inr ⟨o, e _ h⟩)
  · exact .inr h
theorem sqT_at {K : PySem.W.Frag} {H H' : Hp} {a : Addr} {xs : List V} (e : ∀ o, H a = some o → H' a = some o) (h : SqT K H a xs) : SqT K H' a xs := by
  rcases h with (h | ⟨o, h⟩) | h
  · exact .inl (.inl (e _ h))
  · exact .inl (.inr ⟨o, e _ h⟩)
  · exact .inr h
theorem Sq.at {K : PySem.W.Frag} {H H' : Hp} {a : Addr} {xs : List V} (e : ∀ o, H a = some o → H' a = some o) (h : Sq K H a xs) : Sq K H' a xs := h.imp (sqL_at e) (sqT_at e)
def SeqIn (K : PySem.W.Frag) (x : V) (H1 : Hp) (R : It → Hp → Prop) : Prop := ∃ a, x = .ref a ∧ (((∃ xs, SqL K H1 a xs) ∧ R (Itl K a) H1) ∨ ((∃ xs, SqT K H1 a xs) ∧ R (Itt K a) H1))
def iSeq (K : PySem.W.Frag) (tl : TE) : TI := fun σ H R => tl σ H fun x H1 => SeqIn K x H1 R
theorem pi_seq {X : Cx} {tg l : Expr} {tl : TE} (hl : PE X l tl) : PI X tg l (iSeq X.K tl) := by
  refine ⟨fun pins s σ H R I h => thn (hl.run pins s σ H _ I h) fun v s1 ⟨x, H1, I1, r1, q1⟩ => ?_⟩
  obtain ⟨a, e, q⟩ := q1
  subst e
  cases r1
  have fr : ∀ b ∈ [s1.heap.objs.size], FpOk X pins H1 b := fun b hb => by
    have e : b = s1.heap.objs.size := by simpa using hb
    rw [e]
    exact I1.fpOk (Nat.le_refl _) (I1.hok.fresh (Nat.le_refl _))
  rcases q with ⟨⟨xs, hq⟩, q⟩ | ⟨⟨xs, hq⟩, q⟩
  · obtain ⟨its, _, p, _⟩ := I1.list hq
    exact wpAny_pyIter_list p.isList ⟨s1.heap.objs.size, [s1.heap.objs.size], _, _, H1, rfl, I1.kept (t' := s1.toks) fun b o e => Heap.get?_push_of_some _ e, turn_list a _, ⟨_, Heap.get?_push_size _ rfl, rfl, rfl⟩, fr, q⟩
  · obtain ⟨its, _, p, _⟩ := I1.tuple hq
    exact wpAny_pyIter_tuple (show s1.heap.IsTuple a its.toArray from p) ⟨s1.heap.objs.size, [s1.heap.objs.size], _, _, H1, rfl, I1.kept (t' := s1.toks) fun b o e => Heap.get?_push_of_some _ e, turn_tuple a _, ⟨_, Heap.get?_push_size _ rfl, rfl, rfl⟩, fr, q⟩
theorem rseq {K : PySem.W.Frag} {H : Hp} {a : Addr} {xs : List V} {R : It → Hp → Prop} (hS : Sq K H a xs)
    (h : ∀ (J : It) (G : Hp → Prop), (∀ H', (∀ o, H a = some o → H' a = some o) → G H') → Walk J xs.length G (YAt xs) → R J H) : SeqIn K (.ref a) H R := by
  rcases hS with q | q
  · exact ⟨a, rfl, .inl ⟨⟨xs, q⟩, h _ _ (fun H' e => sqL_at e q) walk_list⟩⟩
  · exact ⟨a, rfl, .inr ⟨⟨xs, q⟩, h _ _ (fun H' e => sqT_at e q) walk_tup⟩⟩
/-- a dict's comprehension over a walk -/
theorem dc_it {J : It} {n : Nat} {G : Hp → Prop} {Y : Nat → Hp → V → Hp → Prop} (wk : Walk J n G Y) {g : TG} {tt : TT} {tk tv : TE} {vs : List Nat} {σ : L2.St} {H1 : Hp} {D : Addr} {Qd : Hp → Prop} (Pv : Nat → Hp → Prop)
    (h0 : Pv 0 (upd H1 D (.dK []))) (hG : ∀ i H, i ≤ n → Pv i H → G H)
    (hs : ∀ i x H H', i < n → Pv i H → Y i H x H' → g x (wipe σ vs) H' fun σ2 H2 => wipe σ2 vs = wipe σ vs ∧ tt σ2 H2 fun b H3 =>
      if b = true then tk σ2 H3 fun y H4 => tv σ2 H4 fun z H5 => ∃ kvs k, y = kV k ∧ H5 D = some (.dK kvs) ∧ kvs.length < sizeLine ∧ Pv (i + 1) (upd H5 D (.dK (putK kvs k z))) else Pv (i + 1) H3) (hd : ∀ H, Pv n H → Qd H) :
    ∃ W : Nat → Nat → Hp → Prop, (∃ m, W 0 m (upd H1 D (.dK []))) ∧ ∀ i m H, W i m H →
      (J.stop i H ∧ Qd H) ∨ (J.go i H ∧ ∃ Nx : Hp → Prop, (∀ H', Nx H' → ∃ m', m' < m ∧ W (i + 1) m' H') ∧ ∀ x H', J.yld i H x H' → g x (wipe σ vs) H' fun σ2 H2 => wipe σ2 vs = wipe σ vs ∧ tt σ2 H2 fun b H3 =>
        if b = true then tk σ2 H3 fun y H4 => tv σ2 H4 fun z H5 => ∃ kvs k, y = kV k ∧ H5 D = some (.dK kvs) ∧ kvs.length < sizeLine ∧ Nx (upd H5 D (.dK (putK kvs k z))) else Nx H3) := by
  refine ⟨fun i m H => m = n - i ∧ i ≤ n ∧ Pv i H, ⟨n, rfl, Nat.zero_le _, h0⟩, ?_⟩
  rintro i m H ⟨rfl, hi, p⟩
  have q := hG i H hi p
  by_cases hlt : i < n
  · exact .inr ⟨wk.goes i H hlt q, Pv (i + 1), fun H' p' => ⟨n - (i + 1), by omega, rfl, hlt, p'⟩, fun x H' y => hs i x H H' hlt p (wk.yields i H x H' hlt q y)⟩
  · have e : i = n := by omega
    subst e
    exact .inl ⟨wk.stops H q, hd H p⟩
/-- an item of a written list -/
theorem item_of {L : List Int} {P : Int → Prop} (hP : ∀ x ∈ L, P x) {r : Int} (h0 : 0 ≤ r) (h1 : r < L.length) : ∃ m, atI (L.map V.int) r = some (.int m) ∧ P m := by
  have hr : r.toNat < L.length := by omega
  have e : (L.map V.int)[r.toNat]? = some (.int L[r.toNat]) := by rw [List.getElem?_map, List.getElem?_eq_getElem hr]; rfl
  exact ⟨L[r.toNat], atNat (n := r.toNat) e (by omega), hP _ (List.getElem_mem _)⟩
/-- the heap as a letter -/
theorem at_heap {α : Type} {f : α → Hp → Prop} {σ : α} {H : Hp} (h : ∀ H', H' = H → f σ H') : f σ H := h H rfl
theorem map_get {α β : Type} {f : α → β} {l : List α} {i : Nat} {y : β} (h : (l.map f)[i]? = some y) : ∃ x, l[i]? = some x ∧ y = f x := by
  rw [List.getElem?_map] at h
  cases e : l[i]? with
  | none => rw [e] at h; cases h
  | some x => rw [e] at h; exact ⟨x, rfl, (Option.some.inj h).symm⟩
theorem get_map {α β : Type} {f : α → β} {l : List α} {i : Nat} {x : α} (h : l[i]? = some x) : (l.map f)[i]? = some (f x) := by rw [List.getElem?_map, h]; rfl
theorem take_snoc {α : Type} {l : List α} {i : Nat} {x : α} (h : l[i]? = some x) : l.take (i + 1) = l.take i ++ [x] := by
  rw [List.take_succ, h]
  rfl
theorem take_all {α : Type} (l : List α) : l.take l.length = l := List.take_length
end My

set_option Elab.async false
set_option linter.all false
set_option maxRecDepth 100000
set_option maxHeartbeats 4000000
/-! exceptions: calls and a list's comprehension where an exception is handled, isinstance of it; calls that may raise -/
namespace My
open PySem PySem.Spec PyProof.Rows L2
section
variable {prog : Program} {w : World} {A : Around} {E : Value → Shared → Prop} {s : Shared}
/-- a list's iterator ends where an exception is handled -/
theorem list_end_hot {it l x1 : Addr} {i : Nat} {items : Array Value} {Q : Option Value → Shared → Prop} (hot : HotX.HotAt A x1 s.heap) (n1 : x1 ≠ it) (hit : s.heap.IsListIter it l i) (hl : s.heap.IsList l items) (hx : items[i]? = none)
    (hQ : ∀ h', (∀ b o, b ≠ it → s.heap.get? b = some o → h'.get? b = some o) → Q none { s with heap := h' }) : wpAny (model prog w) A (pyNext (.ref it)) Q E s := by
  obtain ⟨hh, o1, vs1, h1, d1, c1⟩ := hot
  obtain ⟨o, ho, hc, hd⟩ := id hit
  obtain ⟨ol, hol, _, nl, hdl⟩ := hl
  unfold pyNext
  refine wpAny_bind (wpAny_attempt (wpAny_callSpecial?_slot (name := Str.ofString "__next__") hit.typeIs slot_listiter_next (wpAny_call_entry slot_listiter_next hit.typeIs entry_listiter_next ?_ (args_listiter_next _))))
  show wpAny _ _ (field (.ref it) 0 >>= _) _ _ s
  refine wpAny_bind (wpAny_field ho hd (x := .ref l) rfl ?_)
  show wpAny _ _ (if (Value.ref l == Value.none) = true then _ else _) _ _ s
  rw [if_neg (show ¬ ((Value.ref l == Value.none) = true) from Bool.false_ne_true)]
  show wpAny _ _ (field (.ref it) 1 >>= _) _ _ s
  refine wpAny_bind (wpAny_field ho hd (x := .int i 0) rfl ?_)
  show wpAny _ _ (seqItems? (.ref l) >>= _) _ _ s
  refine wpAny_bind (wpAny_seqItems hol hdl ?_)
  simp only [Int.toNat_natCast, hx]
  refine wpAny_bind (wpAny_rule (wpAny_bind (wpAny_setField ho hd (by simp) ?_)))
  show wpAny _ _ (newExc (.type "StopIteration") [] >>= _) _ _ _
  refine wpAny_bind ?_
  simp only [newExc, newTuple]
  refine wpAny_bind (wpAny_newObj_type ?_ (by size_fits))
  refine wpAny_bind (m := firstArgMember _ _) (wpAny_of_eq (a := Value.none) (by first | rfl | (simp only [firstArgMember]; rfl)) ?_)
  refine wpAny_newObj_type ?_ (by size_fits)
  have g1 : ∀ (f : Obj → Obj), (s.heap.update it f).get? x1 = some o1 := fun f => by rw [Heap.get?_update_other _ _ n1.symm]; exact h1
  refine HotX.raiseNew_hot ⟨hh, o1, vs1, Heap.get?_push_of_some _ (Heap.get?_push_of_some _ (g1 _)), d1, c1⟩ (Nat.ne_of_lt (Heap.lt_size (Heap.get?_push_of_some _ (g1 _)))) (Heap.get?_push_size _ rfl) rfl (by first | (simp; done) | (simp; omega) | (simp only [Array.size_append]; simp; omega)) ?_
  refine wpAny_bind (wpAny_isInstance (T := "StopIteration") (b := true) ⟨_, Heap.get?_update_self _ (Heap.get?_push_size _ rfl) rfl, rfl⟩ isSubtype_stop ?_)
  refine wpAny_pure (hQ _ fun b u nb e => ?_)
  have e1 : ∀ (f : Obj → Obj), (s.heap.update it f).get? b = some u := fun f => by rw [Heap.get?_update_other _ _ nb.symm]; exact e
  rw [Heap.get?_update_other _ _ (Nat.ne_of_gt (Heap.lt_size (Heap.get?_push_of_some _ (e1 _))))]
  exact Heap.get?_push_of_some _ (Heap.get?_push_of_some _ (e1 _))
end
section
variable {X : Cx}
/-- [elt for x in l if ..] over a list, where an exception is handled -/
theorem pe_lcH {elt tg iter : Expr} {ifs : List Expr} {scope : Scope} {own : List (Str × Nat)} {pos : Pos} {tl : TE} {g : TG} {tt : TT} {te : TE} (hc : L2H.HotC X) (hN : X.N.Nodup) (hl : PE X iter tl) (ok : BlkOk X.N X.env.scope scope own)
    (hg : ∀ (s : Shared) (H : Hp) (C : Addr) (cl : List (Str × Addr)) (fp : List Addr), PG (X.blk s H scope (compEnvC scope cl C X.env) fp) tg g) (ht : ∀ (s : Shared) (H : Hp) (C : Addr) (cl : List (Str × Addr)) (fp : List Addr), PTs (X.blk s H scope (compEnvC scope cl C X.env) fp) ifs tt)
    (he : ∀ (s : Shared) (H : Hp) (C : Addr) (cl : List (Str × Addr)) (fp : List Addr), PE (X.blk s H scope (compEnvC scope cl C X.env) fp) elt te) (hs : ∀ x, foldedSetIterable iter X.env x = pure x := by intro _; rfl) :
    PE X (.ListComp elt [⟨tg, iter, ifs, 0⟩] scope pos) (tLc (iList X.K tl) g tt te (own.map (·.2))) := by
  refine ⟨fun pins s σ H Q I h => ?_⟩
  rw [eval_ListComp]
  obtain ⟨p, ⟨hh, v1, e1, c1⟩, hp⟩ := hc
  have hfree : ∀ y ∈ scope.names, y.2 = .free → ∃ c, X.env.cells.lookup y.1 = some c := fun y hy e => (ok.free y hy e).elim (fun k => I.ok.has _ (.inl k)) fun k => I.ok.has _ (.inr k)
  refine wpAny_comprehension_free (use := none) rfl hs (closure_ok hfree) ok.kind (fun y hy e => by rw [ok.uniq y hy, e]) (thn (hl.run pins s σ H _ I h) fun v s1 ⟨x, H1, I1, r1, q1⟩ => ?_)
  obtain ⟨a, e, ⟨xs, hq⟩, q⟩ := q1
  subst e
  cases r1
  obtain ⟨its, rv, pl, hz⟩ := I1.list hq
  refine wpAny_pyIter_list pl.isList ?_
  generalize hit : s1.heap.objs.size = it
  generalize hs2 : ({ s1 with heap := s1.heap.push { cls := .type "list_iterator", data := .fields #[.ref a, .int 0 0] } } : Shared) = s2
  have I2 : Inv X pins σ H1 s2 := by rw [← hs2]; exact I1.kept (t' := s1.toks) fun b o e => Heap.get?_push_of_some _ e
  have h2 : s2.heap = s1.heap.push { cls := .type "list_iterator", data := .fields #[.ref a, .int 0 0] } := by rw [← hs2]
  have f2 : FpOk X pins H1 it := by rw [← hit]; exact I1.fpOk (Nat.le_refl _) (I1.hok.fresh (Nat.le_refl _))
  have st2 : s2.heap.IsListIter it a 0 := by rw [h2, ← hit]; exact ⟨_, Heap.get?_push_size _ rfl, rfl, rfl⟩
  have zit : it < s2.heap.objs.size := by rw [h2, Heap.size_push, hit]; exact Nat.lt_succ_self _
  refine wpAny_newObj_type (newEnv_comp ?_) (by show 0 ≤ sizeLine; decide)
  generalize hD : s2.heap.objs.size = D
  have hDn : H1 D = none := I2.hok.fresh (Nat.le_of_eq hD)
  obtain ⟨W, ⟨m0, w0⟩, turn⟩ := q D hDn
  generalize hs3 : ({ s2 with heap := s2.heap.push { cls := .type "list", data := .seq ([] : List Value).toArray } } : Shared) = s3
  have I3 : Inv X pins σ (upd H1 D (.lst [])) s3 := by
    rw [← hs3]
    refine I2.laid (t' := s2.toks) (fun b o e => Heap.get?_push_of_some _ e) (Nat.le_of_eq hD) ⟨Nat.zero_le _, [], 0, .nil, ?_⟩
    rw [← hD]
    exact Heap.get?_push_size _ rfl
  have h3 : s3.heap = s2.heap.push { cls := .type "list", data := .seq ([] : List Value).toArray } := by rw [← hs3]
  have f3 : FpOk X pins (upd H1 D (.lst [])) it ∧ it < s3.heap.objs.size := by
    refine ⟨⟨?_, f2.2⟩, by rw [h3, Heap.size_push]; exact Nat.lt_succ_of_lt zit⟩
    rw [upd_ne (by rw [← hD]; exact Nat.ne_of_lt zit)]
    exact f2.1
  have f3' : ∀ b ∈ [it], FpOk X pins (upd H1 D (.lst [])) b ∧ b < s3.heap.objs.size := fun b hb => by
    have e : b = it := by simpa using hb
    rw [e]
    exact f3
  have st3 : s3.heap.IsListIter it a 0 := st2.at fun o e => by rw [h3]; exact Heap.get?_push_of_some _ e
  have pin3 := I3.pin p (List.mem_append_left _ hp)
  have nip : p.1 ≠ it := fun z => f3.1.2.2.2.2.2 p (List.mem_append_left _ hp) z
  have I4 := block_start I3 ok hN f3'
  have pg := hg s3 (upd H1 D (.lst [])) s3.heap.objs.size (cellsFrom (s3.heap.objs.size + 1) scope.names (cloFrom X.env.cells scope.names [])) [it]
  have pt := ht s3 (upd H1 D (.lst [])) s3.heap.objs.size (cellsFrom (s3.heap.objs.size + 1) scope.names (cloFrom X.env.cells scope.names [])) [it]
  have pe := he s3 (upd H1 D (.lst [])) s3.heap.objs.size (cellsFrom (s3.heap.objs.size + 1) scope.names (cloFrom X.env.cells scope.names [])) [it]
  generalize hce : compEnvC scope (cellsFrom (s3.heap.objs.size + 1) scope.names (cloFrom X.env.cells scope.names [])) s3.heap.objs.size X.env = ce at I4 pg pt pe
  have cL : ce.locals = s3.heap.objs.size := by subst hce; rfl
  generalize hH3 : upd H1 D (.lst []) = H3 at I3 I4 pg pt pe w0 f3 pin3
  generalize hs4 : ({ s3 with heap := pushCells (s3.heap.push { cls := .type "dict", data := .dict #[] }) scope.names } : Shared) = s4 at I4
  have st4 : s4.heap.IsListIter it a 0 := st3.at fun o e => by rw [← hs4]; exact pushCells_keeps _ _ _ _ (Heap.get?_push_of_some _ e)
  have hotB : ∀ {σ' : L2.St} {H' : Hp} {s' : Shared} {pn : List (Addr × Obj)}, Inv (X.blk s3 H3 scope ce [it]) pn σ' H' s' → HotX.HotAt X.A p.1 s'.heap := fun I' =>
    ⟨hh, p.2, v1, I'.base.keep p.1 p.2 pin3.1 pin3.2.1 (fun hm => (List.mem_cons.mp (I3.stkSub p.1 hm)).elim pin3.2.2.1 pin3.2.2.2.1) (by simpa using nip), e1, c1⟩
  have stat : ∀ {σ' : L2.St} {H' : Hp} {s' : Shared}, Inv (X.blk s3 H3 scope ce [it]) [] σ' H' s' → H' it = none → FpOk (X.blk s3 H3 scope ce [it]) [] H' it := fun {σ' H' s'} I' hn =>
    ⟨hn, (I'.ok.exf it List.mem_cons_self).1, I'.ok.exfs it List.mem_cons_self, .inl List.mem_cons_self, fun x c e => (I'.ok.exf it List.mem_cons_self).2 x c e, fun p hp => absurd (show p ∈ ([] : List (Addr × Obj)) ++ [] from hp) (by simp)⟩
  have loop : codeAny (model X.prog X.w) X.A (.compLoop (.ListComp elt [⟨tg, iter, ifs, 0⟩] scope pos) 0 (.ref it) (.ref D) ce) (compPost (model X.prog X.w) X.A X.xe none (EP X pins σ Q) (.ref D) s3.heap.objs.size) s4 := by
    refine compLoop_any (fun n s' => ∃ i H', Inv (X.blk s3 H3 scope ce [it]) [] (wipe σ (own.map (·.2))) H' s' ∧ s'.heap.IsListIter it a i ∧ H' it = none ∧ W i n H') ?_ m0 ⟨0, H3, I4, st4, f3.1.1, w0⟩
    rintro n s5 ⟨i, H5, I5, st5, n5, w5⟩
    obtain ⟨f0, f1, f2, f3', f4, f5⟩ := stat I5 n5
    rcases turn i n H5 w5 with ⟨⟨ys, hys, hlen⟩, qq⟩ | ⟨⟨ys, y0, hys, hy0⟩, Nx, hNx, step⟩
    · obtain ⟨its5, rv5, pl5, _⟩ := I5.list hys
      have hl5 := rv5.length
      refine list_end_hot (hotB I5) nip st5 pl5.isList (by simp; omega) fun h' k => ?_
      have I6 : Inv (X.blk s3 H3 scope ce [it]) [] (wipe σ (own.map (·.2))) H5 { s5 with heap := h' } := I5.turned (t' := s5.toks) (fun b o hb e => k b o hb e) f0 f1 f3' f4 f5
      have I7 : Inv X pins σ H5 { s5 with heap := h' } := I3.call' (ch := [it]) I6.os I6.base I6.hok I6.bare fun b hb => by
        have e : b = it := by simpa using hb
        rw [e]
        exact ⟨f3.1.2.2.2.1, f3.1.2.1, f3.1.2.2.2.2.1, f3.1.2.2.2.2.2⟩
      have nC : H5 s3.heap.objs.size = none := by
        have z : H5 ce.locals = none := I6.free
        rw [cL] at z
        exact z
      obtain ⟨m, hn, _⟩ := I6.loc
      have hn : h'.Ns ce.locals m := hn
      rw [cL] at hn
      refine ⟨m, hn, fun h'' sb => ?_⟩
      obtain ⟨z0, z1, z2, z3, z4, z5⟩ := I3.fpOk (pins := pins) (Nat.le_refl _) nC
      exact ⟨.ref D, H5, I7.turned (t' := s5.toks) (fun b o hb e => (sb.2 b hb).trans e) z0 z1 z3 z4 z5, rfl, qq⟩
    · obtain ⟨its5, rv5, pl5, _⟩ := I5.list hys
      obtain ⟨u, hu, ru⟩ := rv5.get hy0
      refine wpAny_pyNext_list_item st5 pl5.isList (x := u) (by simpa using hu) fun h' st' sb => ?_
      have I6 : Inv (X.blk s3 H3 scope ce [it]) [] (wipe σ (own.map (·.2))) H5 { s5 with heap := h' } := I5.turned (t' := s5.toks) (fun b o hb e => (sb.2 b hb).trans e) f0 f1 f3' f4 f5
      obtain ⟨oi, ei, ci, di⟩ := id st'
      refine go_of (s := { s5 with heap := h' }) ei ci di (by decide) ?_
      have y7 : (Itl X.K a).yld i H5 y0 H5 := ⟨rfl, fun zs hz => by rw [I5.list_inj hz hys]; exact hy0⟩
      have I7' := I6.pinned (fp := [it]) (fun b hb => by
        have e : b = it := by simpa using hb
        rw [e]
        exact stat I6 n5) (fun b hb => by
        have e : b = it := by simpa using hb
        rw [e]
        exact ⟨oi, ei, fun v z => by rw [di] at z; cases z⟩)
      refine thnF (pg.run _ _ _ H5 y0 u _ I7' ru (step y0 H5 y7)) fun _ s8 ⟨σ8, H8, I8, hw8, q8⟩ => ?_
      refine thnF (pt.run _ s8 σ8 H8 _ I8 q8) fun b s9 ⟨H9, I9, q9⟩ => ?_
      have fin : ∀ {s' : Shared} {H' : Hp}, Inv (X.blk s3 H3 scope ce [it]) ([] ++ pinsAt [it] h') σ8 H' s' → Nx H' → ∃ m, m < n ∧ ∃ i H', Inv (X.blk s3 H3 scope ce [it]) [] (wipe σ (own.map (·.2))) H' s' ∧ s'.heap.IsListIter it a i ∧ H' it = none ∧ W i m H' := fun {s' H'} I' nx => by
        obtain ⟨m', hm, w'⟩ := hNx H' nx
        have pin' : ∀ o, h'.get? it = some o → s'.heap.get? it = some o ∧ H' it = none := fun o e =>
          let z := I'.pin (it, o) (List.mem_append_right _ (List.mem_append_right _ (mem_pinsAt List.mem_cons_self e)))
          ⟨z.1, z.2.1⟩
        have hl8 : (wipe σ (own.map (·.2))).length = σ8.length := by rw [← hw8, wipe_length]
        refine ⟨m', hm, i + 1, H', (I'.unpinned (pins := [])).weak hl8 (fun j v e => ?_), st'.at fun o e => (pin' o e).1, (pin' oi ei).2, w'⟩
        rw [← hw8] at e
        exact (wipe_some e).1
      cases b with
      | false =>
        simp only [Bool.false_eq_true, if_false] at q9 ⊢
        exact fin I9 q9
      | true =>
        simp only [if_true] at q9 ⊢
        refine thnF (pe.run _ s9 σ8 H9 _ I9 q9) fun z s10 ⟨yv, H10, I10, r10, acc, hD10, hz10, nx⟩ => ?_
        exact app_ok (X := X.blk s3 H3 scope ce [it]) I10 hD10 hz10 r10 fun s11 I11 => fin I11 nx
  have fin : codeAny (model X.prog X.w) X.A (.compStart (.ListComp elt [⟨tg, iter, ifs, 0⟩] scope pos) 0 (.ref it) (.ref D) ce) (compPost (model X.prog X.w) X.A X.xe none (EP X pins σ Q) (.ref D) s3.heap.objs.size) s4 := codeAny_compStart_list loop (wpAny_pyIter_listiter st4 loop)
  rw [← hce] at fin
  exact fin
end
end My

set_option Elab.async false
set_option linter.all false
set_option maxRecDepth 100000
set_option maxHeartbeats 4000000
namespace My
open PySem PySem.Spec PyProof.Rows L2
/-! ### isinstance of the exception that is handled -/
structure ExcD (K : PySem.W.Frag) (D : Addr) : Prop where
  cl : (PySem.W.clsIn K D).isSome = true
  ga : PySem.W.findIn K (.ref D) "__getattribute__" = some (some (.builtin "BaseException.__getattribute__"))
  gt : PySem.W.findIn K (.ref D) "__getattr__" = some none
  sb : PySem.W.subIn K (.ref D) (.type "BaseException") = some true
  ha : PySem.W.findIn K (.ref D) "__class__" = some (some (.builtin "object.__class__"))
  hn : PySem.W.specialIn K (.builtin "object.__class__") "__get__" = some (some (.builtin "getset_descriptor.__get__"))
  ht : PySem.W.takesIn K (.builtin "object.__class__") = some true
  hm : PySem.W.mroIn K D (.type "object") = some true
def excDB (K : PySem.W.Frag) (D : Addr) : Bool :=
  (PySem.W.clsIn K D).isSome && (He.eqO (PySem.W.findIn K (.ref D) "__getattribute__") (some (some (.builtin "BaseException.__getattribute__"))) && (He.eqO (PySem.W.findIn K (.ref D) "__getattr__") (some none) &&
  (decide (PySem.W.subIn K (.ref D) (.type "BaseException") = some true) && (He.eqO (PySem.W.findIn K (.ref D) "__class__") (some (some (.builtin "object.__class__"))) &&
  (He.eqO (PySem.W.specialIn K (.builtin "object.__class__") "__get__") (some (some (.builtin "getset_descriptor.__get__"))) && (decide (PySem.W.takesIn K (.builtin "object.__class__") = some true) && decide (PySem.W.mroIn K D (.type "object") = some true)))))))
theorem excDB_ok {K : PySem.W.Frag} {D : Addr} (h : excDB K D = true) : ExcD K D := by
  obtain ⟨h1, h⟩ := He.ba h
  obtain ⟨h2, h⟩ := He.ba h
  obtain ⟨h3, h⟩ := He.ba h
  obtain ⟨h4, h⟩ := He.ba h
  obtain ⟨h5, h⟩ := He.ba h
  obtain ⟨h6, h⟩ := He.ba h
  obtain ⟨h7, h8⟩ := He.ba h
  exact ⟨h1, He.eqO_ok h2, He.eqO_ok h3, of_decide_eq_true h4, He.eqO_ok h5, He.eqO_ok h6, of_decide_eq_true h7, of_decide_eq_true h8⟩
def rIsG (K : PySem.W.Frag) (cls : Value) (d : Option Addr) (a : Addr) : List V → Hp → VK → Prop := fun xs H Q => ∃ (D : Addr) (c : V) (cv : Value) (b : Bool), cls = .ref D ∧ ExcD K D ∧ xs = [.ref a, c] ∧ ClsV c cv ∧ (∀ dx, d = some dx → ∃ o, H dx = some o) ∧ PySem.W.kitOne K cls cv = some b ∧ Q (.bl b) H
theorem call_isG {X : Cx} {K : PySem.W.Frag} {a : Addr} {cls : Value} {d : Option Addr} {oe : Obj} (eK : X.K = K) (hz : L2N.Zn cls d oe) (hf : ∃ vs, oe.data = .fields vs) (hp : (a, oe) ∈ X.pn) : CallR X (.builtin "isinstance") (rIsG K cls d a) := by
  subst eK
  intro pins s σ H xs us Q I r h
  obtain ⟨D, c, cv, b, rfl, C, rfl, hcv, hd, e, q⟩ := h
  cases r with
  | cons rx rr =>
    cases rr with
    | cons rt rr =>
      cases rr
      cases rx
      have ec := hcv.eq rt
      subst ec
      obtain ⟨hget, _⟩ := I.pin (a, oe) (List.mem_append_left _ hp)
      obtain ⟨vs, hv⟩ := hf
      obtain ⟨oc, od, oda, osl⟩ := oe
      obtain ⟨h1, h2⟩ := hz.zc
      dsimp only at h1 h2 hv
      subst h1 h2 hv
      have J : ∃ od', PySem.W.InstAt s.heap a ⟨.ref D, od, .fields vs, osl⟩ D od' := by
        cases od with
        | none => exact ⟨none, hget, rfl, rfl, trivial⟩
        | some dx =>
          obtain ⟨o, ho⟩ := hd dx rfl
          obtain ⟨u, hu⟩ := objOk_get (I.hok dx o ho)
          exact ⟨some u, hget, rfl, rfl, hu⟩
      obtain ⟨od', J⟩ := J
      exact PySem.W.kia_one (PySem.W.kitx_exc C.cl C.ga C.gt C.sb C.ha C.hn C.ht C.hm) I.kIn J e (fun z => nomatch z) fun tk => ⟨.bl b, H, I.kept (t' := tk) fun _ _ z => z, rfl, q⟩
/-! ### defs that are called with the exception that is handled -/
structure FnE (P : Program) (w : World) (K : PySem.W.Frag) (mg : Str → Option Value) (base : Heap) (CX : CXT) (k : Nat) (f : Addr) (fd : FuncData) (ps : List Str) (sp : Addr → Value → Option Addr → Sp) : Prop where
  len : ∀ a c d vs H Q E, sp a c d vs H Q E → vs.length = ps.length
  run : ∀ (A : Around) (outer : List Env) (s : Shared) (H : Hp) (args : Args) (us : List Value) (vs : List V) (Q : VK) (E : XK) (a : Addr) (oe : Obj) (cls : Value) (d : Option Addr), L2H.RoomH k A → L2H.Hot1 A (a, oe) → L2H.PinOk outer H s (a, oe) → L2N.Zn cls d oe → (∃ vs, oe.data = .fields vs) → Env0 P w K mg base A outer s H →
    BindsTo s fd args (ps.zip us) → Vals vs us → sp a cls d vs H Q E → codeAny (model P w) A (.call (.ref f) args) (CR CX outer P w H s Q E) s
section
variable {P : Program} {w : World} {K : PySem.W.Frag} {mg : Str → Option Value} {base : Heap} {CX : CXT} {k : Nat} {f : Addr} {x qual : Str} {params : Arguments} {body : List Stmt} {scope : Scope} {dvs : List V} {kws : List (Str × V)} {fd : FuncData} {N ps : List Str}
theorem FnE.mk' {sp : Addr → Value → Option Addr → Sp} (F : FunD K x qual params body scope dvs kws f fd) (S : FnScope N ps scope) (len : ∀ a c d vs H Q E, sp a c d vs H Q E → vs.length = ps.length)
    (hbody : ∀ (cdv : Value) (A : Around) (outer : List Env) (s : Shared) (H : Hp) (vs : List V) (Q : VK) (E : XK) (a : Addr) (oe : Obj) (cls : Value) (d : Option Addr), L2H.Hot1 A (a, oe) → L2N.Zn cls d oe → (∃ vs, oe.data = .fields vs) → L2H.RoomH k (A.deeper (envOfC qual scope s.heap.objs.size f cdv)) → sp a cls d vs H Q E →
      ∃ t, PSs (L2H.cxH CX P w K mg base N qual scope f cdv A outer s H E (a, oe)) body t ∧ t { nx := fun _ H' => Q .non H', rt := Q } (start N vs) H) : FnE P w K mg base CX (k + 1) f fd ps sp := by
  obtain ⟨oc, od, dV, kV, doc, pm, an, cdv, ct, osl, rfl, lk, hcd, _, _⟩ := F.ex
  refine ⟨len, fun A outer s H args us vs Q E a oe cls d hr hot hpin hz hf e0 hb r hsp => ?_⟩
  have KX : K.In s.heap := e0.mod.kin.keeps fun b o e => (e0.bs b o e).1
  have lim : s.heap.NoLimit := e0.mod.nolimit.keeps fun b o e => (e0.bs b o e).1
  have hkind : ∀ y ∈ ps.zip us, scope.names.lookup y.1 = some .local ∨ (scope.names.lookup y.1 = some .cell ∧ ((cellsFrom (s.heap.objs.size + 1) scope.names []).lookup y.1).isSome = true) := fun ⟨n, v⟩ hy =>
    (S.par n (List.of_mem_zip hy).1).elim .inl fun q => .inr ⟨q, PySem.W.cellsFrom_some _ _ _ (.inl q)⟩
  refine codeAny_call_function hr.depth (KX _ _ lk) rfl S.co S.gen rfl (PySem.W.codeRec_of KX hcd) (hb _ _ _ _ (wpAny_newFunctionEnv_cells S.kind hkind fun env he s1 xx => ?_))
  subst he
  refine ⟨lim.keeps xx.toInCall.keep, codeAny_func ?_⟩
  obtain ⟨t, ht, hq⟩ := hbody cdv A outer s H vs Q E a oe cls d hot hz hf (hr.deeper _) hsp
  have I := L2H.inv_startH (CX := CX) (E := E) S hpin e0 (len _ _ _ _ _ _ _ hsp) r xx
  refine wpAny_mono (ht.run [] s1 (start N vs) H _ I hq) (fun fl s' hs => ?_) fun e s' hs => hs
  cases fl with
  | ret u =>
    obtain ⟨v, σ', H', J, rv, q⟩ := hs
    exact ⟨v, H', J.os, J.bare, J.base, J.hok, rv, q⟩
  | next =>
    obtain ⟨σ', H', J, q⟩ := hs
    exact ⟨.non, H', J.os, J.bare, J.base, J.hok, rfl, q⟩
  | brk => exact (let ⟨_, _, _, q⟩ := hs; False.elim q)
  | cont => exact (let ⟨_, _, _, q⟩ := hs; False.elim q)
end
section
variable {X : Cx} {CX : CXT} {k : Nat} {f C : Addr} {fd : FuncData} {ps : List Str} {x m : Str} {q pos apos : Pos} {e o : Expr} {es : List Expr} {ta : TE} {t : TA}
theorem pe_callE {sp : Addr → Value → Option Addr → Sp} {E : L2.St → XK} {a : Addr} {oe : Obj} {cls : Value} {d : Option Addr} (F : FnE X.prog X.w X.K X.mg X.base CX k f fd ps sp) (hr : L2H.RoomH k X.A) (hot : L2H.Hot1 X.A (a, oe)) (hz : L2N.Zn cls d oe) (hf : ∃ vs, oe.data = .fields vs) (hp : (a, oe) ∈ X.pn) (hm : X.mg x = some (.ref f)) (hk : PySem.W.keepIn X.K (.ref f) = true) (hb : Binds X.K fd ps [])
    (hx : ∀ σ, PassesAt CX X σ (E σ)) (ha : PA X (e :: es) t) (hg : Gl X x := by rfl) (hdb : (x == ("__debug__" : Str)) = false := by decide) (he : starEach (e :: es) X.env = (false, eval e X.env) :: starEach es X.env := by rfl)
    (hpl : (backTo pos (starEach es X.env)).any (·.1) = false := by rfl) : PE X (.Call (.Name x q) (e :: es) [] pos) (tCallS (sp a cls d) E t) := by
  refine ⟨fun pins s σ H Q I h => wpAny_Call_Name_kw (ld_glob I hg hm (PySem.W.callWith_K (h₀ := X.base) I.ok.mod.kin hk (thn (ha.run pos pins s σ H _ I h) fun us s1 ⟨vs, H1, I1, r, hq⟩ => ⟨I1.kIn, ?_⟩) he hpl) hdb)⟩
  have hl : us.length = ps.length := by rw [← r.length]; exact F.len _ _ _ _ _ _ _ hq
  have b := hb s1 us I1.kIn (by rw [List.append_nil]; exact hl)
  rw [List.append_nil] at b
  have P1 := I1.pin (a, oe) (List.mem_append_left _ hp)
  have hpin : L2H.PinOk X.stack H1 s1 (a, oe) := ⟨P1.1, P1.2.1, fun hm => (List.mem_cons.mp (I1.stkSub a hm)).elim P1.2.2.1 P1.2.2.2.1, P1.2.2.2.2⟩
  refine wpAny_call (codeAny_mono (F.run X.A X.stack s1 H1 ⟨us, []⟩ us vs Q (E σ) a oe cls d hr hot hpin hz hf I1.env0 b r hq) fun r s' hq' => ?_)
  cases r with
  | error e => exact hx σ pins H1 s1 e s' I1 hq'
  | ok fl =>
    cases fl with
    | ret u => exact I1.after hq'
    | next => exact False.elim hq'
    | brk => exact False.elim hq'
    | cont => exact False.elim hq'
end
theorem never0 {X : Cx} : ∀ σ : L2.St, PassesAt CX0 X σ ((fun _ => E0) σ) := fun _ _ _ _ _ _ _ h => h.elim
theorem roomH_mark {k : Nat} {A : Around} (hr : Room k A) (v : Option Value) : L2H.RoomH k (A.mark v) := ⟨hr.dp, hr.un⟩
theorem hot_mark {A : Around} {a : Addr} {cls : Value} {d : Option Addr} {oe : Obj} (hz : L2N.Zn cls d oe) (hf : ∃ vs, oe.data = .fields vs) : L2H.Hot1 (A.mark (some (.ref a))) (a, oe) := by
  obtain ⟨vs, hv⟩ := hf
  exact ⟨rfl, vs, hv, hz.2.2 vs hv⟩
theorem CalM.of {P : Program} {w : World} {K : PySem.W.Frag} {mg : Str → Option Value} {base : Heap} {CX : CXT} {k : Nat} {m x q : Str} {ps : List Str} {sp : Sp} {pa : Arguments} {bd : List Stmt} {sc : Scope} {kws : List (Str × V)} {C f : Addr}
    (F : ∃ fd, FunD K x q pa bd sc [] kws f fd) (c : Cls K C) (hm : Meth K C m f) (ok : ∀ fd, FunD K x q pa bd sc [] kws f fd → FnOk P w K mg base CX k f fd ps sp)
    (hb : ∀ (kV doc pm : Value) (an : Option Addr) (cdv ct : Value) (us : List Value), us.length = ps.length → bindArgs (PySem.W.fnOf x q pa bd sc .none kV doc pm an cdv ct) ⟨us, []⟩ = pure (ps.zip us)) : CalM P w K mg base CX k C m ps [] sp := by
  obtain ⟨fd, F⟩ := F
  exact ⟨c, f, fd, [], hm, ok fd F, F.bindsN hb, .nil⟩
/-! ### calls that may raise: the wish is W at the caller's slots -/
section
variable {X : Cx} {k : Nat} {C : Addr} {ps : List Str} {sp : Sp} {dvs : List V} {W : WX} {x m : Str} {p pos apos : Pos} {e o : Expr} {es : List Expr} {ta : TE} {t : TA}
theorem pcS_call (c : Cal X.prog X.w X.K X.mg X.base (L2N.CX X.prog X.w) k x ps dvs sp) (hr : Room k X.A) (tk : L2N.Takes X W) (ha : PA X (e :: es) t) (hg : Gl X x := by rfl) (hdb : (x == ("__debug__" : Str)) = false := by decide)
    (he : starEach (e :: es) X.env = (false, eval e X.env) :: starEach es X.env := by rfl) (hpl : (backTo pos (starEach es X.env)).any (·.1) = false := by rfl) : PE X (.Call (.Name x p) (e :: es) [] pos) (tCallSD sp dvs (WE W) t) := by
  obtain ⟨f, fd, ds, h1, h2, F, b, v⟩ := c.ex
  exact pe_callSD F hr hg h1 h2 b v (fun σ => L2N.passAt tk σ) ha hdb he hpl
def tMakeS (C : Addr) (sp : Sp) (dvs : List V) (W : WX) (t : TA) : TE := fun σ H Q => t σ H fun vs H1 => ∀ x dx, H1 x = none → H1 dx = none → dx ≠ x →
  sp (.ref x :: (vs ++ dvs)) (upd (upd H1 dx (.own x)) x (.ins C dx [])) (fun v H2 => v = .non ∧ Q (.ref x) H2) (WE W σ)
theorem pcS_make (c : CalI X.prog X.w X.K X.mg X.base (L2N.CX X.prog X.w) k x C ps dvs sp) (hr : Room (k + 1) X.A) (tk : L2N.Takes X W) (ha : PA X (e :: es) t) (hg : Gl X x := by rfl) (hdb : (x == ("__debug__" : Str)) = false := by decide)
    (he : starEach (e :: es) X.env = (false, eval e X.env) :: starEach es X.env := by rfl) (hpl : (backTo pos (starEach es X.env)).any (·.1) = false := by rfl) : PE X (.Call (.Name x p) (e :: es) [] pos) (tMakeS C sp dvs W t) := by
  obtain ⟨f, fd, ds, M, F, b, hd⟩ := c.ex
  refine ⟨fun pins s σ H Q I h => wpAny_Call_Name_kw (ld_glob I hg c.g (PySem.W.callWith_K (h₀ := X.base) I.ok.mod.kin M.kp (thn (ha.run pos pins s σ H _ I h) fun us s1 ⟨vs, H1, I1, r, hq⟩ => ⟨I1.kIn, ?_⟩) he hpl) hdb)⟩
  have hq0 := hq (s1.heap.objs.size + 1) s1.heap.objs.size (I1.hok.fresh (Nat.le_succ _)) (I1.hok.fresh (Nat.le_refl _)) (Nat.ne_of_lt (Nat.lt_succ_self _))
  have I2 := Inv.made (C := C) I1
  have r2 : Vals (V.ref (s1.heap.objs.size + 1) :: (vs ++ dvs)) (Value.ref (s1.heap.objs.size + 1) :: (us ++ ds)) := .cons rfl (r.append hd)
  have hl : (Value.ref (s1.heap.objs.size + 1) :: us ++ ds).length = ps.length := by
    have e := r2.length
    rw [F.len _ _ _ _ hq0] at e
    exact e.symm
  refine wpAny_call (make_map (f := f) I1.kIn M.makes M.init (beq_iff_eq.mp M.fn) (codeAny_mono (F.run _ X.stack _ _ ⟨Value.ref (s1.heap.objs.size + 1) :: us, []⟩ (Value.ref (s1.heap.objs.size + 1) :: (us ++ ds)) _ _ (WE W σ) (hr.make C us [])
    (I2.env0.make C us []) (b _ (Value.ref (s1.heap.objs.size + 1) :: us) I2.kIn hl) r2 hq0) fun r s' hq' => ?_))
  cases r with
  | error e => exact L2N.passAt tk σ pins _ _ e s' I2 hq'
  | ok fl =>
    cases fl with
    | ret u =>
      obtain ⟨v, H', I3, rv, ev, q3⟩ := I2.after hq'
      subst ev
      exact ⟨rv, ⟨V.ref (s1.heap.objs.size + 1), H', I3, rfl, q3⟩⟩
    | next => exact False.elim hq'
    | brk => exact False.elim hq'
    | cont => exact False.elim hq'
end
section
variable {X : Cx} {k : Nat} {C : Addr} {ps : List Str} {sp : Sp} {dvs : List V} {W : WX} {x m : Str} {p pos apos : Pos} {e o : Expr} {es : List Expr} {ta : TE} {t : TA}
def tMethS (C : Addr) (m : Str) (sp : Sp) (dvs : List V) (W : WX) (ta : TE) (t : TA) : TE := fun σ H Q => ta σ H fun x H1 => ∃ a dx fs, x = .ref a ∧ H1 a = some (.ins C dx fs) ∧ fs.lookup m = none ∧ t σ H1 fun vs H2 => sp (x :: (vs ++ dvs)) H2 Q (WE W σ)
theorem pcS_meth0 {pl : Sem Bool} (c : CalM X.prog X.w X.K X.mg X.base (L2N.CX X.prog X.w) k C m ps dvs sp) (hr : Room k X.A) (tk : L2N.Takes X W) (ho : PE X o ta)
    (ht : eval (.Call (.Attribute o m apos) [] [] pos) X.env = (do
      let ov ← eval o X.env
      standAt apos.atName
      let (f, first) ← holding [ov] (getMethod ov m pl)
      callWith pos f first (backTo pos (starEach [] X.env)) (backToKw pos (keywordEach [] X.env))) := by rfl) :
    PE X (.Call (.Attribute o m apos) [] [] pos) (tMethS C m sp dvs W ta tNil) := by
  obtain ⟨f, fd, ds, hm, F, hb, hd⟩ := c.ex
  refine ⟨fun pins s σ H Q I h => ?_⟩
  refine PySem.W.methodCall_KW (pl := pl) (thn (ho.run pins s σ H _ I h) fun u s1 ⟨x, H1, I1, rx, a, dx, fs, ex, ea, l, q⟩ => ?_) ht
  subst ex
  obtain rfl : u = Value.ref a := rx
  refine getmeth_ok I1 ea c.c hm l ?_
  exact PySem.W.callWith_K0 (first := [.ref a]) I1.kIn hm.kp (run_fnSD (us := [.ref a]) (vs := [.ref a]) (E := WE W) F hr hb hd (L2N.passAt tk σ) I1 (.cons rfl .nil) q)
theorem pcS_meth {pl : Sem Bool} (c : CalM X.prog X.w X.K X.mg X.base (L2N.CX X.prog X.w) k C m ps dvs sp) (hr : Room k X.A) (tk : L2N.Takes X W) (ho : PE X o ta) (ha : PA X (e :: es) t)
    (hst : starEach (e :: es) X.env = (false, eval e X.env) :: starEach es X.env := by rfl) (hpl : (backTo pos (starEach es X.env)).any (·.1) = false := by rfl)
    (ht : eval (.Call (.Attribute o m apos) (e :: es) [] pos) X.env = (do
      let ov ← eval o X.env
      standAt apos.atName
      let (f, first) ← holding [ov] (getMethod ov m pl)
      callWith pos f first (backTo pos (starEach (e :: es) X.env)) (backToKw pos (keywordEach [] X.env))) := by rfl) :
    PE X (.Call (.Attribute o m apos) (e :: es) [] pos) (tMethS C m sp dvs W ta t) := by
  obtain ⟨f, fd, ds, hm, F, hb, hd⟩ := c.ex
  refine ⟨fun pins s σ H Q I h => ?_⟩
  refine PySem.W.methodCall_KW (pl := pl) (thn (ho.run pins s σ H _ I h) fun u s1 ⟨x, H1, I1, rx, a, dx, fs, ex, ea, l, q⟩ => ?_) ht
  subst ex
  obtain rfl : u = Value.ref a := rx
  refine getmeth_ok I1 ea c.c hm l ?_
  refine PySem.W.callWith_K (first := [.ref a]) (h₀ := X.base) I.ok.mod.kin hm.kp (thn (ha.run pos pins s1 σ H1 _ I1 q) fun us s2 ⟨vs, H2, I2, r, q2⟩ => ⟨I2.kIn, ?_⟩) hst hpl
  exact run_fnSD (us := .ref a :: us) (vs := .ref a :: vs) (E := WE W) F hr hb hd (L2N.passAt tk σ) I2 (.cons rfl r) q2
end
/-- a def that is called with the handled exception -/
structure CalE (P : Program) (w : World) (K : PySem.W.Frag) (mg : Str → Option Value) (base : Heap) (CX : CXT) (k : Nat) (x : Str) (ps : List Str) (sp : Addr → Value → Option Addr → Sp) : Prop where
  ex : ∃ f fd, mg x = some (.ref f) ∧ PySem.W.keepIn K (.ref f) = true ∧ FnE P w K mg base CX k f fd ps sp ∧ Binds K fd ps []
section
variable {X : Cx} {CX : CXT} {k : Nat} {ps : List Str} {x : Str} {p pos : Pos} {e : Expr} {es : List Expr} {t : TA}
theorem pcE_call {sp : Addr → Value → Option Addr → Sp} {a : Addr} {oe : Obj} {cls : Value} {d : Option Addr} (c : CalE X.prog X.w X.K X.mg X.base CX0 k x ps sp) (hr : L2H.RoomH k X.A) (hot : L2H.Hot1 X.A (a, oe)) (hz : L2N.Zn cls d oe) (hf : ∃ vs, oe.data = .fields vs) (hp : (a, oe) ∈ X.pn)
    (ha : PA X (e :: es) t) (hg : Gl X x := by rfl) (hdb : (x == ("__debug__" : Str)) = false := by decide)
    (he : starEach (e :: es) X.env = (false, eval e X.env) :: starEach es X.env := by rfl) (hpl : (backTo pos (starEach es X.env)).any (·.1) = false := by rfl) : PE X (.Call (.Name x p) (e :: es) [] pos) (tCallS (sp a cls d) (fun _ => E0) t) := by
  obtain ⟨f, fd, h1, h2, F, b⟩ := c.ex
  exact pe_callE F hr hot hz hf hp h1 h2 b never0 ha hg hdb he hpl
end
/-- what is never reached -/
theorem pe_no {X : Cx} {e : Expr} : PE X e (fun _ _ _ => False) := ⟨fun _ _ _ _ _ _ h => h.elim⟩
theorem ps_no {X : Cx} {e : Stmt} : PS X e (fun _ _ _ => False) := ⟨fun _ _ _ _ _ _ h => h.elim⟩
theorem pss_no {X : Cx} {e : List Stmt} : PSs X e (fun _ _ _ => False) := ⟨fun _ _ _ _ _ _ h => h.elim⟩
/-- nothing is let out -/
theorem takesNo {X : Cx} : L2N.Takes X (fun _ _ _ _ => False) := fun u s' x => by
  obtain ⟨a, B, sI, pins, σ, H, cls, d, e, I, nb, up, sky, na, os, ag, z⟩ := x
  exact z.elim
/-- of the named classes the exception's class x is itself alone -/
def marksB (K : PySem.W.Frag) (names : List Str) (x : Str) : Bool := excDB K (He.ga K x) && (names.all (fun m => decide (PySem.W.kitOne K (.ref (He.ga K x)) (.ref (He.ga K m)) = some (decide (m = x)))) &&
  (decide (PySem.W.kitOne K (.ref (He.ga K x)) (.ref (He.ga K "MostsError")) = some true) && decide (PySem.W.kitOne K (.ref (He.ga K x)) (.type "ValueError") = some true)))
theorem marksB_ok {K : PySem.W.Frag} {names : List Str} {x : Str} (h : marksB K names x = true) : ExcD K (He.ga K x) ∧ (∀ m ∈ names, PySem.W.kitOne K (.ref (He.ga K x)) (.ref (He.ga K m)) = some (decide (m = x))) ∧
    PySem.W.kitOne K (.ref (He.ga K x)) (.ref (He.ga K "MostsError")) = some true ∧ PySem.W.kitOne K (.ref (He.ga K x)) (.type "ValueError") = some true := by
  obtain ⟨h1, h⟩ := He.ba h
  obtain ⟨h2, h⟩ := He.ba h
  obtain ⟨h3, h4⟩ := He.ba h
  exact ⟨excDB_ok h1, fun m hm => of_decide_eq_true (List.all_eq_true.mp h2 m hm), of_decide_eq_true h3, of_decide_eq_true h4⟩
/-- the exception's own dict stands -/
def HD (H : Hp) (d : Option Addr) : Prop := ∀ dx, d = some dx → ∃ o, H dx = some o
theorem HD.upd {H : Hp} {d : Option Addr} {p : Addr} {o : HO} (h : HD H d) : HD (L2.upd H p o) d := fun dx e => by
  by_cases q : dx = p
  · subst q
    exact ⟨_, upd_same⟩
  · rw [upd_ne q]
    exact h dx e
theorem HD.same {H H' : Hp} {d : Option Addr} (h : HD H d) (e : Same H H') : HD H' d := fun dx q => by
  obtain ⟨o, ho⟩ := h dx q
  exact ⟨o, e _ _ ho⟩
theorem HD.non {H : Hp} : HD H none := fun _ z => nomatch z
/-! ### one more Bool of the head -/
def hookX (n : Nat) (fa : List He.Fa) (fn : List He.DefD) (xb : PySem.W.Frag → Bool) : PySem.W.Hook where
  α := He.AlD × Bool
  obs := fun s => (He.obsDG n fa fn s.heap.get?, xb (He.frG s.heap.get? (He.asD s.heap.get? n)))
  val := fun _ => (He.valD fn, true)
  says := fun _ h => ∃ K : PySem.W.Frag, K.In h ∧ He.SaysD fa fn K ∧ xb K = true
  of := fun _ _ e => ⟨_, He.frG_in, congrArg Prod.fst e, congrArg Prod.snd e⟩
  keeps := fun _ _ _ ⟨K, hK, c⟩ k => ⟨K, PySem.W.Frag.In.keeps hK k, c⟩
def obsX (n : Nat) (fa : List He.Fa) (fn : List He.DefD) (xb : PySem.W.Frag → Bool) (g : Addr → Option Obj) : He.AlD × Bool := (He.obsDG n fa fn g, xb (He.frG g (He.asD g n)))
theorem obsX_eq {n : Nat} {fa : List He.Fa} {fn : List He.DefD} {xb : PySem.W.Frag → Bool} {g : Addr → Option Obj} {s : Shared} (h : ∀ a, g a = s.heap.get? a) : obsX n fa fn xb g = (hookX n fa fn xb).obs s := by
  have e : g = s.heap.get? := funext h
  rw [e] <;> rfl
end My

set_option Elab.async false
set_option linter.all false
set_option maxRecDepth 100000
set_option maxHeartbeats 4000000
namespace My
open PySem PySem.Spec PyProof.Rows L2
/-! ### // by any divisor but 0 -/
def CDivNW (_ j : Int) : Prop := j ≠ 0 ∧ j.natAbs.log2 < 9000
theorem op_fdivNW {X : Cx} : OpR X (binaryOp .FloorDiv) (rI CDivNW fun i j => .int (i.fdiv j)) := opI fun _ _ _ _ _ _ _ hc q => floordiv_int hc.1 q (.inl (PyProof.noPylong_of_log2 hc.2))
theorem wide_divN {i j : Int} {b : Nat} (h : j ≠ 0) (hb : j.natAbs < 2 ^ b) (h0 : 0 < b) (h9 : b ≤ 9000) : CDivNW i j := ⟨h, Nat.lt_of_lt_of_le (PySem.Flt.log2_lt_of h0 hb) h9⟩
/-! ### greatest divisors -/
theorem gcd_fmod (a b : Int) : Int.gcd b (a.fmod b) = Int.gcd a b := by
  rw [Int.fmod_def, Int.gcd_sub_mul_left_right, Int.gcd_comm]
theorem gcd_emod (a b : Int) : Int.gcd b (a % b) = Int.gcd a b := by
  rw [Int.emod_def, Int.gcd_sub_mul_left_right, Int.gcd_comm]
theorem fmod_less (a : Int) {b : Int} (h : b ≠ 0) : (a.fmod b).natAbs < b.natAbs := by
  rw [Int.fmod_eq_emod]
  have h1 := Int.emod_nonneg a h
  have h2 := Int.emod_lt a h
  split
  · omega
  · rename_i q
    have hb : b < 0 := by
      have := not_or.mp q
      omega
    have hn : ¬ b ∣ a := (not_or.mp q).2
    have : a % b ≠ 0 := fun z => hn (Int.dvd_of_emod_eq_zero z)
    omega
theorem abs_if (i : Int) : (if i < 0 then -i else i) = (i.natAbs : Int) := by
  split <;> omega
theorem dvd_cop {k m n : Int} (h : Int.gcd k m = 1) (d : k ∣ m * n) : k ∣ n := by
  have e := Int.gcd_mul_right_right_of_gcd_eq_one (k := n) h
  rw [Int.gcd_eq_natAbs_left d] at e
  exact Int.natAbs_dvd_natAbs.mp (by rw [e]; exact Nat.gcd_dvd_right _ _)
/-- p/q is t/b in lowest terms -/
structure Rt (p q t b : Int) : Prop where
  pos : 1 ≤ q
  one : Int.gcd p q = 1
  eq : p * b = t * q
theorem Rt.uniq {p q p' q' t b : Int} (h : Rt p q t b) (h' : Rt p' q' t b) (hb : b ≠ 0) : p = p' ∧ q = q' := by
  have e : p * q' = p' * q := by
    have e1 : (p * q') * b = (p' * q) * b := by
      rw [Int.mul_right_comm, h.eq, Int.mul_right_comm p' q b, h'.eq, Int.mul_right_comm]
    exact Int.eq_of_mul_eq_mul_right hb e1
  have d1 : q ∣ q' := by
    have : q ∣ p * q' := ⟨p', by rw [e, Int.mul_comm]⟩
    exact dvd_cop (by rw [Int.gcd_comm]; exact h.one) this
  have d2 : q' ∣ q := by
    have : q' ∣ p' * q := ⟨p, by rw [← e, Int.mul_comm]⟩
    exact dvd_cop (by rw [Int.gcd_comm]; exact h'.one) this
  have hq : q = q' := Int.dvd_antisymm (by have := h.pos; omega) (by have := h'.pos; omega) d1 d2
  refine ⟨?_, hq⟩
  rw [← hq] at e
  exact Int.eq_of_mul_eq_mul_right (by have := h.pos; omega) e
/-- what Ratio's maker does -/
theorem rt_make {t b d : Int} (hb : b ≠ 0) (hd : d = if b < 0 then -(Int.gcd t b : Int) else (Int.gcd t b : Int)) : d ≠ 0 ∧ Rt (t.fdiv d) (b.fdiv d) t b ∧ (t.fdiv d).natAbs ≤ t.natAbs ∧ (b.fdiv d).natAbs ≤ b.natAbs ∧ d.natAbs ≤ b.natAbs := by
  have hg : 0 < Int.gcd t b := Int.gcd_pos_of_ne_zero_right t hb
  obtain ⟨k, hk⟩ := Int.gcd_dvd_left t b
  obtain ⟨m, hm⟩ := Int.gcd_dvd_right t b
  have hkm : Int.gcd k m = 1 := by
    have e : Int.gcd t b = (Int.gcd t b : Int).natAbs * Int.gcd k m := by
      rw [← Int.gcd_mul_left, ← hk, ← hm]
    rw [Int.natAbs_natCast] at e
    have : Int.gcd t b * 1 = Int.gcd t b * Int.gcd k m := by rw [Nat.mul_one]; exact e
    exact (Nat.eq_of_mul_eq_mul_left hg this).symm
  have hle : Int.gcd t b ≤ b.natAbs := Int.gcd_le_natAbs_right t hb
  generalize hG : Int.gcd t b = g at *
  have key : ∀ s : Int, s = 1 ∨ s = -1 → d = s * g → 0 < s * m → d ≠ 0 ∧ Rt (t.fdiv d) (b.fdiv d) t b ∧ (t.fdiv d).natAbs ≤ t.natAbs ∧ (b.fdiv d).natAbs ≤ b.natAbs ∧ d.natAbs ≤ b.natAbs := by
    intro s hs ed hsm
    have hss : s * s = 1 := by rcases hs with rfl | rfl <;> rfl
    have d0 : d ≠ 0 := by rcases hs with rfl | rfl <;> omega
    have et : t.fdiv d = s * k := by
      have : t = d * (s * k) := by rw [ed, hk, show s * (g : Int) * (s * k) = (s * s) * (g * k) by ac_rfl, hss, Int.one_mul]
      rw [this, Int.mul_fdiv_cancel_left _ d0]
    have eb : b.fdiv d = s * m := by
      have : b = d * (s * m) := by rw [ed, hm, show s * (g : Int) * (s * m) = (s * s) * (g * m) by ac_rfl, hss, Int.one_mul]
      rw [this, Int.mul_fdiv_cancel_left _ d0]
    have ns : s.natAbs = 1 := by rcases hs with rfl | rfl <;> rfl
    have gk : k.natAbs ≤ t.natAbs := by
      rw [hk, Int.natAbs_mul, Int.natAbs_natCast]
      exact Nat.le_mul_of_pos_left _ hg
    have gm : m.natAbs ≤ b.natAbs := by
      rw [hm, Int.natAbs_mul, Int.natAbs_natCast]
      exact Nat.le_mul_of_pos_left _ hg
    refine ⟨d0, ⟨by rw [eb]; omega, ?_, ?_⟩, ?_, ?_, ?_⟩
    · rw [et, eb, Int.gcd_mul_left, ns, hkm]
    · rw [et, eb, hk, hm]
      ac_rfl
    · rw [et, Int.natAbs_mul, ns, Nat.one_mul]; exact gk
    · rw [eb, Int.natAbs_mul, ns, Nat.one_mul]; exact gm
    · rw [ed, Int.natAbs_mul, ns, Nat.one_mul, Int.natAbs_natCast]; exact hle
  have hgi : (0 : Int) < (g : Int) := by omega
  by_cases hneg : b < 0
  · rw [if_pos hneg] at hd
    refine key (-1) (.inr rfl) (by rw [hd]; omega) ?_
    have : m < 0 := by
      rcases Int.lt_or_le m 0 with h | h
      · exact h
      · have := Int.mul_nonneg (Int.le_of_lt hgi) h
        omega
    omega
  · rw [if_neg hneg] at hd
    refine key 1 (.inl rfl) (by rw [hd]; omega) ?_
    have : 0 < m := by
      rcases Int.lt_or_le 0 m with h | h
      · exact h
      · have := Int.mul_nonpos_of_nonneg_of_nonpos (Int.le_of_lt hgi) h
        omega
    omega
/-! ### Euclid's way ends in time -/
def fibs : Nat → Nat × Nat
  | 0 => (0, 1)
  | n + 1 => let p := fibs n; (p.2, p.1 + p.2)
theorem fib400 : 2 ^ 270 ≤ (fibs 400).1 := by decide +kernel
/-- after n + 1 turns: the pair is x, y -/
structure Eu (n : Nat) (a b x y : Int) : Prop where
  g : Int.gcd x y = Int.gcd a b
  lo : 0 ≤ y
  lt : y < x
  fib : ((fibs (n + 1)).1 : Int) * x + ((fibs n).1 : Int) * y ≤ b
theorem Eu.first {a b : Int} (h : 0 < b) : Eu 0 a b b (a % b) := by
  have h1 := Int.emod_nonneg a (show b ≠ 0 by omega)
  have h2 := Int.emod_lt_of_pos a h
  exact ⟨gcd_emod a b, h1, h2, by show ((1 : Nat) : Int) * b + ((0 : Nat) : Int) * (a % b) ≤ b; omega⟩
theorem Eu.next {n : Nat} {a b x y : Int} (h : Eu n a b x y) (h0 : y ≠ 0) : Eu (n + 1) a b y (x % y) := by
  have p : 0 < y := by have := h.lo; omega
  have h1 := Int.emod_nonneg x h0
  have h2 := Int.emod_lt_of_pos x p
  refine ⟨(gcd_emod x y).trans h.g, h1, h2, ?_⟩
  have e := Int.mul_ediv_add_emod x y
  have q1 : 1 ≤ x / y := by
    rcases Int.lt_or_le 0 (x / y) with z | z
    · exact z
    · have : y * (x / y) ≤ 0 := Int.mul_nonpos_of_nonneg_of_nonpos (Int.le_of_lt p) z
      have := h.lt
      omega
  have q2 : y ≤ y * (x / y) := by
    have := Int.mul_le_mul_of_nonneg_left q1 (Int.le_of_lt p)
    rw [Int.mul_one] at this
    exact this
  have q3 : y + x % y ≤ x := by omega
  have f : ((fibs (n + 1)).1 : Int) * (y + x % y) ≤ ((fibs (n + 1)).1 : Int) * x := Int.mul_le_mul_of_nonneg_left q3 (Int.natCast_nonneg _)
  rw [Int.mul_add] at f
  have e2 : ((fibs (n + 2)).1 : Int) * y = ((fibs n).1 : Int) * y + ((fibs (n + 1)).1 : Int) * y := by
    rw [← Int.add_mul, ← Int.natCast_add]
    rfl
  have := h.fib
  show ((fibs (n + 2)).1 : Int) * y + ((fibs (n + 1)).1 : Int) * (x % y) ≤ b
  omega
theorem Eu.done {a b x y : Int} {n : Nat} (h : Eu n a b x y) (hb : b < ((fibs (n + 1)).1 : Int)) : False := by
  have h1 := h.fib
  have h2 := h.lo
  have h3 := h.lt
  have f1 : ((fibs (n + 1)).1 : Int) * 1 ≤ ((fibs (n + 1)).1 : Int) * x := Int.mul_le_mul_of_nonneg_left (by omega) (Int.natCast_nonneg _)
  have f2 : 0 ≤ ((fibs n).1 : Int) * y := Int.mul_nonneg (Int.natCast_nonneg _) h2
  omega
/-! ### floors and orders of quotients -/
/-- z is t/b rounded down -/
def Fl (z t b : Int) : Prop := (0 < b ∧ z * b ≤ t ∧ t < (z + 1) * b) ∨ (b < 0 ∧ z * (-b) ≤ -t ∧ -t < (z + 1) * (-b))
theorem fl_pos {z t b : Int} (hb : 0 < b) : Fl z t b ↔ z * b ≤ t ∧ t < (z + 1) * b := ⟨fun h => by
  rcases h with h | h
  · exact h.2
  · omega, fun h => .inl ⟨hb, h⟩⟩
theorem fl_neg {z t b : Int} (hb : b < 0) : Fl z t b ↔ z * (-b) ≤ -t ∧ -t < (z + 1) * (-b) := ⟨fun h => by
  rcases h with h | h
  · omega
  · exact h.2, fun h => .inr ⟨hb, h⟩⟩
theorem fl_ediv {t b : Int} (hb : 0 < b) : (t / b) * b ≤ t ∧ t < (t / b + 1) * b := by
  have e := Int.mul_ediv_add_emod t b
  have h1 := Int.emod_nonneg t (show b ≠ 0 by omega)
  have h2 := Int.emod_lt_of_pos t hb
  rw [Int.mul_comm (t / b) b, Int.add_mul, Int.one_mul, Int.mul_comm (t / b) b]
  omega
theorem fl_fdiv {t b : Int} (hb : b ≠ 0) : Fl (t.fdiv b) t b := by
  by_cases h : 0 < b
  · rw [fl_pos h, Int.fdiv_eq_ediv_of_nonneg t (Int.le_of_lt h)]
    exact fl_ediv h
  · have hn : b < 0 := by omega
    rw [fl_neg hn, ← Int.neg_fdiv_neg, Int.fdiv_eq_ediv_of_nonneg (-t) (by omega)]
    exact fl_ediv (by omega)
/-- signs off -/
theorem fl_abs {z t b : Int} (hb : b ≠ 0) : ∃ s : Int, (s = 1 ∨ s = -1) ∧ 0 < s * b ∧ (Fl z t b ↔ z * (s * b) ≤ s * t ∧ s * t < (z + 1) * (s * b)) := by
  by_cases h : 0 < b
  · refine ⟨1, .inl rfl, by omega, ?_⟩
    rw [fl_pos h, Int.one_mul, Int.one_mul]
  · refine ⟨-1, .inr rfl, by omega, ?_⟩
    rw [fl_neg (by omega), show (-1 : Int) * b = -b by omega, show (-1 : Int) * t = -t by omega]
theorem fl_cross {z T B t b : Int} (h : Fl z T B) (hB : B ≠ 0) (hb : b ≠ 0) (e : T * b = t * B) : Fl z t b := by
  obtain ⟨s, hs, pB, hF⟩ := fl_abs (z := z) (t := T) hB
  obtain ⟨s', hs', pb, hf⟩ := fl_abs (z := z) (t := t) hb
  rw [hf]
  obtain ⟨h1, h2⟩ := hF.mp h
  have e2 : (s * T) * (s' * b) = (s' * t) * (s * B) := by
    rw [show (s * T) * (s' * b) = (s * s') * (T * b) by ac_rfl, e]
    ac_rfl
  constructor
  · refine Int.le_of_mul_le_mul_right (a := s * B) ?_ pB
    rw [← e2]
    have := Int.mul_le_mul_of_nonneg_right h1 (Int.le_of_lt pb)
    rw [show z * (s' * b) * (s * B) = z * (s * B) * (s' * b) by ac_rfl]
    exact this
  · refine Int.lt_of_mul_lt_mul_right (a := s * B) ?_ (Int.le_of_lt pB)
    rw [← e2]
    have := Int.mul_lt_mul_of_pos_right h2 pb
    rw [show (z + 1) * (s' * b) * (s * B) = (z + 1) * (s * B) * (s' * b) by ac_rfl]
    exact this
/-- orders by cross products -/
theorem cross_lt {p q t b p' q' t' b' : Int} (h : Rt p q t b) (h' : Rt p' q' t' b') (hb : 0 < b) (hb' : 0 < b') : p * q' < p' * q ↔ t * b' < t' * b := by
  have hq := h.pos
  have hq' := h'.pos
  have pos : 0 < b * b' := Int.mul_pos hb hb'
  have pos2 : 0 < q * q' := Int.mul_pos (by omega) (by omega)
  have e1 : (p * q') * (b * b') = (t * b') * (q * q') := by
    rw [show (p * q') * (b * b') = (p * b) * (q' * b') by ac_rfl, h.eq]
    ac_rfl
  have e2 : (p' * q) * (b * b') = (t' * b) * (q * q') := by
    rw [show (p' * q) * (b * b') = (p' * b') * (q * b) by ac_rfl, h'.eq]
    ac_rfl
  constructor
  · intro z
    refine Int.lt_of_mul_lt_mul_right (a := q * q') ?_ (Int.le_of_lt pos2)
    rw [← e1, ← e2]
    exact Int.mul_lt_mul_of_pos_right z pos
  · intro z
    refine Int.lt_of_mul_lt_mul_right (a := b * b') ?_ (Int.le_of_lt pos)
    rw [e1, e2]
    exact Int.mul_lt_mul_of_pos_right z pos2
theorem cross_eq {p q t b p' q' t' b' : Int} (h : Rt p q t b) (h' : Rt p' q' t' b') (hb : b ≠ 0) (hb' : b' ≠ 0) : (p = p' ∧ q = q') ↔ t * b' = t' * b := by
  have hq := h.pos
  have hq' := h'.pos
  constructor
  · rintro ⟨rfl, rfl⟩
    have e : (t * b') * q = (t' * b) * q := by
      rw [Int.mul_right_comm, ← h.eq, Int.mul_right_comm t', ← h'.eq]
      ac_rfl
    exact Int.eq_of_mul_eq_mul_right (by omega) e
  · intro e
    refine h.uniq ⟨hq', h'.one, ?_⟩ hb
    have : (p' * b) * b' = (t * q') * b' := by
      rw [Int.mul_right_comm, h'.eq, Int.mul_right_comm t q' b', e]
      ac_rfl
    exact Int.eq_of_mul_eq_mul_right hb' this
theorem rt_zero {p q t b : Int} (h : Rt p q t b) (hb : b ≠ 0) : p = 0 ↔ t = 0 := by
  have hq := h.pos
  have e := h.eq
  constructor
  · rintro rfl
    rw [Int.zero_mul] at e
    rcases Int.mul_eq_zero.mp e.symm with z | z
    · exact z
    · omega
  · rintro rfl
    rw [Int.zero_mul] at e
    rcases Int.mul_eq_zero.mp e with z | z
    · exact z
    · exact absurd z hb
theorem cross_div {p q t b p' q' t' b' : Int} (h : Rt p q t b) (h' : Rt p' q' t' b') (hb : b ≠ 0) (hb' : b' ≠ 0) : (p * q') * (t' * b) = (t * b') * (q * p') := by
  have e : ((p * q') * (t' * b)) * b' = ((t * b') * (q * p')) * b' := by
    rw [show (p * q') * (t' * b) * b' = (p * b) * (t' * q') * b' by ac_rfl, h.eq, ← h'.eq]
    ac_rfl
  exact Int.eq_of_mul_eq_mul_right hb' e
end My

set_option Elab.async false
set_option linter.all false
set_option maxRecDepth 100000
set_option maxHeartbeats 4000000
/-! operators by an own class's methods -/
namespace My
open PySem PySem.Spec PyProof.Rows L2
section
variable {X : Cx} {CX : CXT} {k : Nat} {C : Addr} {ps : List Str} {sp : Sp} {dvs : List V} {E : XK} {m : Str}
theorem rel_ref (a : Addr) : RelV (V.ref a) (Value.ref a) := rfl
/-- a method runs below the running body -/
theorem run_own {A' : Around} {f : Addr} {fd : FuncData} {ds : List Value} {pins : List (Addr × Obj)} {σ : L2.St} {H : Hp} {s : Shared} {Q : VK} {us : List Value} {vs : List V} (F : FnOk X.prog X.w X.K X.mg X.base CX k f fd ps sp) (hr : Room k A') (fr : A'.frames = X.A.frames)
    (hb : Binds X.K fd ps ds) (hd : Vals dvs ds) (hx : PassesAt CX X σ E) (I : Inv X pins σ H s) (r : Vals vs us) (h : sp (vs ++ dvs) H Q E) : wpAny (model X.prog X.w) A' (call (.ref f) us) (EP X pins σ Q) X.xe s := by
  have r2 : Vals (vs ++ dvs) (us ++ ds) := r.append hd
  have hl : (us ++ ds).length = ps.length := by rw [← r2.length]; exact F.len _ _ _ _ h
  have e0 : Env0 X.prog X.w X.K X.mg X.base A' X.stack s H := by
    have e := I.env0
    exact ⟨by rw [fr]; exact e.frames, e.mod, e.bs, e.bsz, e.funs, e.frf, e.hok, e.bare⟩
  refine wpAny_call (codeAny_mono (F.run A' X.stack s H ⟨us, []⟩ (us ++ ds) (vs ++ dvs) Q E hr e0 (hb s us I.kIn hl) r2 h) fun r s' hq => ?_)
  cases r with
  | error e => exact hx pins H s e s' I hq
  | ok fl =>
    cases fl with
    | ret u => exact I.after hq
    | next => exact False.elim hq
    | brk => exact False.elim hq
    | cont => exact False.elim hq
theorem inst_at {pins : List (Addr × Obj)} {σ : L2.St} {H : Hp} {s : Shared} {a dx : Addr} {fs : List (Str × V)} (I : Inv X pins σ H s) (e : H a = some (.ins C dx fs)) : ∃ ox od, PySem.W.InstAt s.heap a ox C od := by
  obtain ⟨mA, J, _⟩ := ins_get I.hok e
  obtain ⟨od, J, _⟩ := J.look
  exact ⟨_, _, J⟩
/-- of a value that is no NotImplemented -/
theorem back_of {pins : List (Addr × Obj)} {σ : L2.St} {Q : VK} {v : Value} {s : Shared} (h : EP X pins σ Q v s) : PySem.W.CmpBack (EP X pins σ Q) v s := by
  cases v with
  | notImplemented =>
    obtain ⟨x, H', I, r, q⟩ := h
    cases x <;> first | (cases r; done) | (obtain ⟨_, z⟩ := r; cases z)
  | _ => exact h
/-- x is an instance of C -/
def InsC (C : Addr) (H : Hp) (x : V) : Prop := ∃ a dx fs, x = .ref a ∧ H a = some (.ins C dx fs)
/-- - x -/
theorem un_negO (c : CalM X.prog X.w X.K X.mg X.base CX k C "__neg__" ps dvs sp) (hr : Room k X.A) (hx : ∀ σ, PassesAt CX X σ E) : UnR X (unaryOp .USub) (fun x H Q => InsC C H x ∧ sp (x :: dvs) H Q E) := by
  intro pins s σ H x v Q I rx ⟨⟨a, dx, fs, hxa, ha⟩, h⟩
  subst hxa
  cases rx
  obtain ⟨f, fd, ds, M, F, hb, hd⟩ := c.ex
  obtain ⟨ox, od, J⟩ := inst_at I ha
  obtain ⟨m, hF⟩ := I.fr
  exact PySem.W.ksp_neg hF I.ok.mod.kin J M.at_ M.fn (run_own F hr rfl hb hd (hx σ) I (.cons (rel_ref a) .nil) h)
/-- x op y, both of C -/
theorem op_ownS {op : Operator} (c : CalM X.prog X.w X.K X.mg X.base CX k C m ps dvs sp) (e : PySem.dunder op.info.2 = m) (hc : PySem.W.selfFirst X.K C = true) (hr : Room k X.A) (hx : ∀ σ, PassesAt CX X σ E) :
    OpR X (binaryOp op) (fun x y H Q => InsC C H x ∧ InsC C H y ∧ sp (x :: y :: dvs) H Q E) := by
  intro pins s σ H x y v u Q I rx ry ⟨⟨a, dx, fs, hxa, ha⟩, ⟨b, dy, gs, hyb, hb'⟩, h⟩
  subst e
  subst hxa hyb
  cases rx
  cases ry
  obtain ⟨f, fd, ds, M, F, hb, hd⟩ := c.ex
  obtain ⟨ox, od, J⟩ := inst_at I ha
  obtain ⟨oy, od', J'⟩ := inst_at I hb'
  obtain ⟨m, hF⟩ := I.fr
  exact PySem.W.binop_K hF I.ok.mod.kin J J'.type hc M.at_ M.fn (wpAny_mono (run_own F hr rfl hb hd (hx σ) I (.cons (rel_ref a) (.cons (rel_ref b) .nil)) h) (fun _ _ z => back_of z) fun _ _ z => z)
/-- x op i, x of C, i an int -/
theorem op_ownI {op : Operator} {fo ro rc : Option Value} (c : CalM X.prog X.w X.K X.mg X.base CX k C m ps dvs sp) (e : PySem.dunder op.info.2 = m) (hc : PySem.W.selfFirst X.K C = true) (hR : PySem.W.findIn X.K (.ref C) (dunderR op.info.2) = some rc)
    (hp : rc = none ∨ ∃ g : Addr, rc = some (.ref g)) (h1 : PySem.W.findIn X.K (.type "int") (PySem.dunder op.info.2) = some fo) (h2 : PySem.W.findIn X.K (.type "int") (dunderR op.info.2) = some ro) (hs : PySem.W.subIn X.K (.type "int") (.ref C) = some false)
    (hr : Room k X.A) (hx : ∀ σ, PassesAt CX X σ E) : OpR X (binaryOp op) (fun x y H Q => ∃ i : Int, y = .int i ∧ InsC C H x ∧ sp (x :: y :: dvs) H Q E) := by
  intro pins s σ H x y v u Q I rx ry ⟨i, hyi, ⟨a, dx, fs, hxa, ha⟩, h⟩
  subst e
  subst hxa hyi
  cases rx
  obtain ⟨t, rfl⟩ := _root_.id ry
  obtain ⟨f, fd, ds, M, F, hb, hd⟩ := c.ex
  obtain ⟨ox, od, J⟩ := inst_at I ha
  obtain ⟨m, hF⟩ := I.fr
  exact PySem.W.ksp_binT hF I.ok.mod.kin J rfl hc M.at_ M.fn hR hp h1 h2 hs (wpAny_mono (run_own F hr rfl hb hd (hx σ) I (.cons (rel_ref a) (.cons ry .nil)) h) (fun _ _ z => back_of z) fun _ _ z => z)
/-- comparisons of two of C -/
theorem op_cmpS {op : CmpOp} {nm : Str} (c : CalM X.prog X.w X.K X.mg X.base CX k C nm ps dvs sp) (e : (cmpInfo op).2.1 = nm) (hop : ∀ a b, compareOp op a b = richCompare op a b) (hr : Room k X.A) (hx : ∀ σ, PassesAt CX X σ E) :
    OpR X (compareOp op) (fun x y H Q => InsC C H x ∧ InsC C H y ∧ sp (x :: y :: dvs) H Q E) := by
  intro pins s σ H x y v u Q I rx ry ⟨⟨a, dx, fs, hxa, ha⟩, ⟨b, dy, gs, hyb, hb'⟩, h⟩
  subst e
  subst hxa hyb
  cases rx
  cases ry
  obtain ⟨f, fd, ds, M, F, hb, hd⟩ := c.ex
  obtain ⟨ox, od, J⟩ := inst_at I ha
  obtain ⟨oy, od', J'⟩ := inst_at I hb'
  obtain ⟨m, hF⟩ := I.fr
  rw [hop]
  exact PySem.W.cmp_K hr.units0 hF I.ok.mod.kin J J'.type (by simp [PySem.W.notFirst]) M.at_ M.fn (wpAny_mono (run_own F hr rfl hb hd (hx σ) I (.cons (rel_ref a) (.cons (rel_ref b) .nil)) h) (fun _ _ z => back_of z) fun _ _ z => z)
/-- a comparison of one of C with a plain value -/
theorem op_cmpT {op : CmpOp} {nm : Str} {T : String} (c : CalM X.prog X.w X.K X.mg X.base CX k C nm ps dvs sp) (e : (cmpInfo op).2.1 = nm) (hop : ∀ a b, compareOp op a b = richCompare op a b) (hn : PySem.W.notFirst X.K C (.type T) = true) (hr : Room k X.A) (hx : ∀ σ, PassesAt CX X σ E) :
    OpR X (compareOp op) (fun x y H Q => (∀ u, RelV y u → typeOf u = pure (.type T)) ∧ InsC C H x ∧ sp (x :: y :: dvs) H Q E) := by
  intro pins s σ H x y v u Q I rx ry ⟨hy, ⟨a, dx, fs, hxa, ha⟩, h⟩
  subst e
  subst hxa
  cases rx
  obtain ⟨f, fd, ds, M, F, hb, hd⟩ := c.ex
  obtain ⟨ox, od, J⟩ := inst_at I ha
  obtain ⟨m, hF⟩ := I.fr
  rw [hop]
  exact PySem.W.cmp_K hr.units0 hF I.ok.mod.kin J (.of_pure (hy u ry)) hn M.at_ M.fn (wpAny_mono (run_own F hr rfl hb hd (hx σ) I (.cons (rel_ref a) (.cons ry .nil)) h) (fun _ _ z => back_of z) fun _ _ z => z)
/-- abs(x) -/
theorem call_absO (c : CalM X.prog X.w X.K X.mg X.base CX k C "__abs__" ps dvs sp) (hr : Room (k + 1) X.A) (hx : ∀ σ, PassesAt CX X σ E) : CallR X (.builtin "abs") (fun xs H Q => ∃ x, xs = [x] ∧ InsC C H x ∧ sp (x :: dvs) H Q E) := by
  intro pins s σ H xs us Q I r ⟨x, hxs, ⟨a, dx, fs, hxa, ha⟩, h⟩
  subst hxs hxa
  obtain ⟨v, rfl, rv⟩ := vals1 r
  cases rv
  obtain ⟨f, fd, ds, M, F, hb, hd⟩ := c.ex
  obtain ⟨ox, od, J⟩ := inst_at I ha
  refine PySem.Calls.call_function_entry kind_abs plain_abs entry_abs (args_abs _) ?_
  unfold Builtin.«abs»
  refine wpAny_bind (m := oneArg "abs" _) (wpAny_pure ?_)
  refine wpAny_bind (m := callSpecial? (.ref a) (Str.ofString "__abs__")) (PySem.W.special_fn I.kIn J M.at_ (beq_iff_eq.mp M.fn) (wpAny_mono (run_own F hr.in1 rfl hb hd (hx σ) I (.cons (rel_ref a) .nil) h) (fun r s' hr => ?_) fun _ _ z => z))
  exact wpAny_pure ⟨_, rfl, hr⟩
/-- bool(x) -/
theorem call_boolO (c : CalM X.prog X.w X.K X.mg X.base CX k C "__bool__" ps dvs sp) (hr : Room (k + 2) X.A) (hx : ∀ σ, PassesAt CX X σ E) : CallR X (.type "bool") (fun xs H Q => ∃ x, xs = [x] ∧ InsC C H x ∧ sp (x :: dvs) H (fun v H' => ∃ b, v = .bl b ∧ Q (.bl b) H') E) := by
  intro pins s σ H xs us Q I r ⟨x, hxs, ⟨a, dx, fs, hxa, ha⟩, h⟩
  subst hxs hxa
  obtain ⟨v, rfl, rv⟩ := vals1 r
  cases rv
  obtain ⟨f, fd, ds, M, F, hb, hd⟩ := c.ex
  obtain ⟨ox, od, J⟩ := inst_at I ha
  obtain ⟨m, hF⟩ := I.fr
  refine callType_codes (T := "bool") (Bi := Builtin.«object.__init__») (Q₁ := fun r s₁ => ∃ b, r = .bool b ∧ EP X pins σ Q r s₁) PySem.F.called_bool (PySem.F.typeCall_bool_1 _) PySem.F.entry_object_init ?_ ?_
  · refine codeAny_of_tree ?_
    show wpAny _ X.A.in1.in1 (do checkBuiltinCall "bool.__new__" ⟨[.type "bool", .ref a], []⟩; again (.builtin "bool.__new__" ⟨[.type "bool", .ref a], []⟩)) _ _ s
    refine wpAny_bind (wpAny_of_eq (PySem.F.newCall_bool_1 _) (wpAny_pure ⟨plainId_quiet (by decide +kernel) _, codeAny_builtin PySem.F.entry_bool_new ?_⟩))
    rw [Around.under_plainId (by decide +kernel) _]
    unfold Builtin.«bool.__new__»
    have f1 := PySem.F.conv_sub_bool
    refine wpAny_bind (m := isType _) (wpAny_pure ?_)
    show wpAny _ _ (isSubtype (.type "bool") (.type "bool") >>= _) _ _ _
    refine wpAny_bind (wpAny_of_eq f1 ?_)
    refine wpAny_bind (m := someArgs "bool" 0 1 _) (wpAny_pure ?_)
    refine wpAny_bind (PySem.W.truthy_K hF I.ok.mod.kin J M.at_ M.fn (wpAny_mono (run_own F hr.in1.in1 rfl hb hd (hx σ) I (.cons (rel_ref a) .nil) h) (fun r s' hr => ?_) fun _ _ z => z))
    obtain ⟨v, H', I', rv, b, ev, q⟩ := hr
    subst ev
    cases rv
    exact wpAny_pure ⟨b, rfl, .bl b, H', I', rfl, q⟩
  · rintro obj s₁ ⟨b, rfl, hq⟩
    exact ⟨typeIs_bool' _ _, PySem.F.args_object_init_2 _ _, object_init_meets PySem.F.called_bool.init.lookup PySem.F.called_bool.made (by decide) X.prog X.w X.A.in1 _ s₁ ⟨typeIs_bool' _ _, rfl, hq⟩⟩
/-- str(x) -/
theorem call_strO (c : CalM X.prog X.w X.K X.mg X.base CX k C "__str__" ps dvs sp) (hr : Room (k + 2) X.A) (hx : ∀ σ, PassesAt CX X σ E) : CallR X (.type "str") (fun xs H Q => ∃ x, xs = [x] ∧ InsC C H x ∧ sp (x :: dvs) H (fun v H' => ∃ z, v = .str z ∧ Q (.str z) H') E) := by
  intro pins s σ H xs us Q I r ⟨x, hxs, ⟨a, dx, fs, hxa, ha⟩, h⟩
  subst hxs hxa
  obtain ⟨v, rfl, rv⟩ := vals1 r
  cases rv
  obtain ⟨f, fd, ds, M, F, hb, hd⟩ := c.ex
  obtain ⟨ox, od, J⟩ := inst_at I ha
  refine PySem.W.kso_call hr.in1.in1.units0 I.kIn J M.at_ M.fn (wpAny_mono (run_own F hr.in1.in1 rfl hb hd (hx σ) I (.cons (rel_ref a) .nil) h) (fun r s' hr => ?_) fun _ _ z => z)
  obtain ⟨v, H', I', rv, b, ev, q⟩ := hr
  subst ev
  obtain ⟨t, rfl⟩ := rv
  exact ⟨.str b, H', I', ⟨t, rfl⟩, q⟩
end
/-! ### an int in front of one of C -/
section
variable {M : Model} {A : Around} {E : Value → Shared → Prop} {s : Shared} {x : Addr} {ox : Obj} {i : Int} {t : Tok}
theorem intBin_ref {name : String} {f : Int → Int → Sem Fin} {r : Bool} {Q : Fin → Shared → Prop} (hx : s.heap.get? x = some ox) (hd : ox.data = .plain) (hs : slotArgs name 1 ⟨[.int i t, .ref x], []⟩ = pure (.int i t, [.ref x])) (h : Q (.done (.ret .notImplemented)) s) :
    wpAny M A (Builtin.Int.intBinary name f r ⟨[.int i t, .ref x], []⟩) Q E s := by
  unfold Builtin.Int.intBinary
  rw [hs]
  refine wpAny_bind (wpAny_pure ?_)
  refine wpAny_bind (m := Builtin.Int.intOfSelf _) (wpAny_pure ?_)
  refine wpAny_bind (m := asInt? (.ref x)) ?_
  · unfold asInt?
    refine wpAny_bind (wpAny_load hx ?_)
    rw [hd]
    refine wpAny_pure ?_
    first
      | exact wpAny_pure h
      | exact wpAny_bind (wpAny_rule (wpAny_pure h))
      | exact wpAny_rule (wpAny_pure h)
end
theorem intDiv_ref {M : Model} {A : Around} {E : Value → Shared → Prop} {s : Shared} {x : Addr} {ox : Obj} {i : Int} {t : Tok} {Q : Fin → Shared → Prop} (hx : s.heap.get? x = some ox) (hd : ox.data = .plain) (h : Q (.done (.ret .notImplemented)) s) :
    wpAny M A (Builtin.«int.__floordiv__» ⟨[.int i t, .ref x], []⟩) Q E s := by
  unfold Builtin.«int.__floordiv__»
  refine wpAny_bind (m := Builtin.exactOperandsForPylong _ _) ?_
  unfold Builtin.exactOperandsForPylong
  rw [if_pos (by rfl)]
  show wpAny M A (asInt? (.int i t) >>= fun _ => _) _ _ _
  refine wpAny_bind (m := asInt? (.int i t)) (wpAny_pure ?_)
  refine wpAny_bind (m := asInt? (.ref x)) ?_
  unfold asInt?
  refine wpAny_bind (wpAny_load hx ?_)
  rw [hd]
  exact wpAny_pure (wpAny_pure (intBin_ref hx hd rfl h))
section
variable {prog : Program} {w : World} {A : Around} {E : Value → Shared → Prop} {s : Shared} {x : Addr} {ox : Obj} {i : Int} {t : Tok} {Q : Option Value → Shared → Prop}
theorem try_int {nm id : String} {B : Builtin} (sl : Slot "int" (PySem.dunder nm) id) (en : entryFor table id = some B) (ar : argsOk id ⟨[.int i t, .ref x], []⟩) (hb : ∀ {A Q E}, Q (.done (.ret .notImplemented)) s → wpAny (model prog w) A (B ⟨[.int i t, .ref x], []⟩) Q E s) (h : Q none s) :
    wpAny (model prog w) A (tryMethod (.int i t) (PySem.dunder nm) (.ref x)) Q E s := by
  unfold tryMethod
  refine wpAny_bind (wpAny_callSpecial?_slot (typeIs_int s i t) sl (wpAny_call_entry sl (typeIs_int s i t) en (hb ⟨_, rfl, wpAny_pure h⟩) ar))
open PySem.W in
theorem bin_R {op : Operator} {C f g : Addr} {K : Frag} {od : Option Obj} {id : String} {B : Builtin} {fo ro : Option Value} {Q : Value → Shared → Prop} (X : K.In s.heap) (I : InstAt s.heap x ox C od) (hc : selfFirst K C = true)
    (hs : findIn K (.ref C) (PySem.dunder op.info.2) = some (some (.ref g))) (hr : findIn K (.ref C) (dunderR op.info.2) = some (some (.ref f))) (hf : isFn K (.ref f) = true) (hsub : subIn K (.ref C) (.type "int") = some false)
    (h1 : findIn K (.type "int") (PySem.dunder op.info.2) = some fo) (h2 : findIn K (.type "int") (dunderR op.info.2) = some ro) (h3 : ((fo.isSome && !isSeqSlot fo) || (ro.isSome && !isSeqSlot ro)) = true)
    (sl : Slot "int" (PySem.dunder op.info.2) id) (en : entryFor table id = some B) (ar : argsOk id ⟨[.int i t, .ref x], []⟩) (hb : ∀ {A Q E}, Q (.done (.ret .notImplemented)) s → wpAny (model prog w) A (B ⟨[.int i t, .ref x], []⟩) Q E s)
    (h : wpAny (model prog w) A (call (.ref f) [.ref x, .int i t]) (PySem.W.CmpBack Q) E s) : wpAny (model prog w) A (binaryOp op (.int i t) (.ref x)) Q E s := by
  obtain ⟨cd, rest, hcd, hm⟩ := ksp_first hc
  rcases hi : op.info with ⟨sym, nm'⟩
  rw [hi] at hs hr h1 h2 sl
  dsimp only at hs hr h1 h2 sl
  have one := ksp_try (A := A) (E := E) (b := .int i t) X I hr hf h
  have two := fun {Q : Option Value → Shared → Prop} (q : Q none s) => try_int (A := A) (E := E) (Q := Q) (x := x) (i := i) (t := t) sl en ar hb q
  obtain ⟨hh, gg, d, tt, os⟩ := s
  have L1 : Looks (model prog w) hh (typeOf (.ref x)) (.ref C) := I.type
  have L2 : Looks (model prog w) hh (typeOf (.int i t)) (.type "int") := Looks.of_pure rfl
  have L3 : Looks (model prog w) hh (fillsNumberSlot (.ref C) nm') true := fills_K X hcd hm hs
  have L4 : Looks (model prog w) hh (fillsNumberSlot (.type "int") nm') ((fo.isSome && !isSeqSlot fo) || (ro.isSome && !isSeqSlot ro)) := ksp_fillsT X h1 h2
  rw [h3] at L4
  have L5 : Looks (model prog w) hh (isSubtype (.ref C) (.type "int")) false := looks_subIn X hsub
  have L6 : Looks (model prog w) hh (numberSlotInPython (.type "int") nm') false := Looks.of_pure rfl
  have hne : (Value.type "int" == Value.ref C) = false := Bool.eq_false_iff.mpr fun q => by cases beq_iff_eq.mp q
  simp only [binaryOp, hi]
  refine wpAny_holding (wpAny_bind ?_)
  unfold binaryOp1
  refine wpAny_bind (L2.at (wpAny_bind (L1.at (wpAny_bind (L4.at ?_)))))
  simp only [hne, Bool.false_eq_true, if_false]
  ksp_lk
  refine two ?_
  ksp_lk
  refine wpAny_mono one (fun r s' hr' => ?_) fun _ _ e => e
  obtain ⟨v, rfl, hq⟩ := hr'
  ksp_lk
  exact hq
/-- int == one of C: by the own == -/
theorem try_cmp_int {id : String} {B : Builtin} {nm : Str} {Q : Option Value → Shared → Prop} (sl : Slot "int" nm id) (en : entryFor table id = some B) (ar : argsOk id ⟨[.int i t, .ref x], []⟩) (hb : ∀ {A Q E}, Q (.done (.ret .notImplemented)) s → wpAny (model prog w) A (B ⟨[.int i t, .ref x], []⟩) Q E s) (h : Q none s) :
    wpAny (model prog w) A (tryCompare (.int i t) nm (.ref x)) Q E s := by
  unfold tryCompare
  refine wpAny_bind (wpAny_callSpecialIfBound?_slot (typeIs_int s i t) sl (wpAny_call_entry sl (typeIs_int s i t) en (hb ⟨_, rfl, wpAny_pure h⟩) ar))
open PySem.W in
theorem cmp_R {C f : Addr} {K : Frag} {od : Option Obj} {Q : Value → Shared → Prop} (hu : A.units < cLine) (X : K.In s.heap) (I : InstAt s.heap x ox C od) (hsub : subIn K (.ref C) (.type "int") = some false) (hd : ox.data = .plain)
    (hs : findIn K (.ref C) "__eq__" = some (some (.ref f))) (hf : isFn K (.ref f) = true)
    (h : wpAny (model prog w) A (call (.ref f) [.ref x, .int i t]) (PySem.W.CmpBack Q) E s) : wpAny (model prog w) A (richCompare .Eq (.int i t) (.ref x)) Q E s := by
  have one : wpAny (model prog w) A (tryCompare (.ref x) "__eq__" (.int i t)) (fun r s' => ∃ v, r = some v ∧ Q v s') E s := by
    unfold tryCompare
    refine wpAny_bind (ifBound_K X I hs hf (wpAny_mono h (fun v s' hv => ?_) fun _ _ e => e))
    cases v <;> first | exact hv.elim | exact wpAny_pure ⟨_, rfl, hv⟩
  have hne : (Value.type "int" != Value.ref C) = true := by simp
  unfold richCompare
  refine wpAny_holding (wpAny_bind (wpAny_cRoomFor hu ?_))
  have e1 : oneThing? .Eq (.int i t) (.ref x) = none := rfl
  simp only [e1]
  refine wpAny_bind (m := typeOf (.int i t)) (wpAny_pure ?_)
  refine wpAny_bind (I.type.here ?_)
  rw [if_pos (by rw [bne_comm]; exact hne)]
  refine wpAny_bind ((looks_subIn X hsub).here ?_)
  simp only [Bool.false_eq_true, if_false]
  refine wpAny_bind (try_cmp_int (nm := (cmpInfo .Eq).2.1) PySem.F.slot_int_eq PySem.F.entry_int_eq (PySem.F.args_int_eq_2 _ _) (fun q => intBin_ref I.at_ hd rfl q) ?_)
  simp only [Bool.not_false, if_true]
  refine wpAny_bind (wpAny_mono one (fun r s' z => ?_) fun _ _ e => e)
  obtain ⟨v, rfl, hq⟩ := z
  exact wpAny_pure hq
end
/-! ### an operator on ratios and ints -/
section
variable {X : Cx} {CX : CXT} {k kR : Nat} {C : Addr} {psM psR : List Str} {spM spR : Sp} {m mR : Str} {op : Operator}
/-- what int says to an operator -/
structure IntOp (op : Operator) (id : String) (B : Builtin) (fo ro : Option Value) : Prop where
  l1 : ∀ K : PySem.W.Frag, PySem.W.findIn K (.type "int") (PySem.dunder op.info.2) = some fo
  l2 : ∀ K : PySem.W.Frag, PySem.W.findIn K (.type "int") (dunderR op.info.2) = some ro
  fl : ((fo.isSome && !isSeqSlot fo) || (ro.isSome && !isSeqSlot ro)) = true
  sl : Slot "int" (PySem.dunder op.info.2) id
  en : entryFor table id = some B
  ar : ∀ a b : Value, argsOk id ⟨[a, b], []⟩
  no : ∀ {prog : Program} {w : World} {A : Around} {E : Value → Shared → Prop} {s : Shared} {x : Addr} {ox : Obj} {i : Int} {t : Tok} {Q : Fin → Shared → Prop}, s.heap.get? x = some ox → ox.data = .plain → Q (.done (.ret .notImplemented)) s → wpAny (model prog w) A (B ⟨[.int i t, .ref x], []⟩) Q E s
theorem intAdd : IntOp .Add "int.__add__" Builtin.«int.__add__» (some (.builtin "int.__add__")) (some (.builtin "int.__radd__")) := ⟨fun _ => by kernel_rfl, fun _ => by kernel_rfl, by decide +kernel, PySem.F.slot_int_add, PySem.F.entry_int_add, PySem.F.args_int_add_2, fun hx hd q => intBin_ref hx hd rfl q⟩
theorem intSub : IntOp .Sub "int.__sub__" Builtin.«int.__sub__» (some (.builtin "int.__sub__")) (some (.builtin "int.__rsub__")) := ⟨fun _ => by kernel_rfl, fun _ => by kernel_rfl, by decide +kernel, PySem.F.slot_int_sub, PySem.F.entry_int_sub, PySem.F.args_int_sub_2, fun hx hd q => intBin_ref hx hd rfl q⟩
theorem intMul : IntOp .Mult "int.__mul__" Builtin.«int.__mul__» (some (.builtin "int.__mul__")) (some (.builtin "int.__rmul__")) := ⟨fun _ => by kernel_rfl, fun _ => by kernel_rfl, by decide +kernel, PySem.F.slot_int_mul, PySem.F.entry_int_mul, PySem.F.args_int_mul_2, fun hx hd q => intBin_ref hx hd rfl q⟩
theorem intDiv : IntOp .FloorDiv "int.__floordiv__" Builtin.«int.__floordiv__» (some (.builtin "int.__floordiv__")) (some (.builtin "int.__rfloordiv__")) := ⟨fun _ => by kernel_rfl, fun _ => by kernel_rfl, by decide +kernel, PySem.F.slot_int_floordiv, PySem.F.entry_int_floordiv, PySem.F.args_int_floordiv_2, fun hx hd q => intDiv_ref hx hd q⟩
/-- x op y: both of C, or one of C and one int -/
def rAnyO (C : Addr) (spM spR : Sp) (E : XK) (x y : V) (H : Hp) (Q : VK) : Prop := (InsC C H x ∧ InsC C H y ∧ spM [x, y] H Q E) ∨ (∃ i : Int, InsC C H x ∧ y = .int i ∧ spM [x, y] H Q E) ∨ (∃ i : Int, x = .int i ∧ InsC C H y ∧ spR [y, x] H Q E)
theorem binO {E : XK} {σ : L2.St} {id : String} {B : Builtin} {fo ro : Option Value} {pins : List (Addr × Obj)} {s : Shared} {H : Hp} {x y : V} {v u : Value} {Q : VK} (io : IntOp op id B fo ro) (c : CalM X.prog X.w X.K X.mg X.base CX k C m psM [] spM) (cR : CalM X.prog X.w X.K X.mg X.base CX kR C mR psR [] spR)
    (e : PySem.dunder op.info.2 = m) (eR : dunderR op.info.2 = mR) (hc : PySem.W.selfFirst X.K C = true) (h1 : PySem.W.subIn X.K (.type "int") (.ref C) = some false) (h2 : PySem.W.subIn X.K (.ref C) (.type "int") = some false)
    (hr : Room k X.A) (hrR : Room kR X.A) (hx : PassesAt CX X σ E) (I : Inv X pins σ H s) (rx : RelV x v) (ry : RelV y u) (h : rAnyO C spM spR E x y H Q) : wpAny (model X.prog X.w) X.A (binaryOp op v u) (EP X pins σ Q) X.xe s := by
  subst e eR
  obtain ⟨f, fd, ds, M, F, hb, hd⟩ := c.ex
  obtain ⟨g, gd, es, MR, FR, hbR, hdR⟩ := cR.ex
  rcases h with ⟨⟨a, dx, fs, hxa, ha⟩, ⟨b, dy, gs, hyb, hb'⟩, h⟩ | ⟨i, ⟨a, dx, fs, hxa, ha⟩, hyi, h⟩ | ⟨i, hxi, ⟨b, dy, gs, hyb, hb'⟩, h⟩
  · subst hxa hyb
    cases rx
    cases ry
    obtain ⟨ox, od, J⟩ := inst_at I ha
    obtain ⟨oy, od', J'⟩ := inst_at I hb'
    obtain ⟨m, hF⟩ := I.fr
    exact PySem.W.binop_K hF I.ok.mod.kin J J'.type hc M.at_ M.fn (wpAny_mono (run_own F hr rfl hb hd hx I (.cons (rel_ref a) (.cons (rel_ref b) .nil)) h) (fun _ _ z => back_of z) fun _ _ z => z)
  · subst hxa hyi
    cases rx
    obtain ⟨t, rfl⟩ := _root_.id ry
    obtain ⟨ox, od, J⟩ := inst_at I ha
    obtain ⟨m, hF⟩ := I.fr
    exact PySem.W.ksp_binT hF I.ok.mod.kin J rfl hc M.at_ M.fn MR.at_ (.inr ⟨_, rfl⟩) (io.l1 _) (io.l2 _) h1 (wpAny_mono (run_own F hr rfl hb hd hx I (.cons (rel_ref a) (.cons ry .nil)) h) (fun _ _ z => back_of z) fun _ _ z => z)
  · subst hxi hyb
    cases ry
    obtain ⟨t, rfl⟩ := _root_.id rx
    obtain ⟨mA, J0, _⟩ := ins_get I.hok hb'
    obtain ⟨od, J, _⟩ := J0.look
    exact bin_R I.kIn J hc M.at_ MR.at_ MR.fn h2 (io.l1 _) (io.l2 _) io.fl io.sl io.en (io.ar _ _) (fun q => io.no J.at_ rfl q) (wpAny_mono (run_own FR hrR rfl hbR hdR hx I (.cons (rel_ref b) (.cons rx .nil)) h) (fun _ _ z => back_of z) fun _ _ z => z)
theorem op_anyO {E : XK} {id : String} {B : Builtin} {fo ro : Option Value} (io : IntOp op id B fo ro) (c : CalM X.prog X.w X.K X.mg X.base CX k C m psM [] spM) (cR : CalM X.prog X.w X.K X.mg X.base CX kR C mR psR [] spR)
    (e : PySem.dunder op.info.2 = m) (eR : dunderR op.info.2 = mR) (hc : PySem.W.selfFirst X.K C = true) (h1 : PySem.W.subIn X.K (.type "int") (.ref C) = some false) (h2 : PySem.W.subIn X.K (.ref C) (.type "int") = some false)
    (hr : Room k X.A) (hrR : Room kR X.A) (hx : ∀ σ, PassesAt CX X σ E) : OpR X (binaryOp op) (rAnyO C spM spR E) := fun pins s σ H x y v u Q I rx ry h => binO io c cR e eR hc h1 h2 hr hrR (hx σ) I rx ry h
def tOpE (C : Addr) (spM spR : Sp) (W : WX) (ta tb : TE) : TE := fun σ H Q => ta σ H fun x H1 => tb σ H1 fun y H2 => rAnyO C spM spR (WE W σ) x y H2 Q
/-- an operator that may raise -/
theorem pe_opE {W : WX} {ta tb : TE} {a b : Expr} {pos : Pos} {id : String} {B : Builtin} {fo ro : Option Value} (io : IntOp op id B fo ro) (c : CalM X.prog X.w X.K X.mg X.base (L2N.CX X.prog X.w) k C m psM [] spM) (cR : CalM X.prog X.w X.K X.mg X.base (L2N.CX X.prog X.w) kR C mR psR [] spR)
    (e : PySem.dunder op.info.2 = m) (eR : dunderR op.info.2 = mR) (hc : PySem.W.selfFirst X.K C = true) (h1 : PySem.W.subIn X.K (.type "int") (.ref C) = some false) (h2 : PySem.W.subIn X.K (.ref C) (.type "int") = some false)
    (hr : Room k X.A) (hrR : Room kR X.A) (tk : L2N.Takes X W) (ha : PE X a ta) (hb : PE X b tb) : PE X (.BinOp a op b pos) (tOpE C spM spR W ta tb) := by
  refine ⟨fun pins s σ H Q I h => ?_⟩
  exact wpAny_BinOp (binT ha hb I (show (tOp (fun x y H2 Q2 => rAnyO C spM spR (WE W σ) x y H2 Q2) ta tb) σ H Q from h) fun v u s2 x y H2 I2 rx ry q => binO io c cR e eR hc h1 h2 hr hrR (L2N.passAt tk σ) I2 rx ry q)
/-- x == y: both of C, or one of C and one int -/
theorem op_eqO {E : XK} (c : CalM X.prog X.w X.K X.mg X.base CX k C "__eq__" psM [] spM) (hn : PySem.W.notFirst X.K C (.type "int") = true) (h2 : PySem.W.subIn X.K (.ref C) (.type "int") = some false)
    (hr : Room k X.A) (hx : ∀ σ, PassesAt CX X σ E) : OpR X (compareOp .Eq) (rAnyO C spM spM E) := by
  intro pins s σ H x y v u Q I rx ry h
  obtain ⟨f, fd, ds, M, F, hb, hd⟩ := c.ex
  rcases h with ⟨⟨a, dx, fs, hxa, ha⟩, ⟨b, dy, gs, hyb, hb'⟩, h⟩ | ⟨i, ⟨a, dx, fs, hxa, ha⟩, hyi, h⟩ | ⟨i, hxi, ⟨b, dy, gs, hyb, hb'⟩, h⟩
  · exact op_cmpS c rfl (fun _ _ => rfl) hr hx pins s σ H x y v u Q I rx ry ⟨⟨a, dx, fs, hxa, ha⟩, ⟨b, dy, gs, hyb, hb'⟩, h⟩
  · refine op_cmpT (T := "int") c rfl (fun _ _ => rfl) hn hr hx pins s σ H x y v u Q I rx ry ⟨fun u r => ?_, ⟨a, dx, fs, hxa, ha⟩, h⟩
    subst hyi
    obtain ⟨t, rfl⟩ := r
    rfl
  · subst hxi hyb
    cases ry
    obtain ⟨t, rfl⟩ := _root_.id rx
    obtain ⟨mA, J0, _⟩ := ins_get I.hok hb'
    obtain ⟨od, J, _⟩ := J0.look
    show wpAny _ _ (richCompare .Eq (.int i t) (.ref b)) _ _ _
    exact cmp_R hr.units0 I.kIn J h2 rfl M.at_ M.fn (wpAny_mono (run_own F hr rfl hb hd (hx σ) I (.cons (rel_ref b) (.cons rx .nil)) h) (fun _ _ z => back_of z) fun _ _ z => z)
end
/-! ### rules where the text's part K is written out (in comprehensions) -/
theorem ix_tupK {X : Cx} {K : PySem.W.Frag} (e : X.K = K) : IxR X (rIxT K) := by subst e; exact ix_tup
theorem ix_listK {X : Cx} {K : PySem.W.Frag} (e : X.K = K) : IxR X (rIxL K) := by subst e; exact ix_list
theorem call_isiK2 {X : Cx} {K : PySem.W.Frag} (e : X.K = K) : CallR X (.builtin "isinstance") (rIsi K) := by subst e; exact call_isi
theorem pe_fldK {X : Cx} {K : PySem.W.Frag} {e : Expr} {ta : TE} {f : Str} {pos : Pos} (eK : X.K = K) (he : PE X e ta) (hb : attributeBase e f X.env (eval e X.env) = eval e X.env) : PE X (.Attribute e f pos) (tFld K ta f) := by subst eK; exact pe_fld he hb
/-! ### what of the text an own class has -/
structure OwnD (K : PySem.W.Frag) (C : Addr) : Prop where
  sf : PySem.W.selfFirst K C = true
  ha : PySem.W.findIn K (.ref C) "__class__" = some (some (.builtin "object.__class__"))
  hn : PySem.W.specialIn K (.builtin "object.__class__") "__get__" = some (some (.builtin "getset_descriptor.__get__"))
  ht : PySem.W.takesIn K (.builtin "object.__class__") = some true
  hm : PySem.W.mroIn K C (.type "object") = some true
  is : PySem.W.kitOne K (.ref C) (.ref C) = some true
  nn : ∀ T ∈ ["int", "bool", "str", "NoneType", "list", "tuple", "dict", "set"], PySem.W.kitOne K (.type T) (.ref C) = some false
  nt : ∀ T ∈ ["int", "bool", "str", "list", "tuple", "dict", "set"], PySem.W.kitOne K (.ref C) (.type T) = some false
  si : PySem.W.subIn K (.type "int") (.ref C) = some false
  is2 : PySem.W.subIn K (.ref C) (.type "int") = some false
  nf : PySem.W.notFirst K C (.type "int") = true
def ownB (K : PySem.W.Frag) (C : Addr) : Bool := PySem.W.selfFirst K C && (He.eqO (PySem.W.findIn K (.ref C) "__class__") (some (some (.builtin "object.__class__"))) &&
  (He.eqO (PySem.W.specialIn K (.builtin "object.__class__") "__get__") (some (some (.builtin "getset_descriptor.__get__"))) && (decide (PySem.W.takesIn K (.builtin "object.__class__") = some true) && (decide (PySem.W.mroIn K C (.type "object") = some true) &&
  (decide (PySem.W.kitOne K (.ref C) (.ref C) = some true) && ((["int", "bool", "str", "NoneType", "list", "tuple", "dict", "set"].all fun T => decide (PySem.W.kitOne K (.type T) (.ref C) = some false)) &&
  ((["int", "bool", "str", "list", "tuple", "dict", "set"].all fun T => decide (PySem.W.kitOne K (.ref C) (.type T) = some false)) && (decide (PySem.W.subIn K (.type "int") (.ref C) = some false) && (decide (PySem.W.subIn K (.ref C) (.type "int") = some false) && PySem.W.notFirst K C (.type "int"))))))))))
theorem ownB_ok {K : PySem.W.Frag} {C : Addr} (h : ownB K C = true) : OwnD K C := by
  obtain ⟨h1, h⟩ := He.ba h
  obtain ⟨h2, h⟩ := He.ba h
  obtain ⟨h3, h⟩ := He.ba h
  obtain ⟨h4, h⟩ := He.ba h
  obtain ⟨h5, h⟩ := He.ba h
  obtain ⟨h6, h⟩ := He.ba h
  obtain ⟨h7, h⟩ := He.ba h
  obtain ⟨h8, h⟩ := He.ba h
  obtain ⟨h9, h⟩ := He.ba h
  obtain ⟨h10, h11⟩ := He.ba h
  exact ⟨h1, He.eqO_ok h2, He.eqO_ok h3, of_decide_eq_true h4, of_decide_eq_true h5, of_decide_eq_true h6, fun T hT => of_decide_eq_true (List.all_eq_true.mp h7 T hT), fun T hT => of_decide_eq_true (List.all_eq_true.mp h8 T hT), of_decide_eq_true h9, of_decide_eq_true h10, h11⟩
/-- the own classes of a text: each as such, and no one below another -/
def ownedB (K : PySem.W.Frag) (l : List Str) : Bool := l.all fun x => ownB K (He.ga K x) && l.all fun y => decide (PySem.W.kitOne K (.ref (He.ga K x)) (.ref (He.ga K y)) = some (decide (x = y)))
theorem ownedB_ok {K : PySem.W.Frag} {l : List Str} (h : ownedB K l = true) {x : Str} (hx : x ∈ l) : OwnD K (He.ga K x) ∧ ∀ y ∈ l, PySem.W.kitOne K (.ref (He.ga K x)) (.ref (He.ga K y)) = some (decide (x = y)) := by
  obtain ⟨h1, h2⟩ := He.ba (List.all_eq_true.mp h x hx)
  exact ⟨ownB_ok h1, fun y hy => of_decide_eq_true (List.all_eq_true.mp h2 y hy)⟩
theorem tyx_ins {K : PySem.W.Frag} {H : Hp} {a C dx : Addr} {fs : List (Str × V)} (e : H a = some (.ins C dx fs)) (c : Cls K C) (o : OwnD K C) : TyX K H (.ref a) (.ref C) := .base (.ins e c o.ha o.hn o.ht o.hm)
end My

set_option Elab.async false
set_option linter.all false
set_option maxRecDepth 100000
set_option maxHeartbeats 4000000
namespace My
open PySem PySem.Spec PyProof.Rows L2
/-! set(l) of a list of ints: by the road of the library's own rule for tuples -/
abbrev newSet (w : World) : Obj := { cls := .type "set", dict := none, data := .set #[] 0 (.fresh 0 0 (!w.params.followText "set-order")) }
section
variable {P : Program} {w : World} {A : Around} {E : Value → Shared → Prop} {s : Shared}
set_option maxHeartbeats 8000000 in
theorem set_of_ints {l : Addr} {items : Array Value} (ns : List Int) {Q : Value → Shared → Prop} (hh : A.handled = none) (hl : s.heap.IsList l items) (hit : IntsAre items.toList ns) (hb : ns.length + 1 < scanBound)
    (h : ∀ (h' : Heap) (tk c : Nat), SetR w h' s.heap.objs.size (fun j => decide (j ∈ ns)) c → c ≤ ns.length → (∀ b o, s.heap.get? b = some o → h'.get? b = some o) → Q (.ref s.heap.objs.size) { s with heap := h', toks := tk }) :
    wpAny (model P w) A (call (.type "set") [.ref l]) Q E s := by
  have hisz : items.size = ns.length := by
    have q := IntsAre.length hit
    rw [Array.length_toList] at q
    exact q
  obtain ⟨c, tl, hmro⟩ := F.called_set.mro
  have hmade := F.called_set.made
  have hsub := F.called_set.sub
  refine wpAny_call (codeAny_of_tree ?_)
  show wpAny _ _ (callAny (.type "set") _) _ _ _
  refine wpAny_pure ⟨Code.quiet_builtin _ (by decide +kernel), codeAny_builtin F.entry_type_call ?_⟩
  rw [Around.under_plain (weight_type_call_type "set" [.ref l] []) rfl]
  have h1 := F.called_set.notType
  have h2 := F.called_set.canCreate
  have hct := F.typeCall_set_1 (.ref l)
  repeat (any_goals (first | assumption | wp_step))

  refine codeAny_mono (code_set_led1 (.ref l) (E := E) (Q₁ := fun obj s₁ => obj = .ref s.heap.objs.size ∧ s₁ = { s with heap := s.heap.push (newSet w) }) ⟨rfl, rfl⟩) fun r s₁ hr => ?_
  cases r with
  | error e => exact hr
  | ok fl =>
    cases fl with
    | ret obj =>
      obtain ⟨rfl, rfl⟩ := hr
      have hS : (s.heap.push (newSet w)).get? s.heap.objs.size = some (newSet w) := Heap.get?_push_size _ rfl
      have hT : Shared.TypeIs { s with heap := s.heap.push (newSet w) } (.ref s.heap.objs.size) "set" := ⟨_, hS, rfl⟩
      have hli := F.called_set.init.lookup
      have hbi := F.called_set.init.bind (.ref s.heap.objs.size)
      repeat (any_goals (first | assumption | wp_step))

      refine codeAny_mono (codeAny_call_builtin (R := wants (fun r s₂ => r = .none ∧ ∃ h' tk c, s₂ = { s with heap := h', toks := tk } ∧ SetR w h' s.heap.objs.size (fun j => decide (j ∈ ns)) c ∧ c ≤ ns.length ∧
          (∀ b o, s.heap.get? b = some o → h'.get? b = some o)) E) F.called_set.init.plain F.entry_set_init (check_set_init_1 hT ?_)) fun r₂ s₂ hr₂ => ?_
      · obtain ⟨ol, hol, hcl, nl, hdl⟩ := hl
        obtain ⟨ocls, odict, odata, oslots⟩ := ol
        simp only at hcl hdl
        subst hcl; subst hdl
        have hol' : (s.heap.push (newSet w)).get? l = some { cls := .type "list", dict := odict, data := .seq items nl, slots := oslots } := Heap.get?_push_of_some _ hol
        have hsls := F.sub_list_set
        have hslf := F.sub_list_frozenset
        have hne : (Value.type "list" == Value.type "dict") = false := by decide
        have hl1 : (s.heap.push (newSet w)).IsList l items := ⟨_, hol', rfl, nl, rfl⟩
        unfold Builtin.«set.__init__» noKeywords Builtin.Frozenset.updateFrom
        generalize hPI : pyIter = PI
        wp_walk
        subst hPI

        refine wpAny_pyIter_list hl1 ?_
        refine wpAny_bind (wpAny_runValue ?_)
        have hlS : l < s.heap.objs.size := Heap.lt_size hol
        have hh3 : A.in1.in1.in1.handled = none := by simp [hh]
        have hz1 : (s.heap.push (newSet w)).objs.size = s.heap.objs.size + 1 := Heap.size_push ..
        have hneI : l ≠ (s.heap.push (newSet w)).objs.size := by
          rw [Heap.size_push]; exact Nat.ne_of_lt (Nat.lt_succ_of_lt hlS)
        have hSf : s.heap.objs.size ∉ [(s.heap.push (newSet w)).objs.size, l] := by
          rw [Heap.size_push]; simp only [List.mem_cons, List.mem_singleton, List.not_mem_nil, or_false, not_or]
          exact ⟨Nat.ne_of_lt (Nat.lt_succ_self _), Nat.ne_of_gt hlS⟩
        have hval : ∀ (i : Nat) (v : Value), items[i]? = some v → ∃ k t, ns[i]? = some k ∧ v = .int k t := fun i v hv => by
          have hi : i < ns.length := by rw [← hisz]; exact (Array.getElem?_eq_some_iff.mp hv).1
          obtain ⟨t, e⟩ := PyProof.Rows.IntsAre.int_at hit i v (by rw [Array.getElem?_toList]; exact hv)
          refine ⟨ns[i], t, List.getElem?_eq_getElem hi, ?_⟩
          rw [e, List.getD_eq_getElem?_getD, List.getElem?_eq_getElem hi] <;> rfl
        refine set_update_ints ((Walks.list hh3 _ l hneI items).toS) s.heap.objs.size
          hSf ns hisz hb hval (items.size - 0) 0 _ (by omega) (Nat.zero_le _)
          ⟨⟨_, Heap.get?_push_size _ rfl, rfl, rfl⟩, (hl1.push _)⟩ ?hS0 ?hR
        case hS0 =>
          have hget : ((s.heap.push (newSet w)).push { cls := .type "list_iterator", data := .fields #[.ref l, .int 0 0] }).get? s.heap.objs.size
              = some (newSet w) := Heap.get?_push_of_some _ hS
          exact ⟨0, Nat.le_refl 0, setR_new_at hget⟩
        case hR =>
          intro s' c' hm hc' hS'
          obtain ⟨h', g2, d', tk', os'⟩ := s'
          have eg : g2 = s.gens := hm.gens
          have ed : d' = s.drawn := hm.drawn
          have eo : os' = s.os := hm.os
          subst eg; subst ed; subst eo
          show wpAny _ _ _ _ _ _
          refine wpAny_pure ?_
          show wpAny _ _ (ret Value.none) _ _ _
          rw [hisz] at hc'
          refine wpAny_pure ⟨rfl, h', tk', c', rfl, hS', hc', fun b o e => ?_⟩
          have hb0 : b < s.heap.objs.size := Heap.lt_size e
          have hb1 : b ≠ s.heap.objs.size := Nat.ne_of_lt hb0
          have hb2 : b ≠ (s.heap.push (newSet w)).objs.size := by
            rw [Heap.size_push]; exact Nat.ne_of_lt (Nat.lt_succ_of_lt hb0)
          exact hm.heap b o (by simp only [List.mem_cons, List.mem_singleton, List.not_mem_nil, or_false, not_or]; exact ⟨hb1, hb2⟩) (Heap.get?_push_of_some _ (Heap.get?_push_of_some _ e))

      · cases r₂ with
        | error e => exact hr₂
        | ok fl₂ =>
          cases fl₂ with
          | ret r =>
            obtain ⟨rfl, h', tk, c', rfl, hS', hc', hk'⟩ := hr₂
            repeat (any_goals (first | assumption | wp_step))
            exact h _ _ _ hS' hc' hk'
          | _ => exact hr₂.elim
    | _ => exact hr.elim
end
section
variable {X : Cx}
def rSetL (K : PySem.W.Frag) (w : World) : List V → Hp → VK → Prop := fun vs H Q => ∃ (a : Addr) (ns : List Int), vs = [.ref a] ∧ SqL K H a (ns.map V.int) ∧ ns.length < 60 ∧
  ∀ p n, H p = none → n ≤ ns.length → Q (.ref p) (upd H p (SetO w p (fun k => decide (k ∈ ns)) n))
theorem cr_setL (hc : X.calm = true) : CallR X (.type "set") (rSetL X.K X.w) := by
  intro pins s σ H vs us Q I r h
  obtain ⟨a, ns, rfl, hS, hl, q⟩ := h
  rw [Vals.ref1 r]
  obtain ⟨its, rv, pl, hz⟩ := I.list hS
  have hn : H s.heap.objs.size = none := I.hok.fresh (Nat.le_refl _)
  refine set_of_ints (P := X.prog) (w := X.w) ns (I.ok.hd hc) pl.isList (by simpa using ints_of_vals rv) (Nat.lt_of_lt_of_le (Nat.succ_lt_succ hl) (by decide)) fun h' tk c R hcn k => ?_
  exact ⟨.ref s.heap.objs.size, upd H s.heap.objs.size (SetO X.w s.heap.objs.size (fun j => decide (j ∈ ns)) c), I.laid (t' := tk) k (Nat.le_refl _) (setO_new R), rfl, q _ c hn hcn⟩
end
end My

set_option Elab.async false
set_option linter.all false
set_option maxRecDepth 100000
set_option maxHeartbeats 4000000
namespace My
open PySem PySem.Spec PyProof.Rows L2
def top (i : Nat) : Stmt := PySem.Challenge.pw_mostsalike_k03_whole_ratio_arithmetic.main.body.getD i (.Pass ⟨0, 0, 0, 0⟩)
abbrev s__law_source : Stmt := top 11
abbrev N__law_source : List Str := ["script"]
abbrev P__law_source : List Str := ["script"]
theorem sc__law_source : FnScope N__law_source P__law_source (defScope s__law_source) := ⟨rfl, rfl, rfl, by decide +kernel, rfl, by decide +kernel, by decide +kernel⟩
def d__law_source : He.DefD := ⟨("_law_source", none), "_law_source", "_law_source", defArgs s__law_source, defBody s__law_source, defScope s__law_source, [], []⟩
abbrev s__law_draw : Stmt := top 12
abbrev N__law_draw : List Str := ["source", "many", "cell", "drawn", "turn", "first", "second"]
abbrev P__law_draw : List Str := ["source", "many"]
theorem sc__law_draw : FnScope N__law_draw P__law_draw (defScope s__law_draw) := ⟨rfl, rfl, rfl, by decide +kernel, rfl, by decide +kernel, by decide +kernel⟩
def d__law_draw : He.DefD := ⟨("_law_draw", none), "_law_draw", "_law_draw", defArgs s__law_draw, defBody s__law_draw, defScope s__law_draw, [], []⟩
abbrev s__law_number : Stmt := top 13
abbrev N__law_number : List Str := ["source", "kind"]
abbrev P__law_number : List Str := ["source"]
theorem sc__law_number : FnScope N__law_number P__law_number (defScope s__law_number) := ⟨rfl, rfl, rfl, by decide +kernel, rfl, by decide +kernel, by decide +kernel⟩
def d__law_number : He.DefD := ⟨("_law_number", none), "_law_number", "_law_number", defArgs s__law_number, defBody s__law_number, defScope s__law_number, [], []⟩
abbrev s__law_divisor : Stmt := top 14
abbrev N__law_divisor : List Str := ["first", "second", "k", "rest"]
abbrev P__law_divisor : List Str := ["first", "second"]
theorem sc__law_divisor : FnScope N__law_divisor P__law_divisor (defScope s__law_divisor) := ⟨rfl, rfl, rfl, by decide +kernel, rfl, by decide +kernel, by decide +kernel⟩
def d__law_divisor : He.DefD := ⟨("_law_divisor", none), "_law_divisor", "_law_divisor", defArgs s__law_divisor, defBody s__law_divisor, defScope s__law_divisor, [], []⟩
abbrev s__law_whole : Stmt := top 15
abbrev N__law_whole : List Str := ["number"]
abbrev P__law_whole : List Str := ["number"]
theorem sc__law_whole : FnScope N__law_whole P__law_whole (defScope s__law_whole) := ⟨rfl, rfl, rfl, by decide +kernel, rfl, by decide +kernel, by decide +kernel⟩
def d__law_whole : He.DefD := ⟨("_law_whole", none), "_law_whole", "_law_whole", defArgs s__law_whole, defBody s__law_whole, defScope s__law_whole, [], []⟩
abbrev s__law_truth : Stmt := top 16
abbrev N__law_truth : List Str := ["actual", "expected"]
abbrev P__law_truth : List Str := ["actual", "expected"]
theorem sc__law_truth : FnScope N__law_truth P__law_truth (defScope s__law_truth) := ⟨rfl, rfl, rfl, by decide +kernel, rfl, by decide +kernel, by decide +kernel⟩
def d__law_truth : He.DefD := ⟨("_law_truth", none), "_law_truth", "_law_truth", defArgs s__law_truth, defBody s__law_truth, defScope s__law_truth, [], []⟩
abbrev s__law_in_terms : Stmt := top 17
abbrev N__law_in_terms : List Str := ["made", "top", "bottom"]
abbrev P__law_in_terms : List Str := ["made", "top", "bottom"]
theorem sc__law_in_terms : FnScope N__law_in_terms P__law_in_terms (defScope s__law_in_terms) := ⟨rfl, rfl, rfl, by decide +kernel, rfl, by decide +kernel, by decide +kernel⟩
def d__law_in_terms : He.DefD := ⟨("_law_in_terms", none), "_law_in_terms", "_law_in_terms", defArgs s__law_in_terms, defBody s__law_in_terms, defScope s__law_in_terms, [], []⟩
abbrev s__law_two_due : Stmt := top 18
abbrev N__law_two_due : List Str := ["first", "second", "one", "two", "low"]
abbrev P__law_two_due : List Str := ["first", "second", "one", "two"]
theorem sc__law_two_due : FnScope N__law_two_due P__law_two_due (defScope s__law_two_due) := ⟨rfl, rfl, rfl, by decide +kernel, rfl, by decide +kernel, by decide +kernel⟩
def d__law_two_due : He.DefD := ⟨("_law_two_due", none), "_law_two_due", "_law_two_due", defArgs s__law_two_due, defBody s__law_two_due, defScope s__law_two_due, [], []⟩
abbrev s__law_rules : Stmt := top 19
abbrev N__law_rules : List Str := ["first", "second", "third", "pairs", "one", "two", "three", "left", "right", "top"]
abbrev P__law_rules : List Str := ["first", "second", "third", "pairs"]
theorem sc__law_rules : FnScope N__law_rules P__law_rules (defScope s__law_rules) := ⟨rfl, rfl, rfl, by decide +kernel, rfl, by decide +kernel, by decide +kernel⟩
def d__law_rules : He.DefD := ⟨("_law_rules", none), "_law_rules", "_law_rules", defArgs s__law_rules, defBody s__law_rules, defScope s__law_rules, [], []⟩
abbrev s_law : Stmt := top 20
abbrev N_law : List Str := ["script", "source", "pairs", "k", "top", "bottom", "entire", "things", "one", "j", "alike", "number"]
abbrev P_law : List Str := ["script"]
theorem sc_law : FnScope N_law P_law (defScope s_law) := ⟨rfl, rfl, rfl, by decide +kernel, rfl, by decide +kernel, by decide +kernel⟩
def d_law : He.DefD := ⟨("law", none), "law", "law", defArgs s_law, defBody s_law, defScope s_law, [], []⟩
abbrev s_is_integer : Stmt := top 5
abbrev N_is_integer : List Str := ["number"]
abbrev P_is_integer : List Str := ["number"]
theorem sc_is_integer : FnScope N_is_integer P_is_integer (defScope s_is_integer) := ⟨rfl, rfl, rfl, by decide +kernel, rfl, by decide +kernel, by decide +kernel⟩
def d_is_integer : He.DefD := ⟨("is_integer", none), "is_integer", "is_integer", defArgs s_is_integer, defBody s_is_integer, defScope s_is_integer, [], []⟩
abbrev s_greatest_divisor : Stmt := top 7
abbrev N_greatest_divisor : List Str := ["first", "second"]
abbrev P_greatest_divisor : List Str := ["first", "second"]
theorem sc_greatest_divisor : FnScope N_greatest_divisor P_greatest_divisor (defScope s_greatest_divisor) := ⟨rfl, rfl, rfl, by decide +kernel, rfl, by decide +kernel, by decide +kernel⟩
def d_greatest_divisor : He.DefD := ⟨("greatest_divisor", none), "greatest_divisor", "greatest_divisor", defArgs s_greatest_divisor, defBody s_greatest_divisor, defScope s_greatest_divisor, [], []⟩
abbrev s_Ratio_DinitD : Stmt := inClass (top 9) 0
abbrev N_Ratio_DinitD : List Str := ["self", "top", "bottom", "divisor"]
abbrev P_Ratio_DinitD : List Str := ["self", "top", "bottom"]
theorem sc_Ratio_DinitD : FnScope N_Ratio_DinitD P_Ratio_DinitD (defScope s_Ratio_DinitD) := ⟨rfl, rfl, rfl, by decide +kernel, rfl, by decide +kernel, by decide +kernel⟩
def d_Ratio_DinitD : He.DefD := ⟨("Ratio", some "__init__"), "__init__", "Ratio.__init__", defArgs s_Ratio_DinitD, defBody s_Ratio_DinitD, defScope s_Ratio_DinitD, [(.int 1)], []⟩
abbrev s_Ratio_DeqD : Stmt := inClass (top 9) 1
abbrev N_Ratio_DeqD : List Str := ["self", "other"]
abbrev P_Ratio_DeqD : List Str := ["self", "other"]
theorem sc_Ratio_DeqD : FnScope N_Ratio_DeqD P_Ratio_DeqD (defScope s_Ratio_DeqD) := ⟨rfl, rfl, rfl, by decide +kernel, rfl, by decide +kernel, by decide +kernel⟩
def d_Ratio_DeqD : He.DefD := ⟨("Ratio", some "__eq__"), "__eq__", "Ratio.__eq__", defArgs s_Ratio_DeqD, defBody s_Ratio_DeqD, defScope s_Ratio_DeqD, [], []⟩
abbrev s_Ratio_DnegD : Stmt := inClass (top 9) 3
abbrev N_Ratio_DnegD : List Str := ["self"]
abbrev P_Ratio_DnegD : List Str := ["self"]
theorem sc_Ratio_DnegD : FnScope N_Ratio_DnegD P_Ratio_DnegD (defScope s_Ratio_DnegD) := ⟨rfl, rfl, rfl, by decide +kernel, rfl, by decide +kernel, by decide +kernel⟩
def d_Ratio_DnegD : He.DefD := ⟨("Ratio", some "__neg__"), "__neg__", "Ratio.__neg__", defArgs s_Ratio_DnegD, defBody s_Ratio_DnegD, defScope s_Ratio_DnegD, [], []⟩
abbrev s_Ratio_DaddD : Stmt := inClass (top 9) 5
abbrev N_Ratio_DaddD : List Str := ["self", "other"]
abbrev P_Ratio_DaddD : List Str := ["self", "other"]
theorem sc_Ratio_DaddD : FnScope N_Ratio_DaddD P_Ratio_DaddD (defScope s_Ratio_DaddD) := ⟨rfl, rfl, rfl, by decide +kernel, rfl, by decide +kernel, by decide +kernel⟩
def d_Ratio_DaddD : He.DefD := ⟨("Ratio", some "__add__"), "__add__", "Ratio.__add__", defArgs s_Ratio_DaddD, defBody s_Ratio_DaddD, defScope s_Ratio_DaddD, [], []⟩
abbrev s_Ratio_DraddD : Stmt := inClass (top 9) 6
abbrev N_Ratio_DraddD : List Str := ["self", "other"]
abbrev P_Ratio_DraddD : List Str := ["self", "other"]
theorem sc_Ratio_DraddD : FnScope N_Ratio_DraddD P_Ratio_DraddD (defScope s_Ratio_DraddD) := ⟨rfl, rfl, rfl, by decide +kernel, rfl, by decide +kernel, by decide +kernel⟩
def d_Ratio_DraddD : He.DefD := ⟨("Ratio", some "__radd__"), "__radd__", "Ratio.__radd__", defArgs s_Ratio_DraddD, defBody s_Ratio_DraddD, defScope s_Ratio_DraddD, [], []⟩
abbrev s_Ratio_DsubD : Stmt := inClass (top 9) 7
abbrev N_Ratio_DsubD : List Str := ["self", "other"]
abbrev P_Ratio_DsubD : List Str := ["self", "other"]
theorem sc_Ratio_DsubD : FnScope N_Ratio_DsubD P_Ratio_DsubD (defScope s_Ratio_DsubD) := ⟨rfl, rfl, rfl, by decide +kernel, rfl, by decide +kernel, by decide +kernel⟩
def d_Ratio_DsubD : He.DefD := ⟨("Ratio", some "__sub__"), "__sub__", "Ratio.__sub__", defArgs s_Ratio_DsubD, defBody s_Ratio_DsubD, defScope s_Ratio_DsubD, [], []⟩
abbrev s_Ratio_DrsubD : Stmt := inClass (top 9) 8
abbrev N_Ratio_DrsubD : List Str := ["self", "other"]
abbrev P_Ratio_DrsubD : List Str := ["self", "other"]
theorem sc_Ratio_DrsubD : FnScope N_Ratio_DrsubD P_Ratio_DrsubD (defScope s_Ratio_DrsubD) := ⟨rfl, rfl, rfl, by decide +kernel, rfl, by decide +kernel, by decide +kernel⟩
def d_Ratio_DrsubD : He.DefD := ⟨("Ratio", some "__rsub__"), "__rsub__", "Ratio.__rsub__", defArgs s_Ratio_DrsubD, defBody s_Ratio_DrsubD, defScope s_Ratio_DrsubD, [], []⟩
abbrev s_Ratio_DmulD : Stmt := inClass (top 9) 9
abbrev N_Ratio_DmulD : List Str := ["self", "other"]
abbrev P_Ratio_DmulD : List Str := ["self", "other"]
theorem sc_Ratio_DmulD : FnScope N_Ratio_DmulD P_Ratio_DmulD (defScope s_Ratio_DmulD) := ⟨rfl, rfl, rfl, by decide +kernel, rfl, by decide +kernel, by decide +kernel⟩
def d_Ratio_DmulD : He.DefD := ⟨("Ratio", some "__mul__"), "__mul__", "Ratio.__mul__", defArgs s_Ratio_DmulD, defBody s_Ratio_DmulD, defScope s_Ratio_DmulD, [], []⟩
abbrev s_Ratio_DrmulD : Stmt := inClass (top 9) 10
abbrev N_Ratio_DrmulD : List Str := ["self", "other"]
abbrev P_Ratio_DrmulD : List Str := ["self", "other"]
theorem sc_Ratio_DrmulD : FnScope N_Ratio_DrmulD P_Ratio_DrmulD (defScope s_Ratio_DrmulD) := ⟨rfl, rfl, rfl, by decide +kernel, rfl, by decide +kernel, by decide +kernel⟩
def d_Ratio_DrmulD : He.DefD := ⟨("Ratio", some "__rmul__"), "__rmul__", "Ratio.__rmul__", defArgs s_Ratio_DrmulD, defBody s_Ratio_DrmulD, defScope s_Ratio_DrmulD, [], []⟩
abbrev s_Ratio_inverse : Stmt := inClass (top 9) 14
abbrev N_Ratio_inverse : List Str := ["self"]
abbrev P_Ratio_inverse : List Str := ["self"]
theorem sc_Ratio_inverse : FnScope N_Ratio_inverse P_Ratio_inverse (defScope s_Ratio_inverse) := ⟨rfl, rfl, rfl, by decide +kernel, rfl, by decide +kernel, by decide +kernel⟩
def d_Ratio_inverse : He.DefD := ⟨("Ratio", some "inverse"), "inverse", "Ratio.inverse", defArgs s_Ratio_inverse, defBody s_Ratio_inverse, defScope s_Ratio_inverse, [], []⟩
def owned : List Str := ["Ratio"]
def xbK (K : PySem.W.Frag) : Bool := true && ownedB K owned
def fa : List He.Fa := [.glo "_law_source", .glo "_law_draw", .glo "_law_number", .glo "_law_divisor", .glo "_law_whole", .glo "_law_truth", .glo "_law_in_terms", .glo "_law_two_due", .glo "_law_rules", .glo "law", .glo "is_integer", .glo "greatest_divisor", .glo "ZeroBottom", .glo "Ratio", .free "NotImplemented", .free "abs", .free "bool", .free "int", .free "isinstance", .free "len", .free "list", .free "range", .cls "Ratio", .mkr "Ratio", .noat "Ratio" "top", .noat "Ratio" "bottom", .meth "Ratio" "__eq__", .meth "Ratio" "__neg__", .meth "Ratio" "__add__", .meth "Ratio" "__radd__", .meth "Ratio" "__sub__", .meth "Ratio" "__rsub__", .meth "Ratio" "__mul__", .meth "Ratio" "__rmul__", .meth "Ratio" "inverse", .exc "ZeroBottom"]
def fn : List He.DefD := [d__law_source, d__law_draw, d__law_number, d__law_divisor, d__law_whole, d__law_truth, d__law_in_terms, d__law_two_due, d__law_rules, d_law, d_is_integer, d_greatest_divisor, d_Ratio_DinitD, d_Ratio_DeqD, d_Ratio_DnegD, d_Ratio_DaddD, d_Ratio_DraddD, d_Ratio_DsubD, d_Ratio_DrsubD, d_Ratio_DmulD, d_Ratio_DrmulD, d_Ratio_inverse]
/-- what the top has written -/
structure Txt (K : PySem.W.Frag) (mg : Str → Option Value) : Prop where
  ex : ∃ h : Heap, K.In h ∧ h.Ns mainGlobals mg
  c : He.SaysD fa fn K
  xb : xbK K = true
theorem Txt.g__law_source {K : PySem.W.Frag} {mg : Str → Option Value} (T : Txt K mg) : mg "_law_source" = some (.ref (He.ga K "_law_source")) := by
  obtain ⟨h, X, G⟩ := T.ex
  exact He.glo_ok X G (T.c.fact 0 rfl)
theorem Txt.g__law_draw {K : PySem.W.Frag} {mg : Str → Option Value} (T : Txt K mg) : mg "_law_draw" = some (.ref (He.ga K "_law_draw")) := by
  obtain ⟨h, X, G⟩ := T.ex
  exact He.glo_ok X G (T.c.fact 1 rfl)
theorem Txt.g__law_number {K : PySem.W.Frag} {mg : Str → Option Value} (T : Txt K mg) : mg "_law_number" = some (.ref (He.ga K "_law_number")) := by
  obtain ⟨h, X, G⟩ := T.ex
  exact He.glo_ok X G (T.c.fact 2 rfl)
theorem Txt.g__law_divisor {K : PySem.W.Frag} {mg : Str → Option Value} (T : Txt K mg) : mg "_law_divisor" = some (.ref (He.ga K "_law_divisor")) := by
  obtain ⟨h, X, G⟩ := T.ex
  exact He.glo_ok X G (T.c.fact 3 rfl)
theorem Txt.g__law_whole {K : PySem.W.Frag} {mg : Str → Option Value} (T : Txt K mg) : mg "_law_whole" = some (.ref (He.ga K "_law_whole")) := by
  obtain ⟨h, X, G⟩ := T.ex
  exact He.glo_ok X G (T.c.fact 4 rfl)
theorem Txt.g__law_truth {K : PySem.W.Frag} {mg : Str → Option Value} (T : Txt K mg) : mg "_law_truth" = some (.ref (He.ga K "_law_truth")) := by
  obtain ⟨h, X, G⟩ := T.ex
  exact He.glo_ok X G (T.c.fact 5 rfl)
theorem Txt.g__law_in_terms {K : PySem.W.Frag} {mg : Str → Option Value} (T : Txt K mg) : mg "_law_in_terms" = some (.ref (He.ga K "_law_in_terms")) := by
  obtain ⟨h, X, G⟩ := T.ex
  exact He.glo_ok X G (T.c.fact 6 rfl)
theorem Txt.g__law_two_due {K : PySem.W.Frag} {mg : Str → Option Value} (T : Txt K mg) : mg "_law_two_due" = some (.ref (He.ga K "_law_two_due")) := by
  obtain ⟨h, X, G⟩ := T.ex
  exact He.glo_ok X G (T.c.fact 7 rfl)
theorem Txt.g__law_rules {K : PySem.W.Frag} {mg : Str → Option Value} (T : Txt K mg) : mg "_law_rules" = some (.ref (He.ga K "_law_rules")) := by
  obtain ⟨h, X, G⟩ := T.ex
  exact He.glo_ok X G (T.c.fact 8 rfl)
theorem Txt.g_law {K : PySem.W.Frag} {mg : Str → Option Value} (T : Txt K mg) : mg "law" = some (.ref (He.ga K "law")) := by
  obtain ⟨h, X, G⟩ := T.ex
  exact He.glo_ok X G (T.c.fact 9 rfl)
theorem Txt.g_is_integer {K : PySem.W.Frag} {mg : Str → Option Value} (T : Txt K mg) : mg "is_integer" = some (.ref (He.ga K "is_integer")) := by
  obtain ⟨h, X, G⟩ := T.ex
  exact He.glo_ok X G (T.c.fact 10 rfl)
theorem Txt.g_greatest_divisor {K : PySem.W.Frag} {mg : Str → Option Value} (T : Txt K mg) : mg "greatest_divisor" = some (.ref (He.ga K "greatest_divisor")) := by
  obtain ⟨h, X, G⟩ := T.ex
  exact He.glo_ok X G (T.c.fact 11 rfl)
theorem Txt.g_ZeroBottom {K : PySem.W.Frag} {mg : Str → Option Value} (T : Txt K mg) : mg "ZeroBottom" = some (.ref (He.ga K "ZeroBottom")) := by
  obtain ⟨h, X, G⟩ := T.ex
  exact He.glo_ok X G (T.c.fact 12 rfl)
theorem Txt.g_Ratio {K : PySem.W.Frag} {mg : Str → Option Value} (T : Txt K mg) : mg "Ratio" = some (.ref (He.ga K "Ratio")) := by
  obtain ⟨h, X, G⟩ := T.ex
  exact He.glo_ok X G (T.c.fact 13 rfl)
theorem Txt.f_NotImplemented {K : PySem.W.Frag} {mg : Str → Option Value} (T : Txt K mg) : mg "NotImplemented" = none := by
  obtain ⟨h, X, G⟩ := T.ex
  exact He.free_ok X G (T.c.fact 14 rfl)
theorem Txt.f_abs {K : PySem.W.Frag} {mg : Str → Option Value} (T : Txt K mg) : mg "abs" = none := by
  obtain ⟨h, X, G⟩ := T.ex
  exact He.free_ok X G (T.c.fact 15 rfl)
theorem Txt.f_bool {K : PySem.W.Frag} {mg : Str → Option Value} (T : Txt K mg) : mg "bool" = none := by
  obtain ⟨h, X, G⟩ := T.ex
  exact He.free_ok X G (T.c.fact 16 rfl)
theorem Txt.f_int {K : PySem.W.Frag} {mg : Str → Option Value} (T : Txt K mg) : mg "int" = none := by
  obtain ⟨h, X, G⟩ := T.ex
  exact He.free_ok X G (T.c.fact 17 rfl)
theorem Txt.f_isinstance {K : PySem.W.Frag} {mg : Str → Option Value} (T : Txt K mg) : mg "isinstance" = none := by
  obtain ⟨h, X, G⟩ := T.ex
  exact He.free_ok X G (T.c.fact 18 rfl)
theorem Txt.f_len {K : PySem.W.Frag} {mg : Str → Option Value} (T : Txt K mg) : mg "len" = none := by
  obtain ⟨h, X, G⟩ := T.ex
  exact He.free_ok X G (T.c.fact 19 rfl)
theorem Txt.f_list {K : PySem.W.Frag} {mg : Str → Option Value} (T : Txt K mg) : mg "list" = none := by
  obtain ⟨h, X, G⟩ := T.ex
  exact He.free_ok X G (T.c.fact 20 rfl)
theorem Txt.f_range {K : PySem.W.Frag} {mg : Str → Option Value} (T : Txt K mg) : mg "range" = none := by
  obtain ⟨h, X, G⟩ := T.ex
  exact He.free_ok X G (T.c.fact 21 rfl)
theorem Txt.cls_Ratio {K : PySem.W.Frag} {mg : Str → Option Value} (T : Txt K mg) : Cls K (He.ga K "Ratio") := He.cls_ok (T.c.fact 22 rfl)
theorem Txt.mk_Ratio {K : PySem.W.Frag} {mg : Str → Option Value} (T : Txt K mg) : Mk K (He.ga K "Ratio") (He.ma K (He.ga K "Ratio") "__init__") := He.mkr_ok (T.c.fact 23 rfl)
theorem Txt.na_Ratio_top {K : PySem.W.Frag} {mg : Str → Option Value} (T : Txt K mg) : NoAttr K (He.ga K "Ratio") "top" := He.noat_ok (T.c.fact 24 rfl)
theorem Txt.na_Ratio_bottom {K : PySem.W.Frag} {mg : Str → Option Value} (T : Txt K mg) : NoAttr K (He.ga K "Ratio") "bottom" := He.noat_ok (T.c.fact 25 rfl)
theorem Txt.me_Ratio_DeqD {K : PySem.W.Frag} {mg : Str → Option Value} (T : Txt K mg) : Meth K (He.ga K "Ratio") "__eq__" (He.ma K (He.ga K "Ratio") "__eq__") := He.meth_ok (T.c.fact 26 rfl)
theorem Txt.me_Ratio_DnegD {K : PySem.W.Frag} {mg : Str → Option Value} (T : Txt K mg) : Meth K (He.ga K "Ratio") "__neg__" (He.ma K (He.ga K "Ratio") "__neg__") := He.meth_ok (T.c.fact 27 rfl)
theorem Txt.me_Ratio_DaddD {K : PySem.W.Frag} {mg : Str → Option Value} (T : Txt K mg) : Meth K (He.ga K "Ratio") "__add__" (He.ma K (He.ga K "Ratio") "__add__") := He.meth_ok (T.c.fact 28 rfl)
theorem Txt.me_Ratio_DraddD {K : PySem.W.Frag} {mg : Str → Option Value} (T : Txt K mg) : Meth K (He.ga K "Ratio") "__radd__" (He.ma K (He.ga K "Ratio") "__radd__") := He.meth_ok (T.c.fact 29 rfl)
theorem Txt.me_Ratio_DsubD {K : PySem.W.Frag} {mg : Str → Option Value} (T : Txt K mg) : Meth K (He.ga K "Ratio") "__sub__" (He.ma K (He.ga K "Ratio") "__sub__") := He.meth_ok (T.c.fact 30 rfl)
theorem Txt.me_Ratio_DrsubD {K : PySem.W.Frag} {mg : Str → Option Value} (T : Txt K mg) : Meth K (He.ga K "Ratio") "__rsub__" (He.ma K (He.ga K "Ratio") "__rsub__") := He.meth_ok (T.c.fact 31 rfl)
theorem Txt.me_Ratio_DmulD {K : PySem.W.Frag} {mg : Str → Option Value} (T : Txt K mg) : Meth K (He.ga K "Ratio") "__mul__" (He.ma K (He.ga K "Ratio") "__mul__") := He.meth_ok (T.c.fact 32 rfl)
theorem Txt.me_Ratio_DrmulD {K : PySem.W.Frag} {mg : Str → Option Value} (T : Txt K mg) : Meth K (He.ga K "Ratio") "__rmul__" (He.ma K (He.ga K "Ratio") "__rmul__") := He.meth_ok (T.c.fact 33 rfl)
theorem Txt.me_Ratio_inverse {K : PySem.W.Frag} {mg : Str → Option Value} (T : Txt K mg) : Meth K (He.ga K "Ratio") "inverse" (He.ma K (He.ga K "Ratio") "inverse") := He.meth_ok (T.c.fact 34 rfl)
theorem Txt.exc_ZeroBottom {K : PySem.W.Frag} {mg : Str → Option Value} (T : Txt K mg) : PySem.W.excIn K (He.ga K "ZeroBottom") He.veBase "ValueError.__new__" = true ∧ PySem.W.keepIn K (.ref (He.ga K "ZeroBottom")) = true ∧ PySem.W.subIn K (.ref (He.ga K "ZeroBottom")) (.type "BaseException") = some true ∧ PySem.W.typeIn K (.ref (He.ga K "ZeroBottom")) = some (.type "type") := He.exc_ok (T.c.fact 35 rfl)
theorem Txt.own_Ratio {K : PySem.W.Frag} {mg : Str → Option Value} (T : Txt K mg) : OwnD K (He.ga K "Ratio") ∧ ∀ y ∈ owned, PySem.W.kitOne K (.ref (He.ga K "Ratio")) (.ref (He.ga K y)) = some (decide ("Ratio" = y)) := ownedB_ok (He.ba T.xb).2 (by decide)
theorem Txt.F__law_source {K : PySem.W.Frag} {mg : Str → Option Value} (T : Txt K mg) : ∃ fd, FunD K d__law_source.name d__law_source.qual (defArgs s__law_source) (defBody s__law_source) (defScope s__law_source) (d__law_source.dvs K) (d__law_source.kws K) (He.fAd K d__law_source.at_) fd := T.c.def_ 0 (d := d__law_source) rfl
theorem Txt.F__law_draw {K : PySem.W.Frag} {mg : Str → Option Value} (T : Txt K mg) : ∃ fd, FunD K d__law_draw.name d__law_draw.qual (defArgs s__law_draw) (defBody s__law_draw) (defScope s__law_draw) (d__law_draw.dvs K) (d__law_draw.kws K) (He.fAd K d__law_draw.at_) fd := T.c.def_ 1 (d := d__law_draw) rfl
theorem Txt.F__law_number {K : PySem.W.Frag} {mg : Str → Option Value} (T : Txt K mg) : ∃ fd, FunD K d__law_number.name d__law_number.qual (defArgs s__law_number) (defBody s__law_number) (defScope s__law_number) (d__law_number.dvs K) (d__law_number.kws K) (He.fAd K d__law_number.at_) fd := T.c.def_ 2 (d := d__law_number) rfl
theorem Txt.F__law_divisor {K : PySem.W.Frag} {mg : Str → Option Value} (T : Txt K mg) : ∃ fd, FunD K d__law_divisor.name d__law_divisor.qual (defArgs s__law_divisor) (defBody s__law_divisor) (defScope s__law_divisor) (d__law_divisor.dvs K) (d__law_divisor.kws K) (He.fAd K d__law_divisor.at_) fd := T.c.def_ 3 (d := d__law_divisor) rfl
theorem Txt.F__law_whole {K : PySem.W.Frag} {mg : Str → Option Value} (T : Txt K mg) : ∃ fd, FunD K d__law_whole.name d__law_whole.qual (defArgs s__law_whole) (defBody s__law_whole) (defScope s__law_whole) (d__law_whole.dvs K) (d__law_whole.kws K) (He.fAd K d__law_whole.at_) fd := T.c.def_ 4 (d := d__law_whole) rfl
theorem Txt.F__law_truth {K : PySem.W.Frag} {mg : Str → Option Value} (T : Txt K mg) : ∃ fd, FunD K d__law_truth.name d__law_truth.qual (defArgs s__law_truth) (defBody s__law_truth) (defScope s__law_truth) (d__law_truth.dvs K) (d__law_truth.kws K) (He.fAd K d__law_truth.at_) fd := T.c.def_ 5 (d := d__law_truth) rfl
theorem Txt.F__law_in_terms {K : PySem.W.Frag} {mg : Str → Option Value} (T : Txt K mg) : ∃ fd, FunD K d__law_in_terms.name d__law_in_terms.qual (defArgs s__law_in_terms) (defBody s__law_in_terms) (defScope s__law_in_terms) (d__law_in_terms.dvs K) (d__law_in_terms.kws K) (He.fAd K d__law_in_terms.at_) fd := T.c.def_ 6 (d := d__law_in_terms) rfl
theorem Txt.F__law_two_due {K : PySem.W.Frag} {mg : Str → Option Value} (T : Txt K mg) : ∃ fd, FunD K d__law_two_due.name d__law_two_due.qual (defArgs s__law_two_due) (defBody s__law_two_due) (defScope s__law_two_due) (d__law_two_due.dvs K) (d__law_two_due.kws K) (He.fAd K d__law_two_due.at_) fd := T.c.def_ 7 (d := d__law_two_due) rfl
theorem Txt.F__law_rules {K : PySem.W.Frag} {mg : Str → Option Value} (T : Txt K mg) : ∃ fd, FunD K d__law_rules.name d__law_rules.qual (defArgs s__law_rules) (defBody s__law_rules) (defScope s__law_rules) (d__law_rules.dvs K) (d__law_rules.kws K) (He.fAd K d__law_rules.at_) fd := T.c.def_ 8 (d := d__law_rules) rfl
theorem Txt.F_law {K : PySem.W.Frag} {mg : Str → Option Value} (T : Txt K mg) : ∃ fd, FunD K d_law.name d_law.qual (defArgs s_law) (defBody s_law) (defScope s_law) (d_law.dvs K) (d_law.kws K) (He.fAd K d_law.at_) fd := T.c.def_ 9 (d := d_law) rfl
theorem Txt.F_is_integer {K : PySem.W.Frag} {mg : Str → Option Value} (T : Txt K mg) : ∃ fd, FunD K d_is_integer.name d_is_integer.qual (defArgs s_is_integer) (defBody s_is_integer) (defScope s_is_integer) (d_is_integer.dvs K) (d_is_integer.kws K) (He.fAd K d_is_integer.at_) fd := T.c.def_ 10 (d := d_is_integer) rfl
theorem Txt.F_greatest_divisor {K : PySem.W.Frag} {mg : Str → Option Value} (T : Txt K mg) : ∃ fd, FunD K d_greatest_divisor.name d_greatest_divisor.qual (defArgs s_greatest_divisor) (defBody s_greatest_divisor) (defScope s_greatest_divisor) (d_greatest_divisor.dvs K) (d_greatest_divisor.kws K) (He.fAd K d_greatest_divisor.at_) fd := T.c.def_ 11 (d := d_greatest_divisor) rfl
theorem Txt.F_Ratio_DinitD {K : PySem.W.Frag} {mg : Str → Option Value} (T : Txt K mg) : ∃ fd, FunD K d_Ratio_DinitD.name d_Ratio_DinitD.qual (defArgs s_Ratio_DinitD) (defBody s_Ratio_DinitD) (defScope s_Ratio_DinitD) (d_Ratio_DinitD.dvs K) (d_Ratio_DinitD.kws K) (He.fAd K d_Ratio_DinitD.at_) fd := T.c.def_ 12 (d := d_Ratio_DinitD) rfl
theorem Txt.F_Ratio_DeqD {K : PySem.W.Frag} {mg : Str → Option Value} (T : Txt K mg) : ∃ fd, FunD K d_Ratio_DeqD.name d_Ratio_DeqD.qual (defArgs s_Ratio_DeqD) (defBody s_Ratio_DeqD) (defScope s_Ratio_DeqD) (d_Ratio_DeqD.dvs K) (d_Ratio_DeqD.kws K) (He.fAd K d_Ratio_DeqD.at_) fd := T.c.def_ 13 (d := d_Ratio_DeqD) rfl
theorem Txt.F_Ratio_DnegD {K : PySem.W.Frag} {mg : Str → Option Value} (T : Txt K mg) : ∃ fd, FunD K d_Ratio_DnegD.name d_Ratio_DnegD.qual (defArgs s_Ratio_DnegD) (defBody s_Ratio_DnegD) (defScope s_Ratio_DnegD) (d_Ratio_DnegD.dvs K) (d_Ratio_DnegD.kws K) (He.fAd K d_Ratio_DnegD.at_) fd := T.c.def_ 14 (d := d_Ratio_DnegD) rfl
theorem Txt.F_Ratio_DaddD {K : PySem.W.Frag} {mg : Str → Option Value} (T : Txt K mg) : ∃ fd, FunD K d_Ratio_DaddD.name d_Ratio_DaddD.qual (defArgs s_Ratio_DaddD) (defBody s_Ratio_DaddD) (defScope s_Ratio_DaddD) (d_Ratio_DaddD.dvs K) (d_Ratio_DaddD.kws K) (He.fAd K d_Ratio_DaddD.at_) fd := T.c.def_ 15 (d := d_Ratio_DaddD) rfl
theorem Txt.F_Ratio_DraddD {K : PySem.W.Frag} {mg : Str → Option Value} (T : Txt K mg) : ∃ fd, FunD K d_Ratio_DraddD.name d_Ratio_DraddD.qual (defArgs s_Ratio_DraddD) (defBody s_Ratio_DraddD) (defScope s_Ratio_DraddD) (d_Ratio_DraddD.dvs K) (d_Ratio_DraddD.kws K) (He.fAd K d_Ratio_DraddD.at_) fd := T.c.def_ 16 (d := d_Ratio_DraddD) rfl
theorem Txt.F_Ratio_DsubD {K : PySem.W.Frag} {mg : Str → Option Value} (T : Txt K mg) : ∃ fd, FunD K d_Ratio_DsubD.name d_Ratio_DsubD.qual (defArgs s_Ratio_DsubD) (defBody s_Ratio_DsubD) (defScope s_Ratio_DsubD) (d_Ratio_DsubD.dvs K) (d_Ratio_DsubD.kws K) (He.fAd K d_Ratio_DsubD.at_) fd := T.c.def_ 17 (d := d_Ratio_DsubD) rfl
theorem Txt.F_Ratio_DrsubD {K : PySem.W.Frag} {mg : Str → Option Value} (T : Txt K mg) : ∃ fd, FunD K d_Ratio_DrsubD.name d_Ratio_DrsubD.qual (defArgs s_Ratio_DrsubD) (defBody s_Ratio_DrsubD) (defScope s_Ratio_DrsubD) (d_Ratio_DrsubD.dvs K) (d_Ratio_DrsubD.kws K) (He.fAd K d_Ratio_DrsubD.at_) fd := T.c.def_ 18 (d := d_Ratio_DrsubD) rfl
theorem Txt.F_Ratio_DmulD {K : PySem.W.Frag} {mg : Str → Option Value} (T : Txt K mg) : ∃ fd, FunD K d_Ratio_DmulD.name d_Ratio_DmulD.qual (defArgs s_Ratio_DmulD) (defBody s_Ratio_DmulD) (defScope s_Ratio_DmulD) (d_Ratio_DmulD.dvs K) (d_Ratio_DmulD.kws K) (He.fAd K d_Ratio_DmulD.at_) fd := T.c.def_ 19 (d := d_Ratio_DmulD) rfl
theorem Txt.F_Ratio_DrmulD {K : PySem.W.Frag} {mg : Str → Option Value} (T : Txt K mg) : ∃ fd, FunD K d_Ratio_DrmulD.name d_Ratio_DrmulD.qual (defArgs s_Ratio_DrmulD) (defBody s_Ratio_DrmulD) (defScope s_Ratio_DrmulD) (d_Ratio_DrmulD.dvs K) (d_Ratio_DrmulD.kws K) (He.fAd K d_Ratio_DrmulD.at_) fd := T.c.def_ 20 (d := d_Ratio_DrmulD) rfl
theorem Txt.F_Ratio_inverse {K : PySem.W.Frag} {mg : Str → Option Value} (T : Txt K mg) : ∃ fd, FunD K d_Ratio_inverse.name d_Ratio_inverse.qual (defArgs s_Ratio_inverse) (defBody s_Ratio_inverse) (defScope s_Ratio_inverse) (d_Ratio_inverse.dvs K) (d_Ratio_inverse.kws K) (He.fAd K d_Ratio_inverse.at_) fd := T.c.def_ 21 (d := d_Ratio_inverse) rfl
section
variable {P : Program} {w : World} {K : PySem.W.Frag} {mg : Str → Option Value} {base : Heap}
theorem merge_src {c : Addr} {a l m d : Int} : mergeK [] (srcK c a l m d) = srcK c a l m d := by
  obtain ⟨h1, h2, h3, h4, h5, h6, h7, h8, h9, h10⟩ := kne
  unfold mergeK srcK putK
  simp [h1, h2, h3, h4, h5, h6, h7, h8, h9, h10]
theorem ok_source (T : Txt K mg) : Cal P w K mg base CX0 1 "_law_source" P__law_source [] (spSource K) := by
  refine Cal.of T.F__law_source T.g__law_source (fun fd F => F.ok sc__law_source (fun vs H Q E h => ?_) (fun cdv A outer s H vs Q E hr h => ?_)) (fun _ _ _ _ _ _ us hl => match us, hl with | [_], _ => rfl)
  · obtain ⟨a, ns, rfl, _⟩ := h
    rfl
  · obtain ⟨a, ns, rfl, hS, k⟩ := h
    refine ⟨_, PSs.nox (pss_one (ps_ret (pe_disp (pps_cons pe_str (pe_callTy call_list_of (by rfl) T.f_list (by decide +kernel) (pa_cons (pv 0) pa_nil)) (pps_cons pe_str pe_int (pps_cons pe_str pe_int (pps_cons pe_str pe_int (pps_cons pe_str pe_int pps_nil))))) (by rfl) (by rfl) (fun z => by cases z) (by decide)))), ?_⟩
    intro p hp
    refine ⟨_, rfl, a, ns.map V.int, rfl, Or.inl ((same_new (Same.refl H) hp).seq hS), fun l hl => ?_⟩
    have npl : p ≠ l := fun e => by rw [e, upd_same] at hl; cases hl
    refine ⟨by rw [upd_ne npl, upd_same], srcK l 0 0 0 0, rfl, by show 5 ≤ 15; decide, ?_⟩
    refine k p l _ hp ((same_new (Same.refl H) hp).free hl) ⟨ns, 0, 0, 0, 0, ?_, ?_, by decide⟩ ?_
    · rw [merge_src, upd_same]
    · rw [upd_ne npl.symm, upd_same]
    · exact same_mut (same_new (same_new (Same.refl H) hp) hl) hp
theorem ok_draw (T : Txt K mg) : Cal P w K mg base CX0 1 "_law_draw" P__law_draw [] spDraw := by
  refine Cal.of T.F__law_draw T.g__law_draw (fun fd F => F.ok sc__law_draw (fun vs H Q E h => ?_) (fun cdv A outer s0 H vs Q E hr h => ?_)) (fun _ _ _ _ _ _ us hl => match us, hl with | [_, _], _ => rfl)
  · obtain ⟨s, c, many, rfl, _⟩ := h
    rfl
  · obtain ⟨s, c, many, rfl, S, hm0, hm1, k⟩ := h
    have ncs := S.ne
    obtain ⟨ns, a, l, m, d, hs, hc, ha⟩ := S.ex
    refine ⟨_, PSs.nox (C8.pss_cut (ps_if (PW.pt (pw_and (pt_cmpR op_eq (pe_dget (hu_of hr) (pv 0) pe_str (fun _ _ => rfl)) pe_int (nomark _)) (pw_and1 (pt_cmpR op_eq (pe_dget (hu_of hr) (pv 0) pe_str (fun _ _ => rfl)) pe_int (nomark _))))) (pss_cons (ps_if (pt_cmpR op_ge (pe_dget (hu_of hr) (pv 0) pe_str (fun _ _ => rfl)) (pe_callB call_len (by rfl) T.f_len (by decide +kernel) (pa_cons (pe_dget (hu_of hr) (pv 0) pe_str (fun _ _ => rfl)) pa_nil)) (nomark _)) (pss_one (ps_ret pe_int))
    pss_nil)
    (pss_cons (ps_set (i := 2) sc__law_draw.nd rfl (Or.inl rfl) (pe_ix ix_list (pe_dget (hu_of hr) (pv 0) pe_str (fun _ _ => rfl)) (pe_dget (hu_of hr) (pv 0) pe_str (fun _ _ => rfl)) (fun _ _ => rfl)))
    (pss_cons (ps_dput (hu_of hr) (pv 0) pe_str (pe_op op_add (pe_dget (hu_of hr) (pv 0) pe_str (fun _ _ => rfl)) pe_int) rfl)
    (C8.pss_cut (ps_if (pt_cmpR op_lt (pv 2) pe_int (nomark _)) (pss_one (ps_set (i := 2) sc__law_draw.nd rfl (Or.inl rfl) (pe_op op_sub (pe_un un_neg (pv 2)) pe_int)))
    pss_nil)
    (pss_one (ps_if (pt_cmpR op_ge (pv 2) (pe_op op_pow pe_int pe_int) (nomark _)) (pss_one (ps_dput (hu_of hr) (pv 0) pe_str (pv 2) rfl))
    (pss_cons (ps_dput (hu_of hr) (pv 0) pe_str (pv 2) rfl)
    (pss_one (ps_dput (hu_of hr) (pv 0) pe_str pe_int rfl)))))))))
    pss_nil)
    (pss_cons (ps_if (pt_cmpR op_gt (pe_dget (hu_of hr) (pv 0) pe_str (fun _ _ => rfl)) pe_int (nomark _)) (pss_cons (ps_set (i := 3) sc__law_draw.nd rfl (Or.inl rfl) (pe_op op_mod (pe_callTy call_int1 (by rfl) T.f_int (by decide +kernel) (pa_cons (pe_dget (hu_of hr) (pv 0) pe_str (fun _ _ => rfl)) pa_nil)) (pv 1)))
    (pss_cons (ps_dput (hu_of hr) (pv 0) pe_str (pe_op op_fdivW (pe_callTy call_int1 (by rfl) T.f_int (by decide +kernel) (pa_cons (pe_dget (hu_of hr) (pv 0) pe_str (fun _ _ => rfl)) pa_nil)) (pv 1)) rfl)
    (pss_one (ps_ret (pv 3)))))
    pss_nil)
    (pss_cons (ps_set (i := 4) sc__law_draw.nd rfl (Or.inl rfl) (pe_dget (hu_of hr) (pv 0) pe_str (fun _ _ => rfl)))
    (pss_cons (ps_dput (hu_of hr) (pv 0) pe_str (pe_op op_sub (pv 4) pe_int) rfl)
    (pss_cons (ps_set (i := 5) sc__law_draw.nd rfl (Or.inl rfl) (pe_op op_mod (pe_callTy call_int1 (by rfl) T.f_int (by decide +kernel) (pa_cons (pe_op op_add (pe_op op_add (pe_op op_mul (pe_dget (hu_of hr) (pv 0) pe_str (fun _ _ => rfl)) pe_int) (pe_op op_mul (pv 4) pe_int)) (pe_op op_mul (pe_dget (hu_of hr) (pv 0) pe_str (fun _ _ => rfl)) pe_int)) pa_nil)) pe_int))
    (pss_cons (ps_set (i := 6) sc__law_draw.nd rfl (Or.inl rfl) (pe_op op_mod (pe_callTy call_int1 (by rfl) T.f_int (by decide +kernel) (pa_cons (pe_op op_add (pe_op op_add (pe_op op_mul (pv 5) (pv 5)) (pe_op op_mul (pv 5) pe_int)) (pe_op op_mul (pv 4) pe_int)) pa_nil)) pe_int))
    (pss_one (ps_ret (pe_op op_mod (pe_callTy call_int1 (by rfl) T.f_int (by decide +kernel) (pa_cons (pv 6) pa_nil)) (pv 1)))))))))), ?_⟩
    refine ⟨fun σ' H' => ∃ cv a l m d, σ' = [some (.ref s), some (.int many), cv, none, none, none, none] ∧ H' s = some (.dK (srcK c a l m d)) ∧ 0 ≤ a ∧ But s H H', ?_, ?_⟩
    · refine ⟨_, rfl, s, _, rfl, g_left hs, rfl, _, rfl, ifI (fun e1 => ?_) (fun e1 => ?_)⟩
      · refine ⟨_, rfl, s, _, rfl, g_mixed hs, rfl, _, rfl, ifI (fun e2 => ?_) (fun e2 => ?_)⟩
        · refine ⟨_, rfl, s, _, rfl, g_at hs, _, rfl, s, _, rfl, g_cells hs, _, _, rfl, .inl ⟨_, SqL.of hc, rfl⟩, _, _, rfl, rfl, _, rfl, ifD (fun e3 => ?_) (fun e3 => ?_)⟩
          · exact k 0 H (Int.le_refl 0) hm0 ⟨ns, a, l, m, d, hs, hc, ha⟩ (But.refl H)
          · rw [List.length_map] at e3
            have hlt : a.toNat < ns.length := by omega
            obtain ⟨cell, hcell⟩ : ∃ z, ns[a.toNat]? = some z := ⟨_, List.getElem?_eq_getElem hlt⟩
            refine ⟨_, rfl, s, _, rfl, g_cells hs, _, rfl, s, _, rfl, g_at hs, c, _, a, .int cell, rfl, rfl, SqL.of hc, atNat (n := a.toNat) (by rw [List.getElem?_map, hcell]; rfl) (by omega), ?_⟩
            refine ⟨_, rfl, s, _, rfl, g_at hs, _, _, rfl, rfl, _, rfl, s, _, rfl, p_at hs, ?_⟩
            have hs1 : (upd H s (.dK (srcK c (a + 1) l m d))) s = some (.dK (srcK c (a + 1) l m d)) := upd_same
            have b1 : But s H (upd H s (.dK (srcK c (a + 1) l m d))) := But.upd
            refine ⟨fun σ' H' => ∃ cv : Int, σ' = [some (.ref s), some (.int many), some (.int cv), none, none, none, none] ∧ H' = upd H s (.dK (srcK c (a + 1) l m d)), ?_, ?_⟩
            · refine ⟨_, rfl, _, _, rfl, rfl, _, rfl, ifD (fun e4 => ?_) (fun e4 => ?_)⟩
              · exact ⟨_, rfl, _, rfl, _, _, rfl, rfl, _, rfl, rfl⟩
              · exact ⟨_, rfl, rfl⟩
            · rintro σ' H' ⟨cv, rfl, rfl⟩
              refine ⟨_, rfl, _, _, rfl, rfl, ⟨by decide, by decide, by decide⟩, _, _, rfl, rfl, _, rfl, ifD (fun e5 => ?_) (fun e5 => ?_)⟩
              · exact ⟨_, rfl, _, rfl, s, _, rfl, p_left hs1, _, _, _, _, _, rfl, upd_same, by omega, b1.trans But.upd⟩
              · exact ⟨_, rfl, _, rfl, s, _, rfl, p_seed hs1, _, rfl, s, _, rfl, p_mixed upd_same, _, _, _, _, _, rfl, upd_same, by omega, (b1.trans But.upd).trans But.upd⟩
        · exact ⟨_, _, _, _, _, rfl, hs, ha, But.refl H⟩
      · exact ⟨_, _, _, _, _, rfl, hs, ha, But.refl H⟩
    · rintro σ' H' ⟨cv, a, l, m, d, rfl, hs', ha', b'⟩
      have hc' : H' c = some (.lst (ns.map V.int)) := b' _ _ ncs hc
      refine ⟨_, rfl, s, _, rfl, g_left hs', _, _, rfl, rfl, _, rfl, ifD (fun e6 => ?_) (fun e6 => ?_)⟩
      · refine ⟨_, rfl, s, _, rfl, g_left hs', .inl ⟨_, rfl, _, rfl, _, _, rfl, rfl, hm0, ?_⟩⟩
        refine ⟨_, rfl, s, _, rfl, g_left hs', .inl ⟨_, rfl, _, rfl, _, _, rfl, rfl, wide_div hm0 (b := 200) (by omega) (by decide) (by decide), _, rfl, s, _, rfl, p_left hs', _, rfl, ?_⟩⟩
        refine k _ _ (Int.emod_nonneg _ (by omega)) (Int.emod_lt_of_pos _ hm0) ⟨ns, _, _, _, _, upd_same, But.upd _ _ ncs hc', ha'⟩ (b'.trans But.upd)
      · refine ⟨_, rfl, s, _, rfl, g_mixed hs', ?_⟩
        refine ⟨_, rfl, _, _, rfl, rfl, _, rfl, s, _, rfl, p_mixed hs', ?_⟩
        refine ⟨_, rfl, s, _, rfl, g_seed upd_same, _, _, rfl, rfl, .inr ⟨by decide, by decide⟩, _, rfl, _, _, rfl, rfl, .inr ⟨by decide, by decide⟩, _, _, rfl, rfl, _, rfl, s, _, rfl, g_at upd_same, _, _, rfl, rfl, .inr ⟨by decide, by decide⟩, _, _, rfl, rfl, .inl ⟨_, rfl, _, _, rfl, rfl, (by show (0 : Int) < 2147483647; decide), ?_⟩⟩
        have f0 : 0 ≤ (d * 48271 + m * 69621 + a * 16807) % 2147483647 := Int.emod_nonneg _ (by decide)
        have f1 : (d * 48271 + m * 69621 + a * 16807) % 2147483647 < 2147483647 := Int.emod_lt_of_pos _ (by decide)
        refine ⟨_, rfl, _, rfl, _, _, rfl, rfl, .inl ⟨Int.lt_of_lt_of_le (by decide) f0, Int.lt_trans f1 (by decide)⟩, _, rfl, _, _, rfl, rfl, .inr ⟨by decide, by decide⟩, _, _, rfl, rfl, _, rfl, _, _, rfl, rfl, .inr ⟨by decide, by decide⟩, _, _, rfl, rfl, .inl ⟨_, rfl, _, _, rfl, rfl, (by show (0 : Int) < 2147483399; decide), ?_⟩⟩
        refine ⟨_, rfl, .inl ⟨_, rfl, _, rfl, _, _, rfl, rfl, hm0, ?_⟩⟩
        exact k _ _ (Int.emod_nonneg _ (by omega)) (Int.emod_lt_of_pos _ hm0) ⟨ns, _, _, _, _, upd_same, But.upd _ _ ncs hc', ha'⟩ (b'.trans But.upd)
end
section
variable {P : Program} {w : World} {K : PySem.W.Frag} {mg : Str → Option Value} {base : Heap}
theorem ok_number (T : Txt K mg) : Cal P w K mg base CX0 2 "_law_number" P__law_number [] spNumber := by
  have C__law_draw := ok_draw (P := P) (w := w) (base := base) T
  refine Cal.of T.F__law_number T.g__law_number (fun fd F => F.ok sc__law_number (fun vs H Q E h => ?_) (fun cdv A outer s0 H vs Q E hr h => ?_)) (fun _ _ _ _ _ _ us hl => match us, hl with | [_], _ => rfl)
  · obtain ⟨s, c, rfl, _⟩ := h
    rfl
  · obtain ⟨s, c, rfl, S, k⟩ := h
    refine ⟨_, PSs.nox (pss_cons (ps_set (i := 1) sc__law_number.nd rfl (Or.inl rfl) (pc_call C__law_draw (hr.mono (by first | decide | omega)) pass0 (pa_cons (pv 0) (pa_cons pe_int pa_nil))))
    (pss_cons (ps_if (pt_cmpR op_eq (pv 1) pe_int (nomark _)) (pss_one (ps_ret (pe_op op_sub (pc_call C__law_draw (hr.mono (by first | decide | omega)) pass0 (pa_cons (pv 0) (pa_cons pe_int pa_nil))) pe_int)))
    pss_nil)
    (pss_cons (ps_if (pt_cmpR op_eq (pv 1) pe_int (nomark _)) (pss_one (ps_ret (pe_op op_sub (pc_call C__law_draw (hr.mono (by first | decide | omega)) pass0 (pa_cons (pv 0) (pa_cons (pe_op op_add (pe_op op_mul pe_int (pe_op op_pow pe_int pe_int)) pe_int) pa_nil))) (pe_op op_pow pe_int pe_int))))
    pss_nil)
    (pss_one (ps_ret (pe_op op_sub (pc_call C__law_draw (hr.mono (by first | decide | omega)) pass0 (pa_cons (pv 0) (pa_cons pe_int pa_nil))) pe_int)))))), ?_⟩
    refine ⟨_, rfl, s, c, 8, rfl, S, by decide, by decide, fun r1 H1 a1 b1 S1 e1 => ?_⟩
    refine ⟨_, rfl, rfl, _, rfl, ifI (fun h1 => ?_) (fun h1 => ?_)⟩
    · exact ⟨_, rfl, s, c, 2001, rfl, S1, by decide, by decide, fun r2 H2 a2 b2 S2 e2 => ⟨_, _, rfl, rfl, k _ _ (by omega) (by omega) S2 (e1.trans e2)⟩⟩
    · refine ⟨_, rfl, rfl, _, rfl, ifI (fun h2 => ?_) (fun h2 => ?_)⟩
      · refine ⟨_, rfl, _, _, rfl, rfl, ⟨by decide, by decide, by decide⟩, _, _, rfl, rfl, .inl ⟨by decide, by decide⟩, _, _, rfl, rfl, s, c, _, rfl, S1, by decide, by decide, fun r2 H2 a2 b2 S2 e2 => ?_⟩
        exact ⟨_, _, rfl, rfl, ⟨by decide, by decide, by decide⟩, _, _, rfl, rfl, k _ _ (by show -(10 ^ 20) ≤ r2 - 10 ^ 20; omega) (by have : r2 < 2 * 10 ^ 20 + 1 := b2; show r2 - 10 ^ 20 ≤ 10 ^ 20; omega) S2 (e1.trans e2)⟩
      · exact ⟨_, rfl, s, c, 5, rfl, S1, by decide, by decide, fun r2 H2 a2 b2 S2 e2 => ⟨_, _, rfl, rfl, k _ _ (by omega) (by omega) S2 (e1.trans e2)⟩⟩
end
def spDiv : Sp := fun vs H Q _ => ∃ a b : Int, vs = [.int a, .int b] ∧ b ≠ 0 ∧ b.natAbs < 2 ^ 270 ∧ Q (.int (Int.gcd a b)) H
section
variable {P : Program} {w : World} {K : PySem.W.Frag} {mg : Str → Option Value} {base : Heap}
theorem fmod_sign {s x y : Int} (hs : s = 1 ∨ s = -1) (hy : 0 < y) : (s * x).fmod (s * y) = s * (x % y) := by
  rcases hs with rfl | rfl
  · rw [Int.one_mul, Int.one_mul, Int.one_mul, Int.fmod_eq_emod_of_nonneg x (Int.le_of_lt hy)]
  · rw [Int.fmod_def, show (-1 : Int) * x = -x by omega, show (-1 : Int) * y = -y by omega, Int.neg_fdiv_neg, Int.neg_mul, ← Int.fmod_eq_emod_of_nonneg x (Int.le_of_lt hy), Int.fmod_def]
    omega
theorem gcd_sign {s x y : Int} (hs : s = 1 ∨ s = -1) : Int.gcd (s * x) (s * y) = Int.gcd x y := by
  rw [Int.gcd_mul_left]
  rcases hs with rfl | rfl <;> simp
theorem ok_div (T : Txt K mg) : Cal P w K mg base CX0 1 "_law_divisor" P__law_divisor [] spDiv := by
  refine Cal.of T.F__law_divisor T.g__law_divisor (fun fd F => F.ok sc__law_divisor (fun vs H Q E h => ?_) (fun cdv A outer s0 H vs Q E hr h => ?_)) (fun _ _ _ _ _ _ us hl => match us, hl with | [_, _], _ => rfl)
  · obtain ⟨a, b, rfl, _⟩ := h
    rfl
  · obtain ⟨a, b, rfl, b0, b1, k⟩ := h
    refine ⟨_, PSs.nox (pss_cons (ps_for PassesOwn.never rfl (pi_range1 (by rfl) T.f_range (pa_cons pe_int pa_nil)) (pg_name (i := 2) sc__law_divisor.nd rfl (Or.inl rfl))
    (pss_cons (ps_if (pt_cmpR op_eq (pv 1) pe_int (nomark _)) (pss_one (ps_ret (pe_callB call_abs (by rfl) T.f_abs (by decide +kernel) (pa_cons (pv 0) pa_nil))))
    pss_nil)
    (pss_cons (ps_set (i := 3) sc__law_divisor.nd rfl (Or.inl rfl) (pe_op op_modN (pe_callTy call_int1 (by rfl) T.f_int (by decide +kernel) (pa_cons (pv 0) pa_nil)) (pv 1)))
    (pss_cons (ps_set (i := 0) sc__law_divisor.nd rfl (Or.inl rfl) (pv 1))
    (pss_one (ps_set (i := 1) sc__law_divisor.nd rfl (Or.inl rfl) (pv 3)))))))
    (pss_one (ps_ret (pe_callB call_abs (by rfl) T.f_abs (by decide +kernel) (pa_cons (pv 0) pa_nil))))), ?_⟩
    obtain ⟨s, a', b', hs, ea, eb, hb⟩ : ∃ s a' b' : Int, (s = 1 ∨ s = -1) ∧ a = s * a' ∧ b = s * b' ∧ 0 < b' := by
      by_cases h : 0 < b
      · exact ⟨1, a, b, .inl rfl, by omega, by omega, h⟩
      · exact ⟨-1, -a, -b, .inr rfl, by omega, by omega, by omega⟩
    have hg : Int.gcd a b = Int.gcd a' b' := by rw [ea, eb, gcd_sign hs]
    have hbb : b'.natAbs < 2 ^ 270 := by rcases hs with rfl | rfl <;> omega
    refine ⟨400, rfl, by decide, by decide, for_range (lo := 0) (n := 400) (fun i σ' H' => H' = H ∧ ∃ (x y : Int) (v2 v3 : Option V), σ' = [some (.int (s * x)), some (.int (s * y)), v2, v3] ∧ ((i = 0 ∧ x = a' ∧ y = b') ∨ ∃ j, i = j + 1 ∧ Eu j a' b' x y)) ⟨rfl, a', b', _, _, by rw [← ea, ← eb]; rfl, .inl ⟨rfl, rfl, rfl⟩⟩ ?_ ?_⟩
    · rintro i σ' H' hi ⟨rfl, x, y, v2, v3, rfl, hx⟩
      have hgx : Int.gcd x y = Int.gcd a' b' := by
        rcases hx with ⟨_, rfl, rfl⟩ | ⟨j, _, e⟩
        · rfl
        · exact e.g
      refine ⟨_, rfl, rfl, _, rfl, ifI (fun h1 => ?_) (fun h1 => ?_)⟩
      · refine ⟨_, rfl, _, rfl, ?_⟩
        rw [abs_if]
        have y0 : y = 0 := by rcases hs with rfl | rfl <;> omega
        rw [y0, Int.gcd_zero] at hgx
        have e : (s * x).natAbs = x.natAbs := by rcases hs with rfl | rfl <;> omega
        rw [e, hgx, ← hg]
        exact k
      · have y0 : y ≠ 0 := fun z => h1 (by rw [z, Int.mul_zero])
        have hy : 0 < y := by
          rcases hx with ⟨_, rfl, rfl⟩ | ⟨j, _, e⟩
          · exact hb
          · have := e.lo
            omega
        refine ⟨_, rfl, .inl ⟨_, rfl, _, rfl, _, _, rfl, rfl, h1, _, rfl, _, rfl, rfl, y, x % y, some (.int (0 + (i : Int))), some (.int (s * (x % y))), by rw [← fmod_sign hs hy]; rfl, .inr ?_⟩⟩
        rcases hx with ⟨rfl, rfl, rfl⟩ | ⟨j, rfl, e⟩
        · exact ⟨0, rfl, .first hb⟩
        · exact ⟨j + 1, rfl, e.next y0⟩
    · rintro σ' H' ⟨rfl, x, y, v2, v3, rfl, hx⟩
      rcases hx with ⟨z, _⟩ | ⟨j, hj, e⟩
      · cases z
      · have : j = 399 := by omega
        subst this
        have f := fib400
        exact (e.done (by have : ((2 ^ 270 : Nat) : Int) ≤ ((fibs 400).1 : Int) := Int.ofNat_le.mpr f
                          exact Int.lt_of_lt_of_le (by omega) this)).elim
end
section
variable {P : Program} {w : World} {K : PySem.W.Frag} {mg : Str → Option Value} {base : Heap}
theorem ok_whole (T : Txt K mg) : Cal P w K mg base CX0 1 "_law_whole" P__law_whole [] spWhole := by
  refine Cal.of T.F__law_whole T.g__law_whole (fun fd F => F.ok sc__law_whole (fun vs H Q E h => ?_) (fun cdv A outer s0 H vs Q E hr h => ?_)) (fun _ _ _ _ _ _ us hl => match us, hl with | [_], _ => rfl)
  · obtain ⟨i, rfl, _⟩ := h
    rfl
  · obtain ⟨i, rfl, k⟩ := h
    refine ⟨_, PSs.nox (pss_one (ps_ret (pe_and (pe_callB call_isi (by rfl) T.f_isinstance (by decide +kernel) (pa_cons (pv 0) (pa_cons (pe_bltn (v := .ty "int") (u := .type "int") (by rfl) T.f_int (by decide +kernel) rfl) pa_nil))) (pe_one (pe_not (pe_callB call_isi (by rfl) T.f_isinstance (by decide +kernel) (pa_cons (pv 0) (pa_cons (pe_bltn (v := .ty "bool") (u := .type "bool") (by rfl) T.f_bool (by decide +kernel) rfl) pa_nil)))))))), ?_⟩
    exact ⟨_, rfl, _, _, _, _, _, rfl, .ty _, .base (.int i), kit_ty kt_int_int, _, rfl, iteT ⟨_, rfl, _, _, _, _, _, rfl, .ty _, .base (.int i), kit_ty kt_int_bool, _, rfl, k⟩⟩
end
def ratF (p q : Int) : List (Str × V) := putF "bottom" (.int q) (putF "top" (.int p) [])
theorem rat_top {p q : Int} : (ratF p q).lookup ("top" : Str) = some (V.int p) := rfl
theorem rat_bottom {p q : Int} : (ratF p q).lookup ("bottom" : Str) = some (V.int q) := rfl
def spGcd : Sp := fun vs H Q _ => ∃ a b : Int, vs = [.int a, .int b] ∧ Q (.int (Int.gcd a b)) H
/-- a ratio object -/
def IsRat (K : PySem.W.Frag) (H : Hp) (x : Addr) (p q : Int) : Prop := ∃ dx, H x = some (.ins (He.ga K "Ratio") dx (ratF p q))
theorem IsRat.same {K : PySem.W.Frag} {H H' : Hp} {x : Addr} {p q : Int} (h : IsRat K H x p q) (e : Same H H') : IsRat K H' x p q := by
  obtain ⟨dx, hx⟩ := h
  exact ⟨dx, e _ _ hx⟩
/-- Ratio(t, b) -/
def spRatio (K : PySem.W.Frag) : Sp := fun vs H Q E => ∃ (x dx : Addr) (t b : Int), vs = [.ref x, .int t, .int b] ∧ H x = some (.ins (He.ga K "Ratio") dx []) ∧ b.natAbs < 2 ^ 8000 ∧ (b = 0 → E (.ref (He.ga K "ZeroBottom")) none H) ∧
  (b ≠ 0 → ∀ p q H', Rt p q t b → p.natAbs ≤ t.natAbs → q.natAbs ≤ b.natAbs → H' x = some (.ins (He.ga K "Ratio") dx (ratF p q)) → (∀ y, y ≠ x → H' y = H y) → Q .non H')
section
variable {P : Program} {w : World} {K : PySem.W.Frag} {mg : Str → Option Value} {base : Heap}
theorem ok_gcd (T : Txt K mg) : Cal P w K mg base CX0 1 "greatest_divisor" P_greatest_divisor [] spGcd := by
  refine Cal.of T.F_greatest_divisor T.g_greatest_divisor (fun fd F => F.ok sc_greatest_divisor (fun vs H Q E h => ?_) (fun cdv A outer s0 H vs Q E hr h => ?_)) (fun _ _ _ _ _ _ us hl => match us, hl with | [_, _], _ => rfl)
  · obtain ⟨a, b, rfl, _⟩ := h
    rfl
  · obtain ⟨a, b, rfl, k⟩ := h
    refine ⟨_, PSs.nox (pss_cons (ps_while PassesOwn.never (pt_cmpR op_ne (pv 1) pe_int (nomark _))
    (pss_one (ps_par (i := 0) (j := 1) (by rfl) sc_greatest_divisor.nd rfl rfl (by decide) rfl rfl (pa_cons (pv 1) (pa_cons (pe_op op_modN (pv 0) (pv 1)) pa_nil)) (by rfl))))
    (pss_one (ps_ret (pe_callB call_abs (by rfl) T.f_abs (by decide +kernel) (pa_cons (pv 0) pa_nil))))), ?_⟩
    refine while_by (fun σ H' => H' = H ∧ ∃ x y : Int, σ = [some (.int x), some (.int y)] ∧ Int.gcd x y = Int.gcd a b) (fun σ _ => match σ with | [_, some (.int y)] => y.natAbs | _ => 0) ⟨rfl, a, b, rfl, rfl⟩ ?_ ?_
    · rintro σ H' ⟨rfl, x, y, rfl, hg⟩
      refine ⟨_, rfl, rfl, _, rfl, ifN (fun h1 => ?_) (fun h1 => ?_)⟩
      · refine ⟨_, rfl, _, rfl, _, rfl, _, _, rfl, rfl, h1, _, _, rfl, ⟨rfl, y, _, rfl, (gcd_fmod x y).trans hg⟩, fmod_less x h1⟩
      · refine ⟨_, rfl, _, rfl, ?_⟩
        rw [abs_if]
        rw [h1, Int.gcd_zero] at hg
        rw [hg]
        exact k
    · rintro σ H' Q Q' hQ ⟨x, hx, hc⟩
      obtain ⟨h1, k, h2, h3⟩ := hc
      exact ⟨x, hx, h1, k, h2, hQ _ _ h3⟩
theorem ok_Ratio (T : Txt K mg) : CalI P w K mg base (L2N.CX P w) 2 "Ratio" (He.ga K "Ratio") P_Ratio_DinitD [] (spRatio K) ∧ CalI P w K mg base (L2N.CX P w) 2 "Ratio" (He.ga K "Ratio") P_Ratio_DinitD [.int 1] (spRatio K) := by
  have C_greatest_divisor := ok_gcd (P := P) (w := w) (base := base) T
  obtain ⟨fd, F⟩ := T.F_Ratio_DinitD
  have ok : FnOk P w K mg base (L2N.CX P w) 2 (He.fAd K d_Ratio_DinitD.at_) fd P_Ratio_DinitD (spRatio K) := by
    refine F.ok sc_Ratio_DinitD (fun vs H Q E h => ?_) (fun cdv A outer s0 H vs Q E hr h => ?_)
    · obtain ⟨x, dx, t, b, rfl, _⟩ := h
      rfl
    · obtain ⟨x, dx, t, b, rfl, hx, hb, e0, k⟩ := h
      refine ⟨_, (pss_cons (ps_if (pt_cmpR op_eq (pv 2) pe_int (nomark _)) (pss_one (L2N.ps_raise rfl (L2N.takes_of rfl rfl rfl rfl) (L2N.pmk_own PySem.F.excBase_ValueError T.exc_ZeroBottom.1 T.g_ZeroBottom T.exc_ZeroBottom.2.1 (raises_own T.exc_ZeroBottom.2.2.1 T.exc_ZeroBottom.2.2.2) rfl)))
    pss_nil)
    (pss_cons (ps_set (i := 3) sc_Ratio_DinitD.nd rfl (Or.inl rfl) (pc_call C_greatest_divisor (hr.mono (by first | decide | omega)) pass0 (pa_cons (pv 1) (pa_cons (pv 2) pa_nil))))
    (C8.pss_cut (ps_if (pt_cmpR op_lt (pv 2) pe_int (nomark _)) (pss_one (ps_set (i := 3) sc_Ratio_DinitD.nd rfl (Or.inl rfl) (pe_un un_neg (pv 3))))
    pss_nil)
    (pss_cons (ps_fld (pv 0) (pe_op op_fdivNW (pv 1) (pv 3)) rfl)
    (pss_one (ps_fld (pv 0) (pe_op op_fdivNW (pv 2) (pv 3)) rfl)))))), ?_⟩
      refine ⟨_, rfl, rfl, _, rfl, ifI (fun h1 => e0 h1) (fun h1 => ?_)⟩
      refine ⟨_, rfl, _, rfl, t, b, rfl, ?_⟩
      obtain ⟨d0, rt, le1, le2, le3⟩ := rt_make (t := t) (d := if b < 0 then -(Int.gcd t b : Int) else (Int.gcd t b : Int)) h1 rfl
      generalize hd : (if b < 0 then -(Int.gcd t b : Int) else (Int.gcd t b : Int)) = d at d0 rt le1 le2 le3
      refine ⟨fun σ' H' => H' = H ∧ σ' = [some (.ref x), some (.int t), some (.int b), some (.int d)], ⟨_, rfl, _, _, rfl, rfl, _, rfl, ifD (fun h2 => ?_) (fun h2 => ?_)⟩, ?_⟩
      · rw [if_pos h2] at hd
        refine ⟨_, rfl, _, rfl, rfl, ?_⟩
        rw [← hd]
        rfl
      · rw [if_neg h2] at hd
        refine ⟨rfl, ?_⟩
        rw [← hd]
        rfl
      · rintro σ' H' ⟨rfl, rfl⟩
        have cd : CDivNW t d ∧ CDivNW b d := ⟨wide_divN d0 (Nat.lt_of_le_of_lt le3 hb) (by decide) (by decide), wide_divN d0 (Nat.lt_of_le_of_lt le3 hb) (by decide) (by decide)⟩
        refine ⟨_, rfl, _, rfl, _, _, rfl, rfl, cd.1, _, rfl, x, _, dx, [], rfl, hx, T.cls_Ratio, T.na_Ratio_top, by decide, ?_⟩
        refine ⟨_, rfl, _, rfl, _, _, rfl, rfl, cd.2, _, rfl, x, _, dx, _, rfl, upd_same, T.cls_Ratio, T.na_Ratio_bottom, by show 1 < 1000; decide, ?_⟩
        exact k h1 _ _ _ rt le1 le2 upd_same (fun y hy => by rw [upd_ne hy, upd_ne hy])
  obtain ⟨ds0, v0, b0⟩ := F.binds1 (ps := P_Ratio_DinitD) 3 1 (by intro z; cases z) rfl (fun T kV doc pm an cdv ct us its hu hi => match us, its, hu, hi with | [_, _, _], [_], _, _ => ⟨_, rfl, by kernel_rfl⟩)
  obtain ⟨ds1, v1, b1⟩ := F.binds1 (ps := P_Ratio_DinitD) 2 0 (by intro z; cases z) rfl (fun T kV doc pm an cdv ct us its hu hi => match us, its, hu, hi with | [_, _], [_], _, _ => ⟨_, rfl, by kernel_rfl⟩)
  exact ⟨⟨T.g_Ratio, _, fd, _, T.mk_Ratio, ok, b0, v0⟩, ⟨T.g_Ratio, _, fd, _, T.mk_Ratio, ok, b1, v1⟩⟩
/-- Ratio(t, b) in its caller, b not 0 -/
theorem made {H : Hp} {E : XK} {Q : Addr → Hp → Prop} {t b : Int} (h0 : b ≠ 0) (hb : b.natAbs < 2 ^ 8000)
    (k : ∀ x p q H', IsRat K H' x p q → Rt p q t b → p.natAbs ≤ t.natAbs → q.natAbs ≤ b.natAbs → Same H H' → H x = none → Q x H') :
    ∀ x dx, H x = none → H dx = none → dx ≠ x → spRatio K [.ref x, .int t, .int b] (upd (upd H dx (.own x)) x (.ins (He.ga K "Ratio") dx [])) (fun v H2 => v = .non ∧ Q x H2) E := by
  intro x dx nx ndx nex
  refine ⟨x, dx, t, b, rfl, upd_same, hb, fun z => absurd z h0, fun _ p q H' rt l1 l2 hx hs => ⟨rfl, k x p q H' ⟨dx, hx⟩ rt l1 l2 (fun y o e => ?_) nx⟩⟩
  have n1 : y ≠ x := ne_of_none e nx
  rw [hs y n1, upd_ne n1, upd_ne (ne_of_none e ndx)]
  exact e
end
/-- a ratio in lowest terms, of no great size -/
structure NRat (K : PySem.W.Frag) (H : Hp) (x : Addr) (p q : Int) : Prop where
  is : IsRat K H x p q
  pos : 1 ≤ q
  one : Int.gcd p q = 1
  lp : p.natAbs < 2 ^ 1000
  lq : q.natAbs < 2 ^ 1000
theorem NRat.same {K : PySem.W.Frag} {H H' : Hp} {x : Addr} {p q : Int} (h : NRat K H x p q) (e : Same H H') : NRat K H' x p q := ⟨h.is.same e, h.pos, h.one, h.lp, h.lq⟩
theorem NRat.ins {K : PySem.W.Frag} {H : Hp} {x : Addr} {p q : Int} (h : NRat K H x p q) : InsC (He.ga K "Ratio") H (.ref x) := by
  obtain ⟨dx, hx⟩ := h.is
  exact ⟨x, dx, _, rfl, hx⟩
theorem lt8000 {z : Int} (h : z.natAbs < 2 ^ 1000) : z.natAbs < 2 ^ 8000 := Nat.lt_trans h (Nat.pow_lt_pow_right (by decide) (by decide))
/-- Ratio(t, b) in its caller, its lowest terms known -/
theorem madeU {K : PySem.W.Frag} {H : Hp} {E : XK} {Q : Addr → Hp → Prop} {t b p q : Int} (hu : Rt p q t b) (h0 : b ≠ 0) (hb : b.natAbs < 2 ^ 1000) (ht : t.natAbs < 2 ^ 1000)
    (k : ∀ x H', NRat K H' x p q → Same H H' → H x = none → Q x H') :
    ∀ x dx, H x = none → H dx = none → dx ≠ x → spRatio K [.ref x, .int t, .int b] (upd (upd H dx (.own x)) x (.ins (He.ga K "Ratio") dx [])) (fun v H2 => v = .non ∧ Q x H2) E :=
  made h0 (lt8000 hb) fun x p' q' H' hx rt lp lq s nx => by
    obtain ⟨e1, e2⟩ := rt.uniq hu h0
    subst e1 e2
    exact k x H' ⟨hx, rt.pos, rt.one, Nat.lt_of_le_of_lt lp ht, Nat.lt_of_le_of_lt lq hb⟩ s nx
theorem rt_self {p q : Int} (h1 : 1 ≤ q) (h2 : Int.gcd p q = 1) : Rt p q p q := ⟨h1, h2, rfl⟩
theorem rt_neg {p q : Int} (h1 : 1 ≤ q) (h2 : Int.gcd p q = 1) : Rt (-p) q (-p) q := ⟨h1, by rw [Int.neg_gcd]; exact h2, rfl⟩
theorem rt_abs {p q : Int} (h1 : 1 ≤ q) (h2 : Int.gcd p q = 1) : Rt (p.natAbs : Int) q (p.natAbs : Int) q := ⟨h1, by rw [Int.gcd_eq_natAbs_gcd_natAbs, Int.natAbs_natCast]; exact h2, rfl⟩
/-- the fields of the inverse -/
def invT (p q : Int) : Int := if p < 0 then -q else q
theorem rt_inv {p q : Int} (h0 : p ≠ 0) (h2 : Int.gcd p q = 1) : Rt (invT p q) (p.natAbs : Int) q p := by
  unfold invT
  refine ⟨by omega, ?_, ?_⟩
  · rw [Int.gcd_eq_natAbs_gcd_natAbs, Int.natAbs_natCast]
    rw [show (if p < 0 then -q else q).natAbs = q.natAbs by split <;> omega]
    rw [Nat.gcd_comm]
    exact h2
  · split
    · rw [show (p.natAbs : Int) = -p by omega, Int.neg_mul, Int.mul_neg]
    · rw [show (p.natAbs : Int) = p by omega]
def toS (i : Int) : Str := Str.ofString (toString i)
def rtText (p q : Int) : Str := if q = 1 then toS p else (toS p ++ "/") ++ toS q
def spNeg (K : PySem.W.Frag) : Sp := fun vs H Q _ => ∃ (x : Addr) (p q : Int), vs = [.ref x] ∧ NRat K H x p q ∧ ∀ y H', NRat K H' y (-p) q → Same H H' → Q (.ref y) H'
def spAbs (K : PySem.W.Frag) : Sp := fun vs H Q _ => ∃ (x : Addr) (p q : Int), vs = [.ref x] ∧ NRat K H x p q ∧ ∀ y H', NRat K H' y (p.natAbs : Int) q → Same H H' → Q (.ref y) H'
def spBool (K : PySem.W.Frag) : Sp := fun vs H Q _ => ∃ (x : Addr) (p q : Int), vs = [.ref x] ∧ NRat K H x p q ∧ Q (.bl (p != 0)) H
def spStr (K : PySem.W.Frag) : Sp := fun vs H Q _ => ∃ (x : Addr) (p q : Int), vs = [.ref x] ∧ NRat K H x p q ∧ Q (.str (rtText p q)) H
def spInv (K : PySem.W.Frag) : Sp := fun vs H Q E => ∃ (x : Addr) (p q : Int), vs = [.ref x] ∧ NRat K H x p q ∧ (p = 0 → E (.ref (He.ga K "ZeroBottom")) none H) ∧ (p ≠ 0 → ∀ y H', NRat K H' y (invT p q) (p.natAbs : Int) → Same H H' → Q (.ref y) H')
theorem log_of {i : Int} {n : Nat} (h : i.natAbs < 2 ^ n) (h0 : 0 < n) (hn : n ≤ 1920) : i.natAbs.log2 < 1920 := Nat.lt_of_lt_of_le (PySem.Flt.log2_lt_of h0 h) hn
theorem toS_len {i : Int} (h : i.natAbs < 2 ^ 1000) : (toS i).length ≤ 1921 := int_text_len_1921 (log_of h (by decide) (by decide))
section
variable {P : Program} {w : World} {K : PySem.W.Frag} {mg : Str → Option Value} {base : Heap}
theorem ok_neg (T : Txt K mg) : CalM P w K mg base CX0 4 (He.ga K "Ratio") "__neg__" P_Ratio_DnegD [] (spNeg K) := by
  have M_Ratio := (ok_Ratio (P := P) (w := w) (base := base) T).1
  refine CalM.of T.F_Ratio_DnegD T.cls_Ratio T.me_Ratio_DnegD (fun fd F => F.ok sc_Ratio_DnegD (fun vs H Q E h => ?_) (fun cdv A outer s0 H vs Q E hr h => ?_)) (fun _ _ _ _ _ _ us hl => match us, hl with | [_], _ => rfl)
  · obtain ⟨x, p, q, rfl, _⟩ := h
    rfl
  · obtain ⟨x, p, q, rfl, n, k⟩ := h
    obtain ⟨dx, hx⟩ := n.is
    refine ⟨_, PSs.nox (pss_one (ps_ret (pcS_make M_Ratio (hr.mono (by first | decide | omega)) takesNo (pa_cons (pe_un un_neg (pe_fld (pv 0) rfl)) (pa_cons (pe_fld (pv 0) rfl) pa_nil))))), ?_⟩
    exact ⟨_, rfl, x, _, dx, _, _, rfl, hx, T.cls_Ratio, T.na_Ratio_top, rat_top, _, rfl, _, rfl, x, _, dx, _, _, rfl, hx, T.cls_Ratio, T.na_Ratio_bottom, rat_bottom, madeU (rt_neg n.pos n.one) (by have := n.pos; omega) n.lq (by rw [Int.natAbs_neg]; exact n.lp) fun y H' hy s _ => k y H' hy s⟩
end
section
variable {P : Program} {w : World} {K : PySem.W.Frag} {mg : Str → Option Value} {base : Heap}
theorem ok_inv (T : Txt K mg) : CalM P w K mg base (L2N.CX P w) 4 (He.ga K "Ratio") "inverse" P_Ratio_inverse [] (spInv K) := by
  have M_Ratio := (ok_Ratio (P := P) (w := w) (base := base) T).1
  refine CalM.of T.F_Ratio_inverse T.cls_Ratio T.me_Ratio_inverse (fun fd F => F.ok sc_Ratio_inverse (fun vs H Q E h => ?_) (fun cdv A outer s0 H vs Q E hr h => ?_)) (fun _ _ _ _ _ _ us hl => match us, hl with | [_], _ => rfl)
  · obtain ⟨x, p, q, rfl, _⟩ := h
    rfl
  · obtain ⟨x, p, q, rfl, n, e, k⟩ := h
    obtain ⟨dx, hx⟩ := n.is
    refine ⟨_, (pss_cons (ps_if (pt_cmpR op_eq (pe_fld (pv 0) rfl) pe_int (nomark _)) (pss_one (L2N.ps_raise rfl (L2N.takes_of rfl rfl rfl rfl) (L2N.pmk_own PySem.F.excBase_ValueError T.exc_ZeroBottom.1 T.g_ZeroBottom T.exc_ZeroBottom.2.1 (raises_own T.exc_ZeroBottom.2.2.1 T.exc_ZeroBottom.2.2.2) rfl)))
    pss_nil)
    (pss_one (ps_ret (pcS_make M_Ratio (hr.mono (by first | decide | omega)) (L2N.takes_of rfl rfl rfl rfl) (pa_cons (pe_fld (pv 0) rfl) (pa_cons (pe_fld (pv 0) rfl) pa_nil)))))), ?_⟩
    refine ⟨_, rfl, x, _, dx, _, _, rfl, hx, T.cls_Ratio, T.na_Ratio_top, rat_top, rfl, _, rfl, ifI (fun h => e h) (fun h => ?_)⟩
    exact ⟨_, rfl, x, _, dx, _, _, rfl, hx, T.cls_Ratio, T.na_Ratio_bottom, rat_bottom, _, rfl, x, _, dx, _, _, rfl, hx, T.cls_Ratio, T.na_Ratio_top, rat_top, madeU (rt_inv h n.one) h n.lp n.lq fun y H' hy s _ => k h y H' hy s⟩
end
/-- a ratio or an int: p/q -/
def Num (K : PySem.W.Frag) (H : Hp) (v : V) (p q : Int) : Prop := (∃ x, v = .ref x ∧ NRat K H x p q) ∨ (v = .int p ∧ q = 1)
theorem Num.same {K : PySem.W.Frag} {H H' : Hp} {v : V} {p q : Int} (h : Num K H v p q) (e : Same H H') : Num K H' v p q := by
  rcases h with ⟨x, rfl, n⟩ | h
  · exact .inl ⟨x, rfl, n.same e⟩
  · exact .inr h
theorem Num.pos {K : PySem.W.Frag} {H : Hp} {v : V} {p q : Int} (h : Num K H v p q) : 1 ≤ q := by
  rcases h with ⟨x, _, n⟩ | ⟨_, rfl⟩
  · exact n.pos
  · decide
def spIsInt (K : PySem.W.Frag) : Sp := fun vs H Q _ => (∃ i : Int, vs = [.int i] ∧ Q (.bl true) H) ∨ (∃ (x : Addr) (p q : Int), vs = [.ref x] ∧ NRat K H x p q ∧ Q (.bl false) H)
def spQuot (K : PySem.W.Frag) : Sp := fun vs H Q E => ∃ t b : Int, vs = [.int t, .int b] ∧ b.natAbs < 2 ^ 8000 ∧ (b = 0 → E (.ref (He.ga K "ZeroBottom")) none H) ∧ (b ≠ 0 → Q (.int (t.fdiv b)) H)
/-- both small -/
def Sm (n : Nat) (p q p' q' : Int) : Prop := n ≤ 490 ∧ p.natAbs < 2 ^ n ∧ q.natAbs < 2 ^ n ∧ p'.natAbs < 2 ^ n ∧ q'.natAbs < 2 ^ n
theorem Sm.mul {n : Nat} {p q p' q' : Int} (h : Sm n p q p' q') : CMulW p q' ∧ CMulW p' q ∧ CMulW q q' ∧ CMulW q p' ∧ CMulW p p' := by
  obtain ⟨h0, h1, h2, h3, h4⟩ := h
  have e : (2 : Nat) ^ n ≤ 2 ^ 490 := Nat.pow_le_pow_right (by decide) h0
  have l : ∀ {z : Int}, z.natAbs < 2 ^ n → z.natAbs < 2 ^ 490 := fun h => Nat.lt_of_lt_of_le h e
  exact ⟨wide_mul (l h1) (l h4) (by decide) (by decide) (by decide), wide_mul (l h3) (l h2) (by decide) (by decide) (by decide), wide_mul (l h2) (l h4) (by decide) (by decide) (by decide), wide_mul (l h2) (l h3) (by decide) (by decide) (by decide), wide_mul (l h1) (l h3) (by decide) (by decide) (by decide)⟩
theorem Sm.big {n : Nat} {p q p' q' z : Int} (h : Sm n p q p' q') (hz : z.natAbs < 2 ^ (2 * n + 1)) : z.natAbs < 2 ^ 1000 := Nat.lt_of_lt_of_le hz (Nat.pow_le_pow_right (by decide) (by have := h.1; omega))
theorem two_n (n : Nat) : (2 : Nat) ^ (2 * n + 1) = 2 ^ n * 2 ^ n * 2 := by rw [Nat.pow_succ, Nat.two_mul, Nat.pow_add]
theorem mul_lt_n {n : Nat} {a b : Int} (ha : a.natAbs < 2 ^ n) (hb : b.natAbs < 2 ^ n) : (a * b).natAbs < 2 ^ n * 2 ^ n := by
  rw [Int.natAbs_mul]
  exact Nat.mul_lt_mul'' ha hb
theorem Sm.prod {n : Nat} {p q p' q' : Int} (h : Sm n p q p' q') : (p * p').natAbs < 2 ^ (2 * n + 1) ∧ (q * q').natAbs < 2 ^ (2 * n + 1) ∧ (p * q' + p' * q).natAbs < 2 ^ (2 * n + 1) ∧ (p * q' - p' * q).natAbs < 2 ^ (2 * n + 1) ∧ (p * q').natAbs < 2 ^ (2 * n + 1) ∧ (q * p').natAbs < 2 ^ (2 * n + 1) := by
  obtain ⟨h0, h1, h2, h3, h4⟩ := h
  have e1 := mul_lt_n h1 h3
  have e2 := mul_lt_n h2 h4
  have e3 := mul_lt_n h1 h4
  have e4 := mul_lt_n h3 h2
  have e5 := mul_lt_n h2 h3
  rw [two_n]
  generalize 2 ^ n * 2 ^ n = m at *
  refine ⟨by omega, by omega, by omega, by omega, by omega, by omega⟩
def spOp (K : PySem.W.Frag) (f : Int → Int → Int → Int → Int) (g : Int → Int → Int) : Sp := fun vs H Q _ => ∃ (x : Addr) (y : V) (p q p' q' : Int) (n : Nat), vs = [.ref x, y] ∧ NRat K H x p q ∧ Num K H y p' q' ∧ Sm n p q p' q' ∧
  ∀ z H' r s, NRat K H' z r s → Rt r s (f p q p' q') (g q q') → r.natAbs < 2 ^ (2 * n + 1) → s.natAbs < 2 ^ (2 * n + 1) → Same H H' → Q (.ref z) H'
def fAdd (p q p' q' : Int) : Int := p * q' + p' * q
def fSub (p q p' q' : Int) : Int := p * q' - p' * q
def fRsub (p q p' q' : Int) : Int := p' * q - p * q'
def fMul (p q p' q' : Int) : Int := p * p'
def gMul (q q' : Int) : Int := q * q'
def spBelow (K : PySem.W.Frag) : Sp := fun vs H Q _ => ∃ (x : Addr) (y : V) (p q p' q' : Int) (n : Nat), vs = [.ref x, y] ∧ NRat K H x p q ∧ Num K H y p' q' ∧ Sm n p q p' q' ∧ Q (.bl (decide (p * q' < p' * q))) H
def spEqR (K : PySem.W.Frag) : Sp := fun vs H Q _ => (∃ (x y : Addr) (p q p' q' : Int), vs = [.ref x, .ref y] ∧ NRat K H x p q ∧ NRat K H y p' q' ∧ Q (.bl (decide (p = p' ∧ q = q'))) H) ∨ (∃ (x : Addr) (p q i : Int), vs = [.ref x, .int i] ∧ NRat K H x p q ∧ Q (.bl false) H)
def spDivR (K : PySem.W.Frag) : Sp := fun vs H Q E => ∃ (x : Addr) (y : V) (p q p' q' : Int) (n : Nat), vs = [.ref x, y] ∧ NRat K H x p q ∧ Num K H y p' q' ∧ Sm n p q p' q' ∧ (p' = 0 → E (.ref (He.ga K "ZeroBottom")) none H) ∧ (p' ≠ 0 → Q (.int ((p * q').fdiv (q * p'))) H)
def spRdiv (K : PySem.W.Frag) : Sp := fun vs H Q E => ∃ (x : Addr) (p q i : Int) (n : Nat), vs = [.ref x, .int i] ∧ NRat K H x p q ∧ Sm n p q i 1 ∧ (p = 0 → E (.ref (He.ga K "ZeroBottom")) none H) ∧ (p ≠ 0 → Q (.int ((i * q).fdiv p)) H)
section
variable {P : Program} {w : World} {K : PySem.W.Frag} {mg : Str → Option Value} {base : Heap}
theorem ok_isint (T : Txt K mg) : Cal P w K mg base CX0 1 "is_integer" P_is_integer [] (spIsInt K) := by
  refine Cal.of T.F_is_integer T.g_is_integer (fun fd F => F.ok sc_is_integer (fun vs H Q E h => ?_) (fun cdv A outer s0 H vs Q E hr h => ?_)) (fun _ _ _ _ _ _ us hl => match us, hl with | [_], _ => rfl)
  · rcases h with ⟨i, rfl, _⟩ | ⟨x, p, q, rfl, _⟩ <;> rfl
  · refine ⟨_, PSs.nox (pss_one (ps_ret (pe_and (pe_callB call_isi (by rfl) T.f_isinstance (by decide +kernel) (pa_cons (pv 0) (pa_cons (pe_bltn (v := .ty "int") (u := .type "int") (by rfl) T.f_int (by decide +kernel) rfl) pa_nil))) (pe_one (pe_not (pe_callB call_isi (by rfl) T.f_isinstance (by decide +kernel) (pa_cons (pv 0) (pa_cons (pe_bltn (v := .ty "bool") (u := .type "bool") (by rfl) T.f_bool (by decide +kernel) rfl) pa_nil)))))))), ?_⟩
    rcases h with ⟨i, rfl, k⟩ | ⟨x, p, q, rfl, n, k⟩
    · exact ⟨_, rfl, _, _, _, _, _, rfl, .ty _, .base (.int i), kit_ty kt_int_int, _, rfl, iteT ⟨_, rfl, _, _, _, _, _, rfl, .ty _, .base (.int i), kit_ty kt_int_bool, _, rfl, k⟩⟩
    · obtain ⟨dx, hx⟩ := n.is
      exact ⟨_, rfl, _, _, _, _, _, rfl, .ty _, tyx_ins hx T.cls_Ratio T.own_Ratio.1, T.own_Ratio.1.nt "int" (by decide), _, rfl, iteF k⟩
end
section
variable {P : Program} {w : World} {K : PySem.W.Frag} {mg : Str → Option Value} {base : Heap}
theorem ok_eq (T : Txt K mg) : CalM P w K mg base CX0 1 (He.ga K "Ratio") "__eq__" P_Ratio_DeqD [] (spEqR K) := by
  refine CalM.of T.F_Ratio_DeqD T.cls_Ratio T.me_Ratio_DeqD (fun fd F => F.ok sc_Ratio_DeqD (fun vs H Q E h => ?_) (fun cdv A outer s0 H vs Q E hr h => ?_)) (fun _ _ _ _ _ _ us hl => match us, hl with | [_, _], _ => rfl)
  · rcases h with ⟨x, y, p, q, p', q', rfl, _⟩ | ⟨x, p, q, i, rfl, _⟩ <;> rfl
  · refine ⟨_, PSs.nox (pss_one (ps_ret (pe_and (pe_callB call_isi (by rfl) T.f_isinstance (by decide +kernel) (pa_cons (pv 1) (pa_cons (pe_glob (v := .ref (He.ga K "Ratio")) rfl T.g_Ratio rfl) pa_nil))) (pe_and (pe_cmpR op_eq (pe_fld (pv 0) rfl) (pe_fld (pv 1) rfl) (nomark _)) (pe_one (pe_cmpR op_eq (pe_fld (pv 0) rfl) (pe_fld (pv 1) rfl) (nomark _))))))), ?_⟩
    rcases h with ⟨x, y, p, q, p', q', rfl, n, n', k⟩ | ⟨x, p, q, i, rfl, n, k⟩
    · obtain ⟨dx, hx⟩ := n.is
      obtain ⟨dy, hy⟩ := n'.is
      refine ⟨_, rfl, _, _, _, _, _, rfl, .own _, tyx_ins hy T.cls_Ratio T.own_Ratio.1, T.own_Ratio.1.is, _, rfl, iteT ⟨_, rfl, x, _, dx, _, _, rfl, hx, T.cls_Ratio, T.na_Ratio_top, rat_top, _, rfl, y, _, dy, _, _, rfl, hy, T.cls_Ratio, T.na_Ratio_top, rat_top, rfl, _, rfl, ifI (fun h => ?_) (fun h => ?_)⟩⟩
      · refine ⟨_, rfl, x, _, dx, _, _, rfl, hx, T.cls_Ratio, T.na_Ratio_bottom, rat_bottom, _, rfl, y, _, dy, _, _, rfl, hy, T.cls_Ratio, T.na_Ratio_bottom, rat_bottom, rfl, ?_⟩
        have e : decide (V.int q = V.int q') = decide (p = p' ∧ q = q') := by
          rw [decide_eq_decide]
          exact ⟨fun z => ⟨h, V.int.inj z⟩, fun z => congrArg V.int z.2⟩
        rw [e]
        exact k
      · have e : decide (p = p' ∧ q = q') = false := decide_eq_false fun z => h z.1
        rw [e] at k
        exact k
    · exact ⟨_, rfl, _, _, _, _, _, rfl, .own _, .base (.int i), T.own_Ratio.1.nn "int" (by decide), _, rfl, iteF k⟩
end
section
variable {P : Program} {w : World} {K : PySem.W.Frag} {mg : Str → Option Value} {base : Heap}
theorem lt1000 {z : Int} {n : Nat} (hz : z.natAbs < 2 ^ n) (h : n ≤ 1000) : z.natAbs < 2 ^ 1000 := Nat.lt_of_lt_of_le hz (Nat.pow_le_pow_right (by decide) h)
/-- a ratio that an operator makes -/
theorem madeOp {H : Hp} {E : XK} {Q : Addr → Hp → Prop} {t b : Int} {n : Nat} (hn : n ≤ 490) (h0 : b ≠ 0) (hb : b.natAbs < 2 ^ (2 * n + 1)) (ht : t.natAbs < 2 ^ (2 * n + 1))
    (k : ∀ z H' r s, NRat K H' z r s → Rt r s t b → r.natAbs < 2 ^ (2 * n + 1) → s.natAbs < 2 ^ (2 * n + 1) → Same H H' → Q z H') :
    ∀ x dx, H x = none → H dx = none → dx ≠ x → spRatio K [.ref x, .int t, .int b] (upd (upd H dx (.own x)) x (.ins (He.ga K "Ratio") dx [])) (fun v H2 => v = .non ∧ Q x H2) E :=
  made h0 (lt8000 (lt1000 hb (by omega))) fun x p' q' H' hx rt lp lq s _ =>
    k x H' p' q' ⟨hx, rt.pos, rt.one, Nat.lt_of_le_of_lt lp (lt1000 ht (by omega)), Nat.lt_of_le_of_lt lq (lt1000 hb (by omega))⟩ rt (Nat.lt_of_le_of_lt lp ht) (Nat.lt_of_le_of_lt lq hb) s
theorem ok_add (T : Txt K mg) : CalM P w K mg base CX0 4 (He.ga K "Ratio") "__add__" P_Ratio_DaddD [] (spOp K fAdd gMul) := by
  have C_is_integer := ok_isint (P := P) (w := w) (base := base) T
  have M_Ratio := (ok_Ratio (P := P) (w := w) (base := base) T).1
  refine CalM.of T.F_Ratio_DaddD T.cls_Ratio T.me_Ratio_DaddD (fun fd F => F.ok sc_Ratio_DaddD (fun vs H Q E h => ?_) (fun cdv A outer s0 H vs Q E hr h => ?_)) (fun _ _ _ _ _ _ us hl => match us, hl with | [_, _], _ => rfl)
  · obtain ⟨x, y, p, q, p', q', n, rfl, _⟩ := h
    rfl
  · obtain ⟨x, y, p, q, p', q', n, rfl, hn, hy, hs, k⟩ := h
    obtain ⟨dx, hx⟩ := hn.is
    obtain ⟨m1, m2, m3, m4, m5⟩ := hs.mul
    obtain ⟨b1, b2, b3, b4, b5, b6⟩ := hs.prod
    have q0 : q * q' ≠ 0 := fun z => by
      rcases Int.mul_eq_zero.mp z with z | z
      · have := hn.pos; omega
      · have := hy.pos; omega
    refine ⟨_, PSs.nox (pss_cons (ps_if (pt_val (pc_call C_is_integer (hr.mono (by first | decide | omega)) pass0 (pa_cons (pv 1) pa_nil))) (pss_one (ps_ret (pcS_make M_Ratio (hr.mono (by first | decide | omega)) takesNo (pa_cons (pe_op op_add (pe_fld (pv 0) rfl) (pe_op op_mulW (pv 1) (pe_fld (pv 0) rfl))) (pa_cons (pe_fld (pv 0) rfl) pa_nil)))))
    pss_nil)
    (pss_cons (ps_if (pt_not (pt_val (pe_callB call_isi (by rfl) T.f_isinstance (by decide +kernel) (pa_cons (pv 1) (pa_cons (pe_glob (v := .ref (He.ga K "Ratio")) rfl T.g_Ratio rfl) pa_nil))))) (pss_one (ps_ret pe_no))
    pss_nil)
    (pss_one (ps_ret (pcS_make M_Ratio (hr.mono (by first | decide | omega)) takesNo (pa_cons (pe_op op_add (pe_op op_mulW (pe_fld (pv 0) rfl) (pe_fld (pv 1) rfl)) (pe_op op_mulW (pe_fld (pv 1) rfl) (pe_fld (pv 0) rfl))) (pa_cons (pe_op op_mulW (pe_fld (pv 0) rfl) (pe_fld (pv 1) rfl)) pa_nil))))))), ?_⟩
    unfold fAdd gMul at k
    rcases hy with ⟨y, rfl, n'⟩ | ⟨rfl, rfl⟩
    · obtain ⟨dy, hy⟩ := n'.is
      refine ⟨_, rfl, .inr ⟨y, p', q', rfl, n', _, rfl, iteF ?_⟩⟩
      refine ⟨_, rfl, _, _, _, _, _, rfl, .own _, tyx_ins hy T.cls_Ratio T.own_Ratio.1, T.own_Ratio.1.is, _, rfl, iteF ?_⟩
      exact ⟨_, rfl, x, _, dx, _, _, rfl, hx, T.cls_Ratio, T.na_Ratio_top, rat_top, _, rfl, y, _, dy, _, _, rfl, hy, T.cls_Ratio, T.na_Ratio_bottom, rat_bottom, _, _, rfl, rfl, m1, _, rfl, y, _, dy, _, _, rfl, hy, T.cls_Ratio, T.na_Ratio_top, rat_top, _, rfl, x, _, dx, _, _, rfl, hx, T.cls_Ratio, T.na_Ratio_bottom, rat_bottom, _, _, rfl, rfl, m2, _, _, rfl, rfl, _, rfl, x, _, dx, _, _, rfl, hx, T.cls_Ratio, T.na_Ratio_bottom, rat_bottom, _, rfl, y, _, dy, _, _, rfl, hy, T.cls_Ratio, T.na_Ratio_bottom, rat_bottom, _, _, rfl, rfl, m3, madeOp hs.1 q0 b2 b3 k⟩
    · rw [Int.mul_one] at b2 b3 q0 k
      rw [Int.mul_one] at k
      refine ⟨_, rfl, .inl ⟨p', rfl, _, rfl, iteT ?_⟩⟩
      exact ⟨_, rfl, x, _, dx, _, _, rfl, hx, T.cls_Ratio, T.na_Ratio_top, rat_top, _, rfl, _, rfl, x, _, dx, _, _, rfl, hx, T.cls_Ratio, T.na_Ratio_bottom, rat_bottom, _, _, rfl, rfl, m2, _, _, rfl, rfl, _, rfl, x, _, dx, _, _, rfl, hx, T.cls_Ratio, T.na_Ratio_bottom, rat_bottom, madeOp hs.1 q0 b2 b3 k⟩
theorem ok_sub (T : Txt K mg) : CalM P w K mg base CX0 4 (He.ga K "Ratio") "__sub__" P_Ratio_DsubD [] (spOp K fSub gMul) := by
  have C_is_integer := ok_isint (P := P) (w := w) (base := base) T
  have M_Ratio := (ok_Ratio (P := P) (w := w) (base := base) T).1
  refine CalM.of T.F_Ratio_DsubD T.cls_Ratio T.me_Ratio_DsubD (fun fd F => F.ok sc_Ratio_DsubD (fun vs H Q E h => ?_) (fun cdv A outer s0 H vs Q E hr h => ?_)) (fun _ _ _ _ _ _ us hl => match us, hl with | [_, _], _ => rfl)
  · obtain ⟨x, y, p, q, p', q', n, rfl, _⟩ := h
    rfl
  · obtain ⟨x, y, p, q, p', q', n, rfl, hn, hy, hs, k⟩ := h
    obtain ⟨dx, hx⟩ := hn.is
    obtain ⟨m1, m2, m3, m4, m5⟩ := hs.mul
    obtain ⟨b1, b2, b3, b4, b5, b6⟩ := hs.prod
    have q0 : q * q' ≠ 0 := fun z => by
      rcases Int.mul_eq_zero.mp z with z | z
      · have := hn.pos; omega
      · have := hy.pos; omega
    refine ⟨_, PSs.nox (pss_cons (ps_if (pt_val (pc_call C_is_integer (hr.mono (by first | decide | omega)) pass0 (pa_cons (pv 1) pa_nil))) (pss_one (ps_ret (pcS_make M_Ratio (hr.mono (by first | decide | omega)) takesNo (pa_cons (pe_op op_sub (pe_fld (pv 0) rfl) (pe_op op_mulW (pv 1) (pe_fld (pv 0) rfl))) (pa_cons (pe_fld (pv 0) rfl) pa_nil)))))
    pss_nil)
    (pss_cons (ps_if (pt_not (pt_val (pe_callB call_isi (by rfl) T.f_isinstance (by decide +kernel) (pa_cons (pv 1) (pa_cons (pe_glob (v := .ref (He.ga K "Ratio")) rfl T.g_Ratio rfl) pa_nil))))) (pss_one (ps_ret pe_no))
    pss_nil)
    (pss_one (ps_ret (pcS_make M_Ratio (hr.mono (by first | decide | omega)) takesNo (pa_cons (pe_op op_sub (pe_op op_mulW (pe_fld (pv 0) rfl) (pe_fld (pv 1) rfl)) (pe_op op_mulW (pe_fld (pv 1) rfl) (pe_fld (pv 0) rfl))) (pa_cons (pe_op op_mulW (pe_fld (pv 0) rfl) (pe_fld (pv 1) rfl)) pa_nil))))))), ?_⟩
    unfold fSub gMul at k
    rcases hy with ⟨y, rfl, n'⟩ | ⟨rfl, rfl⟩
    · obtain ⟨dy, hy⟩ := n'.is
      refine ⟨_, rfl, .inr ⟨y, p', q', rfl, n', _, rfl, iteF ?_⟩⟩
      refine ⟨_, rfl, _, _, _, _, _, rfl, .own _, tyx_ins hy T.cls_Ratio T.own_Ratio.1, T.own_Ratio.1.is, _, rfl, iteF ?_⟩
      exact ⟨_, rfl, x, _, dx, _, _, rfl, hx, T.cls_Ratio, T.na_Ratio_top, rat_top, _, rfl, y, _, dy, _, _, rfl, hy, T.cls_Ratio, T.na_Ratio_bottom, rat_bottom, _, _, rfl, rfl, m1, _, rfl, y, _, dy, _, _, rfl, hy, T.cls_Ratio, T.na_Ratio_top, rat_top, _, rfl, x, _, dx, _, _, rfl, hx, T.cls_Ratio, T.na_Ratio_bottom, rat_bottom, _, _, rfl, rfl, m2, _, _, rfl, rfl, _, rfl, x, _, dx, _, _, rfl, hx, T.cls_Ratio, T.na_Ratio_bottom, rat_bottom, _, rfl, y, _, dy, _, _, rfl, hy, T.cls_Ratio, T.na_Ratio_bottom, rat_bottom, _, _, rfl, rfl, m3, madeOp hs.1 q0 b2 b4 k⟩
    · rw [Int.mul_one] at b2 b4 q0 k
      rw [Int.mul_one] at k
      refine ⟨_, rfl, .inl ⟨p', rfl, _, rfl, iteT ?_⟩⟩
      exact ⟨_, rfl, x, _, dx, _, _, rfl, hx, T.cls_Ratio, T.na_Ratio_top, rat_top, _, rfl, _, rfl, x, _, dx, _, _, rfl, hx, T.cls_Ratio, T.na_Ratio_bottom, rat_bottom, _, _, rfl, rfl, m2, _, _, rfl, rfl, _, rfl, x, _, dx, _, _, rfl, hx, T.cls_Ratio, T.na_Ratio_bottom, rat_bottom, madeOp hs.1 q0 b2 b4 k⟩
theorem ok_mul (T : Txt K mg) : CalM P w K mg base CX0 4 (He.ga K "Ratio") "__mul__" P_Ratio_DmulD [] (spOp K fMul gMul) := by
  have C_is_integer := ok_isint (P := P) (w := w) (base := base) T
  have M_Ratio := (ok_Ratio (P := P) (w := w) (base := base) T).1
  refine CalM.of T.F_Ratio_DmulD T.cls_Ratio T.me_Ratio_DmulD (fun fd F => F.ok sc_Ratio_DmulD (fun vs H Q E h => ?_) (fun cdv A outer s0 H vs Q E hr h => ?_)) (fun _ _ _ _ _ _ us hl => match us, hl with | [_, _], _ => rfl)
  · obtain ⟨x, y, p, q, p', q', n, rfl, _⟩ := h
    rfl
  · obtain ⟨x, y, p, q, p', q', n, rfl, hn, hy, hs, k⟩ := h
    obtain ⟨dx, hx⟩ := hn.is
    obtain ⟨m1, m2, m3, m4, m5⟩ := hs.mul
    obtain ⟨b1, b2, b3, b4, b5, b6⟩ := hs.prod
    have q0 : q * q' ≠ 0 := fun z => by
      rcases Int.mul_eq_zero.mp z with z | z
      · have := hn.pos; omega
      · have := hy.pos; omega
    refine ⟨_, PSs.nox (pss_cons (ps_if (pt_val (pc_call C_is_integer (hr.mono (by first | decide | omega)) pass0 (pa_cons (pv 1) pa_nil))) (pss_one (ps_ret (pcS_make M_Ratio (hr.mono (by first | decide | omega)) takesNo (pa_cons (pe_op op_mulW (pe_fld (pv 0) rfl) (pv 1)) (pa_cons (pe_fld (pv 0) rfl) pa_nil)))))
    pss_nil)
    (pss_cons (ps_if (pt_not (pt_val (pe_callB call_isi (by rfl) T.f_isinstance (by decide +kernel) (pa_cons (pv 1) (pa_cons (pe_glob (v := .ref (He.ga K "Ratio")) rfl T.g_Ratio rfl) pa_nil))))) (pss_one (ps_ret pe_no))
    pss_nil)
    (pss_one (ps_ret (pcS_make M_Ratio (hr.mono (by first | decide | omega)) takesNo (pa_cons (pe_op op_mulW (pe_fld (pv 0) rfl) (pe_fld (pv 1) rfl)) (pa_cons (pe_op op_mulW (pe_fld (pv 0) rfl) (pe_fld (pv 1) rfl)) pa_nil))))))), ?_⟩
    unfold fMul gMul at k
    rcases hy with ⟨y, rfl, n'⟩ | ⟨rfl, rfl⟩
    · obtain ⟨dy, hy⟩ := n'.is
      refine ⟨_, rfl, .inr ⟨y, p', q', rfl, n', _, rfl, iteF ?_⟩⟩
      refine ⟨_, rfl, _, _, _, _, _, rfl, .own _, tyx_ins hy T.cls_Ratio T.own_Ratio.1, T.own_Ratio.1.is, _, rfl, iteF ?_⟩
      exact ⟨_, rfl, x, _, dx, _, _, rfl, hx, T.cls_Ratio, T.na_Ratio_top, rat_top, _, rfl, y, _, dy, _, _, rfl, hy, T.cls_Ratio, T.na_Ratio_top, rat_top, _, _, rfl, rfl, m5, _, rfl, x, _, dx, _, _, rfl, hx, T.cls_Ratio, T.na_Ratio_bottom, rat_bottom, _, rfl, y, _, dy, _, _, rfl, hy, T.cls_Ratio, T.na_Ratio_bottom, rat_bottom, _, _, rfl, rfl, m3, madeOp hs.1 q0 b2 b1 k⟩
    · rw [Int.mul_one] at b2 q0 k
      refine ⟨_, rfl, .inl ⟨p', rfl, _, rfl, iteT ?_⟩⟩
      exact ⟨_, rfl, x, _, dx, _, _, rfl, hx, T.cls_Ratio, T.na_Ratio_top, rat_top, _, rfl, _, _, rfl, rfl, m5, _, rfl, x, _, dx, _, _, rfl, hx, T.cls_Ratio, T.na_Ratio_bottom, rat_bottom, madeOp hs.1 q0 b2 b1 k⟩
/-- an int in front of a ratio -/
def spOpI (K : PySem.W.Frag) (f : Int → Int → Int → Int → Int) : Sp := fun vs H Q _ => ∃ (x : Addr) (p q i : Int) (n : Nat), vs = [.ref x, .int i] ∧ NRat K H x p q ∧ Sm n p q i 1 ∧
  ∀ z H' r s, NRat K H' z r s → Rt r s (f p q i 1) (gMul q 1) → r.natAbs < 2 ^ (2 * n + 1) → s.natAbs < 2 ^ (2 * n + 1) → Same H H' → Q (.ref z) H'
theorem ok_radd (T : Txt K mg) : CalM P w K mg base CX0 5 (He.ga K "Ratio") "__radd__" P_Ratio_DraddD [] (spOpI K fAdd) := by
  have C_Ratio_DaddD := ok_add (P := P) (w := w) (base := base) T
  refine CalM.of T.F_Ratio_DraddD T.cls_Ratio T.me_Ratio_DraddD (fun fd F => F.ok sc_Ratio_DraddD (fun vs H Q E h => ?_) (fun cdv A outer s0 H vs Q E hr h => ?_)) (fun _ _ _ _ _ _ us hl => match us, hl with | [_, _], _ => rfl)
  · obtain ⟨x, p, q, i, n, rfl, _⟩ := h
    rfl
  · obtain ⟨x, p, q, i, n, rfl, hn, hs, k⟩ := h
    refine ⟨_, PSs.nox (pss_one (ps_ret (pe_op (op_ownI C_Ratio_DaddD (by kernel_rfl) T.own_Ratio.1.sf T.me_Ratio_DraddD.at_ (.inr ⟨_, rfl⟩) (intAdd.l1 _) (intAdd.l2 _) T.own_Ratio.1.si (hr.mono (by first | decide | omega)) never0) (pv 0) (pv 1)))), ?_⟩
    exact ⟨_, rfl, _, rfl, i, rfl, hn.ins, x, _, p, q, i, 1, n, rfl, hn, .inr ⟨rfl, rfl⟩, hs, k⟩
theorem ok_rmul (T : Txt K mg) : CalM P w K mg base CX0 5 (He.ga K "Ratio") "__rmul__" P_Ratio_DrmulD [] (spOpI K fMul) := by
  have C_Ratio_DmulD := ok_mul (P := P) (w := w) (base := base) T
  refine CalM.of T.F_Ratio_DrmulD T.cls_Ratio T.me_Ratio_DrmulD (fun fd F => F.ok sc_Ratio_DrmulD (fun vs H Q E h => ?_) (fun cdv A outer s0 H vs Q E hr h => ?_)) (fun _ _ _ _ _ _ us hl => match us, hl with | [_, _], _ => rfl)
  · obtain ⟨x, p, q, i, n, rfl, _⟩ := h
    rfl
  · obtain ⟨x, p, q, i, n, rfl, hn, hs, k⟩ := h
    refine ⟨_, PSs.nox (pss_one (ps_ret (pe_op (op_ownI C_Ratio_DmulD (by kernel_rfl) T.own_Ratio.1.sf T.me_Ratio_DrmulD.at_ (.inr ⟨_, rfl⟩) (intMul.l1 _) (intMul.l2 _) T.own_Ratio.1.si (hr.mono (by first | decide | omega)) never0) (pv 0) (pv 1)))), ?_⟩
    exact ⟨_, rfl, _, rfl, i, rfl, hn.ins, x, _, p, q, i, 1, n, rfl, hn, .inr ⟨rfl, rfl⟩, hs, k⟩
theorem ok_rsub (T : Txt K mg) : CalM P w K mg base CX0 5 (He.ga K "Ratio") "__rsub__" P_Ratio_DrsubD [] (spOpI K fRsub) := by
  have C_Ratio_DaddD := ok_add (P := P) (w := w) (base := base) T
  have C_Ratio_DnegD := ok_neg (P := P) (w := w) (base := base) T
  refine CalM.of T.F_Ratio_DrsubD T.cls_Ratio T.me_Ratio_DrsubD (fun fd F => F.ok sc_Ratio_DrsubD (fun vs H Q E h => ?_) (fun cdv A outer s0 H vs Q E hr h => ?_)) (fun _ _ _ _ _ _ us hl => match us, hl with | [_, _], _ => rfl)
  · obtain ⟨x, p, q, i, n, rfl, _⟩ := h
    rfl
  · obtain ⟨x, p, q, i, n, rfl, hn, hs, k⟩ := h
    refine ⟨_, PSs.nox (pss_one (ps_ret (pe_op (op_ownI C_Ratio_DaddD (by kernel_rfl) T.own_Ratio.1.sf T.me_Ratio_DraddD.at_ (.inr ⟨_, rfl⟩) (intAdd.l1 _) (intAdd.l2 _) T.own_Ratio.1.si (hr.mono (by first | decide | omega)) never0) (pe_un (un_negO C_Ratio_DnegD (hr.mono (by first | decide | omega)) never0) (pv 0)) (pv 1)))), ?_⟩
    refine ⟨_, rfl, hn.ins, x, p, q, rfl, hn, fun y H1 hy s1 => ⟨_, rfl, i, rfl, hy.ins, y, _, -p, q, i, 1, n, rfl, hy, .inr ⟨rfl, rfl⟩, ⟨hs.1, by rw [Int.natAbs_neg]; exact hs.2.1, hs.2.2⟩, fun z H2 r s nz rt b1 b2 s2 => k z H2 r s nz ?_ b1 b2 fun b o e => s2 _ _ (s1 _ _ e)⟩⟩
    have e : fAdd (-p) q i 1 = fRsub p q i 1 := by
      unfold fAdd fRsub
      rw [Int.mul_one, Int.mul_one]
      omega
    rw [← e]
    exact rt
end
def spTruth : Sp := fun vs H Q _ => ∃ b : Bool, vs = [.bl b, .bl b] ∧ Q (.bl true) H
def spTerms (K : PySem.W.Frag) : Sp := fun vs H Q _ => ∃ (x : Addr) (t b p q : Int), vs = [.ref x, .int t, .int b] ∧ NRat K H x p q ∧ Rt p q t b ∧ t.natAbs < 2 ^ 1000 ∧ b.natAbs < 2 ^ 270 ∧ b ≠ 0 ∧ Q (.bl true) H
theorem rt_le {p q t b : Int} (h : Rt p q t b) (hb : b ≠ 0) : q.natAbs ≤ b.natAbs := by
  have d : q ∣ p * b := ⟨t, by rw [h.eq, Int.mul_comm]⟩
  exact Nat.le_of_dvd (by omega) (Int.natAbs_dvd_natAbs.mpr (dvd_cop (by rw [Int.gcd_comm]; exact h.one) d))
theorem any_op {K : PySem.W.Frag} {H : Hp} {E : XK} {Q : VK} {fS fI : Int → Int → Int → Int → Int} (hc : ∀ p q i, fI p q i 1 = fS i 1 p q) {x y : V} {p q p' q' : Int} {n : Nat} (hx : Num K H x p q) (hy : Num K H y p' q') (nn : ∀ i j : Int, ¬ (x = .int i ∧ y = .int j)) (hs : Sm n p q p' q')
    (k : ∀ z H' r s, NRat K H' z r s → Rt r s (fS p q p' q') (q * q') → r.natAbs < 2 ^ (2 * n + 1) → s.natAbs < 2 ^ (2 * n + 1) → Same H H' → Q (.ref z) H') : rAnyO (He.ga K "Ratio") (spOp K fS gMul) (spOpI K fI) E x y H Q := by
  rcases hx with ⟨x, rfl, nx⟩ | ⟨rfl, rfl⟩
  · rcases hy with ⟨y, rfl, ny⟩ | ⟨rfl, rfl⟩
    · exact .inl ⟨nx.ins, ny.ins, x, _, p, q, p', q', n, rfl, nx, .inl ⟨y, rfl, ny⟩, hs, k⟩
    · exact .inr (.inl ⟨p', nx.ins, rfl, x, _, p, q, p', 1, n, rfl, nx, .inr ⟨rfl, rfl⟩, hs, k⟩)
  · rcases hy with ⟨y, rfl, ny⟩ | ⟨rfl, rfl⟩
    · refine .inr (.inr ⟨p, rfl, ny.ins, y, p', q', p, n, rfl, ny, ⟨hs.1, hs.2.2.2.1, hs.2.2.2.2, hs.2.1, hs.2.2.1⟩, fun z H' r s nz rt b1 b2 s1 => k z H' r s nz ?_ b1 b2 s1⟩)
      rw [hc, show gMul q' 1 = 1 * q' by unfold gMul; omega] at rt
      exact rt
    · exact absurd ⟨rfl, rfl⟩ (nn p p')
theorem c_add (p q i : Int) : fAdd p q i 1 = fAdd i 1 p q := by unfold fAdd; omega
theorem c_sub (p q i : Int) : fRsub p q i 1 = fSub i 1 p q := by unfold fRsub fSub; omega
theorem c_mul (p q i : Int) : fMul p q i 1 = fMul i 1 p q := Int.mul_comm _ _
/-- sums, differences, products by other terms -/
theorem rt_lin {p q t b p' q' t' b' r s : Int} (e : Int → Int → Int) (he : ∀ a c d : Int, e (a * d) (c * d) = e a c * d) (h : Rt p q t b) (h' : Rt p' q' t' b') (hr : Rt r s (e (p * q') (p' * q)) (q * q')) : Rt r s (e (t * b') (t' * b)) (b * b') := by
  refine ⟨hr.pos, hr.one, ?_⟩
  have q0 : q * q' ≠ 0 := fun z => by
    rcases Int.mul_eq_zero.mp z with z | z
    · have := h.pos; omega
    · have := h'.pos; omega
  have x := hr.eq
  refine Int.eq_of_mul_eq_mul_right q0 ?_
  rw [show r * (b * b') * (q * q') = (r * (q * q')) * (b * b') by ac_rfl, x, Int.mul_right_comm, ← he]
  rw [show p * q' * (b * b') = (p * b) * (q' * b') by ac_rfl, h.eq, show p' * q * (b * b') = (p' * b') * (q * b) by ac_rfl, h'.eq]
  rw [show t * q * (q' * b') = (t * b') * (q * q') by ac_rfl, show t' * q' * (q * b) = (t' * b) * (q * q') by ac_rfl, he]
  ac_rfl
theorem rt_add {p q t b p' q' t' b' r s : Int} (h : Rt p q t b) (h' : Rt p' q' t' b') (hr : Rt r s (fAdd p q p' q') (q * q')) : Rt r s (t * b' + t' * b) (b * b') := rt_lin (fun a c => a + c) (fun a c d => (Int.add_mul a c d).symm) h h' hr
theorem rt_sub {p q t b p' q' t' b' r s : Int} (h : Rt p q t b) (h' : Rt p' q' t' b') (hr : Rt r s (fSub p q p' q') (q * q')) : Rt r s (t * b' - t' * b) (b * b') := rt_lin (fun a c => a - c) (fun a c d => (Int.sub_mul a c d).symm) h h' hr
theorem rt_mul {p q t b p' q' t' b' r s : Int} (h : Rt p q t b) (h' : Rt p' q' t' b') (hr : Rt r s (fMul p q p' q') (q * q')) : Rt r s (t * t') (b * b') := by
  refine ⟨hr.pos, hr.one, ?_⟩
  have q0 : q * q' ≠ 0 := fun z => by
    rcases Int.mul_eq_zero.mp z with z | z
    · have := h.pos; omega
    · have := h'.pos; omega
  have x := hr.eq
  refine Int.eq_of_mul_eq_mul_right q0 ?_
  rw [show r * (b * b') * (q * q') = (r * (q * q')) * (b * b') by ac_rfl, x]
  unfold fMul
  rw [show p * p' * s * (b * b') = (p * b) * (p' * b') * s by ac_rfl, h.eq, h'.eq]
  ac_rfl
/-- from one way of writing a quotient to another -/
theorem rt_same {r s t b t' b' : Int} (h : Rt r s t b) (hb : b ≠ 0) (e : t * b' = t' * b) : Rt r s t' b' := by
  refine ⟨h.pos, h.one, ?_⟩
  refine Int.eq_of_mul_eq_mul_right hb ?_
  rw [Int.mul_right_comm, h.eq, Int.mul_right_comm t s b', e]
  ac_rfl
/-- a thing: t/b, of size n -/
structure Val (K : PySem.W.Frag) (H : Hp) (n : Nat) (v : V) (t b p q : Int) : Prop where
  num : Num K H v p q
  rt : Rt p q t b
  lp : p.natAbs < 2 ^ n
  lq : q.natAbs < 2 ^ n
  lt : t.natAbs < 2 ^ n
  lb : b.natAbs < 2 ^ n
  b0 : b ≠ 0
theorem Val.same {K : PySem.W.Frag} {H H' : Hp} {n : Nat} {v : V} {t b p q : Int} (h : Val K H n v t b p q) (e : Same H H') : Val K H' n v t b p q := ⟨h.num.same e, h.rt, h.lp, h.lq, h.lt, h.lb, h.b0⟩
def spTwo (K : PySem.W.Frag) : Sp := fun vs H Q _ => ∃ (x y : V) (o1 o2 : Addr) (t b p q t' b' p' q' : Int), vs = [x, y, .ref o1, .ref o2] ∧ Val K H 68 x t b p q ∧ Val K H 68 y t' b' p' q' ∧ (∀ i j : Int, ¬ (x = .int i ∧ y = .int j)) ∧ H o1 = some (.tup [.int t, .int b]) ∧ H o2 = some (.tup [.int t', .int b']) ∧ ∀ H', Same H H' → Q (.bl true) H'
section
variable {P : Program} {w : World} {K : PySem.W.Frag} {mg : Str → Option Value} {base : Heap}
theorem ok_truth (T : Txt K mg) : Cal P w K mg base CX0 1 "_law_truth" P__law_truth [] spTruth := by
  refine Cal.of T.F__law_truth T.g__law_truth (fun fd F => F.ok sc__law_truth (fun vs H Q E h => ?_) (fun cdv A outer s0 H vs Q E hr h => ?_)) (fun _ _ _ _ _ _ us hl => match us, hl with | [_, _], _ => rfl)
  · obtain ⟨b, rfl, _⟩ := h
    rfl
  · obtain ⟨b, rfl, k⟩ := h
    refine ⟨_, PSs.nox (pss_one (ps_ret (pe_and (pe_callB call_isi (by rfl) T.f_isinstance (by decide +kernel) (pa_cons (pv 0) (pa_cons (pe_bltn (v := .ty "bool") (u := .type "bool") (by rfl) T.f_bool (by decide +kernel) rfl) pa_nil))) (pe_one (pe_cmpR op_eq (pv 0) (pv 1) (nomark _)))))), ?_⟩
    refine ⟨_, rfl, _, _, _, _, _, rfl, .ty _, .base (.bl b), kit_ty kt_bool_bool, _, rfl, iteT ⟨_, rfl, _, rfl, rfl, ?_⟩⟩
    rw [decide_eq_true rfl]
    exact k
theorem ok_terms (T : Txt K mg) : Cal P w K mg base CX0 2 "_law_in_terms" P__law_in_terms [] (spTerms K) := by
  have C__law_whole := ok_whole (P := P) (w := w) (base := base) T
  have C__law_divisor := ok_div (P := P) (w := w) (base := base) T
  refine Cal.of T.F__law_in_terms T.g__law_in_terms (fun fd F => F.ok sc__law_in_terms (fun vs H Q E h => ?_) (fun cdv A outer s0 H vs Q E hr h => ?_)) (fun _ _ _ _ _ _ us hl => match us, hl with | [_, _, _], _ => rfl)
  · obtain ⟨x, t, b, p, q, rfl, _⟩ := h
    rfl
  · obtain ⟨x, t, b, p, q, rfl, n, rt, bt, bb, b0, k⟩ := h
    obtain ⟨dx, hx⟩ := n.is
    have bq := rt_le rt b0
    have bb1 : b.natAbs < 2 ^ 1000 := lt1000 bb (by decide)
    refine ⟨_, PSs.nox (pss_cons (ps_if (PW.pt (pw_or (pt_not (pt_val (pe_callB call_isi (by rfl) T.f_isinstance (by decide +kernel) (pa_cons (pv 0) (pa_cons (pe_glob (v := .ref (He.ga K "Ratio")) rfl T.g_Ratio rfl) pa_nil))))) (pw_or (pt_not (pt_val (pc_call C__law_whole (hr.mono (by first | decide | omega)) pass0 (pa_cons (pe_fld (pv 0) rfl) pa_nil)))) (pw_or (pt_not (pt_val (pc_call C__law_whole (hr.mono (by first | decide | omega)) pass0 (pa_cons (pe_fld (pv 0) rfl) pa_nil)))) (pw_or1 (pt_cmpR op_lt (pe_fld (pv 0) rfl) pe_int (nomark _))))))) (pss_one (ps_ret pe_bl))
    pss_nil)
    (pss_one (ps_ret (pe_and (pe_cmpR op_eq (pe_op op_mulW (pe_fld (pv 0) rfl) (pv 2)) (pe_op op_mulW (pv 1) (pe_fld (pv 0) rfl)) (nomark _)) (pe_one (pe_cmpR op_eq (pc_call C__law_divisor (hr.mono (by first | decide | omega)) pass0 (pa_cons (pe_fld (pv 0) rfl) (pa_cons (pe_fld (pv 0) rfl) pa_nil))) pe_int (nomark _))))))), ?_⟩
    have rp := rt.pos
    refine ⟨_, rfl, _, _, _, _, _, rfl, .own _, tyx_ins hx T.cls_Ratio T.own_Ratio.1, T.own_Ratio.1.is, _, rfl, iteF ⟨_, rfl, x, _, dx, _, _, rfl, hx, T.cls_Ratio, T.na_Ratio_top, rat_top, p, rfl, _, rfl, iteF ⟨_, rfl, x, _, dx, _, _, rfl, hx, T.cls_Ratio, T.na_Ratio_bottom, rat_bottom, q, rfl, _, rfl, iteF ⟨_, rfl, x, _, dx, _, _, rfl, hx, T.cls_Ratio, T.na_Ratio_bottom, rat_bottom, _, _, rfl, rfl, _, rfl, ifD (fun z => absurd z (by omega)) (fun _ => ?_)⟩⟩⟩⟩
    refine ⟨_, rfl, x, _, dx, _, _, rfl, hx, T.cls_Ratio, T.na_Ratio_top, rat_top, _, rfl, _, _, rfl, rfl, wide_mul n.lp bb1 (by decide) (by decide) (by decide), _, rfl, _, rfl, x, _, dx, _, _, rfl, hx, T.cls_Ratio, T.na_Ratio_bottom, rat_bottom, _, _, rfl, rfl, wide_mul bt n.lq (by decide) (by decide) (by decide), rfl, _, rfl, ifI (fun _ => ?_) (fun z => absurd rt.eq z)⟩
    refine ⟨_, rfl, x, _, dx, _, _, rfl, hx, T.cls_Ratio, T.na_Ratio_top, rat_top, _, rfl, x, _, dx, _, _, rfl, hx, T.cls_Ratio, T.na_Ratio_bottom, rat_bottom, p, q, rfl, by omega, by omega, rfl, ?_⟩
    rw [rt.one]
    exact k
theorem ok_two (T : Txt K mg) : Cal P w K mg base CX0 6 "_law_two_due" P__law_two_due [] (spTwo K) := by
  have C__law_in_terms := ok_terms (P := P) (w := w) (base := base) T
  have C_Ratio_DaddD := ok_add (P := P) (w := w) (base := base) T
  have C_Ratio_DraddD := ok_radd (P := P) (w := w) (base := base) T
  have C_Ratio_DsubD := ok_sub (P := P) (w := w) (base := base) T
  have C_Ratio_DrsubD := ok_rsub (P := P) (w := w) (base := base) T
  have C_Ratio_DmulD := ok_mul (P := P) (w := w) (base := base) T
  have C_Ratio_DrmulD := ok_rmul (P := P) (w := w) (base := base) T
  refine Cal.of T.F__law_two_due T.g__law_two_due (fun fd F => F.ok sc__law_two_due (fun vs H Q E h => ?_) (fun cdv A outer s0 H vs Q E hr h => ?_)) (fun _ _ _ _ _ _ us hl => match us, hl with | [_, _, _, _], _ => rfl)
  · obtain ⟨x, y, o1, o2, t, b, p, q, t', b', p', q', rfl, _⟩ := h
    rfl
  · obtain ⟨x, y, o1, o2, t, b, p, q, t', b', p', q', rfl, vx, vy, nn, h1, h2, k⟩ := h
    refine ⟨_, PSs.nox (pss_cons (ps_set (i := 4) sc__law_two_due.nd rfl (Or.inl rfl) (pe_op op_mulW (pe_ix ix_tup (pv 2) pe_int (fun _ _ => rfl)) (pe_ix ix_tup (pv 3) pe_int (fun _ _ => rfl))))
    (pss_cons (ps_if (pt_not (pt_val (pc_call C__law_in_terms (hr.mono (by first | decide | omega)) pass0 (pa_cons (pe_op (op_anyO intAdd C_Ratio_DaddD C_Ratio_DraddD (by kernel_rfl) (by kernel_rfl) T.own_Ratio.1.sf T.own_Ratio.1.si T.own_Ratio.1.is2 (hr.mono (by first | decide | omega)) (hr.mono (by first | decide | omega)) never0) (pv 0) (pv 1)) (pa_cons (pe_op op_add (pe_op op_mulW (pe_ix ix_tup (pv 2) pe_int (fun _ _ => rfl)) (pe_ix ix_tup (pv 3) pe_int (fun _ _ => rfl))) (pe_op op_mulW (pe_ix ix_tup (pv 3) pe_int (fun _ _ => rfl)) (pe_ix ix_tup (pv 2) pe_int (fun _ _ => rfl)))) (pa_cons (pv 4) pa_nil)))))) (pss_one (ps_ret pe_bl))
    pss_nil)
    (pss_cons (ps_if (pt_not (pt_val (pc_call C__law_in_terms (hr.mono (by first | decide | omega)) pass0 (pa_cons (pe_op (op_anyO intSub C_Ratio_DsubD C_Ratio_DrsubD (by kernel_rfl) (by kernel_rfl) T.own_Ratio.1.sf T.own_Ratio.1.si T.own_Ratio.1.is2 (hr.mono (by first | decide | omega)) (hr.mono (by first | decide | omega)) never0) (pv 0) (pv 1)) (pa_cons (pe_op op_sub (pe_op op_mulW (pe_ix ix_tup (pv 2) pe_int (fun _ _ => rfl)) (pe_ix ix_tup (pv 3) pe_int (fun _ _ => rfl))) (pe_op op_mulW (pe_ix ix_tup (pv 3) pe_int (fun _ _ => rfl)) (pe_ix ix_tup (pv 2) pe_int (fun _ _ => rfl)))) (pa_cons (pv 4) pa_nil)))))) (pss_one (ps_ret pe_bl))
    pss_nil)
    (pss_one (ps_ret (pc_call C__law_in_terms (hr.mono (by first | decide | omega)) pass0 (pa_cons (pe_op (op_anyO intMul C_Ratio_DmulD C_Ratio_DrmulD (by kernel_rfl) (by kernel_rfl) T.own_Ratio.1.sf T.own_Ratio.1.si T.own_Ratio.1.is2 (hr.mono (by first | decide | omega)) (hr.mono (by first | decide | omega)) never0) (pv 0) (pv 1)) (pa_cons (pe_op op_mulW (pe_ix ix_tup (pv 2) pe_int (fun _ _ => rfl)) (pe_ix ix_tup (pv 3) pe_int (fun _ _ => rfl))) (pa_cons (pv 4) pa_nil))))))))), ?_⟩
    have nx := vx.num
    have ny := vy.num
    have hs : Sm 68 p q p' q' := ⟨by decide, vx.lp, vx.lq, vy.lp, vy.lq⟩
    have ht : Sm 68 t b t' b' := ⟨by decide, vx.lt, vx.lb, vy.lt, vy.lb⟩
    obtain ⟨m1, m2, m3, m4, m5⟩ := ht.mul
    obtain ⟨w1, w2, w3, w4, w5, w6⟩ := ht.prod
    have g : ∀ {z : Int}, z.natAbs < 2 ^ (2 * 68 + 1) → z.natAbs < 2 ^ 1000 := fun h => ht.big h
    have gq : ∀ {z : Int}, z.natAbs < 2 ^ (2 * 68 + 1) → z.natAbs < 2 ^ 270 := fun h => by omega
    have bb0 : b * b' ≠ 0 := fun z => (Int.mul_eq_zero.mp z).elim vx.b0 vy.b0
    refine ⟨_, rfl, o1, _, 1, _, rfl, rfl, SqT.of h1, rfl, _, rfl, o2, _, 1, _, rfl, rfl, SqT.of h2, rfl, _, _, rfl, rfl, m3, ?_⟩
    refine ⟨_, rfl, _, rfl, any_op c_add nx ny nn hs fun z H1 r s nz rt l1 l2 s1 => ?_⟩
    have h1 := s1 _ _ h1
    have h2 := s1 _ _ h2
    refine ⟨_, rfl, o1, _, 0, _, rfl, rfl, SqT.of h1, rfl, _, rfl, o2, _, 1, _, rfl, rfl, SqT.of h2, rfl, _, _, rfl, rfl, m1, _, rfl, o2, _, 0, _, rfl, rfl, SqT.of h2, rfl, _, rfl, o1, _, 1, _, rfl, rfl, SqT.of h1, rfl, _, _, rfl, rfl, m2, _, _, rfl, rfl, _, rfl, z, _, _, r, s, rfl, nz, rt_add vx.rt vy.rt rt, g w3, gq w2, bb0, _, rfl, iteF ?_⟩
    have nx := nx.same s1
    have ny := ny.same s1
    refine ⟨_, rfl, _, rfl, any_op c_sub nx ny nn hs fun z H2 r s nz rt l1 l2 s2 => ?_⟩
    have h1 := s2 _ _ h1
    have h2 := s2 _ _ h2
    refine ⟨_, rfl, o1, _, 0, _, rfl, rfl, SqT.of h1, rfl, _, rfl, o2, _, 1, _, rfl, rfl, SqT.of h2, rfl, _, _, rfl, rfl, m1, _, rfl, o2, _, 0, _, rfl, rfl, SqT.of h2, rfl, _, rfl, o1, _, 1, _, rfl, rfl, SqT.of h1, rfl, _, _, rfl, rfl, m2, _, _, rfl, rfl, _, rfl, z, _, _, r, s, rfl, nz, rt_sub vx.rt vy.rt rt, g w4, gq w2, bb0, _, rfl, iteF ?_⟩
    refine ⟨_, rfl, _, rfl, any_op c_mul (nx.same s2) (ny.same s2) nn hs fun z H3 r s nz rt l1 l2 s3 => ?_⟩
    have h1 := s3 _ _ h1
    have h2 := s3 _ _ h2
    exact ⟨_, rfl, o1, _, 0, _, rfl, rfl, SqT.of h1, rfl, _, rfl, o2, _, 0, _, rfl, rfl, SqT.of h2, rfl, _, _, rfl, rfl, m5, _, rfl, z, _, _, r, s, rfl, nz, rt_mul vx.rt vy.rt rt, g w1, gq w2, bb0, k H3 fun b o e => s3 _ _ (s2 _ _ (s1 _ _ e))⟩
def spRules (K : PySem.W.Frag) : Sp := fun vs H Q _ => ∃ (x y z : V) (pl o1 o2 o3 : Addr) (t b p q t' b' p' q' t'' b'' p'' q'' : Int), vs = [x, y, z, .ref pl] ∧ Val K H 68 x t b p q ∧ Val K H 68 y t' b' p' q' ∧ Val K H 68 z t'' b'' p'' q'' ∧
  (∀ i j : Int, ¬ (x = .int i ∧ y = .int j)) ∧ (∀ i j : Int, ¬ (y = .int i ∧ z = .int j)) ∧ (∀ i j : Int, ¬ (x = .int i ∧ z = .int j)) ∧ H pl = some (.lst [.ref o1, .ref o2, .ref o3]) ∧
  H o1 = some (.tup [.int t, .int b]) ∧ H o2 = some (.tup [.int t', .int b']) ∧ H o3 = some (.tup [.int t'', .int b'']) ∧ ∀ H', Same H H' → Q (.bl true) H'
theorem num_rat {K : PySem.W.Frag} {H : Hp} {z : Addr} {r s : Int} (n : NRat K H z r s) : Num K H (.ref z) r s := .inl ⟨z, rfl, n⟩
theorem ok_rules (T : Txt K mg) : Cal P w K mg base CX0 6 "_law_rules" P__law_rules [] (spRules K) := by
  have C__law_in_terms := ok_terms (P := P) (w := w) (base := base) T
  have C__law_truth := ok_truth (P := P) (w := w) (base := base) T
  have C_Ratio_DaddD := ok_add (P := P) (w := w) (base := base) T
  have C_Ratio_DraddD := ok_radd (P := P) (w := w) (base := base) T
  have C_Ratio_DsubD := ok_sub (P := P) (w := w) (base := base) T
  have C_Ratio_DrsubD := ok_rsub (P := P) (w := w) (base := base) T
  have C_Ratio_DmulD := ok_mul (P := P) (w := w) (base := base) T
  have C_Ratio_DrmulD := ok_rmul (P := P) (w := w) (base := base) T
  have C_Ratio_DeqD := ok_eq (P := P) (w := w) (base := base) T
  refine Cal.of T.F__law_rules T.g__law_rules (fun fd F => F.ok sc__law_rules (fun vs H Q E h => ?_) (fun cdv A outer s0 H vs Q E hr h => ?_)) (fun _ _ _ _ _ _ us hl => match us, hl with | [_, _, _, _], _ => rfl)
  · obtain ⟨x, y, z, pl, o1, o2, o3, t, b, p, q, t', b', p', q', t'', b'', p'', q'', rfl, _⟩ := h
    rfl
  · obtain ⟨x, y, z, pl, o1, o2, o3, t, b, p, q, t', b', p', q', t'', b'', p'', q'', rfl, vx, vy, vz, nxy, nyz, nxz, hp, h1, h2, h3, k⟩ := h
    refine ⟨_, PSs.nox (pss_cons (ps_set (i := 4) sc__law_rules.nd rfl (Or.inl rfl) (pe_ix ix_list (pv 3) pe_int (fun _ _ => rfl)))
    (pss_cons (ps_set (i := 5) sc__law_rules.nd rfl (Or.inl rfl) (pe_ix ix_list (pv 3) pe_int (fun _ _ => rfl)))
    (pss_cons (ps_set (i := 6) sc__law_rules.nd rfl (Or.inl rfl) (pe_ix ix_list (pv 3) pe_int (fun _ _ => rfl)))
    (pss_cons (ps_if (pt_not (pt_val (pc_call C__law_in_terms (hr.mono (by first | decide | omega)) pass0 (pa_cons (pe_op (op_anyO intSub C_Ratio_DsubD C_Ratio_DrsubD (by kernel_rfl) (by kernel_rfl) T.own_Ratio.1.sf T.own_Ratio.1.si T.own_Ratio.1.is2 (hr.mono (by first | decide | omega)) (hr.mono (by first | decide | omega)) never0) (pe_op (op_anyO intAdd C_Ratio_DaddD C_Ratio_DraddD (by kernel_rfl) (by kernel_rfl) T.own_Ratio.1.sf T.own_Ratio.1.si T.own_Ratio.1.is2 (hr.mono (by first | decide | omega)) (hr.mono (by first | decide | omega)) never0) (pv 0) (pv 1)) (pv 1)) (pa_cons (pe_ix ix_tup (pv 4) pe_int (fun _ _ => rfl)) (pa_cons (pe_ix ix_tup (pv 4) pe_int (fun _ _ => rfl)) pa_nil)))))) (pss_one (ps_ret pe_bl))
    pss_nil)
    (pss_cons (ps_set (i := 7) sc__law_rules.nd rfl (Or.inl rfl) (pe_op (op_anyO intMul C_Ratio_DmulD C_Ratio_DrmulD (by kernel_rfl) (by kernel_rfl) T.own_Ratio.1.sf T.own_Ratio.1.si T.own_Ratio.1.is2 (hr.mono (by first | decide | omega)) (hr.mono (by first | decide | omega)) never0) (pv 0) (pe_op (op_anyO intAdd C_Ratio_DaddD C_Ratio_DraddD (by kernel_rfl) (by kernel_rfl) T.own_Ratio.1.sf T.own_Ratio.1.si T.own_Ratio.1.is2 (hr.mono (by first | decide | omega)) (hr.mono (by first | decide | omega)) never0) (pv 1) (pv 2))))
    (pss_cons (ps_set (i := 8) sc__law_rules.nd rfl (Or.inl rfl) (pe_op (op_ownS C_Ratio_DaddD (by kernel_rfl) T.own_Ratio.1.sf (hr.mono (by first | decide | omega)) never0) (pe_op (op_anyO intMul C_Ratio_DmulD C_Ratio_DrmulD (by kernel_rfl) (by kernel_rfl) T.own_Ratio.1.sf T.own_Ratio.1.si T.own_Ratio.1.is2 (hr.mono (by first | decide | omega)) (hr.mono (by first | decide | omega)) never0) (pv 0) (pv 1)) (pe_op (op_anyO intMul C_Ratio_DmulD C_Ratio_DrmulD (by kernel_rfl) (by kernel_rfl) T.own_Ratio.1.sf T.own_Ratio.1.si T.own_Ratio.1.is2 (hr.mono (by first | decide | omega)) (hr.mono (by first | decide | omega)) never0) (pv 0) (pv 2))))
    (pss_cons (ps_if (pt_not (pt_val (pc_call C__law_truth (hr.mono (by first | decide | omega)) pass0 (pa_cons (pe_cmpR (op_cmpS C_Ratio_DeqD rfl (fun _ _ => rfl) (hr.mono (by first | decide | omega)) never0) (pv 7) (pv 8) (nomark _)) (pa_cons pe_bl pa_nil))))) (pss_one (ps_ret pe_bl))
    pss_nil)
    (pss_cons (ps_set (i := 9) sc__law_rules.nd rfl (Or.inl rfl) (pe_op op_mulW (pe_ix ix_tup (pv 4) pe_int (fun _ _ => rfl)) (pe_op op_add (pe_op op_mulW (pe_ix ix_tup (pv 5) pe_int (fun _ _ => rfl)) (pe_ix ix_tup (pv 6) pe_int (fun _ _ => rfl))) (pe_op op_mulW (pe_ix ix_tup (pv 6) pe_int (fun _ _ => rfl)) (pe_ix ix_tup (pv 5) pe_int (fun _ _ => rfl))))))
    (pss_one (ps_ret (pc_call C__law_in_terms (hr.mono (by first | decide | omega)) pass0 (pa_cons (pv 7) (pa_cons (pv 9) (pa_cons (pe_op op_mulW (pe_op op_mulW (pe_ix ix_tup (pv 4) pe_int (fun _ _ => rfl)) (pe_ix ix_tup (pv 5) pe_int (fun _ _ => rfl))) (pe_ix ix_tup (pv 6) pe_int (fun _ _ => rfl))) pa_nil)))))))))))))), ?_⟩
    have hs12 : Sm 68 p q p' q' := ⟨by decide, vx.lp, vx.lq, vy.lp, vy.lq⟩
    have hs23 : Sm 68 p' q' p'' q'' := ⟨by decide, vy.lp, vy.lq, vz.lp, vz.lq⟩
    have hs13 : Sm 68 p q p'' q'' := ⟨by decide, vx.lp, vx.lq, vz.lp, vz.lq⟩
    have up : ∀ {a : Int}, a.natAbs < 2 ^ 68 → a.natAbs < 2 ^ 137 := fun h => by omega
    have nx := vx.num
    have ny := vy.num
    have nz := vz.num
    have e0 : (t * b' + t' * b) * b' - t' * (b * b') = t * b' * b' := by
      rw [Int.add_mul, show t' * (b * b') = t' * b * b' by ac_rfl]
      omega
    refine ⟨_, rfl, pl, _, 0, _, rfl, rfl, SqL.of hp, rfl, _, rfl, pl, _, 1, _, rfl, rfl, SqL.of hp, rfl, _, rfl, pl, _, 2, _, rfl, rfl, SqL.of hp, rfl, ?_⟩
    -- first + second - second
    refine ⟨_, rfl, _, rfl, any_op c_add nx ny nxy hs12 fun z1 H1 r1 d1 n1 rt1 l1 m1 s1 => ?_⟩
    have ny := ny.same s1
    refine ⟨_, rfl, any_op c_sub (num_rat n1) ny (fun i j z => V.noConfusion z.1) ⟨by decide, l1, m1, up vy.lp, up vy.lq⟩ fun z2 H2 r2 d2 n2 rt2 l2 m2 s2 => ?_⟩
    have h1 := s2 _ _ (s1 _ _ h1)
    have h2 := s2 _ _ (s1 _ _ h2)
    have h3 := s2 _ _ (s1 _ _ h3)
    have rtA := rt_sub (rt_add vx.rt vy.rt rt1) vy.rt rt2
    rw [e0] at rtA
    have rtB : Rt r2 d2 t b := rt_same rtA (fun z => (Int.mul_eq_zero.mp z).elim (fun z => (Int.mul_eq_zero.mp z).elim vx.b0 vy.b0) vy.b0) (by ac_rfl)
    refine ⟨_, rfl, o1, _, 0, _, rfl, rfl, SqT.of h1, rfl, _, rfl, o1, _, 1, _, rfl, rfl, SqT.of h1, rfl, z2, t, b, r2, d2, rfl, n2, rtB, lt1000 vx.lt (by decide), by have := vx.lb; omega, vx.b0, _, rfl, iteF ?_⟩
    have nx := (nx.same s1).same s2
    have ny := ny.same s2
    have nz := (nz.same s1).same s2
    -- left
    refine ⟨_, rfl, _, rfl, _, rfl, any_op c_add ny nz nyz hs23 fun z3 H3 r3 d3 n3 rt3 l3 m3 s3 => ?_⟩
    refine any_op c_mul (nx.same s3) (num_rat n3) (fun i j z => V.noConfusion z.2) ⟨by decide, up vx.lp, up vx.lq, l3, m3⟩ fun z4 H4 r4 d4 n4 rt4 l4 m4 s4 => ?_
    have rtL := rt_mul vx.rt (rt_add vy.rt vz.rt rt3) rt4
    have nx := (nx.same s3).same s4
    have ny := (ny.same s3).same s4
    have nz := (nz.same s3).same s4
    -- right
    refine ⟨_, rfl, _, rfl, any_op c_mul nx ny nxy hs12 fun z5 H5 r5 d5 n5 rt5 l5 m5 s5 => ?_⟩
    refine ⟨_, rfl, _, rfl, any_op c_mul (nx.same s5) (nz.same s5) nxz hs13 fun z6 H6 r6 d6 n6 rt6 l6 m6 s6 => ?_⟩
    have n5 := n5.same s6
    refine ⟨n5.ins, n6.ins, z5, _, r5, d5, r6, d6, 137, rfl, n5, num_rat n6, ⟨by decide, l5, m5, l6, m6⟩, fun z7 H7 r7 d7 n7 rt7 l7 m7 s7 => ?_⟩
    have rtR := rt_add (rt_mul vx.rt vy.rt rt5) (rt_mul vx.rt vz.rt rt6) rt7
    have n4 := ((n4.same s5).same s6).same s7
    have h1 := s7 _ _ (s6 _ _ (s5 _ _ (s4 _ _ (s3 _ _ h1))))
    have h2 := s7 _ _ (s6 _ _ (s5 _ _ (s4 _ _ (s3 _ _ h2))))
    have h3 := s7 _ _ (s6 _ _ (s5 _ _ (s4 _ _ (s3 _ _ h3))))
    have eA : t * t' * (b * b'') + t * t'' * (b * b') = t * b * (t' * b'' + t'' * b') := by
      rw [Int.mul_add]
      have x1 : t * t' * (b * b'') = t * b * (t' * b'') := by ac_rfl
      have x2 : t * t'' * (b * b') = t * b * (t'' * b') := by ac_rfl
      omega
    have eq : (r4 = r7 ∧ d4 = d7) := (cross_eq rtL rtR (fun z => (Int.mul_eq_zero.mp z).elim vx.b0 fun z => (Int.mul_eq_zero.mp z).elim vy.b0 vz.b0) (fun z => (Int.mul_eq_zero.mp z).elim (fun z => (Int.mul_eq_zero.mp z).elim vx.b0 vy.b0) fun z => (Int.mul_eq_zero.mp z).elim vx.b0 vz.b0)).mpr (by
      rw [eA]
      ac_rfl)
    refine ⟨_, rfl, _, rfl, n4.ins, n7.ins, .inl ⟨z4, z7, r4, d4, r7, d7, rfl, n4, n7, true, by rw [decide_eq_true eq]; rfl, _, rfl, iteF ?_⟩⟩
    -- top
    have ht23 : Sm 68 t' b' t'' b'' := ⟨by decide, vy.lt, vy.lb, vz.lt, vz.lb⟩
    have ht12 : Sm 68 t b t' b' := ⟨by decide, vx.lt, vx.lb, vy.lt, vy.lb⟩
    obtain ⟨c1, c2, _⟩ := ht23.mul
    obtain ⟨_, _, c3, _⟩ := ht12.mul
    obtain ⟨_, _, w3, _⟩ := ht23.prod
    obtain ⟨_, w2, _⟩ := ht12.prod
    have vt := vx.lt
    have vb := vz.lb
    have big : (t * (t' * b'' + t'' * b')).natAbs < 2 ^ 1000 := lt1000 (n := 68 + (2 * 68 + 1)) (wide_lt vt w3) (by decide)
    have bb : (b * b' * b'').natAbs < 2 ^ 270 := Nat.lt_trans (wide_lt (a := 2 * 68 + 1) w2 vb) (Nat.pow_lt_pow_right (by decide) (by decide))
    have cm1 : CMulW t (t' * b'' + t'' * b') := wide_mul (b := 2 * 68 + 1) vt w3 (by decide) (by decide) (by decide)
    have cm2 : CMulW (b * b') b'' := wide_mul (a := 2 * 68 + 1) w2 vb (by decide) (by decide) (by decide)
    rw [show b * (b' * b'') = b * b' * b'' by ac_rfl] at rtL
    exact ⟨_, rfl, o1, _, 0, _, rfl, rfl, SqT.of h1, rfl, _, rfl, o2, _, 0, _, rfl, rfl, SqT.of h2, rfl, _, rfl, o3, _, 1, _, rfl, rfl, SqT.of h3, rfl, _, _, rfl, rfl, c1, _, rfl, o3, _, 0, _, rfl, rfl, SqT.of h3, rfl, _, rfl, o2, _, 1, _, rfl, rfl, SqT.of h2, rfl, _, _, rfl, rfl, c2, _, _, rfl, rfl, _, _, rfl, rfl, cm1, _, rfl, _, rfl, _, rfl, o1, _, 1, _, rfl, rfl, SqT.of h1, rfl, _, rfl, o2, _, 1, _, rfl, rfl, SqT.of h2, rfl, _, _, rfl, rfl, c3, _, rfl, o3, _, 1, _, rfl, rfl, SqT.of h3, rfl, _, _, rfl, rfl, cm2, z4, _, _, r4, d4, rfl, n4, rtL, big, bb, fun z => (Int.mul_eq_zero.mp z).elim (fun z => (Int.mul_eq_zero.mp z).elim vx.b0 vy.b0) vz.b0,
      k H7 fun b o e => s7 _ _ (s6 _ _ (s5 _ _ (s4 _ _ (s3 _ _ (s2 _ _ (s1 _ _ e))))))⟩
/-- the fractions that are drawn -/
def PairsAt (H : Hp) (xs : List V) : Prop := ∀ (j : Nat) (x : V), xs[j]? = some x → ∃ (o : Addr) (t b : Int), x = .ref o ∧ H o = some (.tup [.int t, .int b]) ∧ t.natAbs < 2 ^ 68 ∧ b.natAbs < 2 ^ 68 ∧ b ≠ 0
theorem Src.neT {H : Hp} {s c o : Addr} {xs : List V} (S : Src H s c) (h : H o = some (.tup xs)) : o ≠ s := by
  obtain ⟨ns, a, l, m, d, hs, _⟩ := S.ex
  exact ne_of h hs (by intro z; cases z)
theorem Src.neL {H : Hp} {s c o : Addr} {xs : List V} (S : Src H s c) (h : H o = some (.lst xs)) : o ≠ s := by
  obtain ⟨ns, a, l, m, d, hs, _⟩ := S.ex
  exact ne_of h hs (by intro z; cases z)
theorem PairsAt.but {H H' : Hp} {s c : Addr} {xs : List V} (h : PairsAt H xs) (S : Src H s c) (e : But s H H') : PairsAt H' xs := fun j x hx => by
  obtain ⟨o, t, b, h1, h2, h3⟩ := h j x hx
  exact ⟨o, t, b, h1, e _ _ (S.neT h2) h2, h3⟩
theorem PairsAt.same {H H' : Hp} {xs : List V} (h : PairsAt H xs) (e : Same H H') : PairsAt H' xs := fun j x hx => by
  obtain ⟨o, t, b, h1, h2, h3⟩ := h j x hx
  exact ⟨o, t, b, h1, e _ _ h2, h3⟩
theorem PairsAt.lst {H : Hp} {xs ys zs : List V} {l : Addr} (h : PairsAt H xs) (hl : H l = some (.lst ys)) : PairsAt (upd H l (.lst zs)) xs := fun j x hx => by
  obtain ⟨o, t, b, h1, h2, h3⟩ := h j x hx
  exact ⟨o, t, b, h1, by rw [upd_ne (ne_of h2 hl (by intro z; cases z))]; exact h2, h3⟩
theorem Val.lst {K : PySem.W.Frag} {H : Hp} {n : Nat} {v : V} {t b p q : Int} {D : Addr} {ys zs : List V} (h : Val K H n v t b p q) (hD : H D = some (.lst ys)) : Val K (upd H D (.lst zs)) n v t b p q := by
  refine ⟨?_, h.rt, h.lp, h.lq, h.lt, h.lb, h.b0⟩
  rcases h.num with ⟨x, rfl, r⟩ | h
  · obtain ⟨dx, hx⟩ := r.is
    refine .inl ⟨x, rfl, ⟨dx, ?_⟩, r.pos, r.one, r.lp, r.lq⟩
    rw [upd_ne (ne_of hx hD (by intro z; cases z))]
    exact hx
  · exact .inr h
/-- things beside fractions; the e-th thing is an int -/
structure TS (K : PySem.W.Frag) (H : Hp) (l D : Addr) (e : Int) (xs vs : List V) : Prop where
  hl : H l = some (.lst xs)
  hD : H D = some (.lst vs)
  get : ∀ j : Nat, j < 3 → ∃ (o : Addr) (t b p q : Int) (v : V), xs[j]? = some (.ref o) ∧ H o = some (.tup [.int t, .int b]) ∧ vs[j]? = some v ∧ Val K H 68 v t b p q ∧ ((j : Int) = e → b = 1 ∧ v = .int t) ∧ ((j : Int) ≠ e → ∃ y, v = .ref y)
theorem TS.same {K : PySem.W.Frag} {H H' : Hp} {l D : Addr} {e : Int} {xs vs : List V} (h : TS K H l D e xs vs) (s : Same H H') : TS K H' l D e xs vs := ⟨s _ _ h.hl, s _ _ h.hD, fun j hj => by
  obtain ⟨o, t, b, p, q, v, h1, h2, h3, h4, h5⟩ := h.get j hj
  exact ⟨o, t, b, p, q, v, h1, s _ _ h2, h3, h4.same s, h5⟩⟩
theorem or_ne {a b c : Nat} {i j e : Int} {σ : L2.St} {H : Hp} {Q : Bool → Hp → Prop} (h1 : σ[a]? = some (some (.int i))) (h2 : σ[c]? = some (some (.int e))) (h3 : σ[b]? = some (some (.int j))) (h : Q (decide (i ≠ e ∨ j ≠ e)) H) :
    tOr (tTest (tOp rNe (tVar a) (tVar c))) (tTest (tOp rNe (tVar b) (tVar c))) σ H Q := by
  refine ⟨_, h1, _, h2, rfl, _, rfl, ifN (fun z => ?_) (fun z => ⟨_, h3, _, h2, rfl, _, rfl, ?_⟩)⟩
  · rw [decide_eq_true (.inl z)] at h
    exact h
  · have e : (!decide (V.int j = V.int e)) = decide (i ≠ e ∨ j ≠ e) := by
      by_cases q : j = e
      · rw [decide_eq_true (congrArg V.int q), decide_eq_false]
        · rfl
        · rintro (x | x)
          · exact x z
          · exact x q
      · rw [decide_eq_false fun y => q (V.int.inj y), decide_eq_true (.inr q)]
        rfl
    rw [e]
    exact h
theorem two_pow67 {z : Int} (h1 : -(10 ^ 20) ≤ z) (h2 : z ≤ 10 ^ 20) : z.natAbs < 2 ^ 68 := by omega
def spLaw (K : PySem.W.Frag) : Sp := fun vs H Q _ => ∃ (a : Addr) (ns : List Int), vs = [.ref a] ∧ SqL K H a (ns.map V.int) ∧ ∀ H', Q (.bl true) H'
theorem ok_law (T : Txt K mg) {fd : FuncData} (F : FunD K d_law.name d_law.qual (defArgs s_law) (defBody s_law) (defScope s_law) (d_law.dvs K) (d_law.kws K) (He.fAd K d_law.at_) fd) : FnOk P w K mg base CX0 9 (He.ga K "law") fd P_law (spLaw K) := by
  have C__law_source := ok_source (P := P) (w := w) (base := base) T
  have C__law_draw := ok_draw (P := P) (w := w) (base := base) T
  have C__law_number := ok_number (P := P) (w := w) (base := base) T
  have C__law_in_terms := ok_terms (P := P) (w := w) (base := base) T
  have C__law_truth := ok_truth (P := P) (w := w) (base := base) T
  have C__law_two_due := ok_two (P := P) (w := w) (base := base) T
  have C__law_rules := ok_rules (P := P) (w := w) (base := base) T
  have C_Ratio_DmulD := ok_mul (P := P) (w := w) (base := base) T
  have C_Ratio_DrmulD := ok_rmul (P := P) (w := w) (base := base) T
  have C_Ratio_DeqD := ok_eq (P := P) (w := w) (base := base) T
  have C_Ratio_inverse := ok_inv (P := P) (w := w) (base := base) T
  have M_Ratio := (ok_Ratio (P := P) (w := w) (base := base) T).1
  have M_Ratio_1 := (ok_Ratio (P := P) (w := w) (base := base) T).2
  refine F.ok sc_law (fun vs H Q E h => ?_) (fun cdv A outer s0 H vs Q E hr h => ?_)
  · obtain ⟨a, ns, rfl, _⟩ := h
    rfl
  · obtain ⟨a, ns0, rfl, hS, k⟩ := h
    refine ⟨_, PSs.nox (pss_cons (ps_set (i := 1) sc_law.nd rfl (Or.inl rfl) (pc_call C__law_source (hr.mono (by first | decide | omega)) pass0 (pa_cons (pv 0) pa_nil)))
    (pss_cons (ps_set (i := 2) sc_law.nd rfl (Or.inl rfl) (pe_lst pa_nil))
    (pss_cons (ps_for PassesOwn.never rfl (pi_range1 (by rfl) T.f_range (pa_cons pe_int pa_nil)) (pg_name (i := 3) sc_law.nd rfl (Or.inl rfl))
    (pss_cons (ps_set (i := 4) sc_law.nd rfl (Or.inl rfl) (pc_call C__law_number (hr.mono (by first | decide | omega)) pass0 (pa_cons (pv 1) pa_nil)))
    (pss_cons (ps_set (i := 5) sc_law.nd rfl (Or.inl rfl) (pc_call C__law_number (hr.mono (by first | decide | omega)) pass0 (pa_cons (pv 1) pa_nil)))
    (C8.pss_cut (ps_if (pt_cmpR op_eq (pv 5) pe_int (nomark _)) (pss_one (ps_set (i := 5) sc_law.nd rfl (Or.inl rfl) pe_int))
    pss_nil)
    (pss_one (ps_expr (pe_bm PySem.F.plainAttrs_list PySem.F.slot_list_append PySem.F.type_list_append mt_append (pv 2) (pa_cons (pe_tup (pa_cons (pv 4) (pa_cons (pv 5) pa_nil))) pa_nil))))))))
    (pss_cons (ps_set (i := 6) sc_law.nd rfl (Or.inl rfl) (pc_call C__law_draw (hr.mono (by first | decide | omega)) pass0 (pa_cons (pv 1) (pa_cons pe_int pa_nil))))
    (C8.pss_cut (ps_if (pt_cmpR op_lt (pv 6) pe_int (nomark _)) (pss_one (ps_asg (pe_tup (pa_cons (pe_ix ix_tup (pe_ix ix_list (pv 2) (pv 6) (fun _ _ => rfl)) pe_int (fun _ _ => rfl)) (pa_cons pe_int pa_nil))) (pg_sub (pv 2) (pv 6) set_list)))
    pss_nil)
    (pss_cons (ps_setLc (i := 7) (own := [("one", 8)]) (g := (gName 8)) (tt := tYes) rfl sc_law.nd rfl rfl (sw_true rfl rfl rfl (by decide +kernel)) (pi_list (pv 2)) (blkOk_by (N := N_law) (sc := defScope s_law) (by decide +kernel)) (fun _ _ _ _ _ => (pg_name (i := 8) sc_law.nd rfl (Or.inl rfl))) (fun _ _ _ _ _ => pts_nil) (fun _ _ _ _ _ => (pcS_make M_Ratio (hr.mono (by first | decide | omega)) takesNo (pa_cons (pe_ix (ix_tupK (K := K) rfl) (pv 8) pe_int (fun _ _ => rfl)) (pa_cons (pe_ix (ix_tupK (K := K) rfl) (pv 8) pe_int (fun _ _ => rfl)) pa_nil)))))
    (C8.pss_cut (ps_if (pt_cmpR op_lt (pv 6) pe_int (nomark _)) (pss_one (ps_asg (pe_ix ix_tup (pe_ix ix_list (pv 2) (pv 6) (fun _ _ => rfl)) pe_int (fun _ _ => rfl)) (pg_sub (pv 7) (pv 6) set_list)))
    pss_nil)
    (pss_cons (ps_for PassesOwn.never rfl (pi_range1 (by rfl) T.f_range (pa_cons pe_int pa_nil)) (pg_name (i := 9) sc_law.nd rfl (Or.inl rfl))
    (pss_one (ps_for PassesOwn.never rfl (pi_range1 (by rfl) T.f_range (pa_cons pe_int pa_nil)) (pg_name (i := 3) sc_law.nd rfl (Or.inl rfl))
    (pss_one (ps_if (PW.pt (pw_or (pt_cmpR op_ne (pv 9) (pv 6) (nomark _)) (pw_or1 (pt_cmpR op_ne (pv 3) (pv 6) (nomark _))))) (pss_cons (ps_if (pt_not (pt_val (pc_call C__law_two_due (hr.mono (by first | decide | omega)) pass0 (pa_cons (pe_ix ix_list (pv 7) (pv 9) (fun _ _ => rfl)) (pa_cons (pe_ix ix_list (pv 7) (pv 3) (fun _ _ => rfl)) (pa_cons (pe_ix ix_list (pv 2) (pv 9) (fun _ _ => rfl)) (pa_cons (pe_ix ix_list (pv 2) (pv 3) (fun _ _ => rfl)) pa_nil))))))) (pss_one (ps_ret pe_bl))
    pss_nil)
    (pss_cons (ps_set (i := 10) sc_law.nd rfl (Or.inl rfl) (pe_cmpR op_eq (pe_op op_mulW (pe_ix ix_tup (pe_ix ix_list (pv 2) (pv 9) (fun _ _ => rfl)) pe_int (fun _ _ => rfl)) (pe_ix ix_tup (pe_ix ix_list (pv 2) (pv 3) (fun _ _ => rfl)) pe_int (fun _ _ => rfl))) (pe_op op_mulW (pe_ix ix_tup (pe_ix ix_list (pv 2) (pv 3) (fun _ _ => rfl)) pe_int (fun _ _ => rfl)) (pe_ix ix_tup (pe_ix ix_list (pv 2) (pv 9) (fun _ _ => rfl)) pe_int (fun _ _ => rfl))) (nomark _)))
    (pss_one (ps_if (pt_not (pt_val (pc_call C__law_truth (hr.mono (by first | decide | omega)) pass0 (pa_cons (pe_cmpR (op_eqO C_Ratio_DeqD T.own_Ratio.1.nf T.own_Ratio.1.is2 (hr.mono (by first | decide | omega)) never0) (pe_ix ix_list (pv 7) (pv 9) (fun _ _ => rfl)) (pe_ix ix_list (pv 7) (pv 3) (fun _ _ => rfl)) (nomark _)) (pa_cons (pe_and (pv 10) (pe_and (pe_cmpR op_ne (pv 9) (pv 6) (nomark _)) (pe_one (pe_cmpR op_ne (pv 3) (pv 6) (nomark _))))) pa_nil))))) (pss_one (ps_ret pe_bl))
    pss_nil))))
    pss_nil)))))
    (pss_cons (ps_if (pt_not (pt_val (pc_call C__law_rules (hr.mono (by first | decide | omega)) pass0 (pa_cons (pe_ix ix_list (pv 7) pe_int (fun _ _ => rfl)) (pa_cons (pe_ix ix_list (pv 7) pe_int (fun _ _ => rfl)) (pa_cons (pe_ix ix_list (pv 7) pe_int (fun _ _ => rfl)) (pa_cons (pv 2) pa_nil))))))) (pss_one (ps_ret pe_bl))
    pss_nil)
    (pss_cons (ps_for PassesOwn.never rfl (pi_range1 (by rfl) T.f_range (pa_cons pe_int pa_nil)) (pg_name (i := 9) sc_law.nd rfl (Or.inl rfl))
    (pss_cons (ps_set (i := 11) sc_law.nd rfl (Or.inl rfl) (pe_ix ix_tup (pe_ix ix_list (pv 2) (pv 9) (fun _ _ => rfl)) pe_int (fun _ _ => rfl)))
    (pss_cons (ps_if (PW.pt (pw_or (pt_not (pt_val (pc_call C__law_truth (hr.mono (by first | decide | omega)) pass0 (pa_cons (pe_cmpR (op_eqO C_Ratio_DeqD T.own_Ratio.1.nf T.own_Ratio.1.is2 (hr.mono (by first | decide | omega)) never0) (pcS_make M_Ratio_1 (hr.mono (by first | decide | omega)) takesNo (pa_cons (pv 11) pa_nil)) (pv 11) (nomark _)) (pa_cons pe_bl pa_nil))))) (pw_or1 (pt_not (pt_val (pc_call C__law_truth (hr.mono (by first | decide | omega)) pass0 (pa_cons (pe_cmpR (op_eqO C_Ratio_DeqD T.own_Ratio.1.nf T.own_Ratio.1.is2 (hr.mono (by first | decide | omega)) never0) (pv 11) (pcS_make M_Ratio_1 (hr.mono (by first | decide | omega)) takesNo (pa_cons (pv 11) pa_nil)) (nomark _)) (pa_cons pe_bl pa_nil)))))))) (pss_one (ps_ret pe_bl))
    pss_nil)
    (pss_one (ps_if (pt_cmpR op_ne (pv 9) (pv 6) (nomark _)) (pss_cons (ps_if (PW.pt (pw_and (pt_cmpR op_ne (pv 11) pe_int (nomark _)) (pw_and1 (pt_not (pt_val (pc_call C__law_in_terms (hr.mono (by first | decide | omega)) pass0 (pa_cons (pe_op (op_anyO intMul C_Ratio_DmulD C_Ratio_DrmulD (by kernel_rfl) (by kernel_rfl) T.own_Ratio.1.sf T.own_Ratio.1.si T.own_Ratio.1.is2 (hr.mono (by first | decide | omega)) (hr.mono (by first | decide | omega)) never0) (pe_ix ix_list (pv 7) (pv 9) (fun _ _ => rfl)) (pcS_meth0 C_Ratio_inverse (hr.mono (by first | decide | omega)) takesNo (pe_ix ix_list (pv 7) (pv 9) (fun _ _ => rfl)))) (pa_cons pe_int (pa_cons pe_int pa_nil))))))))) (pss_one (ps_ret pe_bl))
    pss_nil)
    (pss_one (ps_if (pt_not (pt_val (pc_call C__law_in_terms (hr.mono (by first | decide | omega)) pass0 (pa_cons (pe_ix ix_list (pv 7) (pv 9) (fun _ _ => rfl)) (pa_cons (pe_ix ix_tup (pe_ix ix_list (pv 2) (pv 9) (fun _ _ => rfl)) pe_int (fun _ _ => rfl)) (pa_cons (pe_ix ix_tup (pe_ix ix_list (pv 2) (pv 9) (fun _ _ => rfl)) pe_int (fun _ _ => rfl)) pa_nil)))))) (pss_one (ps_ret pe_bl))
    pss_nil)))
    pss_nil)))))
    (pss_one (ps_ret pe_bl)))))))))))), ?_⟩
    refine ⟨_, rfl, a, ns0, rfl, hS, fun s c H1 _ _ S1 e1 => ?_⟩
    refine ⟨Nat.zero_le _, fun l nl => ?_⟩
    have nls := S1.apart nl
    refine ⟨3, rfl, by decide, by decide, for_range (lo := 0) (n := 3) (fun i σ' H' => ∃ (xs : List V) (v3 v4 v5 : Option V), σ' = [some (.ref a), some (.ref s), some (.ref l), v3, v4, v5, none, none, none, none, none, none] ∧ Src H' s c ∧ H' l = some (.lst xs) ∧ xs.length = i ∧ PairsAt H' xs) ⟨[], _, _, _, rfl, S1.new nl, upd_same, rfl, fun j x z => by simp at z⟩ ?_ ?_⟩
    · rintro i σ' H2 hi ⟨xs, v3, v4, v5, rfl, S2, hl, hlen, hP⟩
      refine ⟨_, rfl, s, c, rfl, S2, fun t H3 t1 t2 S3 e3 => ?_⟩
      refine ⟨_, rfl, s, c, rfl, S3, fun b0 H4 b1 b2 S4 e4 => ?_⟩
      have hP := (hP.but S2 e3).but S3 e4
      have hl := e4 _ _ (S3.neL (e3 _ _ (S2.neL hl) hl)) (e3 _ _ (S2.neL hl) hl)
      refine ⟨fun σ' H' => H' = H4 ∧ ∃ b : Int, σ' = [some (.ref a), some (.ref s), some (.ref l), some (.int (0 + (i : Int))), some (.int t), some (.int b), none, none, none, none, none, none] ∧ b.natAbs < 2 ^ 68 ∧ b ≠ 0, ?_, ?_⟩
      · refine ⟨_, rfl, rfl, _, rfl, ifI (fun h1 => ?_) (fun h1 => ?_)⟩
        · exact ⟨rfl, 1, rfl, by decide, by decide⟩
        · exact ⟨rfl, b0, rfl, two_pow67 b1 b2, h1⟩
      · rintro σ' H' ⟨rfl, b, rfl, bb, hb0⟩
        refine ⟨_, rfl, .inl ⟨rfl, _, SqL.of hl⟩, _, rfl, _, rfl, by show 2 ≤ sizeLine; decide, fun o no => ?_⟩
        have hl2 : (upd H' o (.tup [.int t, .int b])) l = some (.lst xs) := by rw [upd_ne (ne_of_none hl no)]; exact hl
        refine ⟨l, xs, _, rfl, rfl, hl2, szl (by omega), ?_⟩
        have P2 : PairsAt (upd H' o (.tup [.int t, .int b])) (xs ++ [.ref o]) := fun j x hx => by
          rcases Nat.lt_or_ge j xs.length with h | h
          · rw [List.getElem?_append_left h] at hx
            exact (hP.same (same_new (Same.refl H') no)) j x hx
          · rw [List.getElem?_append_right h] at hx
            cases q : j - xs.length with
            | zero =>
              rw [q] at hx
              cases hx
              exact ⟨o, t, b, rfl, upd_same, two_pow67 t1 t2, bb, hb0⟩
            | succ n =>
              rw [q] at hx
              simp at hx
        exact ⟨xs ++ [.ref o], _, _, _, rfl, (S4.new no).put nls.1 nls.2, upd_same, by rw [List.length_append, hlen]; rfl, P2.lst hl2⟩
    · rintro σ' H2 ⟨xs, v3, v4, v5, rfl, S2, hl, hlen, hP⟩
      refine ⟨_, rfl, s, c, 6, rfl, S2, by decide, by decide, fun e H3 e1 e2 S3 e3 => ?_⟩
      have hP := hP.but S2 e3
      have hl := e3 _ _ nls.1 hl
      have at3 : ∀ j : Nat, j < 3 → ∃ x, xs[j]? = some x := fun j hj => ⟨_, List.getElem?_eq_getElem (by omega)⟩
      refine ⟨fun σ' H' => ∃ xs : List V, σ' = [some (.ref a), some (.ref s), some (.ref l), v3, v4, v5, some (.int e), none, none, none, none, none] ∧ H' l = some (.lst xs) ∧ xs.length = 3 ∧ PairsAt H' xs ∧ ∀ (j : Nat) (o : Addr) (t b : Int), (j : Int) = e → xs[j]? = some (.ref o) → H' o = some (.tup [.int t, .int b]) → b = 1, ?_, ?_⟩
      · refine ⟨_, rfl, _, _, rfl, rfl, _, rfl, ifD (fun h => ?_) (fun h => ?_)⟩
        · obtain ⟨x, hx⟩ := at3 e.toNat (by omega)
          obtain ⟨o, t, b, rfl, ho, bt, bb, b0⟩ := hP _ _ hx
          refine ⟨_, rfl, _, rfl, l, _, e, _, rfl, rfl, SqL.of hl, atNat hx (by omega), o, _, 0, _, rfl, rfl, SqT.of ho, rfl, by show 2 ≤ sizeLine; decide, fun o' no => ?_⟩
          have hl2 : (upd H3 o' (.tup [.int t, .int 1])) l = some (.lst xs) := by rw [upd_ne (ne_of_none hl no)]; exact hl
          have P2 : PairsAt (upd H3 o' (.tup [.int t, .int 1])) xs := hP.same (same_new (Same.refl H3) no)
          have nol : o' ≠ l := (ne_of_none hl no).symm
          have ex : ixN xs.length e = some e.toNat := by
            unfold ixN
            rw [if_pos e1, if_pos (by omega)]
          refine ⟨_, rfl, _, rfl, l, xs, e, e.toNat, rfl, rfl, hl2, ex, xs.set e.toNat (.ref o'), rfl, upd_same, by rw [List.length_set]; exact hlen, ?_, ?_⟩
          · intro j x hx
            by_cases q : j = e.toNat
            · subst q
              rw [List.getElem?_set_self (by omega)] at hx
              cases hx
              exact ⟨o', t, 1, rfl, by rw [upd_ne nol, upd_same], bt, by decide, by decide⟩
            · rw [List.getElem?_set_ne (by omega)] at hx
              exact (P2.lst hl2) j x hx
          · intro j o1 t1 b1 hj hx ho1
            have q : j = e.toNat := by omega
            subst q
            rw [List.getElem?_set_self (by omega)] at hx
            cases hx
            rw [upd_ne nol, upd_same] at ho1
            cases ho1
            rfl
        · exact ⟨xs, rfl, hl, hlen, hP, fun j o t b hj hx => by
            have : j < xs.length := (List.getElem?_eq_some_iff.mp hx).1
            omega⟩
      · rintro σ' H4 ⟨xs, rfl, hl, hlen, hP, h1⟩
        have at3 : ∀ j : Nat, j < 3 → ∃ x, xs[j]? = some x := fun j hj => ⟨_, List.getElem?_eq_getElem (by omega)⟩
        refine ⟨_, rfl, l, rfl, ⟨_, SqL.of hl⟩, fun D nD => ?_⟩
        refine lc_it (walk_list (xs := xs)) (fun i H' => Same H4 H' ∧ ∃ vs : List V, H' D = some (.lst vs) ∧ vs.length = i ∧ ∀ (j : Nat) (v : V), vs[j]? = some v → ∃ (o : Addr) (t b p q : Int) (y : Addr), xs[j]? = some (.ref o) ∧ H' o = some (.tup [.int t, .int b]) ∧ v = .ref y ∧ Val K H' 68 v t b p q) ⟨same_new (Same.refl H4) nD, [], upd_same, rfl, fun j v z => by simp at z⟩ (fun i H' _ q => SqL.of (q.1 _ _ hl)) ?_ ?_
        · rintro i x H5 _ hi ⟨s5, vs, hD, hv, hvs⟩ ⟨rfl, hx⟩
          obtain ⟨o, t, b, rfl, ho, bt, bb, b0⟩ := hP.same s5 _ _ hx
          refine ⟨rfl, _, rfl, o, _, 0, _, rfl, rfl, SqT.of ho, rfl, _, rfl, o, _, 1, _, rfl, rfl, SqT.of ho, rfl, made b0 (lt8000 (lt1000 bb (by decide))) fun y p q H6 hy rt lp lq s6 _ => ?_⟩
          have ny : NRat K H6 y p q := ⟨hy, rt.pos, rt.one, by omega, by omega⟩
          have nDo : ∀ {o' : Addr} {ys : List V}, H6 o' = some (.tup ys) → o' ≠ D := fun h => ne_of h (s6 _ _ hD) (by intro z; cases z)
          refine ⟨vs, s6 _ _ hD, szl (by omega), same_mut (fun b o e => s6 _ _ (s5 _ _ e)) nD, vs ++ [.ref y], upd_same, by rw [List.length_append, hv]; rfl, fun j v hj => ?_⟩
          rcases Nat.lt_or_ge j vs.length with h | h
          · rw [List.getElem?_append_left h] at hj
            obtain ⟨o', t', b', p', q', y', hx', ho', rfl, val⟩ := hvs j v hj
            exact ⟨o', t', b', p', q', y', hx', by rw [upd_ne (nDo (s6 _ _ ho'))]; exact s6 _ _ ho', rfl, (val.same s6).lst (s6 _ _ hD)⟩
          · rw [List.getElem?_append_right h] at hj
            cases z : j - vs.length with
            | zero =>
              rw [z] at hj
              cases hj
              have : j = i := by omega
              subst this
              exact ⟨o, t, b, p, q, y, hx, by rw [upd_ne (nDo (s6 _ _ ho))]; exact s6 _ _ ho, rfl, (show Val K H6 68 (.ref y) t b p q from ⟨num_rat ny, rt, by omega, by omega, bt, bb, b0⟩).lst (s6 _ _ hD)⟩
            | succ n =>
              rw [z] at hj
              simp at hj
        · rintro H5 ⟨s5, vs, hD, hv, hvs⟩
          rw [hlen] at hv
          have hl5 := s5 _ _ hl
          have nlD : l ≠ D := ne_of_none hl nD
          have at4 : ∀ j : Nat, j < 3 → ∃ (o : Addr) (t b p q : Int) (y : Addr), xs[j]? = some (.ref o) ∧ H4 o = some (.tup [.int t, .int b]) ∧ H5 o = some (.tup [.int t, .int b]) ∧ o ≠ D ∧ vs[j]? = some (.ref y) ∧ Val K H5 68 (.ref y) t b p q := fun j hj => by
            obtain ⟨v, hvj⟩ : ∃ v, vs[j]? = some v := ⟨_, List.getElem?_eq_getElem (by omega)⟩
            obtain ⟨o, t, b, p, q, y, hx, ho, rfl, val⟩ := hvs j v hvj
            obtain ⟨o', t', b', e', ho', _⟩ := hP j _ hx
            cases e'
            have ho5 := s5 _ _ ho'
            rw [ho] at ho5
            cases ho5
            exact ⟨o, t, b, p, q, y, hx, ho', ho, ne_of_none ho' nD, hvj, val⟩
          refine ⟨fun σ' H' => ∃ vs : List V, σ' = [some (.ref a), some (.ref s), some (.ref l), v3, v4, v5, some (.int e), some (.ref D), none, none, none, none] ∧ TS K H' l D e xs vs, ?_, ?_⟩
          · refine ⟨_, rfl, _, _, rfl, rfl, _, rfl, ifD (fun h => ?_) (fun h => ?_)⟩
            · obtain ⟨o, t, b, p, q, y, hx, ho4, ho, no, hvy, val⟩ := at4 e.toNat (by omega)
              have eb : b = 1 := h1 e.toNat o t b (by omega) hx ho4
              have ex : ixN vs.length e = some e.toNat := by
                unfold ixN
                rw [if_pos e1, if_pos (by omega)]
              refine ⟨_, rfl, _, rfl, l, _, e, _, rfl, rfl, SqL.of hl5, atNat hx (by omega), o, _, 0, _, rfl, rfl, SqT.of ho, rfl, _, rfl, _, rfl, D, vs, e, e.toNat, rfl, rfl, hD, ex, vs.set e.toNat (.int t), rfl, by rw [upd_ne nlD]; exact hl5, upd_same, fun j hj => ?_⟩
              obtain ⟨o', t', b', p', q', y', hx', ho4', ho', no', hvy', val'⟩ := at4 j hj
              by_cases z : j = e.toNat
              · subst z
                rw [hx] at hx'
                cases hx'
                rw [ho] at ho'
                cases ho'
                subst eb
                refine ⟨o, t, 1, t, 1, .int t, hx, by rw [upd_ne no]; exact ho, by rw [List.getElem?_set_self (by omega)], ⟨.inr ⟨rfl, rfl⟩, ⟨by decide, Int.gcd_one, rfl⟩, val.lt, by decide, val.lt, by decide, by decide⟩, fun _ => ⟨rfl, rfl⟩, fun h => absurd (by omega) h⟩
              · exact ⟨o', t', b', p', q', .ref y', hx', by rw [upd_ne no']; exact ho', by rw [List.getElem?_set_ne (by omega)]; exact hvy', val'.lst hD, fun h => absurd h (by omega), fun _ => ⟨y', rfl⟩⟩
            · refine ⟨vs, rfl, hl5, hD, fun j hj => ?_⟩
              obtain ⟨o', t', b', p', q', y', hx', ho4', ho', no', hvy', val'⟩ := at4 j hj
              exact ⟨o', t', b', p', q', .ref y', hx', ho', hvy', val', fun h => absurd h (by omega), fun _ => ⟨y', rfl⟩⟩
          · rintro σ' H6 ⟨vs, rfl, ts⟩
            refine ⟨3, rfl, by decide, by decide, for_range (lo := 0) (n := 3) (fun i σ' H' => Same H6 H' ∧ ∃ v3 v9 v10 : Option V, σ' = [some (.ref a), some (.ref s), some (.ref l), v3, v4, v5, some (.int e), some (.ref D), none, v9, v10, none]) ⟨Same.refl H6, _, _, _, rfl⟩ ?_ ?_⟩
            · rintro j σ' H7 hj ⟨s7, v3, v9, v10, rfl⟩
              refine ⟨3, rfl, by decide, by decide, for_range (lo := 0) (n := 3) (fun i σ' H' => Same H6 H' ∧ ∃ v3 v10 : Option V, σ' = [some (.ref a), some (.ref s), some (.ref l), v3, v4, v5, some (.int e), some (.ref D), none, some (.int (0 + (j : Int))), v10, none]) ⟨s7, _, _, rfl⟩ ?_ ?_⟩
              · rintro k' σ' H8 hk ⟨s8, v3, v10, rfl⟩
                have ts := ts.same s8
                obtain ⟨oj, tj, bj, pj, qj, vj, xj, hoj, vvj, valj, cj, dj⟩ := ts.get j hj
                obtain ⟨ok, tk, bk, pk, qk, vk, xk, hok, vvk, valk, ck, dk⟩ := ts.get k' hk
                refine or_ne (i := 0 + (j : Int)) (j := 0 + (k' : Int)) (e := e) rfl rfl rfl ?_
                refine ifD (fun hne => ?_) (fun _ => ⟨s8, _, _, rfl⟩)
                have nn : ∀ i i' : Int, ¬ (vj = .int i ∧ vk = .int i') := fun i i' z => by
                  by_cases q : (j : Int) = e
                  · obtain ⟨y, hy⟩ := dk (by omega)
                    rw [hy] at z
                    exact V.noConfusion z.2
                  · obtain ⟨y, hy⟩ := dj q
                    rw [hy] at z
                    exact V.noConfusion z.1
                refine ⟨_, rfl, _, rfl, D, _, _, _, rfl, rfl, SqL.of ts.hD, atNat vvj (by omega), _, rfl, _, rfl, D, _, _, _, rfl, rfl, SqL.of ts.hD, atNat vvk (by omega), _, rfl, _, rfl, l, _, _, _, rfl, rfl, SqL.of ts.hl, atNat xj (by omega), _, rfl, _, rfl, l, _, _, _, rfl, rfl, SqL.of ts.hl, atNat xk (by omega), vj, vk, oj, ok, tj, bj, pj, qj, tk, bk, pk, qk, rfl, valj, valk, nn, hoj, hok, fun H9 s9 => ⟨_, rfl, iteF ?_⟩⟩
                have ts := ts.same s9
                have hoj := s9 _ _ hoj
                have hok := s9 _ _ hok
                have valj := valj.same s9
                have valk := valk.same s9
                have mj : Sm 68 tj bj tk bk := ⟨by decide, valj.lt, valj.lb, valk.lt, valk.lb⟩
                refine ⟨_, rfl, _, rfl, l, _, _, _, rfl, rfl, SqL.of ts.hl, atNat xj (by omega), oj, _, 0, _, rfl, rfl, SqT.of hoj, rfl, _, rfl, _, rfl, l, _, _, _, rfl, rfl, SqL.of ts.hl, atNat xk (by omega), ok, _, 1, _, rfl, rfl, SqT.of hok, rfl, _, _, rfl, rfl, mj.mul.1, _, rfl, _, rfl, l, _, _, _, rfl, rfl, SqL.of ts.hl, atNat xk (by omega), ok, _, 0, _, rfl, rfl, SqT.of hok, rfl, _, rfl, _, rfl, l, _, _, _, rfl, rfl, SqL.of ts.hl, atNat xj (by omega), oj, _, 1, _, rfl, rfl, SqT.of hoj, rfl, _, _, rfl, rfl, mj.mul.2.1, rfl, ?_⟩
                have nxt : Same H6 H9 := fun b o e' => s9 _ _ (s8 _ _ e')
                have vne : ∀ {i i' : Int}, i ≠ i' → (!decide (V.int i = V.int i')) = true := fun h => by rw [decide_eq_false fun z => h (V.int.inj z)]; rfl
                have veq : ∀ {i i' : Int}, i = i' → (!decide (V.int i = V.int i')) = false := fun h => by rw [decide_eq_true (congrArg V.int h)]; rfl
                by_cases ej : (j : Int) = e
                · obtain ⟨rfl, rfl⟩ := cj ej
                  obtain ⟨yk, rfl⟩ := dk (by omega)
                  rcases valk.num with ⟨y', hy', nk⟩ | ⟨z, _⟩
                  · cases hy'
                    refine ⟨_, rfl, _, rfl, D, _, _, _, rfl, rfl, SqL.of ts.hD, atNat vvj (by omega), _, rfl, _, rfl, D, _, _, _, rfl, rfl, SqL.of ts.hD, atNat vvk (by omega), .inr (.inr ⟨tj, rfl, nk.ins, .inr ⟨yk, pk, qk, tj, rfl, nk, _, rfl, _, rfl, ?_⟩⟩)⟩
                    refine ifI (fun _ => ⟨_, rfl, _, rfl, rfl, _, rfl, ifF (veq (by omega)) ⟨false, rfl, _, rfl, iteF ⟨nxt, _, _, rfl⟩⟩⟩) (fun _ => ⟨false, rfl, _, rfl, iteF ⟨nxt, _, _, rfl⟩⟩)
                  · cases z
                · obtain ⟨yj, rfl⟩ := dj ej
                  rcases valj.num with ⟨y', hy', nj⟩ | ⟨z, _⟩
                  · cases hy'
                    by_cases ek : (k' : Int) = e
                    · obtain ⟨rfl, rfl⟩ := ck ek
                      refine ⟨_, rfl, _, rfl, D, _, _, _, rfl, rfl, SqL.of ts.hD, atNat vvj (by omega), _, rfl, _, rfl, D, _, _, _, rfl, rfl, SqL.of ts.hD, atNat vvk (by omega), .inr (.inl ⟨tk, nj.ins, rfl, .inr ⟨yj, pj, qj, tk, rfl, nj, _, rfl, _, rfl, ?_⟩⟩)⟩
                      refine ifI (fun _ => ⟨_, rfl, _, rfl, rfl, _, rfl, ifT (vne (by omega)) ⟨_, rfl, _, rfl, rfl, false, by rw [veq (by omega)]; rfl, _, rfl, iteF ⟨nxt, _, _, rfl⟩⟩⟩) (fun _ => ⟨false, rfl, _, rfl, iteF ⟨nxt, _, _, rfl⟩⟩)
                    · obtain ⟨yk, rfl⟩ := dk ek
                      rcases valk.num with ⟨y', hy', nk⟩ | ⟨z, _⟩
                      · cases hy'
                        have ce := cross_eq valj.rt valk.rt valj.b0 valk.b0
                        refine ⟨_, rfl, _, rfl, D, _, _, _, rfl, rfl, SqL.of ts.hD, atNat vvj (by omega), _, rfl, _, rfl, D, _, _, _, rfl, rfl, SqL.of ts.hD, atNat vvk (by omega), .inl ⟨nj.ins, nk.ins, .inl ⟨yj, yk, pj, qj, pk, qk, rfl, nj, nk, _, rfl, _, rfl, ?_⟩⟩⟩
                        refine ifI (fun h => ⟨_, rfl, _, rfl, rfl, _, rfl, ifT (vne (by omega)) ⟨_, rfl, _, rfl, rfl, true, by rw [vne (by omega), decide_eq_true (ce.mpr h)]; rfl, _, rfl, iteF ⟨nxt, _, _, rfl⟩⟩⟩) (fun h => ⟨false, by rw [decide_eq_false fun z => h (ce.mp z)]; rfl, _, rfl, iteF ⟨nxt, _, _, rfl⟩⟩)
                      · cases z
                  · cases z
              · rintro σ' H8 ⟨s8, v3, v10, rfl⟩
                exact ⟨s8, _, _, _, rfl⟩
            · rintro σ' H7 ⟨s7, v3, v9, v10, rfl⟩
              have ts := ts.same s7
              obtain ⟨o0, t0, b0, p0, q0, v0, x0, h0, w0, val0, c0, d0⟩ := ts.get 0 (by decide)
              obtain ⟨o1, t1, b1, p1, q1, v1, x1, h1, w1, val1, c1, d1⟩ := ts.get 1 (by decide)
              obtain ⟨o2, t2, b2, p2, q2, v2, x2, h2, w2, val2, c2, d2⟩ := ts.get 2 (by decide)
              have two : ∀ (v v' : V) (j k : Int), j ≠ k → (j ≠ e → ∃ y, v = .ref y) → (k ≠ e → ∃ y, v' = .ref y) → ∀ i i' : Int, ¬ (v = .int i ∧ v' = .int i') := by
                intro v v' j k hjk hd hd' i i' z
                by_cases q : j = e
                · obtain ⟨y, hy⟩ := hd' (fun z => hjk (q.trans z.symm))
                  rw [hy] at z
                  exact V.noConfusion z.2
                · obtain ⟨y, hy⟩ := hd q
                  rw [hy] at z
                  exact V.noConfusion z.1
              have exs : xs = [.ref o0, .ref o1, .ref o2] := by
                match xs, hlen, x0, x1, x2 with
                | [a, b, c], _, h0, h1, h2 =>
                  simp at h0 h1 h2
                  rw [h0, h1, h2]
              refine ⟨_, rfl, D, _, 0, _, rfl, rfl, SqL.of ts.hD, atNat w0 rfl, _, rfl, D, _, 1, _, rfl, rfl, SqL.of ts.hD, atNat w1 rfl, _, rfl, D, _, 2, _, rfl, rfl, SqL.of ts.hD, atNat w2 rfl, _, rfl, ?_⟩
              refine ⟨v0, v1, v2, l, o0, o1, o2, t0, b0, p0, q0, t1, b1, p1, q1, t2, b2, p2, q2, rfl, val0, val1, val2, two _ _ 0 1 (by decide) d0 d1, two _ _ 1 2 (by decide) d1 d2, two _ _ 0 2 (by decide) d0 d2, by rw [ts.hl, exs], h0, h1, h2, fun H8 s8 => ⟨_, rfl, iteF ?_⟩⟩
              have ts := ts.same s8
              refine ⟨3, rfl, by decide, by decide, for_range (lo := 0) (n := 3) (fun i σ' H' => Same H8 H' ∧ ∃ v9 v11 : Option V, σ' = [some (.ref a), some (.ref s), some (.ref l), v3, v4, v5, some (.int e), some (.ref D), none, v9, v10, v11]) ⟨Same.refl H8, _, _, rfl⟩ ?_ ?_⟩
              · rintro j σ' H9 hj ⟨s9, v9, v11, rfl⟩
                have ts := ts.same s9
                obtain ⟨oj, tj, bj, pj, qj, vj, xj, hoj, vvj, valj, cj, dj⟩ := ts.get j hj
                have gt : Rt tj 1 tj 1 := ⟨by decide, Int.gcd_one, rfl⟩
                have lt := lt1000 valj.lt (by decide)
                refine ⟨_, rfl, _, rfl, l, _, _, _, rfl, rfl, SqL.of ts.hl, atNat xj (by omega), oj, _, 0, _, rfl, rfl, SqT.of hoj, rfl, _, rfl, madeU gt (by decide) (by decide) lt fun y H10 ny s10 _ => ⟨_, rfl, .inr (.inl ⟨tj, ny.ins, rfl, .inr ⟨y, tj, 1, tj, rfl, ny, false, rfl, _, rfl, iteF ?_⟩⟩)⟩⟩
                refine ⟨_, rfl, _, rfl, madeU gt (by decide) (by decide) lt fun y H11 ny s11 _ => .inr (.inr ⟨tj, rfl, ny.ins, .inr ⟨y, tj, 1, tj, rfl, ny, false, rfl, _, rfl, iteF ?_⟩⟩)⟩
                have ts := (ts.same s10).same s11
                have hoj := s11 _ _ (s10 _ _ hoj)
                have nxt : Same H8 H11 := fun b o e' => s11 _ _ (s10 _ _ (s9 _ _ e'))
                have valj := (valj.same s10).same s11
                refine ⟨_, rfl, _, rfl, rfl, _, rfl, ifN (fun h => ?_) (fun _ => ⟨nxt, _, _, rfl⟩)⟩
                obtain ⟨yj, rfl⟩ := dj (by omega)
                rcases valj.num with ⟨y', hy', nj⟩ | ⟨z, _⟩
                · cases hy'
                  have lb : bj.natAbs < 2 ^ 270 := by have := valj.lb; omega
                  refine ⟨_, rfl, rfl, _, rfl, ifN (fun h0 => ?_) (fun _ => ?_)⟩
                  · obtain ⟨dx, hx⟩ := nj.is
                    have p0 : pj ≠ 0 := fun z => h0 ((rt_zero valj.rt valj.b0).mp z)
                    have np := nj.pos
                    have li : (invT pj qj).natAbs < 2 ^ 68 := by
                      have := valj.lq
                      unfold invT
                      split <;> omega
                    refine ⟨_, rfl, _, rfl, D, _, _, _, rfl, rfl, SqL.of ts.hD, atNat vvj (by omega), _, rfl, _, rfl, D, _, _, _, rfl, rfl, SqL.of ts.hD, atNat vvj (by omega), yj, dx, _, rfl, hx, rfl, yj, pj, qj, rfl, nj, fun z => absurd z p0, fun _ z H12 nz s12 => ?_⟩
                    refine any_op c_mul (num_rat (nj.same s12)) (num_rat nz) (fun i i' z => V.noConfusion z.1) (n := 68) ⟨by decide, valj.lp, valj.lq, li, by rw [Int.natAbs_natCast]; exact valj.lp⟩ fun u H13 r s' nu rt l1 l2 s13 => ?_
                    have q0 : qj * (pj.natAbs : Int) ≠ 0 := fun z => (Int.mul_eq_zero.mp z).elim (fun z => by omega) (fun z => by omega)
                    have e1 : fMul pj qj (invT pj qj) (pj.natAbs : Int) * 1 = 1 * (qj * (pj.natAbs : Int)) := by
                      unfold fMul invT
                      rw [Int.mul_one, Int.one_mul, Int.mul_comm qj]
                      split
                      · rw [show (pj.natAbs : Int) = -pj by omega, Int.mul_neg, Int.neg_mul]
                      · rw [show (pj.natAbs : Int) = pj by omega]
                    refine ⟨u, 1, 1, r, s', rfl, nu, rt_same rt q0 e1, by decide, by decide, by decide, _, rfl, iteF ?_⟩
                    have ts := (ts.same s12).same s13
                    have hoj := s13 _ _ (s12 _ _ hoj)
                    exact ⟨_, rfl, _, rfl, D, _, _, _, rfl, rfl, SqL.of ts.hD, atNat vvj (by omega), _, rfl, _, rfl, l, _, _, _, rfl, rfl, SqL.of ts.hl, atNat xj (by omega), oj, _, 0, _, rfl, rfl, SqT.of hoj, rfl, _, rfl, _, rfl, l, _, _, _, rfl, rfl, SqL.of ts.hl, atNat xj (by omega), oj, _, 1, _, rfl, rfl, SqT.of hoj, rfl, yj, tj, bj, pj, qj, rfl, (nj.same s12).same s13, valj.rt, lt, lb, valj.b0, _, rfl, iteF ⟨fun b o e' => s13 _ _ (s12 _ _ (nxt _ _ e')), _, _, rfl⟩⟩
                  · exact ⟨_, rfl, _, rfl, D, _, _, _, rfl, rfl, SqL.of ts.hD, atNat vvj (by omega), _, rfl, _, rfl, l, _, _, _, rfl, rfl, SqL.of ts.hl, atNat xj (by omega), oj, _, 0, _, rfl, rfl, SqT.of hoj, rfl, _, rfl, _, rfl, l, _, _, _, rfl, rfl, SqL.of ts.hl, atNat xj (by omega), oj, _, 1, _, rfl, rfl, SqT.of hoj, rfl, yj, tj, bj, pj, qj, rfl, nj, valj.rt, lt, lb, valj.b0, _, rfl, iteF ⟨nxt, _, _, rfl⟩⟩
                · cases z
              · rintro σ' H9 _
                exact k H9
end
abbrev R : PySem.W.OpenRow := PySem.W.OpenLaw.row PySem.Challenge.rw_mostsalike_k03_whole_ratio_arithmetic
abbrev hk : PySem.W.Hook := hookX 6 fa fn xbK
def ob (s : PySem.W.SharedT) : He.AlD × Bool := obsX 6 fa fn xbK (HandSHeadRun.getT s)
theorem ob_eq (s : PySem.W.SharedT) : ob s = hk.obs s.abs := obsX_eq (HandSHeadRun.getT_eq s)
theorem run (w : World) : HandSHeadRun.RunEq R (PySem.W.view R.prog [20]) hk ob 20000 [("_wall" : Str), ("MostsError" : Str), ("ZeroBottom" : Str), ("is_integer" : Str), ("greatest_divisor" : Str), ("whole_quotient" : Str), ("Ratio" : Str), ("_law_source" : Str), ("_law_draw" : Str), ("_law_number" : Str), ("_law_divisor" : Str), ("_law_whole" : Str), ("_law_truth" : Str), ("_law_in_terms" : Str), ("_law_two_due" : Str), ("_law_rules" : Str)] w := by
  intro os
  kernel_rfl
end My
open PySem PySem.W PySem.Calls PyProof.Rows
theorem PySem.Challenge.cw_mostsalike_k03_whole_ratio_arithmetic_holds : PySem.Challenge.rw_mostsalike_k03_whole_ratio_arithmetic.Holds := by
  w_on; o_law
  refine HandSHeadRun.head_any (r := OpenLaw.row PySem.Challenge.rw_mostsalike_k03_whole_ratio_arithmetic) (q := view (OpenLaw.row PySem.Challenge.rw_mostsalike_k03_whole_ratio_arithmetic).prog [20]) (H := My.hk) (ob := My.ob) (M := 20000) (loose := [("_wall" : Str), ("MostsError" : Str), ("ZeroBottom" : Str), ("is_integer" : Str), ("greatest_divisor" : Str), ("whole_quotient" : Str), ("Ratio" : Str), ("_law_source" : Str), ("_law_draw" : Str), ("_law_number" : Str), ("_law_divisor" : Str), ("_law_whole" : Str), ("_law_truth" : Str), ("_law_in_terms" : Str), ("_law_two_due" : Str), ("_law_rules" : Str)]) (d := HandSHeadRun.topDef (OpenLaw.row PySem.Challenge.rw_mostsalike_k03_whole_ratio_arithmetic).prog 20) (kwd := []) My.ob_eq
    (by kernel_rfl) (fun s => by kernel_rfl) My.run (by kernel_rfl) (by kernel_rfl) (by kernel_rfl) (by rfl) (by first | assumption | decide +kernel) (by decide +kernel) ⟨rfl, rfl, rfl, rfl, rfl, by decide +kernel⟩ ?hw ?hc
  case hw => w_witness2
  case hc =>
    refine L2.walk_ofE (l := PySem.Challenge.rw_mostsalike_k03_whole_ratio_arithmetic) (n := 63) (k := 9) (x := "script") (CX := L2.CX0) rfl (by decide) (by kernel_rfl) ⟨rfl, by decide, by decide⟩ ?F (fun _ _ _ _ z => z)
    intro w mg fa h Y G hmg0
    obtain ⟨K, KX, c, xb⟩ := Y
    have hmg : mg ("law" : PySem.Str) = some (.ref fa) := by
      have e : (HandSHeadRun.topDef (OpenLaw.row PySem.Challenge.rw_mostsalike_k03_whole_ratio_arithmetic).prog 20).name = ("law" : PySem.Str) := by kernel_rfl
      rw [← e]
      exact hmg0
    have T : My.Txt K mg := ⟨⟨h, KX, G⟩, c, xb⟩
    have e := hmg.symm.trans T.g_law
    cases e
    obtain ⟨fd, F⟩ := T.F_law
    exact ⟨K, fd, My.spLaw K, KX, fun s v => L2.FunD.bindsA (ps := ["script"]) F (fun _ _ _ _ _ _ us hl => match us, hl with | [_], _ => rfl) s [v] rfl, fun H a ns _ _ hS => ⟨a, ns, rfl, hS, fun _ => rfl⟩, fun base _ _ => My.ok_law T F⟩
