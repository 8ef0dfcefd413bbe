import PyProof.Rows.All
import Wide.All
import OpenK.AllK
import Wide.FinOn
import HandS.ForMost
import HandS.Exc
import HandS.Defaults
import HandS.Wide
import HandS.IsInst
import HandS.DictComp
import HandS.Strs
import HandS.Codes
import HandS.SortInts
import HandS.TupAny
import HandS.WordsExc
import HandS.ExcOwn
import HandS.Head0
import HandS.Head1
import HandS.Head2
import HandS.HeadEnd
import HandS.HeadHook1
import HandS.HeadHook2
import HandS.Walk
import HandS.SetFor
import PySem.Challenge.RW_mostsalike_k24_ranks
set_option Elab.async false
set_option linter.all false
set_option maxRecDepth 100000
set_option maxHeartbeats 4000000
/-! our own base: calls by bundled facts, heaps, the source of draws -/
namespace My
open PySem PySem.Spec PyProof.Rows L2

/-! ### defs that may be called -/
section
variable (P : Program) (w : World) (K : PySem.W.Frag) (mg : Str → Option Value) (base : Heap) (CX : CXT) (k : Nat)
structure Cal (x : Str) (ps : List Str) (dvs : List V) (sp : Sp) : Prop where
  ex : ∃ f fd ds, mg x = some (.ref f) ∧ PySem.W.keepIn K (.ref f) = true ∧ FnOk P w K mg base CX k f fd ps sp ∧ Binds K fd ps ds ∧ Vals dvs ds
structure CalM (C : Addr) (m : Str) (ps : List Str) (dvs : List V) (sp : Sp) : Prop where
  c : Cls K C
  ex : ∃ f fd ds, Meth K C m f ∧ FnOk P w K mg base CX k f fd ps sp ∧ Binds K fd ps ds ∧ Vals dvs ds
structure CalI (x : Str) (C : Addr) (ps : List Str) (dvs : List V) (sp : Sp) : Prop where
  g : mg x = some (.ref C)
  ex : ∃ f fd ds, Mk K C f ∧ FnOk P w K mg base CX k f fd ps sp ∧ Binds K fd ps ds ∧ Vals dvs ds
end
section
variable {X : Cx} {CX : CXT} {k : Nat} {C : Addr} {ps : List Str} {sp : Sp} {dvs : List V} {E : XK} {x m : Str} {p pos apos : Pos} {e o : Expr} {es : List Expr} {ta : TE} {t : TA}
theorem pc_call (c : Cal X.prog X.w X.K X.mg X.base CX k x ps dvs sp) (hr : Room k X.A) (hx : Passes CX X E) (ha : PA X (e :: es) t) (hg : Gl X x := by rfl) (hdb : (x == ("__debug__" : Str)) = false := by decide)
    (he : starEach (e :: es) X.env = (false, eval e X.env) :: starEach es X.env := by rfl) (hpl : (backTo pos (starEach es X.env)).any (·.1) = false := by rfl) : PE X (.Call (.Name x p) (e :: es) [] pos) (tCall sp dvs E t) := by
  obtain ⟨f, fd, ds, h1, h2, F, b, v⟩ := c.ex
  exact pe_call F hr hg h1 h2 b v hx ha hdb he hpl
theorem pc_meth {pl : Sem Bool} (c : CalM X.prog X.w X.K X.mg X.base CX k C m ps dvs sp) (hr : Room k X.A) (hx : Passes CX X E) (ho : PE X o ta) (ha : PA X (e :: es) t)
    (hst : starEach (e :: es) X.env = (false, eval e X.env) :: starEach es X.env := by rfl) (hpl : (backTo pos (starEach es X.env)).any (·.1) = false := by rfl)
    (ht : eval (.Call (.Attribute o m apos) (e :: es) [] pos) X.env = (do
      let ov ← eval o X.env
      standAt apos.atName
      let (f, first) ← holding [ov] (getMethod ov m pl)
      callWith pos f first (backTo pos (starEach (e :: es) X.env)) (backToKw pos (keywordEach [] X.env))) := by rfl) :
    PE X (.Call (.Attribute o m apos) (e :: es) [] pos) (tMeth C m sp dvs E ta t) := by
  obtain ⟨f, fd, ds, h1, F, b, v⟩ := c.ex
  exact pe_meth ho c.c h1 F hr b v hx ha hst hpl ht
theorem pc_meth0 {pl : Sem Bool} (c : CalM X.prog X.w X.K X.mg X.base CX k C m ps dvs sp) (hr : Room k X.A) (hx : Passes CX X E) (ho : PE X o ta)
    (ht : eval (.Call (.Attribute o m apos) [] [] pos) X.env = (do
      let ov ← eval o X.env
      standAt apos.atName
      let (f, first) ← holding [ov] (getMethod ov m pl)
      callWith pos f first (backTo pos (starEach [] X.env)) (backToKw pos (keywordEach [] X.env))) := by rfl) :
    PE X (.Call (.Attribute o m apos) [] [] pos) (tMeth C m sp dvs E ta tNil) := by
  obtain ⟨f, fd, ds, h1, F, b, v⟩ := c.ex
  exact pe_meth0 ho c.c h1 F hr b v hx ht
theorem pc_make (c : CalI X.prog X.w X.K X.mg X.base CX k x C ps dvs sp) (hr : Room (k + 1) X.A) (hx : Passes CX X E) (ha : PA X (e :: es) t) (hg : Gl X x := by rfl) (hdb : (x == ("__debug__" : Str)) = false := by decide)
    (he : starEach (e :: es) X.env = (false, eval e X.env) :: starEach es X.env := by rfl) (hpl : (backTo pos (starEach es X.env)).any (·.1) = false := by rfl) : PE X (.Call (.Name x p) (e :: es) [] pos) (tMake C sp dvs E t) := by
  obtain ⟨f, fd, ds, h1, F, b, v⟩ := c.ex
  exact pe_make h1 F hr hg c.g b v hx ha hdb he hpl
end

section
variable {P : Program} {w : World} {K : PySem.W.Frag} {mg : Str → Option Value} {base : Heap}
theorem Cal.of {CX : CXT} {k : Nat} {x q : Str} {ps : List Str} {sp : Sp} {pa : Arguments} {bd : List Stmt} {sc : Scope} {kws : List (Str × V)} {f : Addr} (F : ∃ fd, FunD K x q pa bd sc [] kws f fd) (hm : mg x = some (.ref f))
    (ok : ∀ fd, FunD K x q pa bd sc [] kws f fd → FnOk P w K mg base CX k f fd ps sp)
    (hb : ∀ (kV doc pm : Value) (an : Option Addr) (cdv ct : Value) (us : List Value), us.length = ps.length → bindArgs (PySem.W.fnOf x q pa bd sc .none kV doc pm an cdv ct) ⟨us, []⟩ = pure (ps.zip us)) : Cal P w K mg base CX k x ps [] sp := by
  obtain ⟨fd, F⟩ := F
  exact ⟨f, fd, [], hm, F.kp, ok fd F, F.bindsN hb, .nil⟩
end

/-! ### heaps -/
/-- what was tracked stands, but at s -/
def But (s : Addr) (H H' : Hp) : Prop := ∀ b o, b ≠ s → H b = some o → H' b = some o
theorem But.refl {s : Addr} (H : Hp) : But s H H := fun _ _ _ e => e
theorem But.trans {s : Addr} {H H1 H2 : Hp} (a : But s H H1) (b : But s H1 H2) : But s H H2 := fun c o n e => b c o n (a c o n e)
theorem But.seq {s : Addr} {K : PySem.W.Frag} {H H' : Hp} {a : Addr} {xs : List V} (e : But s H H') (n : a ≠ s) (h : SqL K H a xs) : SqL K H' a xs := by
  rcases h with (h | ⟨o, h⟩) | h
  · exact .inl (.inl (e _ _ n h))
  · exact .inl (.inr ⟨o, e _ _ n h⟩)
  · exact .inr h
theorem But.tup {s : Addr} {K : PySem.W.Frag} {H H' : Hp} {a : Addr} {xs : List V} (e : But s H H') (n : a ≠ s) (h : SqT K H a xs) : SqT K H' a xs := by
  rcases h with (h | ⟨o, h⟩) | h
  · exact .inl (.inl (e _ _ n h))
  · exact .inl (.inr ⟨o, e _ _ n h⟩)
  · exact .inr h
theorem But.upd {s : Addr} {H : Hp} {o : HO} : But s H (upd H s o) := fun b u n e => by rw [upd_ne n]; exact e
theorem But.new {s p : Addr} {H H' : Hp} {o : HO} (e : But s H H') (hp : H' p = none) (hs : ∃ u, H' s = some u) : But s H (L2.upd H' p o) := fun b u n x => by
  have q := e b u n x
  rw [upd_ne (ne_of_none q hp)]
  exact q
theorem same_new {p : Addr} {H H' : Hp} {o : HO} (e : Same H H') (hp : H' p = none) : Same H (L2.upd H' p o) := fun b u x => by
  rw [upd_ne (ne_of_none (e b u x) hp)]
  exact e b u x
/-- an object that H does not know is changed -/
theorem same_mut {p : Addr} {H H' : Hp} {o : HO} (e : Same H H') (hp : H p = none) : Same H (L2.upd H' p o) := fun b u x => by
  rw [upd_ne (ne_of_none x hp)]
  exact e b u x
theorem But.mut {s p : Addr} {H H' : Hp} {o : HO} (e : But s H H') (hp : H p = none) : But s H (L2.upd H' p o) := fun b u n x => by
  rw [upd_ne (ne_of_none x hp)]
  exact e b u n x
theorem But.same {s : Addr} {H H' : Hp} (e : Same H H') : But s H H' := fun b o _ x => e b o x
theorem same_tup {K : PySem.W.Frag} {H H' : Hp} {a : Addr} {xs : List V} (e : Same H H') (h : SqT K H a xs) : SqT K H' a xs := by
  rcases h with (h | ⟨o, h⟩) | h
  · exact .inl (.inl (e _ _ h))
  · exact .inl (.inr ⟨o, e _ _ h⟩)
  · exact .inr h
theorem But.free {s p : Addr} {H H' : Hp} (e : But s H H') (n : p ≠ s) (h : H' p = none) : H p = none := by
  cases q : H p with
  | none => rfl
  | some o =>
    rw [e p o n q] at h
    cases h
theorem sl_of {K : PySem.W.Frag} {H : Hp} {a : Addr} {xs : List V} (h : H a = some (.lst xs)) : SqL K H a xs := SqL.of h
theorem sz {n : Nat} (h : n ≤ 100000) : n ≤ sizeLine := Nat.le_trans h (by decide)
theorem szl {n : Nat} (h : n < 100000) : n < sizeLine := Nat.lt_of_lt_of_le h (by decide)

/-! ### the source of draws -/
def srcK (c : Addr) (at_ left mixed seed : Int) : List (Key × V) := [(.inr "cells", .ref c), (.inr "at", .int at_), (.inr "left", .int left), (.inr "mixed", .int mixed), (.inr "seed", .int seed)]
structure Src (H : Hp) (s c : Addr) : Prop where
  ex : ∃ (ns : List Int) (at_ left mixed seed : Int), H s = some (.dK (srcK c at_ left mixed seed)) ∧ H c = some (.lst (ns.map V.int)) ∧ 0 ≤ at_
theorem kne : (Sum.inr "cells" : Key) ≠ .inr "at" ∧ (Sum.inr "cells" : Key) ≠ .inr "left" ∧ (Sum.inr "cells" : Key) ≠ .inr "mixed" ∧ (Sum.inr "cells" : Key) ≠ .inr "seed" ∧ (Sum.inr "at" : Key) ≠ .inr "left" ∧ (Sum.inr "at" : Key) ≠ .inr "mixed" ∧
    (Sum.inr "at" : Key) ≠ .inr "seed" ∧ (Sum.inr "left" : Key) ≠ .inr "mixed" ∧ (Sum.inr "left" : Key) ≠ .inr "seed" ∧ (Sum.inr "mixed" : Key) ≠ .inr "seed" := by decide +kernel
theorem src_cells {c : Addr} {a l m d : Int} : valV (srcK c a l m d) (.inr "cells") = some (.ref c) := by
  unfold srcK; rw [valV_pos rfl]
theorem src_at {c : Addr} {a l m d : Int} : valV (srcK c a l m d) (.inr "at") = some (.int a) := by
  obtain ⟨h1, h2, h3, h4, h5, h6, h7, h8, h9, h10⟩ := kne
  unfold srcK; rw [valV_neg h1, valV_pos rfl]
theorem src_left {c : Addr} {a l m d : Int} : valV (srcK c a l m d) (.inr "left") = some (.int l) := by
  obtain ⟨h1, h2, h3, h4, h5, h6, h7, h8, h9, h10⟩ := kne
  unfold srcK; rw [valV_neg h2, valV_neg h5, valV_pos rfl]
theorem src_mixed {c : Addr} {a l m d : Int} : valV (srcK c a l m d) (.inr "mixed") = some (.int m) := by
  obtain ⟨h1, h2, h3, h4, h5, h6, h7, h8, h9, h10⟩ := kne
  unfold srcK; rw [valV_neg h3, valV_neg h6, valV_neg h8, valV_pos rfl]
theorem src_seed {c : Addr} {a l m d : Int} : valV (srcK c a l m d) (.inr "seed") = some (.int d) := by
  obtain ⟨h1, h2, h3, h4, h5, h6, h7, h8, h9, h10⟩ := kne
  unfold srcK; rw [valV_neg h4, valV_neg h7, valV_neg h9, valV_neg h10, valV_pos rfl]
theorem put_at {c : Addr} {a l m d x : Int} : putK (srcK c a l m d) (.inr "at") (.int x) = srcK c x l m d := by
  obtain ⟨h1, h2, h3, h4, h5, h6, h7, h8, h9, h10⟩ := kne
  unfold putK srcK
  simp [h1, h5.symm, h6.symm, h7.symm]
theorem put_left {c : Addr} {a l m d x : Int} : putK (srcK c a l m d) (.inr "left") (.int x) = srcK c a x m d := by
  obtain ⟨h1, h2, h3, h4, h5, h6, h7, h8, h9, h10⟩ := kne
  unfold putK srcK
  simp [h2, h5, h8.symm, h9.symm]
theorem put_mixed {c : Addr} {a l m d x : Int} : putK (srcK c a l m d) (.inr "mixed") (.int x) = srcK c a l x d := by
  obtain ⟨h1, h2, h3, h4, h5, h6, h7, h8, h9, h10⟩ := kne
  unfold putK srcK
  simp [h3, h6, h8, h10.symm]
theorem put_seed {c : Addr} {a l m d x : Int} : putK (srcK c a l m d) (.inr "seed") (.int x) = srcK c a l m x := by
  obtain ⟨h1, h2, h3, h4, h5, h6, h7, h8, h9, h10⟩ := kne
  unfold putK srcK
  simp [h4, h7, h9, h10]
theorem g_cells {H : Hp} {s c : Addr} {a l m d : Int} (h : H s = some (.dK (srcK c a l m d))) : DGet H s (.str "cells") (some (.ref c)) := .inl ⟨_, .inr "cells", .inl h, rfl, src_cells.symm⟩
theorem g_at {H : Hp} {s c : Addr} {a l m d : Int} (h : H s = some (.dK (srcK c a l m d))) : DGet H s (.str "at") (some (.int a)) := .inl ⟨_, .inr "at", .inl h, rfl, src_at.symm⟩
theorem g_left {H : Hp} {s c : Addr} {a l m d : Int} (h : H s = some (.dK (srcK c a l m d))) : DGet H s (.str "left") (some (.int l)) := .inl ⟨_, .inr "left", .inl h, rfl, src_left.symm⟩
theorem g_mixed {H : Hp} {s c : Addr} {a l m d : Int} (h : H s = some (.dK (srcK c a l m d))) : DGet H s (.str "mixed") (some (.int m)) := .inl ⟨_, .inr "mixed", .inl h, rfl, src_mixed.symm⟩
theorem g_seed {H : Hp} {s c : Addr} {a l m d : Int} (h : H s = some (.dK (srcK c a l m d))) : DGet H s (.str "seed") (some (.int d)) := .inl ⟨_, .inr "seed", .inl h, rfl, src_seed.symm⟩
theorem five {c : Addr} {a l m d : Int} : (srcK c a l m d).length < sizeLine := small1000 (by show 5 ≤ 1000; decide)
theorem p_at {H : Hp} {s c : Addr} {a l m d x : Int} (h : H s = some (.dK (srcK c a l m d))) : DPut H s (.str "at") (.int x) (upd H s (.dK (srcK c x l m d))) := .inl ⟨_, .inr "at", h, rfl, five, by rw [put_at]⟩
theorem p_left {H : Hp} {s c : Addr} {a l m d x : Int} (h : H s = some (.dK (srcK c a l m d))) : DPut H s (.str "left") (.int x) (upd H s (.dK (srcK c a x m d))) := .inl ⟨_, .inr "left", h, rfl, five, by rw [put_left]⟩
theorem p_mixed {H : Hp} {s c : Addr} {a l m d x : Int} (h : H s = some (.dK (srcK c a l m d))) : DPut H s (.str "mixed") (.int x) (upd H s (.dK (srcK c a l x d))) := .inl ⟨_, .inr "mixed", h, rfl, five, by rw [put_mixed]⟩
theorem p_seed {H : Hp} {s c : Addr} {a l m d x : Int} (h : H s = some (.dK (srcK c a l m d))) : DPut H s (.str "seed") (.int x) (upd H s (.dK (srcK c a l m x))) := .inl ⟨_, .inr "seed", h, rfl, five, by rw [put_seed]⟩
/-! ### tests of open outcome -/
theorem ifI {i j : Int} {A B : Prop} (h1 : i = j → A) (h2 : i ≠ j → B) : if decide (V.int i = V.int j) = true then A else B := by
  by_cases h : i = j
  · rw [if_pos (decide_eq_true (congrArg V.int h))]
    exact h1 h
  · rw [if_neg (by rw [decide_eq_false fun e => h (V.int.inj e)]; decide)]
    exact h2 h
theorem ifD {c A B : Prop} [Decidable c] (h1 : c → A) (h2 : ¬ c → B) : if decide c = true then A else B := by
  by_cases h : c
  · rw [if_pos (decide_eq_true h)]
    exact h1 h
  · rw [if_neg (by rw [decide_eq_false h]; decide)]
    exact h2 h
theorem ifN {i j : Int} {A B : Prop} (h1 : i ≠ j → A) (h2 : i = j → B) : if (!decide (V.int i = V.int j)) = true then A else B := by
  by_cases h : i = j
  · rw [if_neg (by rw [decide_eq_true (congrArg V.int h)]; decide)]
    exact h2 h
  · rw [if_pos (by rw [decide_eq_false fun e => h (V.int.inj e)]; decide)]
    exact h1 h
theorem ifB {b : Bool} {A B : Prop} (h1 : b = true → A) (h2 : b = false → B) : if b = true then A else B := by
  cases b with
  | true => exact h1 rfl
  | false => exact h2 rfl
theorem ifT {b : Bool} {A B : Prop} (e : b = true) (h : A) : if b = true then A else B := by rw [if_pos e]; exact h
theorem ifF {b : Bool} {A B : Prop} (e : b = false) (h : B) : if b = true then A else B := by rw [e]; exact h
theorem atNat {xs : List V} {i : Int} {v : V} {n : Nat} (h : xs[n]? = some v) (e : i = (n : Int)) : atI xs i = some v := by
  subst e
  exact atI_nat h
theorem tyx_l {K : PySem.W.Frag} {H : Hp} {a : Addr} {xs : List V} (h : SqL K H a xs) : TyX K H (.ref a) (.type "list") := by
  rcases h with (h | ⟨o, h⟩) | ⟨o, its, n, hk, hc, _⟩
  · exact .base (.lst h)
  · exact .base (.frz h)
  · exact .kList hk hc
theorem tyx_t {K : PySem.W.Frag} {H : Hp} {a : Addr} {xs : List V} (h : SqT K H a xs) : TyX K H (.ref a) (.type "tuple") := by
  rcases h with (h | ⟨o, h⟩) | ⟨o, its, n, hk, hc, _⟩
  · exact .base (.tup h)
  · exact .fTuple h
  · exact .kTuple hk hc
theorem isi {K : PySem.W.Frag} {H : Hp} {Q : VK} {x : V} {n t : String} {b : Bool} (ty : TyX K H x (.type t)) (hk : kitB t n = some b) (q : Q (.bl b) H) : rIsi K [x, .ty n] H Q := ⟨x, .ty n, .type t, .type n, b, rfl, .ty n, ty, kit_ty hk, q⟩
theorem kt_NoneType_bool : kitB "NoneType" "bool" = some false := by decide +kernel
theorem kt_NoneType_int : kitB "NoneType" "int" = some false := by decide +kernel
theorem kt_NoneType_str : kitB "NoneType" "str" = some false := by decide +kernel
theorem kt_NoneType_tuple : kitB "NoneType" "tuple" = some false := by decide +kernel
theorem kt_NoneType_list : kitB "NoneType" "list" = some false := by decide +kernel
theorem kt_bool_bool : kitB "bool" "bool" = some true := by decide +kernel
theorem kt_bool_int : kitB "bool" "int" = some true := by decide +kernel
theorem kt_bool_str : kitB "bool" "str" = some false := by decide +kernel
theorem kt_bool_tuple : kitB "bool" "tuple" = some false := by decide +kernel
theorem kt_bool_list : kitB "bool" "list" = some false := by decide +kernel
theorem kt_int_bool : kitB "int" "bool" = some false := by decide +kernel
theorem kt_int_int : kitB "int" "int" = some true := by decide +kernel
theorem kt_int_str : kitB "int" "str" = some false := by decide +kernel
theorem kt_int_tuple : kitB "int" "tuple" = some false := by decide +kernel
theorem kt_int_list : kitB "int" "list" = some false := by decide +kernel
theorem kt_str_bool : kitB "str" "bool" = some false := by decide +kernel
theorem kt_str_int : kitB "str" "int" = some false := by decide +kernel
theorem kt_str_str : kitB "str" "str" = some true := by decide +kernel
theorem kt_str_tuple : kitB "str" "tuple" = some false := by decide +kernel
theorem kt_str_list : kitB "str" "list" = some false := by decide +kernel
theorem kt_list_bool : kitB "list" "bool" = some false := by decide +kernel
theorem kt_list_int : kitB "list" "int" = some false := by decide +kernel
theorem kt_list_str : kitB "list" "str" = some false := by decide +kernel
theorem kt_list_tuple : kitB "list" "tuple" = some false := by decide +kernel
theorem kt_list_list : kitB "list" "list" = some true := by decide +kernel
theorem kt_tuple_bool : kitB "tuple" "bool" = some false := by decide +kernel
theorem kt_tuple_int : kitB "tuple" "int" = some false := by decide +kernel
theorem kt_tuple_str : kitB "tuple" "str" = some false := by decide +kernel
theorem kt_tuple_tuple : kitB "tuple" "tuple" = some true := by decide +kernel
theorem kt_tuple_list : kitB "tuple" "list" = some false := by decide +kernel
theorem kt_dict_bool : kitB "dict" "bool" = some false := by decide +kernel
theorem kt_dict_int : kitB "dict" "int" = some false := by decide +kernel
theorem kt_dict_str : kitB "dict" "str" = some false := by decide +kernel
theorem kt_dict_tuple : kitB "dict" "tuple" = some false := by decide +kernel
theorem kt_dict_list : kitB "dict" "list" = some false := by decide +kernel
/-! ### data: bounded depth and lengths -/
def okD : Nat → PyData → Bool
  | 0, _ => false
  | _ + 1, .none => true
  | _ + 1, .bool _ => true
  | _ + 1, .int _ => true
  | _ + 1, .str _ => true
  | n + 1, .list ds => decide (ds.length ≤ 100000) && ds.all (okD n)
  | n + 1, .tuple ds => decide (ds.length ≤ 100000) && ds.all (okD n)
  | _ + 1, .dict _ => false
theorem dp_len {K : PySem.W.Frag} {H : Hp} : ∀ {vs : List V} {ds : List PyData}, DpAll K H vs ds → vs.length = ds.length
  | _, _, .nil => rfl
  | _, _, .cons _ t => congrArg Nat.succ (dp_len t)
theorem dp_get {K : PySem.W.Frag} {H : Hp} : ∀ {vs : List V} {ds : List PyData} {i : Nat} {d : PyData}, DpAll K H vs ds → ds[i]? = some d → ∃ v, vs[i]? = some v ∧ Dp K H v d
  | _, _, _, _, .nil, e => by simp at e
  | _, _, 0, _, .cons h _, e => by simp at e; subst e; exact ⟨_, rfl, h⟩
  | _, _, i + 1, _, .cons _ t, e => by
    obtain ⟨v, h1, h2⟩ := dp_get (i := i) t (by simpa using e)
    exact ⟨v, by simpa using h1, h2⟩
theorem dp_ints {K : PySem.W.Frag} {H : Hp} : ∀ (ns : List Int), DpAll K H (ns.map V.int) (ns.map PyData.int)
  | [] => .nil
  | n :: ns => .cons (.int n) (dp_ints ns)
theorem okD_ints {n : Nat} {ns : List Int} : (ns.map PyData.int).all (okD (n + 1)) = true := by
  rw [List.all_eq_true]
  intro d hd
  obtain ⟨i, _, rfl⟩ := List.mem_map.mp hd
  rfl
def spWhole : Sp := fun vs H Q _ => ∃ i : Int, vs = [.int i] ∧ Q (.bl true) H
def spSame (K : PySem.W.Frag) (n : Nat) : Sp := fun vs H Q _ => ∃ (x y : V) (d : PyData), vs = [x, y] ∧ Dp K H x d ∧ Dp K H y d ∧ okD n d = true ∧ Q (.bl true) H
def spNumber : Sp := fun vs H Q _ => ∃ s c, vs = [.ref s] ∧ Src H s c ∧ ∀ (r : Int) H', -(10 ^ 20) ≤ r → r ≤ 10 ^ 20 → Src H' s c → But s H H' → Q (.int r) H'
theorem Src.ne {H : Hp} {s c : Addr} (S : Src H s c) : c ≠ s := by
  obtain ⟨ns, a, l, m, d, hs, hc, _⟩ := S.ex
  exact ne_of hc hs (by intro z; cases z)
theorem Src.at {H H' : Hp} {s c : Addr} (S : Src H s c) (e1 : H' s = H s) (e2 : H' c = H c) : Src H' s c := by
  obtain ⟨ns, a, l, m, d, hs, hc, ha⟩ := S.ex
  exact ⟨ns, a, l, m, d, e1.trans hs, e2.trans hc, ha⟩
theorem Src.same {H H' : Hp} {s c : Addr} (S : Src H s c) (e : Same H H') : Src H' s c := by
  obtain ⟨ns, a, l, m, d, hs, hc, ha⟩ := S.ex
  exact ⟨ns, a, l, m, d, e _ _ hs, e _ _ hc, ha⟩
theorem Src.new {H : Hp} {s c p : Addr} {o : HO} (S : Src H s c) (np : H p = none) : Src (L2.upd H p o) s c := S.same (same_new (Same.refl H) np)
theorem Src.put {H : Hp} {s c p : Addr} {o : HO} (S : Src H s c) (h1 : p ≠ s) (h2 : p ≠ c) : Src (L2.upd H p o) s c := S.at (upd_ne h1.symm) (upd_ne h2.symm)
/-- an object that is no source stands apart from it -/
theorem Src.apart {H : Hp} {s c p : Addr} (S : Src H s c) (h : H p = none) : p ≠ s ∧ p ≠ c := by
  obtain ⟨ns, a, l, m, d, hs, hc, ha⟩ := S.ex
  exact ⟨ne_of_none hs h |>.symm, (ne_of_none hc h).symm⟩
/-- the promises of the source's makers -/
def spSource (K : PySem.W.Frag) : Sp := fun vs H Q _ => ∃ (a : Addr) (ns : List Int), vs = [.ref a] ∧ SqL K H a (ns.map V.int) ∧ ∀ s c H', H s = none → H c = none → Src H' s c → Same H H' → Q (.ref s) H'
def spDraw : Sp := fun vs H Q _ => ∃ (s c : Addr) (many : Int), vs = [.ref s, .int many] ∧ Src H s c ∧ 0 < many ∧ many < 2 ^ 200 ∧ ∀ r H', 0 ≤ r → r < many → Src H' s c → But s H H' → Q (.int r) H'
end My

set_option Elab.async false
set_option linter.all false
set_option maxRecDepth 100000
set_option maxHeartbeats 4000000
namespace My
open PySem PySem.Spec PyProof.Rows L2
/-! ### a list or a tuple, walked -/
def Sq (K : PySem.W.Frag) (H : Hp) (a : Addr) (xs : List V) : Prop := SqL K H a xs ∨ SqT K H a xs
theorem sqL_at {K : PySem.W.Frag} {H H' : Hp} {a : Addr} {xs : List V} (e : ∀ o, H a = some o → H' a = some o) (h : SqL K H a xs) : SqL K H' a xs := by
  rcases h with (h | ⟨o, h⟩) | h
  · exact .inl (.inl (e _ h))
  · exact .inl (.inr ⟨o, e _ h⟩)
  · exact .inr h
theorem sqT_at {K : PySem.W.Frag} {H H' : Hp} {a : Addr} {xs : List V} (e : ∀ o, H a = some o → H' a = some o) (h : SqT K H a xs) : SqT K H' a xs := by
  rcases h with (h | ⟨o, h⟩) | h
  · exact .inl (.inl (e _ h))
  · exact .inl (.inr ⟨o, e _ h⟩)
  · exact .inr h
theorem Sq.at {K : PySem.W.Frag} {H H' : Hp} {a : Addr} {xs : List V} (e : ∀ o, H a = some o → H' a = some o) (h : Sq K H a xs) : Sq K H' a xs := h.imp (sqL_at e) (sqT_at e)
def SeqIn (K : PySem.W.Frag) (x : V) (H1 : Hp) (R : It → Hp → Prop) : Prop := ∃ a, x = .ref a ∧ (((∃ xs, SqL K H1 a xs) ∧ R (Itl K a) H1) ∨ ((∃ xs, SqT K H1 a xs) ∧ R (Itt K a) H1))
def iSeq (K : PySem.W.Frag) (tl : TE) : TI := fun σ H R => tl σ H fun x H1 => SeqIn K x H1 R
theorem pi_seq {X : Cx} {tg l : Expr} {tl : TE} (hl : PE X l tl) : PI X tg l (iSeq X.K tl) := by
  refine ⟨fun pins s σ H R I h => thn (hl.run pins s σ H _ I h) fun v s1 ⟨x, H1, I1, r1, q1⟩ => ?_⟩
  obtain ⟨a, e, q⟩ := q1
  subst e
  cases r1
  have fr : ∀ b ∈ [s1.heap.objs.size], FpOk X pins H1 b := fun b hb => by
    have e : b = s1.heap.objs.size := by simpa using hb
    rw [e]
    exact I1.fpOk (Nat.le_refl _) (I1.hok.fresh (Nat.le_refl _))
  rcases q with ⟨⟨xs, hq⟩, q⟩ | ⟨⟨xs, hq⟩, q⟩
  · obtain ⟨its, _, p, _⟩ := I1.list hq
    exact wpAny_pyIter_list p.isList ⟨s1.heap.objs.size, [s1.heap.objs.size], _, _, H1, rfl, I1.kept (t' := s1.toks) fun b o e => Heap.get?_push_of_some _ e, turn_list a _, ⟨_, Heap.get?_push_size _ rfl, rfl, rfl⟩, fr, q⟩
  · obtain ⟨its, _, p, _⟩ := I1.tuple hq
    exact wpAny_pyIter_tuple (show s1.heap.IsTuple a its.toArray from p) ⟨s1.heap.objs.size, [s1.heap.objs.size], _, _, H1, rfl, I1.kept (t' := s1.toks) fun b o e => Heap.get?_push_of_some _ e, turn_tuple a _, ⟨_, Heap.get?_push_size _ rfl, rfl, rfl⟩, fr, q⟩
theorem rseq {K : PySem.W.Frag} {H : Hp} {a : Addr} {xs : List V} {R : It → Hp → Prop} (hS : Sq K H a xs)
    (h : ∀ (J : It) (G : Hp → Prop), (∀ H', (∀ o, H a = some o → H' a = some o) → G H') → Walk J xs.length G (YAt xs) → R J H) : SeqIn K (.ref a) H R := by
  rcases hS with q | q
  · exact ⟨a, rfl, .inl ⟨⟨xs, q⟩, h _ _ (fun H' e => sqL_at e q) walk_list⟩⟩
  · exact ⟨a, rfl, .inr ⟨⟨xs, q⟩, h _ _ (fun H' e => sqT_at e q) walk_tup⟩⟩
/-- a dict's comprehension over a walk -/
theorem dc_it {J : It} {n : Nat} {G : Hp → Prop} {Y : Nat → Hp → V → Hp → Prop} (wk : Walk J n G Y) {g : TG} {tt : TT} {tk tv : TE} {vs : List Nat} {σ : L2.St} {H1 : Hp} {D : Addr} {Qd : Hp → Prop} (Pv : Nat → Hp → Prop)
    (h0 : Pv 0 (upd H1 D (.dK []))) (hG : ∀ i H, i ≤ n → Pv i H → G H)
    (hs : ∀ i x H H', i < n → Pv i H → Y i H x H' → g x (wipe σ vs) H' fun σ2 H2 => wipe σ2 vs = wipe σ vs ∧ tt σ2 H2 fun b H3 =>
      if b = true then tk σ2 H3 fun y H4 => tv σ2 H4 fun z H5 => ∃ kvs k, y = kV k ∧ H5 D = some (.dK kvs) ∧ kvs.length < sizeLine ∧ Pv (i + 1) (upd H5 D (.dK (putK kvs k z))) else Pv (i + 1) H3) (hd : ∀ H, Pv n H → Qd H) :
    ∃ W : Nat → Nat → Hp → Prop, (∃ m, W 0 m (upd H1 D (.dK []))) ∧ ∀ i m H, W i m H →
      (J.stop i H ∧ Qd H) ∨ (J.go i H ∧ ∃ Nx : Hp → Prop, (∀ H', Nx H' → ∃ m', m' < m ∧ W (i + 1) m' H') ∧ ∀ x H', J.yld i H x H' → g x (wipe σ vs) H' fun σ2 H2 => wipe σ2 vs = wipe σ vs ∧ tt σ2 H2 fun b H3 =>
        if b = true then tk σ2 H3 fun y H4 => tv σ2 H4 fun z H5 => ∃ kvs k, y = kV k ∧ H5 D = some (.dK kvs) ∧ kvs.length < sizeLine ∧ Nx (upd H5 D (.dK (putK kvs k z))) else Nx H3) := by
  refine ⟨fun i m H => m = n - i ∧ i ≤ n ∧ Pv i H, ⟨n, rfl, Nat.zero_le _, h0⟩, ?_⟩
  rintro i m H ⟨rfl, hi, p⟩
  have q := hG i H hi p
  by_cases hlt : i < n
  · exact .inr ⟨wk.goes i H hlt q, Pv (i + 1), fun H' p' => ⟨n - (i + 1), by omega, rfl, hlt, p'⟩, fun x H' y => hs i x H H' hlt p (wk.yields i H x H' hlt q y)⟩
  · have e : i = n := by omega
    subst e
    exact .inl ⟨wk.stops H q, hd H p⟩
/-- an item of a written list -/
theorem item_of {L : List Int} {P : Int → Prop} (hP : ∀ x ∈ L, P x) {r : Int} (h0 : 0 ≤ r) (h1 : r < L.length) : ∃ m, atI (L.map V.int) r = some (.int m) ∧ P m := by
  have hr : r.toNat < L.length := by omega
  have e : (L.map V.int)[r.toNat]? = some (.int L[r.toNat]) := by rw [List.getElem?_map, List.getElem?_eq_getElem hr]; rfl
  exact ⟨L[r.toNat], atNat (n := r.toNat) e (by omega), hP _ (List.getElem_mem _)⟩
/-- the heap as a letter -/
theorem at_heap {α : Type} {f : α → Hp → Prop} {σ : α} {H : Hp} (h : ∀ H', H' = H → f σ H') : f σ H := h H rfl
theorem map_get {α β : Type} {f : α → β} {l : List α} {i : Nat} {y : β} (h : (l.map f)[i]? = some y) : ∃ x, l[i]? = some x ∧ y = f x := by
  rw [List.getElem?_map] at h
  cases e : l[i]? with
  | none => rw [e] at h; cases h
  | some x => rw [e] at h; exact ⟨x, rfl, (Option.some.inj h).symm⟩
theorem get_map {α β : Type} {f : α → β} {l : List α} {i : Nat} {x : α} (h : l[i]? = some x) : (l.map f)[i]? = some (f x) := by rw [List.getElem?_map, h]; rfl
theorem take_snoc {α : Type} {l : List α} {i : Nat} {x : α} (h : l[i]? = some x) : l.take (i + 1) = l.take i ++ [x] := by
  rw [List.take_succ, h]
  rfl
theorem take_all {α : Type} (l : List α) : l.take l.length = l := List.take_length
end My

set_option Elab.async false
set_option linter.all false
set_option maxRecDepth 100000
set_option maxHeartbeats 4000000
namespace My
open PySem PySem.Spec PyProof.Rows L2
/-! set(l) of a list of ints: by the road of the library's own rule for tuples -/
abbrev newSet (w : World) : Obj := { cls := .type "set", dict := none, data := .set #[] 0 (.fresh 0 0 (!w.params.followText "set-order")) }
section
variable {P : Program} {w : World} {A : Around} {E : Value → Shared → Prop} {s : Shared}
set_option maxHeartbeats 8000000 in
theorem set_of_ints {l : Addr} {items : Array Value} (ns : List Int) {Q : Value → Shared → Prop} (hh : A.handled = none) (hl : s.heap.IsList l items) (hit : IntsAre items.toList ns) (hb : ns.length + 1 < scanBound)
    (h : ∀ (h' : Heap) (tk c : Nat), SetR w h' s.heap.objs.size (fun j => decide (j ∈ ns)) c → c ≤ ns.length → (∀ b o, s.heap.get? b = some o → h'.get? b = some o) → Q (.ref s.heap.objs.size) { s with heap := h', toks := tk }) :
    wpAny (model P w) A (call (.type "set") [.ref l]) Q E s := by
  have hisz : items.size = ns.length := by
    have q := IntsAre.length hit
    rw [Array.length_toList] at q
    exact q
  obtain ⟨c, tl, hmro⟩ := F.called_set.mro
  have hmade := F.called_set.made
  have hsub := F.called_set.sub
  refine wpAny_call (codeAny_of_tree ?_)
  show wpAny _ _ (callAny (.type "set") _) _ _ _
  refine wpAny_pure ⟨Code.quiet_builtin _ (by decide +kernel), codeAny_builtin F.entry_type_call ?_⟩
  rw [Around.under_plain (weight_type_call_type "set" [.ref l] []) rfl]
  have h1 := F.called_set.notType
  have h2 := F.called_set.canCreate
  have hct := F.typeCall_set_1 (.ref l)
  repeat (any_goals (first | assumption | wp_step))

  refine codeAny_mono (code_set_led1 (.ref l) (E := E) (Q₁ := fun obj s₁ => obj = .ref s.heap.objs.size ∧ s₁ = { s with heap := s.heap.push (newSet w) }) ⟨rfl, rfl⟩) fun r s₁ hr => ?_
  cases r with
  | error e => exact hr
  | ok fl =>
    cases fl with
    | ret obj =>
      obtain ⟨rfl, rfl⟩ := hr
      have hS : (s.heap.push (newSet w)).get? s.heap.objs.size = some (newSet w) := Heap.get?_push_size _ rfl
      have hT : Shared.TypeIs { s with heap := s.heap.push (newSet w) } (.ref s.heap.objs.size) "set" := ⟨_, hS, rfl⟩
      have hli := F.called_set.init.lookup
      have hbi := F.called_set.init.bind (.ref s.heap.objs.size)
      repeat (any_goals (first | assumption | wp_step))

      refine codeAny_mono (codeAny_call_builtin (R := wants (fun r s₂ => r = .none ∧ ∃ h' tk c, s₂ = { s with heap := h', toks := tk } ∧ SetR w h' s.heap.objs.size (fun j => decide (j ∈ ns)) c ∧ c ≤ ns.length ∧
          (∀ b o, s.heap.get? b = some o → h'.get? b = some o)) E) F.called_set.init.plain F.entry_set_init (check_set_init_1 hT ?_)) fun r₂ s₂ hr₂ => ?_
      · obtain ⟨ol, hol, hcl, nl, hdl⟩ := hl
        obtain ⟨ocls, odict, odata, oslots⟩ := ol
        simp only at hcl hdl
        subst hcl; subst hdl
        have hol' : (s.heap.push (newSet w)).get? l = some { cls := .type "list", dict := odict, data := .seq items nl, slots := oslots } := Heap.get?_push_of_some _ hol
        have hsls := F.sub_list_set
        have hslf := F.sub_list_frozenset
        have hne : (Value.type "list" == Value.type "dict") = false := by decide
        have hl1 : (s.heap.push (newSet w)).IsList l items := ⟨_, hol', rfl, nl, rfl⟩
        unfold Builtin.«set.__init__» noKeywords Builtin.Frozenset.updateFrom
        generalize hPI : pyIter = PI
        wp_walk
        subst hPI

        refine wpAny_pyIter_list hl1 ?_
        refine wpAny_bind (wpAny_runValue ?_)
        have hlS : l < s.heap.objs.size := Heap.lt_size hol
        have hh3 : A.in1.in1.in1.handled = none := by simp [hh]
        have hz1 : (s.heap.push (newSet w)).objs.size = s.heap.objs.size + 1 := Heap.size_push ..
        have hneI : l ≠ (s.heap.push (newSet w)).objs.size := by
          rw [Heap.size_push]; exact Nat.ne_of_lt (Nat.lt_succ_of_lt hlS)
        have hSf : s.heap.objs.size ∉ [(s.heap.push (newSet w)).objs.size, l] := by
          rw [Heap.size_push]; simp only [List.mem_cons, List.mem_singleton, List.not_mem_nil, or_false, not_or]
          exact ⟨Nat.ne_of_lt (Nat.lt_succ_self _), Nat.ne_of_gt hlS⟩
        have hval : ∀ (i : Nat) (v : Value), items[i]? = some v → ∃ k t, ns[i]? = some k ∧ v = .int k t := fun i v hv => by
          have hi : i < ns.length := by rw [← hisz]; exact (Array.getElem?_eq_some_iff.mp hv).1
          obtain ⟨t, e⟩ := PyProof.Rows.IntsAre.int_at hit i v (by rw [Array.getElem?_toList]; exact hv)
          refine ⟨ns[i], t, List.getElem?_eq_getElem hi, ?_⟩
          rw [e, List.getD_eq_getElem?_getD, List.getElem?_eq_getElem hi] <;> rfl
        refine set_update_ints ((Walks.list hh3 _ l hneI items).toS) s.heap.objs.size
          hSf ns hisz hb hval (items.size - 0) 0 _ (by omega) (Nat.zero_le _)
          ⟨⟨_, Heap.get?_push_size _ rfl, rfl, rfl⟩, (hl1.push _)⟩ ?hS0 ?hR
        case hS0 =>
          have hget : ((s.heap.push (newSet w)).push { cls := .type "list_iterator", data := .fields #[.ref l, .int 0 0] }).get? s.heap.objs.size
              = some (newSet w) := Heap.get?_push_of_some _ hS
          exact ⟨0, Nat.le_refl 0, setR_new_at hget⟩
        case hR =>
          intro s' c' hm hc' hS'
          obtain ⟨h', g2, d', tk', os'⟩ := s'
          have eg : g2 = s.gens := hm.gens
          have ed : d' = s.drawn := hm.drawn
          have eo : os' = s.os := hm.os
          subst eg; subst ed; subst eo
          show wpAny _ _ _ _ _ _
          refine wpAny_pure ?_
          show wpAny _ _ (ret Value.none) _ _ _
          rw [hisz] at hc'
          refine wpAny_pure ⟨rfl, h', tk', c', rfl, hS', hc', fun b o e => ?_⟩
          have hb0 : b < s.heap.objs.size := Heap.lt_size e
          have hb1 : b ≠ s.heap.objs.size := Nat.ne_of_lt hb0
          have hb2 : b ≠ (s.heap.push (newSet w)).objs.size := by
            rw [Heap.size_push]; exact Nat.ne_of_lt (Nat.lt_succ_of_lt hb0)
          exact hm.heap b o (by simp only [List.mem_cons, List.mem_singleton, List.not_mem_nil, or_false, not_or]; exact ⟨hb1, hb2⟩) (Heap.get?_push_of_some _ (Heap.get?_push_of_some _ e))

      · cases r₂ with
        | error e => exact hr₂
        | ok fl₂ =>
          cases fl₂ with
          | ret r =>
            obtain ⟨rfl, h', tk, c', rfl, hS', hc', hk'⟩ := hr₂
            repeat (any_goals (first | assumption | wp_step))
            exact h _ _ _ hS' hc' hk'
          | _ => exact hr₂.elim
    | _ => exact hr.elim
end
section
variable {X : Cx}
def rSetL (K : PySem.W.Frag) (w : World) : List V → Hp → VK → Prop := fun vs H Q => ∃ (a : Addr) (ns : List Int), vs = [.ref a] ∧ SqL K H a (ns.map V.int) ∧ ns.length < 60 ∧
  ∀ p n, H p = none → n ≤ ns.length → Q (.ref p) (upd H p (SetO w p (fun k => decide (k ∈ ns)) n))
theorem cr_setL (hc : X.calm = true) : CallR X (.type "set") (rSetL X.K X.w) := by
  intro pins s σ H vs us Q I r h
  obtain ⟨a, ns, rfl, hS, hl, q⟩ := h
  rw [Vals.ref1 r]
  obtain ⟨its, rv, pl, hz⟩ := I.list hS
  have hn : H s.heap.objs.size = none := I.hok.fresh (Nat.le_refl _)
  refine set_of_ints (P := X.prog) (w := X.w) ns (I.ok.hd hc) pl.isList (by simpa using ints_of_vals rv) (Nat.lt_of_lt_of_le (Nat.succ_lt_succ hl) (by decide)) fun h' tk c R hcn k => ?_
  exact ⟨.ref s.heap.objs.size, upd H s.heap.objs.size (SetO X.w s.heap.objs.size (fun j => decide (j ∈ ns)) c), I.laid (t' := tk) k (Nat.le_refl _) (setO_new R), rfl, q _ c hn hcn⟩
end
end My

set_option Elab.async false
set_option linter.all false
set_option maxRecDepth 100000
set_option maxHeartbeats 4000000
namespace My
open PySem PySem.Spec PyProof.Rows L2
def top (i : Nat) : Stmt := PySem.Challenge.pw_mostsalike_k24_ranks.main.body.getD i (.Pass ⟨0, 0, 0, 0⟩)
abbrev s_ranks : Stmt := top 1
abbrev N_ranks : List Str := ["values", "ordered", "places", "place", "value"]
abbrev P_ranks : List Str := ["values"]
theorem sc_ranks : FnScope N_ranks P_ranks (defScope s_ranks) := ⟨rfl, rfl, rfl, by decide +kernel, rfl, by decide +kernel, by decide +kernel⟩
def d_ranks : He.DefD := ⟨("ranks", none), "ranks", "ranks", defArgs s_ranks, defBody s_ranks, defScope s_ranks, [], []⟩
abbrev s__law_source : Stmt := top 3
abbrev N__law_source : List Str := ["script"]
abbrev P__law_source : List Str := ["script"]
theorem sc__law_source : FnScope N__law_source P__law_source (defScope s__law_source) := ⟨rfl, rfl, rfl, by decide +kernel, rfl, by decide +kernel, by decide +kernel⟩
def d__law_source : He.DefD := ⟨("_law_source", none), "_law_source", "_law_source", defArgs s__law_source, defBody s__law_source, defScope s__law_source, [], []⟩
abbrev s__law_draw : Stmt := top 4
abbrev N__law_draw : List Str := ["source", "many", "cell", "drawn", "turn", "first", "second"]
abbrev P__law_draw : List Str := ["source", "many"]
theorem sc__law_draw : FnScope N__law_draw P__law_draw (defScope s__law_draw) := ⟨rfl, rfl, rfl, by decide +kernel, rfl, by decide +kernel, by decide +kernel⟩
def d__law_draw : He.DefD := ⟨("_law_draw", none), "_law_draw", "_law_draw", defArgs s__law_draw, defBody s__law_draw, defScope s__law_draw, [], []⟩
abbrev s__law_number : Stmt := top 5
abbrev N__law_number : List Str := ["source", "kind"]
abbrev P__law_number : List Str := ["source"]
theorem sc__law_number : FnScope N__law_number P__law_number (defScope s__law_number) := ⟨rfl, rfl, rfl, by decide +kernel, rfl, by decide +kernel, by decide +kernel⟩
def d__law_number : He.DefD := ⟨("_law_number", none), "_law_number", "_law_number", defArgs s__law_number, defBody s__law_number, defScope s__law_number, [], []⟩
abbrev s__law_whole : Stmt := top 6
abbrev N__law_whole : List Str := ["number"]
abbrev P__law_whole : List Str := ["number"]
theorem sc__law_whole : FnScope N__law_whole P__law_whole (defScope s__law_whole) := ⟨rfl, rfl, rfl, by decide +kernel, rfl, by decide +kernel, by decide +kernel⟩
def d__law_whole : He.DefD := ⟨("_law_whole", none), "_law_whole", "_law_whole", defArgs s__law_whole, defBody s__law_whole, defScope s__law_whole, [], []⟩
abbrev s__law_same : Stmt := top 7
abbrev N__law_same : List Str := ["actual", "expected", "k"]
abbrev P__law_same : List Str := ["actual", "expected"]
theorem sc__law_same : FnScope N__law_same P__law_same (defScope s__law_same) := ⟨rfl, rfl, rfl, by decide +kernel, rfl, by decide +kernel, by decide +kernel⟩
def d__law_same : He.DefD := ⟨("_law_same", none), "_law_same", "_law_same", defArgs s__law_same, defBody s__law_same, defScope s__law_same, [], []⟩
abbrev s__law_smaller : Stmt := top 8
abbrev N__law_smaller : List Str := ["numbers", "due", "one", "found", "other"]
abbrev P__law_smaller : List Str := ["numbers"]
theorem sc__law_smaller : FnScope N__law_smaller P__law_smaller (defScope s__law_smaller) := ⟨rfl, rfl, rfl, by decide +kernel, rfl, by decide +kernel, by decide +kernel⟩
def d__law_smaller : He.DefD := ⟨("_law_smaller", none), "_law_smaller", "_law_smaller", defArgs s__law_smaller, defBody s__law_smaller, defScope s__law_smaller, [], []⟩
abbrev s_law : Stmt := top 9
abbrev N_law : List Str := ["script", "source", "many", "numbers", "k", "due", "given", "further"]
abbrev P_law : List Str := ["script"]
theorem sc_law : FnScope N_law P_law (defScope s_law) := ⟨rfl, rfl, rfl, by decide +kernel, rfl, by decide +kernel, by decide +kernel⟩
def d_law : He.DefD := ⟨("law", none), "law", "law", defArgs s_law, defBody s_law, defScope s_law, [], []⟩
def fa : List He.Fa := [.glo "ranks", .glo "_law_source", .glo "_law_draw", .glo "_law_number", .glo "_law_whole", .glo "_law_same", .glo "_law_smaller", .glo "law", .free "bool", .free "enumerate", .free "int", .free "isinstance", .free "len", .free "list", .free "range", .free "set", .free "sorted", .free "str", .free "tuple"]
def fn : List He.DefD := [d_ranks, d__law_source, d__law_draw, d__law_number, d__law_whole, d__law_same, d__law_smaller, d_law]
/-- what the top has written -/
structure Txt (K : PySem.W.Frag) (mg : Str → Option Value) : Prop where
  ex : ∃ h : Heap, K.In h ∧ h.Ns mainGlobals mg
  c : He.SaysD fa fn K
theorem Txt.g_ranks {K : PySem.W.Frag} {mg : Str → Option Value} (T : Txt K mg) : mg "ranks" = some (.ref (He.ga K "ranks")) := by
  obtain ⟨h, X, G⟩ := T.ex
  exact He.glo_ok X G (T.c.fact 0 rfl)
theorem Txt.g__law_source {K : PySem.W.Frag} {mg : Str → Option Value} (T : Txt K mg) : mg "_law_source" = some (.ref (He.ga K "_law_source")) := by
  obtain ⟨h, X, G⟩ := T.ex
  exact He.glo_ok X G (T.c.fact 1 rfl)
theorem Txt.g__law_draw {K : PySem.W.Frag} {mg : Str → Option Value} (T : Txt K mg) : mg "_law_draw" = some (.ref (He.ga K "_law_draw")) := by
  obtain ⟨h, X, G⟩ := T.ex
  exact He.glo_ok X G (T.c.fact 2 rfl)
theorem Txt.g__law_number {K : PySem.W.Frag} {mg : Str → Option Value} (T : Txt K mg) : mg "_law_number" = some (.ref (He.ga K "_law_number")) := by
  obtain ⟨h, X, G⟩ := T.ex
  exact He.glo_ok X G (T.c.fact 3 rfl)
theorem Txt.g__law_whole {K : PySem.W.Frag} {mg : Str → Option Value} (T : Txt K mg) : mg "_law_whole" = some (.ref (He.ga K "_law_whole")) := by
  obtain ⟨h, X, G⟩ := T.ex
  exact He.glo_ok X G (T.c.fact 4 rfl)
theorem Txt.g__law_same {K : PySem.W.Frag} {mg : Str → Option Value} (T : Txt K mg) : mg "_law_same" = some (.ref (He.ga K "_law_same")) := by
  obtain ⟨h, X, G⟩ := T.ex
  exact He.glo_ok X G (T.c.fact 5 rfl)
theorem Txt.g__law_smaller {K : PySem.W.Frag} {mg : Str → Option Value} (T : Txt K mg) : mg "_law_smaller" = some (.ref (He.ga K "_law_smaller")) := by
  obtain ⟨h, X, G⟩ := T.ex
  exact He.glo_ok X G (T.c.fact 6 rfl)
theorem Txt.g_law {K : PySem.W.Frag} {mg : Str → Option Value} (T : Txt K mg) : mg "law" = some (.ref (He.ga K "law")) := by
  obtain ⟨h, X, G⟩ := T.ex
  exact He.glo_ok X G (T.c.fact 7 rfl)
theorem Txt.f_bool {K : PySem.W.Frag} {mg : Str → Option Value} (T : Txt K mg) : mg "bool" = none := by
  obtain ⟨h, X, G⟩ := T.ex
  exact He.free_ok X G (T.c.fact 8 rfl)
theorem Txt.f_enumerate {K : PySem.W.Frag} {mg : Str → Option Value} (T : Txt K mg) : mg "enumerate" = none := by
  obtain ⟨h, X, G⟩ := T.ex
  exact He.free_ok X G (T.c.fact 9 rfl)
theorem Txt.f_int {K : PySem.W.Frag} {mg : Str → Option Value} (T : Txt K mg) : mg "int" = none := by
  obtain ⟨h, X, G⟩ := T.ex
  exact He.free_ok X G (T.c.fact 10 rfl)
theorem Txt.f_isinstance {K : PySem.W.Frag} {mg : Str → Option Value} (T : Txt K mg) : mg "isinstance" = none := by
  obtain ⟨h, X, G⟩ := T.ex
  exact He.free_ok X G (T.c.fact 11 rfl)
theorem Txt.f_len {K : PySem.W.Frag} {mg : Str → Option Value} (T : Txt K mg) : mg "len" = none := by
  obtain ⟨h, X, G⟩ := T.ex
  exact He.free_ok X G (T.c.fact 12 rfl)
theorem Txt.f_list {K : PySem.W.Frag} {mg : Str → Option Value} (T : Txt K mg) : mg "list" = none := by
  obtain ⟨h, X, G⟩ := T.ex
  exact He.free_ok X G (T.c.fact 13 rfl)
theorem Txt.f_range {K : PySem.W.Frag} {mg : Str → Option Value} (T : Txt K mg) : mg "range" = none := by
  obtain ⟨h, X, G⟩ := T.ex
  exact He.free_ok X G (T.c.fact 14 rfl)
theorem Txt.f_set {K : PySem.W.Frag} {mg : Str → Option Value} (T : Txt K mg) : mg "set" = none := by
  obtain ⟨h, X, G⟩ := T.ex
  exact He.free_ok X G (T.c.fact 15 rfl)
theorem Txt.f_sorted {K : PySem.W.Frag} {mg : Str → Option Value} (T : Txt K mg) : mg "sorted" = none := by
  obtain ⟨h, X, G⟩ := T.ex
  exact He.free_ok X G (T.c.fact 16 rfl)
theorem Txt.f_str {K : PySem.W.Frag} {mg : Str → Option Value} (T : Txt K mg) : mg "str" = none := by
  obtain ⟨h, X, G⟩ := T.ex
  exact He.free_ok X G (T.c.fact 17 rfl)
theorem Txt.f_tuple {K : PySem.W.Frag} {mg : Str → Option Value} (T : Txt K mg) : mg "tuple" = none := by
  obtain ⟨h, X, G⟩ := T.ex
  exact He.free_ok X G (T.c.fact 18 rfl)
theorem Txt.F_ranks {K : PySem.W.Frag} {mg : Str → Option Value} (T : Txt K mg) : ∃ fd, FunD K d_ranks.name d_ranks.qual (defArgs s_ranks) (defBody s_ranks) (defScope s_ranks) (d_ranks.dvs K) (d_ranks.kws K) (He.fAd K d_ranks.at_) fd := T.c.def_ 0 (d := d_ranks) rfl
theorem Txt.F__law_source {K : PySem.W.Frag} {mg : Str → Option Value} (T : Txt K mg) : ∃ fd, FunD K d__law_source.name d__law_source.qual (defArgs s__law_source) (defBody s__law_source) (defScope s__law_source) (d__law_source.dvs K) (d__law_source.kws K) (He.fAd K d__law_source.at_) fd := T.c.def_ 1 (d := d__law_source) rfl
theorem Txt.F__law_draw {K : PySem.W.Frag} {mg : Str → Option Value} (T : Txt K mg) : ∃ fd, FunD K d__law_draw.name d__law_draw.qual (defArgs s__law_draw) (defBody s__law_draw) (defScope s__law_draw) (d__law_draw.dvs K) (d__law_draw.kws K) (He.fAd K d__law_draw.at_) fd := T.c.def_ 2 (d := d__law_draw) rfl
theorem Txt.F__law_number {K : PySem.W.Frag} {mg : Str → Option Value} (T : Txt K mg) : ∃ fd, FunD K d__law_number.name d__law_number.qual (defArgs s__law_number) (defBody s__law_number) (defScope s__law_number) (d__law_number.dvs K) (d__law_number.kws K) (He.fAd K d__law_number.at_) fd := T.c.def_ 3 (d := d__law_number) rfl
theorem Txt.F__law_whole {K : PySem.W.Frag} {mg : Str → Option Value} (T : Txt K mg) : ∃ fd, FunD K d__law_whole.name d__law_whole.qual (defArgs s__law_whole) (defBody s__law_whole) (defScope s__law_whole) (d__law_whole.dvs K) (d__law_whole.kws K) (He.fAd K d__law_whole.at_) fd := T.c.def_ 4 (d := d__law_whole) rfl
theorem Txt.F__law_same {K : PySem.W.Frag} {mg : Str → Option Value} (T : Txt K mg) : ∃ fd, FunD K d__law_same.name d__law_same.qual (defArgs s__law_same) (defBody s__law_same) (defScope s__law_same) (d__law_same.dvs K) (d__law_same.kws K) (He.fAd K d__law_same.at_) fd := T.c.def_ 5 (d := d__law_same) rfl
theorem Txt.F__law_smaller {K : PySem.W.Frag} {mg : Str → Option Value} (T : Txt K mg) : ∃ fd, FunD K d__law_smaller.name d__law_smaller.qual (defArgs s__law_smaller) (defBody s__law_smaller) (defScope s__law_smaller) (d__law_smaller.dvs K) (d__law_smaller.kws K) (He.fAd K d__law_smaller.at_) fd := T.c.def_ 6 (d := d__law_smaller) rfl
theorem Txt.F_law {K : PySem.W.Frag} {mg : Str → Option Value} (T : Txt K mg) : ∃ fd, FunD K d_law.name d_law.qual (defArgs s_law) (defBody s_law) (defScope s_law) (d_law.dvs K) (d_law.kws K) (He.fAd K d_law.at_) fd := T.c.def_ 7 (d := d_law) rfl
section
variable {P : Program} {w : World} {K : PySem.W.Frag} {mg : Str → Option Value} {base : Heap}
theorem merge_src {c : Addr} {a l m d : Int} : mergeK [] (srcK c a l m d) = srcK c a l m d := by
  obtain ⟨h1, h2, h3, h4, h5, h6, h7, h8, h9, h10⟩ := kne
  unfold mergeK srcK putK
  simp [h1, h2, h3, h4, h5, h6, h7, h8, h9, h10]
theorem ok_source (T : Txt K mg) : Cal P w K mg base CX0 1 "_law_source" P__law_source [] (spSource K) := by
  refine Cal.of T.F__law_source T.g__law_source (fun fd F => F.ok sc__law_source (fun vs H Q E h => ?_) (fun cdv A outer s H vs Q E hr h => ?_)) (fun _ _ _ _ _ _ us hl => match us, hl with | [_], _ => rfl)
  · obtain ⟨a, ns, rfl, _⟩ := h
    rfl
  · obtain ⟨a, ns, rfl, hS, k⟩ := h
    refine ⟨_, PSs.nox (pss_one (ps_ret (pe_disp (pps_cons pe_str (pe_callTy call_list_of (by rfl) T.f_list (by decide +kernel) (pa_cons (pv 0) pa_nil)) (pps_cons pe_str pe_int (pps_cons pe_str pe_int (pps_cons pe_str pe_int (pps_cons pe_str pe_int pps_nil))))) (by rfl) (by rfl) (fun z => by cases z) (by decide)))), ?_⟩
    intro p hp
    refine ⟨_, rfl, a, ns.map V.int, rfl, Or.inl ((same_new (Same.refl H) hp).seq hS), fun l hl => ?_⟩
    have npl : p ≠ l := fun e => by rw [e, upd_same] at hl; cases hl
    refine ⟨by rw [upd_ne npl, upd_same], srcK l 0 0 0 0, rfl, by show 5 ≤ 15; decide, ?_⟩
    refine k p l _ hp ((same_new (Same.refl H) hp).free hl) ⟨ns, 0, 0, 0, 0, ?_, ?_, by decide⟩ ?_
    · rw [merge_src, upd_same]
    · rw [upd_ne npl.symm, upd_same]
    · exact same_mut (same_new (same_new (Same.refl H) hp) hl) hp
theorem ok_draw (T : Txt K mg) : Cal P w K mg base CX0 1 "_law_draw" P__law_draw [] spDraw := by
  refine Cal.of T.F__law_draw T.g__law_draw (fun fd F => F.ok sc__law_draw (fun vs H Q E h => ?_) (fun cdv A outer s0 H vs Q E hr h => ?_)) (fun _ _ _ _ _ _ us hl => match us, hl with | [_, _], _ => rfl)
  · obtain ⟨s, c, many, rfl, _⟩ := h
    rfl
  · obtain ⟨s, c, many, rfl, S, hm0, hm1, k⟩ := h
    have ncs := S.ne
    obtain ⟨ns, a, l, m, d, hs, hc, ha⟩ := S.ex
    refine ⟨_, PSs.nox (C8.pss_cut (ps_if (PW.pt (pw_and (pt_cmpR op_eq (pe_dget (hu_of hr) (pv 0) pe_str (fun _ _ => rfl)) pe_int (nomark _)) (pw_and1 (pt_cmpR op_eq (pe_dget (hu_of hr) (pv 0) pe_str (fun _ _ => rfl)) pe_int (nomark _))))) (pss_cons (ps_if (pt_cmpR op_ge (pe_dget (hu_of hr) (pv 0) pe_str (fun _ _ => rfl)) (pe_callB call_len (by rfl) T.f_len (by decide +kernel) (pa_cons (pe_dget (hu_of hr) (pv 0) pe_str (fun _ _ => rfl)) pa_nil)) (nomark _)) (pss_one (ps_ret pe_int))
    pss_nil)
    (pss_cons (ps_set (i := 2) sc__law_draw.nd rfl (Or.inl rfl) (pe_ix ix_list (pe_dget (hu_of hr) (pv 0) pe_str (fun _ _ => rfl)) (pe_dget (hu_of hr) (pv 0) pe_str (fun _ _ => rfl)) (fun _ _ => rfl)))
    (pss_cons (ps_dput (hu_of hr) (pv 0) pe_str (pe_op op_add (pe_dget (hu_of hr) (pv 0) pe_str (fun _ _ => rfl)) pe_int) rfl)
    (C8.pss_cut (ps_if (pt_cmpR op_lt (pv 2) pe_int (nomark _)) (pss_one (ps_set (i := 2) sc__law_draw.nd rfl (Or.inl rfl) (pe_op op_sub (pe_un un_neg (pv 2)) pe_int)))
    pss_nil)
    (pss_one (ps_if (pt_cmpR op_ge (pv 2) (pe_op op_pow pe_int pe_int) (nomark _)) (pss_one (ps_dput (hu_of hr) (pv 0) pe_str (pv 2) rfl))
    (pss_cons (ps_dput (hu_of hr) (pv 0) pe_str (pv 2) rfl)
    (pss_one (ps_dput (hu_of hr) (pv 0) pe_str pe_int rfl)))))))))
    pss_nil)
    (pss_cons (ps_if (pt_cmpR op_gt (pe_dget (hu_of hr) (pv 0) pe_str (fun _ _ => rfl)) pe_int (nomark _)) (pss_cons (ps_set (i := 3) sc__law_draw.nd rfl (Or.inl rfl) (pe_op op_mod (pe_callTy call_int1 (by rfl) T.f_int (by decide +kernel) (pa_cons (pe_dget (hu_of hr) (pv 0) pe_str (fun _ _ => rfl)) pa_nil)) (pv 1)))
    (pss_cons (ps_dput (hu_of hr) (pv 0) pe_str (pe_op op_fdivW (pe_callTy call_int1 (by rfl) T.f_int (by decide +kernel) (pa_cons (pe_dget (hu_of hr) (pv 0) pe_str (fun _ _ => rfl)) pa_nil)) (pv 1)) rfl)
    (pss_one (ps_ret (pv 3)))))
    pss_nil)
    (pss_cons (ps_set (i := 4) sc__law_draw.nd rfl (Or.inl rfl) (pe_dget (hu_of hr) (pv 0) pe_str (fun _ _ => rfl)))
    (pss_cons (ps_dput (hu_of hr) (pv 0) pe_str (pe_op op_sub (pv 4) pe_int) rfl)
    (pss_cons (ps_set (i := 5) sc__law_draw.nd rfl (Or.inl rfl) (pe_op op_mod (pe_callTy call_int1 (by rfl) T.f_int (by decide +kernel) (pa_cons (pe_op op_add (pe_op op_add (pe_op op_mul (pe_dget (hu_of hr) (pv 0) pe_str (fun _ _ => rfl)) pe_int) (pe_op op_mul (pv 4) pe_int)) (pe_op op_mul (pe_dget (hu_of hr) (pv 0) pe_str (fun _ _ => rfl)) pe_int)) pa_nil)) pe_int))
    (pss_cons (ps_set (i := 6) sc__law_draw.nd rfl (Or.inl rfl) (pe_op op_mod (pe_callTy call_int1 (by rfl) T.f_int (by decide +kernel) (pa_cons (pe_op op_add (pe_op op_add (pe_op op_mul (pv 5) (pv 5)) (pe_op op_mul (pv 5) pe_int)) (pe_op op_mul (pv 4) pe_int)) pa_nil)) pe_int))
    (pss_one (ps_ret (pe_op op_mod (pe_callTy call_int1 (by rfl) T.f_int (by decide +kernel) (pa_cons (pv 6) pa_nil)) (pv 1)))))))))), ?_⟩
    refine ⟨fun σ' H' => ∃ cv a l m d, σ' = [some (.ref s), some (.int many), cv, none, none, none, none] ∧ H' s = some (.dK (srcK c a l m d)) ∧ 0 ≤ a ∧ But s H H', ?_, ?_⟩
    · refine ⟨_, rfl, s, _, rfl, g_left hs, rfl, _, rfl, ifI (fun e1 => ?_) (fun e1 => ?_)⟩
      · refine ⟨_, rfl, s, _, rfl, g_mixed hs, rfl, _, rfl, ifI (fun e2 => ?_) (fun e2 => ?_)⟩
        · refine ⟨_, rfl, s, _, rfl, g_at hs, _, rfl, s, _, rfl, g_cells hs, _, _, rfl, .inl ⟨_, SqL.of hc, rfl⟩, _, _, rfl, rfl, _, rfl, ifD (fun e3 => ?_) (fun e3 => ?_)⟩
          · exact k 0 H (Int.le_refl 0) hm0 ⟨ns, a, l, m, d, hs, hc, ha⟩ (But.refl H)
          · rw [List.length_map] at e3
            have hlt : a.toNat < ns.length := by omega
            obtain ⟨cell, hcell⟩ : ∃ z, ns[a.toNat]? = some z := ⟨_, List.getElem?_eq_getElem hlt⟩
            refine ⟨_, rfl, s, _, rfl, g_cells hs, _, rfl, s, _, rfl, g_at hs, c, _, a, .int cell, rfl, rfl, SqL.of hc, atNat (n := a.toNat) (by rw [List.getElem?_map, hcell]; rfl) (by omega), ?_⟩
            refine ⟨_, rfl, s, _, rfl, g_at hs, _, _, rfl, rfl, _, rfl, s, _, rfl, p_at hs, ?_⟩
            have hs1 : (upd H s (.dK (srcK c (a + 1) l m d))) s = some (.dK (srcK c (a + 1) l m d)) := upd_same
            have b1 : But s H (upd H s (.dK (srcK c (a + 1) l m d))) := But.upd
            refine ⟨fun σ' H' => ∃ cv : Int, σ' = [some (.ref s), some (.int many), some (.int cv), none, none, none, none] ∧ H' = upd H s (.dK (srcK c (a + 1) l m d)), ?_, ?_⟩
            · refine ⟨_, rfl, _, _, rfl, rfl, _, rfl, ifD (fun e4 => ?_) (fun e4 => ?_)⟩
              · exact ⟨_, rfl, _, rfl, _, _, rfl, rfl, _, rfl, rfl⟩
              · exact ⟨_, rfl, rfl⟩
            · rintro σ' H' ⟨cv, rfl, rfl⟩
              refine ⟨_, rfl, _, _, rfl, rfl, ⟨by decide, by decide, by decide⟩, _, _, rfl, rfl, _, rfl, ifD (fun e5 => ?_) (fun e5 => ?_)⟩
              · exact ⟨_, rfl, _, rfl, s, _, rfl, p_left hs1, _, _, _, _, _, rfl, upd_same, by omega, b1.trans But.upd⟩
              · exact ⟨_, rfl, _, rfl, s, _, rfl, p_seed hs1, _, rfl, s, _, rfl, p_mixed upd_same, _, _, _, _, _, rfl, upd_same, by omega, (b1.trans But.upd).trans But.upd⟩
        · exact ⟨_, _, _, _, _, rfl, hs, ha, But.refl H⟩
      · exact ⟨_, _, _, _, _, rfl, hs, ha, But.refl H⟩
    · rintro σ' H' ⟨cv, a, l, m, d, rfl, hs', ha', b'⟩
      have hc' : H' c = some (.lst (ns.map V.int)) := b' _ _ ncs hc
      refine ⟨_, rfl, s, _, rfl, g_left hs', _, _, rfl, rfl, _, rfl, ifD (fun e6 => ?_) (fun e6 => ?_)⟩
      · refine ⟨_, rfl, s, _, rfl, g_left hs', .inl ⟨_, rfl, _, rfl, _, _, rfl, rfl, hm0, ?_⟩⟩
        refine ⟨_, rfl, s, _, rfl, g_left hs', .inl ⟨_, rfl, _, rfl, _, _, rfl, rfl, wide_div hm0 (b := 200) (by omega) (by decide) (by decide), _, rfl, s, _, rfl, p_left hs', _, rfl, ?_⟩⟩
        refine k _ _ (Int.emod_nonneg _ (by omega)) (Int.emod_lt_of_pos _ hm0) ⟨ns, _, _, _, _, upd_same, But.upd _ _ ncs hc', ha'⟩ (b'.trans But.upd)
      · refine ⟨_, rfl, s, _, rfl, g_mixed hs', ?_⟩
        refine ⟨_, rfl, _, _, rfl, rfl, _, rfl, s, _, rfl, p_mixed hs', ?_⟩
        refine ⟨_, rfl, s, _, rfl, g_seed upd_same, _, _, rfl, rfl, .inr ⟨by decide, by decide⟩, _, rfl, _, _, rfl, rfl, .inr ⟨by decide, by decide⟩, _, _, rfl, rfl, _, rfl, s, _, rfl, g_at upd_same, _, _, rfl, rfl, .inr ⟨by decide, by decide⟩, _, _, rfl, rfl, .inl ⟨_, rfl, _, _, rfl, rfl, (by show (0 : Int) < 2147483647; decide), ?_⟩⟩
        have f0 : 0 ≤ (d * 48271 + m * 69621 + a * 16807) % 2147483647 := Int.emod_nonneg _ (by decide)
        have f1 : (d * 48271 + m * 69621 + a * 16807) % 2147483647 < 2147483647 := Int.emod_lt_of_pos _ (by decide)
        refine ⟨_, rfl, _, rfl, _, _, rfl, rfl, .inl ⟨Int.lt_of_lt_of_le (by decide) f0, Int.lt_trans f1 (by decide)⟩, _, rfl, _, _, rfl, rfl, .inr ⟨by decide, by decide⟩, _, _, rfl, rfl, _, rfl, _, _, rfl, rfl, .inr ⟨by decide, by decide⟩, _, _, rfl, rfl, .inl ⟨_, rfl, _, _, rfl, rfl, (by show (0 : Int) < 2147483399; decide), ?_⟩⟩
        refine ⟨_, rfl, .inl ⟨_, rfl, _, rfl, _, _, rfl, rfl, hm0, ?_⟩⟩
        exact k _ _ (Int.emod_nonneg _ (by omega)) (Int.emod_lt_of_pos _ hm0) ⟨ns, _, _, _, _, upd_same, But.upd _ _ ncs hc', ha'⟩ (b'.trans But.upd)
end
section
variable {P : Program} {w : World} {K : PySem.W.Frag} {mg : Str → Option Value} {base : Heap}
theorem ok_number (T : Txt K mg) : Cal P w K mg base CX0 2 "_law_number" P__law_number [] spNumber := by
  have C__law_draw := ok_draw (P := P) (w := w) (base := base) T
  refine Cal.of T.F__law_number T.g__law_number (fun fd F => F.ok sc__law_number (fun vs H Q E h => ?_) (fun cdv A outer s0 H vs Q E hr h => ?_)) (fun _ _ _ _ _ _ us hl => match us, hl with | [_], _ => rfl)
  · obtain ⟨s, c, rfl, _⟩ := h
    rfl
  · obtain ⟨s, c, rfl, S, k⟩ := h
    refine ⟨_, PSs.nox (pss_cons (ps_set (i := 1) sc__law_number.nd rfl (Or.inl rfl) (pc_call C__law_draw (hr.mono (by first | decide | omega)) pass0 (pa_cons (pv 0) (pa_cons pe_int pa_nil))))
    (pss_cons (ps_if (pt_cmpR op_eq (pv 1) pe_int (nomark _)) (pss_one (ps_ret (pe_op op_sub (pc_call C__law_draw (hr.mono (by first | decide | omega)) pass0 (pa_cons (pv 0) (pa_cons pe_int pa_nil))) pe_int)))
    pss_nil)
    (pss_cons (ps_if (pt_cmpR op_eq (pv 1) pe_int (nomark _)) (pss_one (ps_ret (pe_op op_sub (pc_call C__law_draw (hr.mono (by first | decide | omega)) pass0 (pa_cons (pv 0) (pa_cons (pe_op op_add (pe_op op_mul pe_int (pe_op op_pow pe_int pe_int)) pe_int) pa_nil))) (pe_op op_pow pe_int pe_int))))
    pss_nil)
    (pss_one (ps_ret (pe_op op_sub (pc_call C__law_draw (hr.mono (by first | decide | omega)) pass0 (pa_cons (pv 0) (pa_cons pe_int pa_nil))) pe_int)))))), ?_⟩
    refine ⟨_, rfl, s, c, 8, rfl, S, by decide, by decide, fun r1 H1 a1 b1 S1 e1 => ?_⟩
    refine ⟨_, rfl, rfl, _, rfl, ifI (fun h1 => ?_) (fun h1 => ?_)⟩
    · exact ⟨_, rfl, s, c, 2001, rfl, S1, by decide, by decide, fun r2 H2 a2 b2 S2 e2 => ⟨_, _, rfl, rfl, k _ _ (by omega) (by omega) S2 (e1.trans e2)⟩⟩
    · refine ⟨_, rfl, rfl, _, rfl, ifI (fun h2 => ?_) (fun h2 => ?_)⟩
      · refine ⟨_, rfl, _, _, rfl, rfl, ⟨by decide, by decide, by decide⟩, _, _, rfl, rfl, .inl ⟨by decide, by decide⟩, _, _, rfl, rfl, s, c, _, rfl, S1, by decide, by decide, fun r2 H2 a2 b2 S2 e2 => ?_⟩
        exact ⟨_, _, rfl, rfl, ⟨by decide, by decide, by decide⟩, _, _, rfl, rfl, k _ _ (by show -(10 ^ 20) ≤ r2 - 10 ^ 20; omega) (by have : r2 < 2 * 10 ^ 20 + 1 := b2; show r2 - 10 ^ 20 ≤ 10 ^ 20; omega) S2 (e1.trans e2)⟩
      · exact ⟨_, rfl, s, c, 5, rfl, S1, by decide, by decide, fun r2 H2 a2 b2 S2 e2 => ⟨_, _, rfl, rfl, k _ _ (by omega) (by omega) S2 (e1.trans e2)⟩⟩
end
section
variable {P : Program} {w : World} {K : PySem.W.Frag} {mg : Str → Option Value} {base : Heap}
theorem ok_whole (T : Txt K mg) : Cal P w K mg base CX0 1 "_law_whole" P__law_whole [] spWhole := by
  refine Cal.of T.F__law_whole T.g__law_whole (fun fd F => F.ok sc__law_whole (fun vs H Q E h => ?_) (fun cdv A outer s0 H vs Q E hr h => ?_)) (fun _ _ _ _ _ _ us hl => match us, hl with | [_], _ => rfl)
  · obtain ⟨i, rfl, _⟩ := h
    rfl
  · obtain ⟨i, rfl, k⟩ := h
    refine ⟨_, PSs.nox (pss_one (ps_ret (pe_and (pe_callB call_isi (by rfl) T.f_isinstance (by decide +kernel) (pa_cons (pv 0) (pa_cons (pe_bltn (v := .ty "int") (u := .type "int") (by rfl) T.f_int (by decide +kernel) rfl) pa_nil))) (pe_one (pe_not (pe_callB call_isi (by rfl) T.f_isinstance (by decide +kernel) (pa_cons (pv 0) (pa_cons (pe_bltn (v := .ty "bool") (u := .type "bool") (by rfl) T.f_bool (by decide +kernel) rfl) pa_nil)))))))), ?_⟩
    exact ⟨_, rfl, _, _, _, _, _, rfl, .ty _, .base (.int i), kit_ty kt_int_int, _, rfl, iteT ⟨_, rfl, _, _, _, _, _, rfl, .ty _, .base (.int i), kit_ty kt_int_bool, _, rfl, k⟩⟩
theorem ok_same (T : Txt K mg) : ∀ n, Cal P w K mg base CX0 (n + 2) "_law_same" P__law_same [] (spSame K n) := by
  have C__law_whole := ok_whole (P := P) (w := w) (base := base) T
  intro n
  induction n with
  | zero =>
    refine Cal.of T.F__law_same T.g__law_same (fun fd F => F.ok sc__law_same (fun vs H Q E h => ?_) (fun cdv A outer s0 H vs Q E hr h => ?_)) (fun _ _ _ _ _ _ us hl => match us, hl with | [_, _], _ => rfl)
    all_goals (obtain ⟨x, y, d, _, _, _, h, _⟩ := h; exact Bool.noConfusion (show false = true from h))
  | succ n C__law_same =>
    refine Cal.of T.F__law_same T.g__law_same (fun fd F => F.ok sc__law_same (fun vs H Q E h => ?_) (fun cdv A outer s0 H vs Q E hr h => ?_)) (fun _ _ _ _ _ _ us hl => match us, hl with | [_, _], _ => rfl)
    · obtain ⟨x, y, d, rfl, _⟩ := h
      rfl
    · obtain ⟨x, y, d, rfl, hx, hy, hd, k⟩ := h
      refine ⟨_, PSs.nox (pss_cons (ps_if (PW.pt (pw_or (pt_val (pe_callB call_isi (by rfl) T.f_isinstance (by decide +kernel) (pa_cons (pv 1) (pa_cons (pe_bltn (v := .ty "bool") (u := .type "bool") (by rfl) T.f_bool (by decide +kernel) rfl) pa_nil)))) (pw_or (pt_cmpR op_isN (pv 1) pe_non (nomark _)) (pw_or1 (pt_val (pe_callB call_isi (by rfl) T.f_isinstance (by decide +kernel) (pa_cons (pv 1) (pa_cons (pe_bltn (v := .ty "str") (u := .type "str") (by rfl) T.f_str (by decide +kernel) rfl) pa_nil)))))))) (pss_one (ps_ret (pe_and (pe_cmpR op_eq (pe_callB call_isi (by rfl) T.f_isinstance (by decide +kernel) (pa_cons (pv 0) (pa_cons (pe_bltn (v := .ty "bool") (u := .type "bool") (by rfl) T.f_bool (by decide +kernel) rfl) pa_nil))) (pe_callB call_isi (by rfl) T.f_isinstance (by decide +kernel) (pa_cons (pv 1) (pa_cons (pe_bltn (v := .ty "bool") (u := .type "bool") (by rfl) T.f_bool (by decide +kernel) rfl) pa_nil))) (nomark _)) (pe_one (pe_cmpR op_eq (pv 0) (pv 1) (nomark _))))))
    pss_nil)
    (pss_cons (ps_if (pt_val (pe_callB call_isi (by rfl) T.f_isinstance (by decide +kernel) (pa_cons (pv 1) (pa_cons (pe_bltn (v := .ty "int") (u := .type "int") (by rfl) T.f_int (by decide +kernel) rfl) pa_nil)))) (pss_one (ps_ret (pe_and (pc_call C__law_whole (hr.mono (by first | decide | omega)) pass0 (pa_cons (pv 0) pa_nil)) (pe_one (pe_cmpR op_eq (pv 0) (pv 1) (nomark _))))))
    pss_nil)
    (pss_cons (ps_if (PW.pt (pw_or (pt_cmpR op_ne (pe_callB call_isi (by rfl) T.f_isinstance (by decide +kernel) (pa_cons (pv 1) (pa_cons (pe_bltn (v := .ty "tuple") (u := .type "tuple") (by rfl) T.f_tuple (by decide +kernel) rfl) pa_nil))) (pe_callB call_isi (by rfl) T.f_isinstance (by decide +kernel) (pa_cons (pv 0) (pa_cons (pe_bltn (v := .ty "tuple") (u := .type "tuple") (by rfl) T.f_tuple (by decide +kernel) rfl) pa_nil))) (nomark _)) (pw_or1 (pt_cmpR op_ne (pe_callB call_isi (by rfl) T.f_isinstance (by decide +kernel) (pa_cons (pv 1) (pa_cons (pe_bltn (v := .ty "list") (u := .type "list") (by rfl) T.f_list (by decide +kernel) rfl) pa_nil))) (pe_callB call_isi (by rfl) T.f_isinstance (by decide +kernel) (pa_cons (pv 0) (pa_cons (pe_bltn (v := .ty "list") (u := .type "list") (by rfl) T.f_list (by decide +kernel) rfl) pa_nil))) (nomark _))))) (pss_one (ps_ret pe_bl))
    pss_nil)
    (pss_cons (ps_if (pt_cmpR op_ne (pe_callB call_len (by rfl) T.f_len (by decide +kernel) (pa_cons (pv 0) pa_nil)) (pe_callB call_len (by rfl) T.f_len (by decide +kernel) (pa_cons (pv 1) pa_nil)) (nomark _)) (pss_one (ps_ret pe_bl))
    pss_nil)
    (pss_cons (ps_for PassesOwn.never rfl (pi_range1 (by rfl) T.f_range (pa_cons (pe_callB call_len (by rfl) T.f_len (by decide +kernel) (pa_cons (pv 1) pa_nil)) pa_nil)) (pg_name (i := 2) sc__law_same.nd rfl (Or.inl rfl))
    (pss_one (ps_if (pt_not (pt_val (pc_call C__law_same (hr.mono (by first | decide | omega)) pass0 (pa_cons (pe_ix ix_seq (pv 0) (pv 2) (fun _ _ => rfl)) (pa_cons (pe_ix ix_seq (pv 1) (pv 2) (fun _ _ => rfl)) pa_nil))))) (pss_one (ps_ret pe_bl))
    pss_nil)))
    (pss_one (ps_ret pe_bl))))))), ?_⟩
      cases d with
      | none =>
        cases hx
        cases hy
        refine ⟨_, rfl, ⟨_, _, _, _, _, rfl, .ty _, (.base .non), kit_ty kt_NoneType_bool, _, rfl, iteF ⟨_, rfl, rfl, _, rfl, iteT (iteT ?_)⟩⟩⟩
        exact ⟨_, rfl, ⟨_, _, _, _, _, rfl, .ty _, (.base .non), kit_ty kt_NoneType_bool, _, rfl, ⟨_, _, _, _, _, rfl, .ty _, (.base .non), kit_ty kt_NoneType_bool, rfl, _, rfl, iteT ⟨_, rfl, _, rfl, rfl, k⟩⟩⟩⟩
      | bool b =>
        cases hx
        cases hy
        refine ⟨_, rfl, ⟨_, _, _, _, _, rfl, .ty _, (.base (.bl b)), kit_ty kt_bool_bool, _, rfl, iteT (iteT ?_)⟩⟩
        refine ⟨_, rfl, ⟨_, _, _, _, _, rfl, .ty _, (.base (.bl b)), kit_ty kt_bool_bool, _, rfl, ⟨_, _, _, _, _, rfl, .ty _, (.base (.bl b)), kit_ty kt_bool_bool, rfl, _, rfl, iteT ⟨_, rfl, _, rfl, rfl, ?_⟩⟩⟩⟩
        rw [decide_eq_true rfl]
        exact k
      | int i =>
        cases hx
        cases hy
        refine ⟨_, rfl, ⟨_, _, _, _, _, rfl, .ty _, (.base (.int i)), kit_ty kt_int_bool, _, rfl, iteF ⟨_, rfl, rfl, _, rfl, ifF (decide_eq_false fun e => nomatch e) ⟨_, rfl, ⟨_, _, _, _, _, rfl, .ty _, (.base (.int i)), kit_ty kt_int_str, _, rfl, iteF ?_⟩⟩⟩⟩⟩
        refine ⟨_, rfl, ⟨_, _, _, _, _, rfl, .ty _, (.base (.int i)), kit_ty kt_int_int, _, rfl, iteT ⟨_, rfl, i, rfl, _, rfl, iteT ⟨_, rfl, _, rfl, rfl, ?_⟩⟩⟩⟩
        rw [decide_eq_true rfl]
        exact k
      | str z =>
        cases hx
        cases hy
        refine ⟨_, rfl, ⟨_, _, _, _, _, rfl, .ty _, (.base (.str z)), kit_ty kt_str_bool, _, rfl, iteF ⟨_, rfl, rfl, _, rfl, ifF (decide_eq_false fun e => nomatch e) ⟨_, rfl, ⟨_, _, _, _, _, rfl, .ty _, (.base (.str z)), kit_ty kt_str_str, _, rfl, iteT ?_⟩⟩⟩⟩⟩
        refine ⟨_, rfl, ⟨_, _, _, _, _, rfl, .ty _, (.base (.str z)), kit_ty kt_str_bool, _, rfl, ⟨_, _, _, _, _, rfl, .ty _, (.base (.str z)), kit_ty kt_str_bool, rfl, _, rfl, iteT ⟨_, rfl, _, rfl, rfl, ?_⟩⟩⟩⟩
        rw [decide_eq_true rfl]
        exact k
      | list ds =>
        cases hx with
        | lst hxs hxa =>
          cases hy with
          | lst hys hya =>
            rename_i a xs b ys
            obtain ⟨hl, hall⟩ := Bool.and_eq_true_iff.mp (show (decide (ds.length ≤ 100000) && ds.all (okD n)) = true from hd)
            have hl := of_decide_eq_true hl
            have ta := tyx_l hxs
            have tb := tyx_l hys
            refine ⟨_, rfl, ⟨_, _, _, _, _, rfl, .ty _, tb, kit_ty kt_list_bool, _, rfl, iteF ⟨_, rfl, rfl, _, rfl, ifF (decide_eq_false fun e => nomatch e) ⟨_, rfl, ⟨_, _, _, _, _, rfl, .ty _, tb, kit_ty kt_list_str, _, rfl, iteF ?_⟩⟩⟩⟩⟩
            refine ⟨_, rfl, ⟨_, _, _, _, _, rfl, .ty _, tb, kit_ty kt_list_int, _, rfl, iteF ?_⟩⟩
            refine ⟨_, rfl, ⟨_, _, _, _, _, rfl, .ty _, tb, kit_ty kt_list_tuple, _, rfl, ⟨_, _, _, _, _, rfl, .ty _, ta, kit_ty kt_list_tuple, rfl, _, rfl, iteF ⟨_, rfl, ⟨_, _, _, _, _, rfl, .ty _, tb, kit_ty kt_list_list, _, rfl, ⟨_, _, _, _, _, rfl, .ty _, ta, kit_ty kt_list_list, rfl, _, rfl, iteF ?_⟩⟩⟩⟩⟩⟩
            refine ⟨_, rfl, _, _, rfl, .inl ⟨_, hxs, (dp_len hxa).symm⟩, _, rfl, _, _, rfl, .inl ⟨_, hys, (dp_len hya).symm⟩, rfl, _, rfl, ?_⟩
            rw [decide_eq_true rfl]
            refine iteF ⟨_, rfl, _, _, rfl, .inl ⟨_, hys, (dp_len hya).symm⟩, _, rfl, by omega, by omega, ?_⟩
            refine for_range (lo := 0) (n := (((ds.length : Nat) : Int) - 0).toNat) (fun i σ' H' => ∃ v, σ' = [some (.ref a), some (.ref b), v] ∧ H' = H) ⟨_, rfl, rfl⟩ ?_ ?_
            · rintro i σ' H' hi ⟨v, rfl, rfl⟩
              have hid : i < ds.length := by omega
              obtain ⟨dx, hdx⟩ : ∃ d, ds[i]? = some d := ⟨_, List.getElem?_eq_getElem hid⟩
              obtain ⟨x1, hx1, hx2⟩ := dp_get hxa hdx
              obtain ⟨y1, hy1, hy2⟩ := dp_get hya hdx
              have ok1 := List.all_eq_true.mp hall dx (List.mem_of_getElem? hdx)
              refine ⟨_, rfl, _, rfl, .inl ⟨a, xs, _, x1, rfl, rfl, hxs, atNat (n := i) hx1 (by omega), _, rfl, _, rfl, .inl ⟨b, ys, _, y1, rfl, rfl, hys, atNat (n := i) hy1 (by omega), x1, y1, dx, rfl, hx2, hy2, ok1, _, rfl, iteF ?_⟩⟩⟩
              exact ⟨_, rfl, rfl⟩
            · rintro σ' H' ⟨v, rfl, rfl⟩
              exact k
      | tuple ds =>
        cases hx with
        | tup hxs hxa =>
          cases hy with
          | tup hys hya =>
            rename_i a xs b ys
            obtain ⟨hl, hall⟩ := Bool.and_eq_true_iff.mp (show (decide (ds.length ≤ 100000) && ds.all (okD n)) = true from hd)
            have hl := of_decide_eq_true hl
            have ta := tyx_t hxs
            have tb := tyx_t hys
            refine ⟨_, rfl, ⟨_, _, _, _, _, rfl, .ty _, tb, kit_ty kt_tuple_bool, _, rfl, iteF ⟨_, rfl, rfl, _, rfl, ifF (decide_eq_false fun e => nomatch e) ⟨_, rfl, ⟨_, _, _, _, _, rfl, .ty _, tb, kit_ty kt_tuple_str, _, rfl, iteF ?_⟩⟩⟩⟩⟩
            refine ⟨_, rfl, ⟨_, _, _, _, _, rfl, .ty _, tb, kit_ty kt_tuple_int, _, rfl, iteF ?_⟩⟩
            refine ⟨_, rfl, ⟨_, _, _, _, _, rfl, .ty _, tb, kit_ty kt_tuple_tuple, _, rfl, ⟨_, _, _, _, _, rfl, .ty _, ta, kit_ty kt_tuple_tuple, rfl, _, rfl, iteF ⟨_, rfl, ⟨_, _, _, _, _, rfl, .ty _, tb, kit_ty kt_tuple_list, _, rfl, ⟨_, _, _, _, _, rfl, .ty _, ta, kit_ty kt_tuple_list, rfl, _, rfl, iteF ?_⟩⟩⟩⟩⟩⟩
            refine ⟨_, rfl, _, _, rfl, .inr ⟨_, hxs, (dp_len hxa).symm⟩, _, rfl, _, _, rfl, .inr ⟨_, hys, (dp_len hya).symm⟩, rfl, _, rfl, ?_⟩
            rw [decide_eq_true rfl]
            refine iteF ⟨_, rfl, _, _, rfl, .inr ⟨_, hys, (dp_len hya).symm⟩, _, rfl, by omega, by omega, ?_⟩
            refine for_range (lo := 0) (n := (((ds.length : Nat) : Int) - 0).toNat) (fun i σ' H' => ∃ v, σ' = [some (.ref a), some (.ref b), v] ∧ H' = H) ⟨_, rfl, rfl⟩ ?_ ?_
            · rintro i σ' H' hi ⟨v, rfl, rfl⟩
              have hid : i < ds.length := by omega
              obtain ⟨dx, hdx⟩ : ∃ d, ds[i]? = some d := ⟨_, List.getElem?_eq_getElem hid⟩
              obtain ⟨x1, hx1, hx2⟩ := dp_get hxa hdx
              obtain ⟨y1, hy1, hy2⟩ := dp_get hya hdx
              have ok1 := List.all_eq_true.mp hall dx (List.mem_of_getElem? hdx)
              refine ⟨_, rfl, _, rfl, .inr (.inl ⟨a, xs, _, x1, rfl, rfl, hxs, atNat (n := i) hx1 (by omega), _, rfl, _, rfl, .inr (.inl ⟨b, ys, _, y1, rfl, rfl, hys, atNat (n := i) hy1 (by omega), x1, y1, dx, rfl, hx2, hy2, ok1, _, rfl, iteF ?_⟩)⟩)⟩
              exact ⟨_, rfl, rfl⟩
            · rintro σ' H' ⟨v, rfl, rfl⟩
              exact k
      | dict kvs => exact Bool.noConfusion (show false = true from hd)
end
/-! ### the mathematics of ranks -/
def smaller (ns : List Int) (v : Int) : List Int := ns.foldl (fun acc x => if x < v ∧ x ∉ acc then acc ++ [x] else acc) []
def rk (ns : List Int) : List Int := ns.map fun v => ((smaller ns v).length : Int)
theorem smaller_snoc (ns : List Int) (x v : Int) : smaller (ns ++ [x]) v = if x < v ∧ x ∉ smaller ns v then smaller ns v ++ [x] else smaller ns v := by
  unfold smaller
  rw [List.foldl_append]
  rfl
theorem smaller_ok (v : Int) (n : Nat) : ∀ ns : List Int, ns.length = n → (smaller ns v).Nodup ∧ (∀ x, x ∈ smaller ns v ↔ x ∈ ns ∧ x < v) ∧ (smaller ns v).length ≤ ns.length := by
  induction n with
  | zero =>
    intro ns h
    cases ns with
    | nil => exact ⟨List.nodup_nil, fun x => by simp [smaller], Nat.le_refl _⟩
    | cons => simp at h
  | succ n ih =>
    intro ns h
    have hn : ns ≠ [] := by rintro rfl; simp at h
    obtain ⟨ms, x, rfl⟩ : ∃ ms x, ns = ms ++ [x] := ⟨ns.dropLast, ns.getLast hn, (List.dropLast_concat_getLast hn).symm⟩
    obtain ⟨h1, h2, h3⟩ := ih ms (by simpa using h)
    rw [smaller_snoc]
    by_cases c : x < v ∧ x ∉ smaller ms v
    · rw [if_pos c]
      refine ⟨List.nodup_append.mpr ⟨h1, by simp, ?_⟩, fun y => ?_, by simp; omega⟩
      · intro a ha b hb e
        have : b = x := by simpa using hb
        subst this
        subst e
        exact c.2 ha
      · rw [List.mem_append, List.mem_append, h2 y]
        constructor
        · rintro (⟨a, b⟩ | a)
          · exact ⟨.inl a, b⟩
          · have : y = x := by simpa using a
            subst this
            exact ⟨.inr a, c.1⟩
        · rintro ⟨a | a, b⟩
          · exact .inl ⟨a, b⟩
          · exact .inr a
    · rw [if_neg c]
      refine ⟨h1, fun y => ?_, by simp; omega⟩
      rw [h2 y, List.mem_append]
      constructor
      · rintro ⟨a, b⟩
        exact ⟨.inl a, b⟩
      · rintro ⟨a | a, b⟩
        · exact ⟨a, b⟩
        · have : y = x := by simpa using a
          subst this
          by_cases z : y ∈ smaller ms v
          · exact (h2 y).mp z
          · exact absurd ⟨b, z⟩ c
theorem len_same {l m : List Int} (h1 : l.Nodup) (h2 : m.Nodup) (h : ∀ x, x ∈ l ↔ x ∈ m) : l.length = m.length := ((List.perm_ext_iff_of_nodup h1 h2).mpr h).length_eq
/-- the place of a member in the ascending list of the different ones is the number of smaller ones -/
theorem rank_at {ns L : List Int} (hL : L.Pairwise (· < ·)) (hm : ∀ x, x ∈ L ↔ x ∈ ns) {i : Nat} {v : Int} (h : L[i]? = some v) : (smaller ns v).length = i := by
  obtain ⟨h1, h2, _⟩ := smaller_ok v ns.length ns rfl
  have hi : i < L.length := (List.getElem?_eq_some_iff.mp h).1
  have hv : L[i] = v := (List.getElem?_eq_some_iff.mp h).2
  have nd : L.Nodup := hL.imp fun {a b} h => by omega
  have e : (smaller ns v).length = (L.take i).length := len_same h1 (nd.sublist (List.take_sublist _ _)) fun x => by
    rw [h2 x, ← hm x]
    constructor
    · rintro ⟨a, b⟩
      obtain ⟨j, hj, e⟩ := List.getElem_of_mem a
      have hji : j < i := by
        rcases Nat.lt_trichotomy j i with z | z | z
        · exact z
        · subst z; omega
        · have := List.pairwise_iff_getElem.mp hL i j hi hj z
          omega
      rw [List.mem_take_iff_getElem]
      exact ⟨j, by omega, e⟩
    · intro a
      obtain ⟨j, hj, e⟩ := List.mem_take_iff_getElem.mp a
      have hji : j < i := by omega
      have := List.pairwise_iff_getElem.mp hL j i (by omega) hi hji
      exact ⟨List.mem_of_mem_take a, by omega⟩
  rw [e, List.length_take]
  omega
/-- the dict of places -/
def plc (L : List Int) : List (Key × V) := (List.range L.length).map fun i => (.inl (L.getD i 0), V.int (i : Int))
theorem plc_snoc {L : List Int} {i : Nat} {v : Int} (h : L[i]? = some v) (nd : L.Nodup) : putK (plc (L.take i)) (.inl v) (.int (i : Int)) = plc (L.take (i + 1)) := by
  have hi : i < L.length := (List.getElem?_eq_some_iff.mp h).1
  have hv : L[i] = v := (List.getElem?_eq_some_iff.mp h).2
  have e1 : plc (L.take (i + 1)) = plc (L.take i) ++ [(.inl v, V.int (i : Int))] := by
    unfold plc
    rw [List.length_take, List.length_take, Nat.min_eq_left (by omega), Nat.min_eq_left (by omega), List.range_succ, List.map_append]
    congr 1
    · apply List.map_congr_left
      intro j hj
      have hj : j < i := List.mem_range.mp hj
      rw [List.getD_eq_getElem?_getD, List.getD_eq_getElem?_getD, List.getElem?_take_of_lt (by omega), List.getElem?_take_of_lt hj]
    · show [((Sum.inl ((L.take (i + 1)).getD i 0) : Key), V.int (i : Int))] = _
      rw [List.getD_eq_getElem?_getD, List.getElem?_take_of_lt (by omega), h]
      rfl
  rw [e1]
  refine putK_new _ ?_
  unfold valV
  rw [List.find?_eq_none.mpr]
  · rfl
  · intro p hp
    obtain ⟨j, hj, rfl⟩ := List.mem_map.mp hp
    have hj : j < i := by
      have := List.mem_range.mp hj
      rw [List.length_take] at this
      omega
    intro q
    have q := of_decide_eq_true q
    have q : (L.take i).getD j 0 = v := Sum.inl.inj q
    rw [List.getD_eq_getElem?_getD, List.getElem?_take_of_lt hj, List.getElem?_eq_getElem (by omega)] at q
    have q : L[j] = L[i] := q.trans hv.symm
    exact absurd ((List.getElem_inj nd).mp q) (by omega)
theorem plc_get {L : List Int} (nd : L.Nodup) {i : Nat} {v : Int} (h : L[i]? = some v) : valV (plc L) (.inl v) = some (.int (i : Int)) := by
  have hi : i < L.length := (List.getElem?_eq_some_iff.mp h).1
  have hv : L[i] = v := (List.getElem?_eq_some_iff.mp h).2
  unfold valV
  have e : (plc L).find? (fun kv => decide (kv.1 = Sum.inl v)) = some (.inl v, V.int (i : Int)) := by
    rw [List.find?_eq_some_iff_getElem]
    refine ⟨by simp, i, by unfold plc; simpa using hi, ?_, ?_⟩
    · unfold plc
      rw [List.getElem_map, List.getElem_range, List.getD_eq_getElem?_getD, h]
      rfl
    · intro j hj
      unfold plc
      rw [List.getElem_map, List.getElem_range, List.getD_eq_getElem?_getD, List.getElem?_eq_getElem (by omega)]
      simp only [Option.getD_some, Bool.not_eq_true', decide_eq_false_iff_not]
      intro q
      have q : L[j] = L[i] := (Sum.inl.inj q).trans hv.symm
      exact absurd ((List.getElem_inj nd).mp q) (by omega)
  rw [e]
  rfl
/-! ### the promises -/
def spRanks (K : PySem.W.Frag) : Sp := fun vs H Q _ => ∃ (a : Addr) (ns : List Int), vs = [.ref a] ∧ Sq K H a (ns.map V.int) ∧ ns.length < 60 ∧ ∀ p H', H p = none → Same H H' → H' p = some (.tup ((rk ns).map V.int)) → Q (.ref p) H'
def spSmaller (K : PySem.W.Frag) : Sp := fun vs H Q _ => ∃ (a : Addr) (ns : List Int), vs = [.ref a] ∧ SqL K H a (ns.map V.int) ∧ ns.length < 1000 ∧ ∀ p H', H p = none → Same H H' → H' p = some (.tup ((rk ns).map V.int)) → Q (.ref p) H'
def spLaw (K : PySem.W.Frag) : Sp := fun vs H Q _ => ∃ (a : Addr) (ns : List Int), vs = [.ref a] ∧ SqL K H a (ns.map V.int) ∧ ∀ H', Q (.bl true) H'
section
variable {P : Program} {w : World} {K : PySem.W.Frag} {mg : Str → Option Value} {base : Heap}
theorem ok_ranks (T : Txt K mg) : Cal P w K mg base CX0 1 "ranks" P_ranks [] (spRanks K) := by
  refine Cal.of T.F_ranks T.g_ranks (fun fd F => F.ok sc_ranks (fun vs H Q E h => ?_) (fun cdv A outer s0 H vs Q E hr h => ?_)) (fun _ _ _ _ _ _ us hl => match us, hl with | [_], _ => rfl)
  · obtain ⟨a, ns, rfl, _⟩ := h
    rfl
  · obtain ⟨a, ns, rfl, hS, hl, k⟩ := h
    refine ⟨_, PSs.nox (pss_cons (ps_set (i := 1) sc_ranks.nd rfl (Or.inl rfl) (pe_callB (cr_sortedSet rfl) (by rfl) T.f_sorted (by decide +kernel) (pa_cons (pe_callTy (cr_setL rfl) (by rfl) T.f_set (by decide +kernel) (pa_cons (pe_callTy call_list_of (by rfl) T.f_list (by decide +kernel) (pa_cons (pv 0) pa_nil)) pa_nil)) pa_nil)))
    (pss_cons (ps_set (i := 2) sc_ranks.nd rfl (Or.inr rfl) (pe_dc (own := [("place", 3), ("value", 4)]) (g := (gTup K 2 (gCons (gName 3) (gCons (gName 4) gNil)))) (tt := tYes) rfl sc_ranks.nd (pi_enum (by rfl) T.f_enumerate (pa_cons (pv 1) pa_nil)) (blkOk_by (N := N_ranks) (sc := defScope s_ranks) (by decide +kernel)) (fun _ _ _ _ _ => (pg_tup rfl (pgs_cons (pg_name (i := 3) sc_ranks.nd rfl (Or.inl rfl)) (pgs_cons (pg_name (i := 4) sc_ranks.nd rfl (Or.inl rfl)) pgs_nil)))) (fun _ _ _ _ _ => pts_nil) (fun _ _ _ _ _ => (pv 4)) (fun _ _ _ _ _ => (pv 3))))
    (pss_one (ps_ret (pe_callTy call_tuple_of (by rfl) T.f_tuple (by decide +kernel) (pa_cons (pe_lc (own := [("value", 4)]) (g := (gName 4)) (tt := tYes) rfl sc_ranks.nd (pi_seq (pv 0)) (blkOk_by (N := N_ranks) (sc := defScope s_ranks) (by decide +kernel)) (fun _ _ _ _ _ => (pg_name (i := 4) sc_ranks.nd rfl (Or.inl rfl))) (fun _ _ _ _ _ => pts_nil) (fun _ _ _ _ _ => (pe_dget (hu_of hr) (pv 2) (pv 4) (fun _ _ => rfl)))) pa_nil)))))), ?_⟩
    refine ⟨_, rfl, a, _, rfl, hS, fun l1 n1 => ?_⟩
    refine ⟨l1, ns, rfl, SqL.of upd_same, hl, fun l2 c n2 hc => ?_⟩
    refine ⟨l2, _, c, rfl, upd_same, by omega, fun L p pw hm hlen np => ?_⟩
    have hm : ∀ x, x ∈ L ↔ x ∈ ns := fun x => (hm x).trans decide_eq_true_iff
    have nd : L.Nodup := pw.imp fun {a b} h => by omega
    refine ⟨_, rfl, p, _, rfl, SqL.of upd_same, fun D nD => ?_⟩
    refine dc_it (walk_enum (xs := L.map V.int)) (fun i H' => Same H H' ∧ H' p = some (.lst (L.map V.int)) ∧ H' D = some (.dK (plc (L.take i))) ∧ H D = none) ⟨same_new (same_new (same_new (same_new (Same.refl H) n1) n2) np) nD, (by rw [upd_ne (ne_of_none upd_same nD)]; exact upd_same), upd_same, ?_⟩ (fun i H' _ q => SqL.of q.2.1) ?_ ?_
    · exact (same_new (same_new (same_new (Same.refl H) n1) n2) np).free nD
    · rintro i x H4 H5 hi ⟨s4, p4, d4, fD⟩ ⟨t, x1, x2, rfl, nt, rfl, e1, e2⟩
      obtain ⟨v, hv, rfl⟩ := map_get e2
      cases e1
      have nDt : D ≠ t := ne_of_none d4 nt
      have npD : p ≠ D := ne_of p4 d4 (by intro z; cases z)
      refine ⟨t, _, rfl, SqT.of upd_same, rfl, _, _, rfl, _, _, rfl, rfl, rfl, _, rfl, _, rfl, plc (L.take i), .inl v, rfl, (by rw [upd_ne nDt]; exact d4), small1000 ?_, ?_, ?_, ?_, fD⟩
      · unfold plc
        rw [List.length_map, List.length_range, List.length_take]
        omega
      · exact same_mut (same_new s4 nt) fD
      · rw [upd_ne npD, upd_ne (ne_of_none p4 nt)]
        exact p4
      · rw [upd_same, plc_snoc hv nd]
    · rintro H4 ⟨s4, p4, d4, fD⟩
      rw [List.length_map, take_all] at d4
      have a4 : Sq K H4 a (ns.map V.int) := hS.at fun o e => s4 _ _ e
      refine ⟨_, rfl, rseq a4 fun J G hG wk => fun D2 nD2 => ?_⟩
      refine lc_it wk (fun i H' => Same H4 H' ∧ H' D2 = some (.lst (((rk ns).take i).map V.int))) ⟨same_new (Same.refl H4) nD2, upd_same⟩ (fun i H' _ q => hG H' fun o e => q.1 _ _ e) ?_ ?_
      · rintro i x H5 _ hi ⟨s5, d5⟩ ⟨rfl, hx⟩
        obtain ⟨v, hv, rfl⟩ := map_get hx
        obtain ⟨j, hj, ej⟩ := List.getElem_of_mem ((hm v).mpr (List.mem_of_getElem? hv))
        have hjv : L[j]? = some v := by rw [List.getElem?_eq_getElem hj, ej]
        refine ⟨rfl, _, rfl, _, rfl, D, _, rfl, .inl ⟨plc L, .inl v, .inl (s5 _ _ d4), rfl, (plc_get nd hjv).symm⟩, _, d5, szl ?_, same_mut s5 nD2, ?_⟩
        · rw [List.length_map, List.length_take]
          unfold rk
          rw [List.length_map]
          omega
        · rw [upd_same]
          have e : (rk ns)[i]? = some (j : Int) := by
            unfold rk
            rw [get_map hv, rank_at pw hm hjv]
          rw [take_snoc e, List.map_append]
          rfl
      · rintro H5 ⟨s5, d5⟩
        have el : (ns.map V.int).length = (rk ns).length := by unfold rk; rw [List.length_map, List.length_map]
        rw [el, take_all] at d5
        refine ⟨D2, _, rfl, .inl ⟨SqL.of d5, fun z nz => ?_⟩⟩
        have s : Same H H5 := s4.trans s5
        exact k z _ (s.free nz) (same_new s nz) upd_same
theorem inV_ints (u : Int) (l : List Int) : inV (.int u) (l.map V.int) = decide (u ∈ l) := by
  unfold inV
  rw [List.any_map]
  induction l with
  | nil => rfl
  | cons z r ih =>
    rw [List.any_cons, ih]
    show (decide (z = u) || decide (u ∈ r)) = decide (u ∈ z :: r)
    by_cases h1 : z = u
    · subst h1
      simp
    · have h2 : u ≠ z := fun e => h1 e.symm
      simp [h1, h2]
theorem flat_ints (l : List Int) : (l.map V.int).all flatV = true := by
  rw [List.all_eq_true]
  intro x hx
  obtain ⟨i, _, rfl⟩ := List.mem_map.mp hx
  rfl
theorem ok_smaller (T : Txt K mg) : Cal P w K mg base CX0 1 "_law_smaller" P__law_smaller [] (spSmaller K) := by
  refine Cal.of T.F__law_smaller T.g__law_smaller (fun fd F => F.ok sc__law_smaller (fun vs H Q E h => ?_) (fun cdv A outer s0 H vs Q E hr h => ?_)) (fun _ _ _ _ _ _ us hl => match us, hl with | [_], _ => rfl)
  · obtain ⟨a, ns, rfl, _⟩ := h
    rfl
  · obtain ⟨a, ns, rfl, hS, hl, k⟩ := h
    refine ⟨_, PSs.nox (pss_cons (ps_set (i := 1) sc__law_smaller.nd rfl (Or.inl rfl) (pe_lst pa_nil))
    (pss_cons (ps_for PassesOwn.never rfl (pi_list (pv 0)) (pg_name (i := 2) sc__law_smaller.nd rfl (Or.inl rfl))
    (pss_cons (ps_set (i := 3) sc__law_smaller.nd rfl (Or.inl rfl) (pe_lst pa_nil))
    (pss_cons (ps_for PassesOwn.never rfl (pi_list (pv 0)) (pg_name (i := 4) sc__law_smaller.nd rfl (Or.inl rfl))
    (pss_one (ps_if (PW.pt (pw_and (pt_cmpR op_lt (pv 4) (pv 2) (nomark _)) (pw_and1 (pt_cmpR op_notIn_seq (pv 4) (pv 3) rfl)))) (pss_one (ps_expr (pe_bm PySem.F.plainAttrs_list PySem.F.slot_list_append PySem.F.type_list_append mt_append (pv 3) (pa_cons (pv 4) pa_nil))))
    pss_nil)))
    (pss_one (ps_expr (pe_bm PySem.F.plainAttrs_list PySem.F.slot_list_append PySem.F.type_list_append mt_append (pv 1) (pa_cons (pe_callB call_len_seq (by rfl) T.f_len (by decide +kernel) (pa_cons (pv 3) pa_nil)) pa_nil)))))))
    (pss_one (ps_ret (pe_callTy call_tuple_of (by rfl) T.f_tuple (by decide +kernel) (pa_cons (pv 1) pa_nil)))))), ?_⟩
    refine ⟨Nat.zero_le _, fun p np => ?_⟩
    refine ⟨_, rfl, a, rfl, ⟨_, (same_new (Same.refl H) np).seq hS⟩, for_list (K := K) (a := a) (xs := ns.map V.int) (fun i σ' H' => ∃ v2 v3 v4, σ' = [some (.ref a), some (.ref p), v2, v3, v4] ∧ Same H H' ∧ H' p = some (.lst (((rk ns).take i).map V.int)))
      ⟨none, none, none, rfl, same_new (Same.refl H) np, upd_same⟩ (fun i σ' H' _ ⟨_, _, _, _, s2, _⟩ => s2.seq hS) ?_ ?_⟩
    · rintro i y σ' H' hi ⟨v2, v3, v4, rfl, s2, hp⟩
      obtain ⟨v, hv, rfl⟩ := map_get hi
      have hi' : i < ns.length := (List.getElem?_eq_some_iff.mp hv).1
      refine ⟨Nat.zero_le _, fun q nq => ?_⟩
      have npq : p ≠ q := ne_of_none hp nq
      refine ⟨_, rfl, a, rfl, ⟨_, (same_new s2 nq).seq hS⟩, for_list (K := K) (a := a) (xs := ns.map V.int) (fun j σ'' H'' => ∃ v4, σ'' = [some (.ref a), some (.ref p), some (.int v), some (.ref q), v4] ∧ Same H' H'' ∧ H'' q = some (.lst ((smaller (ns.take j) v).map V.int)))
        ⟨v4, rfl, same_new (Same.refl H') nq, upd_same⟩ (fun j σ'' H'' _ ⟨_, _, s3, _⟩ => s3.seq (s2.seq hS)) ?_ ?_⟩
      · rintro j y σ'' H'' hj ⟨v4', rfl, s3, hq⟩
        obtain ⟨u, hu, rfl⟩ := map_get hj
        have hj' : j < ns.length := (List.getElem?_eq_some_iff.mp hu).1
        have step := smaller_snoc (ns.take j) u v
        rw [← take_snoc hu] at step
        obtain ⟨_, _, hlen⟩ := smaller_ok v _ (ns.take j) rfl
        rw [List.length_take] at hlen
        refine ⟨_, rfl, _, rfl, _, _, rfl, rfl, _, rfl, ifD (fun h1 => ?_) (fun h1 => ?_)⟩
        · refine ⟨_, rfl, _, rfl, q, _, rfl, .inl (SqL.of hq), rfl, flat_ints _, _, rfl, ?_⟩
          refine ifB (fun h2 => ?_) (fun h2 => ?_)
          · have h2 : u ∉ smaller (ns.take j) v := by
              have z : (!inV (V.int u) ((smaller (ns.take j) v).map V.int)) = true := h2
              rw [inV_ints] at z
              simpa using z
            rw [if_pos ⟨h1, h2⟩] at step
            refine ⟨_, rfl, .inl ⟨rfl, _, SqL.of hq⟩, _, rfl, q, _, _, rfl, rfl, hq, szl (by rw [List.length_map]; omega), ?_⟩
            refine ⟨_, rfl, same_mut s3 nq, ?_⟩
            rw [upd_same, step, List.map_append]
            rfl
          · have h2 : u ∈ smaller (ns.take j) v := by
              have z : (!inV (V.int u) ((smaller (ns.take j) v).map V.int)) = false := h2
              rw [inV_ints] at z
              simpa using z
            rw [if_neg (fun z => z.2 h2)] at step
            exact ⟨_, rfl, s3, by rw [step]; exact hq⟩
        · refine iteF ?_
          rw [if_neg (fun z => h1 z.1)] at step
          exact ⟨_, rfl, s3, by rw [step]; exact hq⟩
      · rintro σ'' H'' ⟨v4', rfl, s3, hq⟩
        rw [List.length_map, take_all] at hq
        have hp3 := s3 _ _ hp
        have e : (rk ns)[i]? = some ((smaller ns v).length : Int) := by unfold rk; rw [get_map hv]
        have hrk : (rk ns).length = ns.length := by unfold rk; rw [List.length_map]
        refine ⟨_, rfl, .inl ⟨rfl, _, SqL.of hp3⟩, _, rfl, q, _, rfl, .inl (SqL.of hq), p, _, _, rfl, rfl, hp3, szl (by rw [List.length_map, List.length_take]; omega), ?_⟩
        refine ⟨_, _, _, rfl, same_mut (s2.trans s3) np, ?_⟩
        rw [upd_same, take_snoc e, List.map_append, List.length_map]
        rfl
    · rintro σ' H' ⟨v2, v3, v4, rfl, s2, hp⟩
      have hrk : (ns.map V.int).length = (rk ns).length := by unfold rk; rw [List.length_map, List.length_map]
      rw [hrk, take_all] at hp
      exact ⟨_, rfl, p, _, rfl, .inl ⟨SqL.of hp, fun z nz => k z _ (s2.free nz) (same_new s2 nz) upd_same⟩⟩
end
section
variable {P : Program} {w : World} {K : PySem.W.Frag} {mg : Str → Option Value} {base : Heap}
theorem item8 {r : Int} (h0 : 0 ≤ r) (h1 : r < 8) : ∃ m, atI ([4, 0, 1, 2, 3, 5, 6, 7].map V.int) r = some (.int m) ∧ (0 ≤ m ∧ m ≤ 7) := item_of (by decide) h0 h1
theorem rk_len (ns : List Int) : (rk ns).length = ns.length := by unfold rk; rw [List.length_map]
theorem dp_tup {H : Hp} {p : Addr} {ns : List Int} (h : H p = some (.tup (ns.map V.int))) : Dp K H (.ref p) (.tuple (ns.map PyData.int)) := .tup (SqT.of h) (dp_ints ns)
theorem dp_lst {H : Hp} {p : Addr} {ns : List Int} (h : H p = some (.lst (ns.map V.int))) : Dp K H (.ref p) (.list (ns.map PyData.int)) := .lst (SqL.of h) (dp_ints ns)
theorem ok_tup {ns : List Int} (h : ns.length ≤ 100000) : okD 2 (.tuple (ns.map PyData.int)) = true := by
  show (decide ((ns.map PyData.int).length ≤ 100000) && (ns.map PyData.int).all (okD 1)) = true
  rw [okD_ints, List.length_map, decide_eq_true h]
  rfl
theorem ok_lst {ns : List Int} (h : ns.length ≤ 100000) : okD 2 (.list (ns.map PyData.int)) = true := ok_tup h
theorem ok_law (T : Txt K mg) {fd : FuncData} (F : FunD K d_law.name d_law.qual (defArgs s_law) (defBody s_law) (defScope s_law) (d_law.dvs K) (d_law.kws K) (He.fAd K d_law.at_) fd) : FnOk P w K mg base CX0 6 (He.ga K "law") fd P_law (spLaw K) := by
  have C__law_source := ok_source (P := P) (w := w) (base := base) T
  have C__law_draw := ok_draw (P := P) (w := w) (base := base) T
  have C__law_number := ok_number (P := P) (w := w) (base := base) T
  have C__law_same := ok_same (P := P) (w := w) (base := base) T 2
  have C__law_smaller := ok_smaller (P := P) (w := w) (base := base) T
  have C_ranks := ok_ranks (P := P) (w := w) (base := base) T
  refine F.ok sc_law (fun vs H Q E h => ?_) (fun cdv A outer s0 H vs Q E hr h => ?_)
  · obtain ⟨a, ns, rfl, _⟩ := h
    rfl
  · obtain ⟨a, ns0, rfl, hS, k⟩ := h
    refine ⟨_, PSs.nox (pss_cons (ps_set (i := 1) sc_law.nd rfl (Or.inl rfl) (pc_call C__law_source (hr.mono (by first | decide | omega)) pass0 (pa_cons (pv 0) pa_nil)))
    (pss_cons (ps_set (i := 2) sc_law.nd rfl (Or.inl rfl) (pe_ix ix_list (pe_lst (pa_cons pe_int (pa_cons pe_int (pa_cons pe_int (pa_cons pe_int (pa_cons pe_int (pa_cons pe_int (pa_cons pe_int (pa_cons pe_int pa_nil))))))))) (pc_call C__law_draw (hr.mono (by first | decide | omega)) pass0 (pa_cons (pv 1) (pa_cons pe_int pa_nil))) (fun _ _ => rfl)))
    (C8.pss_cut (ps_if (pt_cmpR op_eq (pc_call C__law_draw (hr.mono (by first | decide | omega)) pass0 (pa_cons (pv 1) (pa_cons pe_int pa_nil))) pe_int (nomark _)) (pss_one (ps_set (i := 2) sc_law.nd rfl (Or.inl rfl) (pe_op op_add pe_int (pc_call C__law_draw (hr.mono (by first | decide | omega)) pass0 (pa_cons (pv 1) (pa_cons pe_int pa_nil))))))
    pss_nil)
    (pss_cons (ps_set (i := 3) sc_law.nd rfl (Or.inl rfl) (pe_lst pa_nil))
    (pss_cons (ps_for PassesOwn.never rfl (pi_range1 (by rfl) T.f_range (pa_cons (pv 2) pa_nil)) (pg_name (i := 4) sc_law.nd rfl (Or.inl rfl))
    (pss_one (ps_if (PW.pt (pw_and (pt_cmpR op_gt (pe_callB call_len_seq (by rfl) T.f_len (by decide +kernel) (pa_cons (pv 3) pa_nil)) pe_int (nomark _)) (pw_and1 (pt_cmpR op_eq (pc_call C__law_draw (hr.mono (by first | decide | omega)) pass0 (pa_cons (pv 1) (pa_cons pe_int pa_nil))) pe_int (nomark _))))) (pss_one (ps_expr (pe_bm PySem.F.plainAttrs_list PySem.F.slot_list_append PySem.F.type_list_append mt_append (pv 3) (pa_cons (pe_op op_add (pe_ix ix_list (pv 3) (pc_call C__law_draw (hr.mono (by first | decide | omega)) pass0 (pa_cons (pv 1) (pa_cons (pe_callB call_len_seq (by rfl) T.f_len (by decide +kernel) (pa_cons (pv 3) pa_nil)) pa_nil))) (fun _ _ => rfl)) (pc_call C__law_draw (hr.mono (by first | decide | omega)) pass0 (pa_cons (pv 1) (pa_cons pe_int pa_nil)))) pa_nil))))
    (pss_one (ps_expr (pe_bm PySem.F.plainAttrs_list PySem.F.slot_list_append PySem.F.type_list_append mt_append (pv 3) (pa_cons (pc_call C__law_number (hr.mono (by first | decide | omega)) pass0 (pa_cons (pv 1) pa_nil)) pa_nil)))))))
    (pss_cons (ps_set (i := 5) sc_law.nd rfl (Or.inl rfl) (pc_call C__law_smaller (hr.mono (by first | decide | omega)) pass0 (pa_cons (pv 3) pa_nil)))
    (pss_cons (ps_set (i := 6) sc_law.nd rfl (Or.inl rfl) (pe_callTy call_list_of (by rfl) T.f_list (by decide +kernel) (pa_cons (pv 3) pa_nil)))
    (pss_cons (ps_if (PW.pt (pw_or (pt_not (pt_val (pc_call C__law_same (hr.mono (by first | decide | omega)) pass0 (pa_cons (pc_call C_ranks (hr.mono (by first | decide | omega)) pass0 (pa_cons (pv 6) pa_nil)) (pa_cons (pv 5) pa_nil))))) (pw_or1 (pt_not (pt_val (pc_call C__law_same (hr.mono (by first | decide | omega)) pass0 (pa_cons (pc_call C_ranks (hr.mono (by first | decide | omega)) pass0 (pa_cons (pe_callTy call_tuple_of (by rfl) T.f_tuple (by decide +kernel) (pa_cons (pv 3) pa_nil)) pa_nil)) (pa_cons (pv 5) pa_nil)))))))) (pss_one (ps_ret pe_bl))
    pss_nil)
    (pss_cons (ps_if (PW.pt (pw_or (pt_not (pt_val (pc_call C__law_same (hr.mono (by first | decide | omega)) pass0 (pa_cons (pv 6) (pa_cons (pv 3) pa_nil))))) (pw_or1 (pt_not (pt_val (pc_call C__law_same (hr.mono (by first | decide | omega)) pass0 (pa_cons (pc_call C_ranks (hr.mono (by first | decide | omega)) pass0 (pa_cons (pv 6) pa_nil)) (pa_cons (pv 5) pa_nil)))))))) (pss_one (ps_ret pe_bl))
    pss_nil)
    (pss_cons (ps_set (i := 7) sc_law.nd rfl (Or.inl rfl) (pc_call C__law_number (hr.mono (by first | decide | omega)) pass0 (pa_cons (pv 1) pa_nil)))
    (pss_cons (ps_expr (pe_bm PySem.F.plainAttrs_list PySem.F.slot_list_append PySem.F.type_list_append mt_append (pv 6) (pa_cons (pv 7) pa_nil)))
    (pss_one (ps_ret (pc_call C__law_same (hr.mono (by first | decide | omega)) pass0 (pa_cons (pc_call C_ranks (hr.mono (by first | decide | omega)) pass0 (pa_cons (pv 6) pa_nil)) (pa_cons (pc_call C__law_smaller (hr.mono (by first | decide | omega)) pass0 (pa_cons (pe_op op_cat (pv 3) (pe_lst (pa_cons (pv 7) pa_nil))) pa_nil)) pa_nil)))))))))))))))), ?_⟩
    refine ⟨_, rfl, a, ns0, rfl, hS, fun s c H1 _ _ S1 e1 => ?_⟩
    -- many
    refine ⟨by decide, fun p np => ?_⟩
    refine ⟨_, rfl, s, c, 8, rfl, S1.new np, by decide, by decide, fun r H2 a2 b2 S2 e2 => ?_⟩
    obtain ⟨m, hm, hm0, hm7⟩ := item8 a2 b2
    refine ⟨p, _, r, .int m, rfl, rfl, SqL.of (e2 _ _ (S1.apart np).1 upd_same), hm, ?_⟩
    refine ⟨fun σ' H' => ∃ m : Int, σ' = [some (.ref a), some (.ref s), some (.int m), none, none, none, none, none] ∧ Src H' s c ∧ 0 ≤ m ∧ m ≤ 40, ?_, ?_⟩
    · refine ⟨_, rfl, s, c, 8, rfl, S2, by decide, by decide, fun r3 H3 a3 b3 S3 e3 => ?_⟩
      refine ⟨rfl, _, rfl, ifI (fun h1 => ?_) (fun h1 => ?_)⟩
      · exact ⟨_, rfl, s, c, 33, rfl, S3, by decide, by decide, fun r4 H4 a4 b4 S4 e4 => ⟨_, _, rfl, rfl, _, rfl, S4, by omega, by omega⟩⟩
      · exact ⟨_, rfl, S3, by omega, by omega⟩
    · rintro σ' H' ⟨m, rfl, S4, hmm0, hm⟩
      refine ⟨Nat.zero_le _, fun l nl => ?_⟩
      have nls := S4.apart nl
      refine ⟨_, rfl, m, rfl, by omega, by omega, for_range (lo := 0) (n := m.toNat) (fun i σ'' H'' => ∃ (v4 : Option V) (ns : List Int), σ'' = [some (.ref a), some (.ref s), some (.int m), some (.ref l), v4, none, none, none] ∧ Src H'' s c ∧ H'' l = some (.lst (ns.map V.int)) ∧ ns.length = i)
        ⟨none, [], rfl, S4.new nl, upd_same, rfl⟩ ?_ ?_⟩
      · rintro i σ'' H5 hi ⟨v4, ns, rfl, S5, hl, hlen⟩
        have app : ∀ r : Int, (ns.map V.int) ++ [V.int r] = (ns ++ [r]).map V.int := fun r => by rw [List.map_append]; rfl
        have szn : (ns.map V.int).length < sizeLine := szl (by rw [List.length_map]; omega)
        have fall : ∀ H6 : Hp, Src H6 s c → H6 l = some (.lst (ns.map V.int)) → ∀ r : Int, ∃ (v4' : Option V) (ns' : List Int), [some (V.ref a), some (V.ref s), some (V.int m), some (V.ref l), some (V.int (0 + (i : Int))), none, none, none] = [some (.ref a), some (.ref s), some (.int m), some (.ref l), v4', none, none, none] ∧ Src (upd H6 l (.lst (ns.map V.int ++ [V.int r]))) s c ∧ (upd H6 l (.lst (ns.map V.int ++ [V.int r]))) l = some (.lst (ns'.map V.int)) ∧ ns'.length = i + 1 := fun H6 S6 h6 r =>
          ⟨_, ns ++ [r], rfl, S6.put nls.1 nls.2, by rw [upd_same, app], by rw [List.length_append, hlen]; rfl⟩
        refine ⟨_, rfl, l, _, rfl, .inl (SqL.of hl), _, _, rfl, rfl, _, rfl, ifD (fun h1 => ?_) (fun h1 => ?_)⟩
        · rw [List.length_map] at h1
          refine ⟨_, rfl, s, c, 3, rfl, S5, by decide, by decide, fun r6 H6 a6 b6 S6 e6 => ?_⟩
          have h6 := e6 _ _ nls.1 hl
          refine ⟨rfl, _, rfl, ifI (fun h2 => ?_) (fun h2 => ?_)⟩
          · refine ⟨_, rfl, .inl ⟨rfl, _, SqL.of h6⟩, _, rfl, _, rfl, _, rfl, l, _, rfl, .inl (SqL.of h6), s, c, _, rfl, S6, by rw [List.length_map]; omega, by rw [List.length_map]; omega, fun r7 H7 a7 b7 S7 e7 => ?_⟩
            have h7 := e7 _ _ nls.1 h6
            rw [List.length_map] at b7
            obtain ⟨z, hz⟩ : ∃ z, ns[r7.toNat]? = some z := ⟨_, List.getElem?_eq_getElem (by omega)⟩
            refine ⟨l, _, r7, .int z, rfl, rfl, SqL.of h7, atNat (n := r7.toNat) (get_map hz) (by omega), _, rfl, s, c, 2, rfl, S7, by decide, by decide, fun r8 H8 a8 b8 S8 e8 => ?_⟩
            have h8 := e8 _ _ nls.1 h7
            exact ⟨_, _, rfl, rfl, l, _, _, rfl, rfl, h8, szn, fall H8 S8 h8 _⟩
          · refine ⟨_, rfl, .inl ⟨rfl, _, SqL.of h6⟩, _, rfl, s, c, rfl, S6, fun r7 H7 a7 b7 S7 e7 => ?_⟩
            have h7 := e7 _ _ nls.1 h6
            exact ⟨l, _, _, rfl, rfl, h7, szn, fall H7 S7 h7 _⟩
        · refine iteF ⟨_, rfl, .inl ⟨rfl, _, SqL.of hl⟩, _, rfl, s, c, rfl, S5, fun r7 H7 a7 b7 S7 e7 => ?_⟩
          have h7 := e7 _ _ nls.1 hl
          exact ⟨l, _, _, rfl, rfl, h7, szn, fall H7 S7 h7 _⟩
      · rintro σ'' H5 ⟨v4, ns, rfl, S5, hl, hlen⟩
        have hn : ns.length ≤ 40 := by omega
        -- due = _law_smaller(numbers); given = list(numbers)
        refine ⟨_, rfl, l, ns, rfl, SqL.of hl, by omega, fun d H6 nd e6 hd => ?_⟩
        have hl6 := e6 _ _ hl
        refine ⟨_, rfl, l, _, rfl, .inl (SqL.of hl6), fun g ng => ?_⟩
        have S7 : Src (upd H6 g (.lst (ns.map V.int))) s c := (S5.same e6).new ng
        have hl7 : (upd H6 g (.lst (ns.map V.int))) l = some (.lst (ns.map V.int)) := same_new (Same.refl H6) ng _ _ hl6
        have hd7 : (upd H6 g (.lst (ns.map V.int))) d = some (.tup ((rk ns).map V.int)) := same_new (Same.refl H6) ng _ _ hd
        have hg7 : (upd H6 g (.lst (ns.map V.int))) g = some (.lst (ns.map V.int)) := upd_same
        have ngs := (S5.same e6).apart ng
        have nlg : l ≠ g := ne_of_none hl6 ng
        -- the four looks
        refine ⟨_, rfl, g, ns, rfl, .inl (SqL.of hg7), by omega, fun x8 H8 n8 e8 h8 => ⟨_, rfl, .ref x8, .ref d, _, rfl, dp_tup h8, dp_tup (e8 _ _ hd7), ok_tup (by rw [rk_len]; omega), _, rfl, iteF ?_⟩⟩
        refine ⟨_, rfl, l, _, rfl, .inl ⟨SqL.of (e8 _ _ hl7), fun t9 n9 => ?_⟩⟩
        have e9 := e8.trans (same_new (Same.refl H8) (o := .tup (ns.map V.int)) n9)
        refine ⟨t9, ns, rfl, .inr (SqT.of upd_same), by omega, fun xA HA nA eA hA => ?_⟩
        have eA := e9.trans eA
        refine ⟨_, rfl, .ref xA, .ref d, _, rfl, dp_tup hA, dp_tup (eA _ _ hd7), ok_tup (by rw [rk_len]; omega), _, rfl, iteF ?_⟩
        refine ⟨_, rfl, _, rfl, .ref g, .ref l, _, rfl, dp_lst (eA _ _ hg7), dp_lst (eA _ _ hl7), ok_lst (by omega), _, rfl, iteF ?_⟩
        refine ⟨_, rfl, g, ns, rfl, .inl (SqL.of (eA _ _ hg7)), by omega, fun xB HB nB eB hB => ?_⟩
        have eB := eA.trans eB
        refine ⟨_, rfl, .ref xB, .ref d, _, rfl, dp_tup hB, dp_tup (eB _ _ hd7), ok_tup (by rw [rk_len]; omega), _, rfl, iteF ?_⟩
        -- further
        refine ⟨_, rfl, s, c, rfl, S7.same eB, fun r HC _ _ SC eC => ?_⟩
        have hgC := eC _ _ ngs.1 (eB _ _ hg7)
        have hlC := eC _ _ nls.1 (eB _ _ hl7)
        refine ⟨_, rfl, .inl ⟨rfl, _, SqL.of hgC⟩, _, rfl, g, _, _, rfl, rfl, hgC, szl (by rw [List.length_map]; omega), ?_⟩
        have app : (ns.map V.int) ++ [V.int r] = (ns ++ [r]).map V.int := by rw [List.map_append]; rfl
        have hgD : (upd HC g (.lst (ns.map V.int ++ [V.int r]))) g = some (.lst ((ns ++ [r]).map V.int)) := by rw [upd_same, app]
        have hlD : (upd HC g (.lst (ns.map V.int ++ [V.int r]))) l = some (.lst (ns.map V.int)) := by rw [upd_ne nlg]; exact hlC
        refine ⟨_, rfl, g, ns ++ [r], rfl, .inl (SqL.of hgD), by rw [List.length_append]; show ns.length + 1 < 60; omega, fun xE HE nE eE hE => ?_⟩
        refine ⟨_, rfl, _, rfl, (by show 1 ≤ sizeLine; decide), fun o no => ?_⟩
        have eo := same_new (Same.refl HE) (o := .lst [V.int r]) no
        refine ⟨l, o, ns.map V.int, [V.int r], rfl, rfl, eo _ _ (eE _ _ hlD), upd_same, sz (by rw [List.length_map]; show ns.length + 1 ≤ 100000; omega), fun q nq => ?_⟩
        refine ⟨q, ns ++ [r], rfl, SqL.of (by rw [upd_same, app]), by rw [List.length_append]; show ns.length + 1 < 1000; omega, fun y HF nF eF hF => ?_⟩
        exact ⟨.ref xE, .ref y, _, rfl, dp_tup (eF _ _ (same_new eo nq _ _ hE)), dp_tup hF, ok_tup (by rw [rk_len, List.length_append]; show ns.length + 1 ≤ 100000; omega), k HF⟩
end
abbrev R : PySem.W.OpenRow := PySem.W.OpenLaw.row PySem.Challenge.rw_mostsalike_k24_ranks
abbrev hk : PySem.W.Hook := He.hookD 4 fa fn
def ob (s : PySem.W.SharedT) : He.AlD := He.obsDG 4 fa fn (HandSHeadRun.getT s)
theorem ob_eq (s : PySem.W.SharedT) : ob s = hk.obs s.abs := He.obsDG_eq (HandSHeadRun.getT_eq s)
theorem run (w : World) : HandSHeadRun.RunEq R (PySem.W.view R.prog [9]) hk ob 4000 ["ranks", "_law_source", "_law_draw", "_law_number", "_law_whole", "_law_same", "_law_smaller"] w := by
  intro os
  kernel_rfl
end My
open PySem PySem.W PySem.Calls PyProof.Rows
theorem PySem.Challenge.cw_mostsalike_k24_ranks_holds : PySem.Challenge.rw_mostsalike_k24_ranks.Holds := by
  w_on; o_law
  refine HandSHeadRun.head_any (r := OpenLaw.row PySem.Challenge.rw_mostsalike_k24_ranks) (q := view (OpenLaw.row PySem.Challenge.rw_mostsalike_k24_ranks).prog [9]) (H := My.hk) (ob := My.ob) (M := 4000) (loose := ["ranks", "_law_source", "_law_draw", "_law_number", "_law_whole", "_law_same", "_law_smaller"]) (d := HandSHeadRun.topDef (OpenLaw.row PySem.Challenge.rw_mostsalike_k24_ranks).prog 9) (kwd := []) My.ob_eq
    (by kernel_rfl) (fun s => by kernel_rfl) My.run (by kernel_rfl) (by kernel_rfl) (by kernel_rfl) (by rfl) (by first | assumption | decide +kernel) (by decide +kernel) ⟨rfl, rfl, rfl, rfl, rfl, by decide +kernel⟩ ?hw ?hc
  case hw => w_witness2
  case hc =>
    refine L2.walk_ofE (l := PySem.Challenge.rw_mostsalike_k24_ranks) (n := 63) (k := 6) (x := "script") (CX := L2.CX0) rfl (by decide) (by kernel_rfl) ⟨rfl, by decide, by decide⟩ ?F (fun _ _ _ _ z => z)
    intro w mg fa h Y G hmg0
    obtain ⟨K, KX, c⟩ := Y
    have hmg : mg ("law" : PySem.Str) = some (.ref fa) := by
      have e : (HandSHeadRun.topDef (OpenLaw.row PySem.Challenge.rw_mostsalike_k24_ranks).prog 9).name = ("law" : PySem.Str) := by kernel_rfl
      rw [← e]
      exact hmg0
    have T : My.Txt K mg := ⟨⟨h, KX, G⟩, c⟩
    have e := hmg.symm.trans T.g_law
    cases e
    obtain ⟨fd, F⟩ := T.F_law
    exact ⟨K, fd, My.spLaw K, KX, fun s v => L2.FunD.bindsA (ps := ["script"]) F (fun _ _ _ _ _ _ us hl => match us, hl with | [_], _ => rfl) s [v] rfl, fun H a ns _ _ hS => ⟨a, ns, rfl, hS, fun _ => rfl⟩, fun base _ _ => My.ok_law T F⟩
