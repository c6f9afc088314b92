import PyProof.Rows.All
import Wide.All
import OpenK.AllK
import Wide.FinOn
import PyProof.ReprRoads
import KE.KExcIs
import HandS.ForMost
import HandS.ForExc
import HandS.Wide
import HandS.IsInst
import HandS.ExcInit
import HandS.ExcField
import HandS.Defaults
import HandS.EndBits
import HandS.Style
import HandS.Flow
import HandS.TryMany
import HandS.RaiseMore
import PySem.Challenge.RW_termstream_k26_whole_terms_settled
set_option Elab.async false
set_option linter.all false
set_option maxRecDepth 100000
set_option maxHeartbeats 4000000
namespace K26
open PySem L2
def top (i : Nat) : Stmt := PySem.Challenge.pw_termstream_k26_whole_terms_settled.main.body.getD i (.Pass ⟨0, 0, 0, 0⟩)
abbrev s_is_number : Stmt := top 7
abbrev s_common : Stmt := top 13
abbrev s_is_fraction : Stmt := top 14
abbrev s_need_fraction : Stmt := top 15
abbrev s_made : Stmt := top 16
abbrev s_sign_of : Stmt := top 17
abbrev s_is_manner : Stmt := top 18
abbrev s_whole_of : Stmt := top 19
abbrev s_manner_of : Stmt := top 24
abbrev s_floors_meet : Stmt := top 26
abbrev s_sign_turned : Stmt := top 27
abbrev s_half_on : Stmt := top 28
abbrev s_settled : Stmt := top 29
abbrev s_law_cell : Stmt := top 31
abbrev s_law_purse : Stmt := top 32
abbrev s_law_take : Stmt := top 33
abbrev s_law_odd : Stmt := top 34
abbrev s_law_very : Stmt := top 35
abbrev s_law_term : Stmt := top 36
abbrev s_law_common : Stmt := top 38
abbrev s_law_lowest : Stmt := top 39
abbrev s_law_end : Stmt := top 41
abbrev s_law_bounds : Stmt := top 42
abbrev s_law_between : Stmt := top 43
abbrev s_law_inside : Stmt := top 44
abbrev s_law_right : Stmt := top 45
abbrev s_law_asked : Stmt := top 46
abbrev s_law_refused : Stmt := top 47
abbrev s_law_odd_right : Stmt := top 48
abbrev s_law : Stmt := top 49
abbrev s_NoFraction_init : Stmt := inClass (top 3) 0
abbrev s_NoManner_init : Stmt := inClass (top 4) 0
abbrev s_NoBounds_init : Stmt := inClass (top 5) 0
abbrev s_Manner_word : Stmt := inClass (top 21) 0
abbrev s_Ceils_word : Stmt := inClass (top 22) 0
abbrev s_Nears_word : Stmt := inClass (top 23) 0

/-- a plain def of the text stands behind the top -/
def Df (K : PySem.W.Frag) (x : Str) (st : Stmt) : Prop := ∃ (f : Addr) (fd : FuncData), PySem.W.nsIn K mainGlobals x = some (some (.ref f)) ∧ Fun K x x st f fd
theorem df_mk {K : PySem.W.Frag} {x : Str} {st : Stmt} {f : Addr} {oc : Value} {od an : Option Addr} {osl : Array (Option Value)} {kV doc pm cdv ct : Value}
    (a : PySem.W.nsIn K mainGlobals x = some (some (.ref f))) (l : K.lookup f = some ⟨oc, od, .func (PySem.W.fnOf x x (defArgs st) (defBody st) (defScope st) .none kV doc pm an cdv ct), osl⟩)
    (c : PySem.W.codeIn K cdv x = true) (k : PySem.W.keepIn K (.ref f) = true) : Df K x st := ⟨f, _, a, fun_mk l c k⟩
/-- a def with one default, a written text -/
def Dd (K : PySem.W.Frag) (x : Str) (st : Stmt) (d : Str) : Prop := ∃ (f : Addr) (fd : FuncData), PySem.W.nsIn K mainGlobals x = some (some (.ref f)) ∧ FunD K x x (defArgs st) (defBody st) (defScope st) [.str d] [] f fd
theorem dd_mk {K : PySem.W.Frag} {x d : Str} {st : Stmt} {f T : Addr} {oc to_ : Value} {od tod an : Option Addr} {osl tsl : Array (Option Value)} {kV doc pm cdv ct : Value} {tk : Tok} {n : Nat}
    (a : PySem.W.nsIn K mainGlobals x = some (some (.ref f))) (l : K.lookup f = some ⟨oc, od, .func (PySem.W.fnOf x x (defArgs st) (defBody st) (defScope st) (.ref T) kV doc pm an cdv ct), osl⟩)
    (t : K.lookup T = some ⟨to_, tod, .seq #[.str d tk] n, tsl⟩)
    (c : PySem.W.codeIn K cdv x = true) (k : PySem.W.keepIn K (.ref f) = true) : Dd K x st d :=
  ⟨f, _, a, ⟨⟨_, _, _, _, _, _, _, _, _, _, rfl, l, c, .inr ⟨by simp, T, _, [.str d tk], n, rfl, t, rfl, .cons ⟨tk, rfl⟩ .nil⟩, .inl rfl⟩, k⟩⟩
/-- an own exception class of the text: at C, its __init__ at fI -/
structure Xc (K : PySem.W.Frag) (x : Str) (q : Str) (st : Stmt) (C0 C : Addr) : Prop where
  aC : PySem.W.nsIn K mainGlobals x = some (some (.ref C))
  ox : OexC K C
  xf : XfC K C
  nf : PySem.W.findIn K (.ref C) "found" = some none
  init : ∃ (f : Addr) (fd : FuncData), PySem.W.findIn K (.ref C) "__init__" = some (some (.ref f)) ∧ PySem.W.typeIn K (.ref f) = some (.type "function") ∧ Fun K "__init__" q st f fd
  ic : (PySem.W.clsIn K C).isSome = true
  cl : PySem.W.findIn K (.ref C) "__class__" = some (some (.builtin "object.__class__"))
  mo : PySem.W.mroIn K C (.type "object") = some true
  s0 : PySem.W.subIn K (.ref C) (.ref C0) = some true
  ss : PySem.W.subIn K (.ref C) (.ref C) = some true
theorem xc_mk {K : PySem.W.Frag} {x q nm qn : Str} {st : Stmt} {C0 C N f : Addr} {bs sub : List Value} {sn : List Str} {ab : Bool} {col : Option Bool} {dd : Option Addr} {k0 k1 k2 k3 k5 : Option Value}
    {oc : Value} {od an : Option Addr} {osl : Array (Option Value)} {kV doc pm cdv ct : Value}
    (aC : PySem.W.nsIn K mainGlobals x = some (some (.ref C)))
    (xL : K.lookup C = some (excClassObj nm qn C N bs [.ref C0, .type "ValueError", .type "Exception", .type "BaseException", .type "object"] true sn sub ab col dd k0 k1 k2 k3 k5 "ValueError.__new__"))
    (sa : PySem.W.findIn K (.ref C) "__setattr__" = some (some (.builtin "object.__setattr__"))) (ga : PySem.W.findIn K (.ref C) "__getattribute__" = some (some (.builtin "BaseException.__getattribute__"))) (gg : PySem.W.findIn K (.ref C) "__getattr__" = some none)
    (nf : PySem.W.findIn K (.ref C) "found" = some none)
    (a1 : PySem.W.findIn K (.ref C) "__init__" = some (some (.ref f))) (t1 : PySem.W.typeIn K (.ref f) = some (.type "function"))
    (l1 : K.lookup f = some ⟨oc, od, .func (PySem.W.fnOf "__init__" q (defArgs st) (defBody st) (defScope st) .none kV doc pm an cdv ct), osl⟩) (c1 : PySem.W.codeIn K cdv q = true) (k1' : PySem.W.keepIn K (.ref f) = true)
    (kC : PySem.W.keepIn K (.ref C) = true) (eC : PySem.W.subIn K (.ref C) (.type "BaseException") = some true) (tC : PySem.W.typeIn K (.ref C) = some (.type "type")) (hC : PySem.W.hasDictIn K C = true) (iC : PySem.W.isClsIn K C = true)
    (cl : PySem.W.findIn K (.ref C) "__class__" = some (some (.builtin "object.__class__"))) (mo : PySem.W.mroIn K C (.type "object") = some true) (s0 : PySem.W.subIn K (.ref C) (.ref C0) = some true) (ss : PySem.W.subIn K (.ref C) (.ref C) = some true) : Xc K x q st C0 C :=
  ⟨aC, ⟨⟨nm, qn, N, bs, _, sn, sub, ab, col, dd, k0, k1, k2, k3, k5, xL, by rfl⟩, sa, eC, tC, kC⟩, ⟨ga, gg, eC, hC⟩, nf, ⟨f, _, a1, t1, fun_mk l1 c1 k1'⟩, iC, cl, mo, s0, ss⟩
/-- a class of the text with one plain def: word -/
structure Mc (K : PySem.W.Frag) (x q : Str) (st : Stmt) (C : Addr) : Prop where
  aC : PySem.W.nsIn K mainGlobals x = some (some (.ref C))
  cl : Cls K C
  mak : PySem.W.makesIn K C = true
  ini : PySem.W.findIn K (.ref C) "__init__" = some (some (.builtin "object.__init__"))
  kp : PySem.W.keepIn K (.ref C) = true
  word : ∃ (f : Addr) (fd : FuncData), Meth K C "word" f ∧ Fun K "word" q st f fd
theorem mc_mk {K : PySem.W.Frag} {x q : Str} {st : Stmt} {C f : Addr} {oc : Value} {od an : Option Addr} {osl : Array (Option Value)} {kV doc pm cdv ct : Value}
    (aC : PySem.W.nsIn K mainGlobals x = some (some (.ref C)))
    (pg : PySem.W.plainGet K C Str.empty = true) (hd : PySem.W.hasDictIn K C = true) (po : PySem.W.plainOver K C = true) (sa : PySem.W.findIn K (.ref C) "__setattr__" = some (some (.builtin "object.__setattr__"))) (mk : PySem.W.makesIn K C = true) (kc : PySem.W.keepIn K (.ref C) = true)
    (ini : PySem.W.findIn K (.ref C) "__init__" = some (some (.builtin "object.__init__")))
    (a1 : PySem.W.findIn K (.ref C) "word" = some (some (.ref f))) (i1 : PySem.W.isFn K (.ref f) = true)
    (l1 : K.lookup f = some ⟨oc, od, .func (PySem.W.fnOf "word" q (defArgs st) (defBody st) (defScope st) .none kV doc pm an cdv ct), osl⟩) (c1 : PySem.W.codeIn K cdv q = true) (k1 : PySem.W.keepIn K (.ref f) = true) : Mc K x q st C :=
  ⟨aC, ⟨pg, hd, po, sa⟩, mk, ini, kc, ⟨f, _, ⟨a1, i1, k1⟩, fun_mk l1 c1 k1⟩⟩
theorem tok_mk {K : PySem.W.Frag} {x d : Str} {t : Tok} (a : PySem.W.nsIn K mainGlobals x = some (some (.str d t))) : ∃ t, PySem.W.nsIn K mainGlobals x = some (some (.str d t)) := ⟨t, a⟩
theorem mn_mk {K : PySem.W.Frag} {m : Addr} {od : Option Addr} {t1 t2 t3 : Tok} {n : Nat} {sl : Array (Option Value)} (a : PySem.W.nsIn K mainGlobals "MANNERS" = some (some (.ref m))) (b : K.lookup m = some ⟨.type "tuple", od, .seq #[.str "floor" t1, .str "ceil" t2, .str "near" t3] n, sl⟩) :
    ∃ (a : Addr) (od : Option Addr) (t1 t2 t3 : Tok) (n : Nat) (sl : Array (Option Value)), PySem.W.nsIn K mainGlobals "MANNERS" = some (some (.ref a)) ∧ K.lookup a = some ⟨.type "tuple", od, .seq #[.str "floor" t1, .str "ceil" t2, .str "near" t3] n, sl⟩ := ⟨m, od, t1, t2, t3, n, sl, a, b⟩
/-- what the written part says of the whole text -/
structure Facts (K : PySem.W.Frag) (C0 C1 C2 C3 M1 M2 M3 : Addr) : Prop where
  a0 : PySem.W.nsIn K mainGlobals "TermError" = some (some (.ref C0))
  rd0 : PySem.W.readsIn K C0 (.type "type") = true
  ga0 : PySem.W.specialIn K (.ref C0) "__getattribute__" = some (some (.builtin "type.__getattribute__"))
  fi0 : PySem.W.findCls K (.ref C0) (.type "type") "__init__" = some (.val (.builtin "ValueError.__init__"))
  ic0 : PySem.W.isClsIn K C0 = true
  ty0 : PySem.W.typeIn K (.ref C0) = some (.type "type")
  gd : PySem.W.specialIn K (.builtin "object.__class__") "__get__" = some (some (.builtin "getset_descriptor.__get__"))
  tk : PySem.W.takesIn K (.builtin "object.__class__") = some true
  x1 : Xc K "NoFraction" "NoFraction.__init__" s_NoFraction_init C0 C1
  x2 : Xc K "NoManner" "NoManner.__init__" s_NoManner_init C0 C2
  x3 : Xc K "NoBounds" "NoBounds.__init__" s_NoBounds_init C0 C3
  m12 : PySem.W.subIn K (.ref C1) (.ref C2) = some false
  m13 : PySem.W.subIn K (.ref C1) (.ref C3) = some false
  m21 : PySem.W.subIn K (.ref C2) (.ref C1) = some false
  m23 : PySem.W.subIn K (.ref C2) (.ref C3) = some false
  m31 : PySem.W.subIn K (.ref C3) (.ref C1) = some false
  m32 : PySem.W.subIn K (.ref C3) (.ref C2) = some false
  k1 : Mc K "Manner" "Manner.word" s_Manner_word M1
  k2 : Mc K "Ceils" "Ceils.word" s_Ceils_word M2
  k3 : Mc K "Nears" "Nears.word" s_Nears_word M3
  fl : ∃ t, PySem.W.nsIn K mainGlobals "FLOOR" = some (some (.str "floor" t))
  ce : ∃ t, PySem.W.nsIn K mainGlobals "CEIL" = some (some (.str "ceil" t))
  ne : ∃ t, PySem.W.nsIn K mainGlobals "NEAR" = some (some (.str "near" t))
  mn : ∃ (a : Addr) (od : Option Addr) (t1 t2 t3 : Tok) (n : Nat) (sl : Array (Option Value)), PySem.W.nsIn K mainGlobals "MANNERS" = some (some (.ref a)) ∧ K.lookup a = some ⟨.type "tuple", od, .seq #[.str "floor" t1, .str "ceil" t2, .str "near" t3] n, sl⟩
  b_abs : PySem.W.nsIn K mainGlobals "abs" = some none
  b_int : PySem.W.nsIn K mainGlobals "int" = some none
  b_len : PySem.W.nsIn K mainGlobals "len" = some none
  b_isi : PySem.W.nsIn K mainGlobals "isinstance" = some none
  b_bool : PySem.W.nsIn K mainGlobals "bool" = some none
  b_str : PySem.W.nsIn K mainGlobals "str" = some none
  b_tup : PySem.W.nsIn K mainGlobals "tuple" = some none
  b_list : PySem.W.nsIn K mainGlobals "list" = some none
  b_dict : PySem.W.nsIn K mainGlobals "dict" = some none
  b_repr : PySem.W.nsIn K mainGlobals "repr" = some none
  b_max : PySem.W.nsIn K mainGlobals "max" = some none
  b_min : PySem.W.nsIn K mainGlobals "min" = some none
  b_rng : PySem.W.nsIn K mainGlobals "range" = some none
  d_is_number : Df K "is_number" s_is_number
  d_common : Df K "common" s_common
  d_is_fraction : Df K "is_fraction" s_is_fraction
  d_need_fraction : Df K "need_fraction" s_need_fraction
  d_made : Df K "made" s_made
  d_sign_of : Df K "sign_of" s_sign_of
  d_is_manner : Df K "is_manner" s_is_manner
  d_whole_of : Dd K "whole_of" s_whole_of "floor"
  d_manner_of : Df K "manner_of" s_manner_of
  d_floors_meet : Df K "floors_meet" s_floors_meet
  d_sign_turned : Df K "sign_turned" s_sign_turned
  d_half_on : Df K "half_on" s_half_on
  d_settled : Dd K "settled" s_settled "floor"
  d_law_cell : Df K "_law_cell" s_law_cell
  d_law_purse : Df K "_law_purse" s_law_purse
  d_law_take : Df K "_law_take" s_law_take
  d_law_odd : Df K "_law_odd" s_law_odd
  d_law_very : Df K "_law_very" s_law_very
  d_law_term : Df K "_law_term" s_law_term
  d_law_common : Df K "_law_common" s_law_common
  d_law_lowest : Df K "_law_lowest" s_law_lowest
  d_law_end : Df K "_law_end" s_law_end
  d_law_bounds : Df K "_law_bounds" s_law_bounds
  d_law_between : Df K "_law_between" s_law_between
  d_law_inside : Df K "_law_inside" s_law_inside
  d_law_right : Df K "_law_right" s_law_right
  d_law_asked : Df K "_law_asked" s_law_asked
  d_law_refused : Df K "_law_refused" s_law_refused
  d_law_odd_right : Df K "_law_odd_right" s_law_odd_right
  d_law : Df K "law" s_law
end K26
set_option maxHeartbeats 4000000
namespace K26
open PySem L2
/-! ### names of the module -/
structure Mgs (K : PySem.W.Frag) (mg : Str → Option Value) : Prop where
  of : ∀ {x : Str} {v : Value}, PySem.W.nsIn K mainGlobals x = some (some v) → mg x = some v
  no : ∀ {x : Str}, PySem.W.nsIn K mainGlobals x = some none → mg x = none
theorem mgs_mk {K : PySem.W.Frag} {h : Heap} {mg : Str → Option Value} (X : K.In h) (G : h.Ns mainGlobals mg) : Mgs K mg := ⟨fun e => PySem.W.mg_of X G e, fun e => PySem.W.mg_none_of X G e⟩
/-- a def of the module as its callers see it -/
structure Cal (P : Program) (w : World) (K : PySem.W.Frag) (mg : Str → Option Value) (base : Heap) (CX : CXT) (x : Str) (k : Nat) (ps : List Str) (sp : Sp) : Prop where
  ex : ∃ (f : Addr) (fd : FuncData), FnOk P w K mg base CX k f fd ps sp ∧ mg x = some (.ref f) ∧ PySem.W.keepIn K (.ref f) = true ∧ Binds K fd ps []
section
variable {X : Cx} {CX : CXT} {k : Nat} {ps : List Str} {sp : Sp} {E : XK} {x : Str} {p pos : Pos} {e : Expr} {es : List Expr} {t : TA}
theorem pe_cal (c : Cal X.prog X.w X.K X.mg X.base CX x k ps sp) (hr : Room k X.A) (hg : Gl X x) (hx : Passes CX X E) (ha : PA X (e :: es) t)
    (hdb : (x == ("__debug__" : Str)) = false := by decide) (h1 : starEach (e :: es) X.env = (false, eval e X.env) :: starEach es X.env := by rfl) (h2 : (backTo pos (starEach es X.env)).any (·.1) = false := by rfl) :
    PE X (.Call (.Name x p) (e :: es) [] pos) (tCall sp [] E t) := by
  obtain ⟨f, fd, F, hm, hk, hb⟩ := c.ex
  exact pe_call F hr hg hm hk hb .nil hx ha hdb h1 h2
end
/-! ### heaps -/
/-- all but what stands at p is as it was -/
def But (p : Addr) (H H' : Hp) : Prop := ∀ b o, b ≠ p → H b = some o → H' b = some o
/-- tuples and locked things are as they were -/
def Still (H H' : Hp) : Prop := ∀ b u, (∃ xs, u = HO.tup xs) ∨ (∃ o v, u = HO.frz o v) → H b = some u → H' b = some u
theorem Still.of {H H' : Hp} (s : Same H H') : Still H H' := fun b u _ e => s b u e
theorem Still.refl (H : Hp) : Still H H := fun _ _ _ e => e
theorem Still.trans {H H1 H2 : Hp} (a : Still H H1) (b : Still H1 H2) : Still H H2 := fun c u k e => b c u k (a c u k e)
theorem But.refl (p : Addr) (H : Hp) : But p H H := fun _ _ _ e => e
theorem But.of {p : Addr} {H H' : Hp} (s : Same H H') : But p H H' := fun b o _ e => s b o e
theorem But.trans {p : Addr} {H H1 H2 : Hp} (a : But p H H1) (b : But p H1 H2) : But p H H2 := fun c o n e => b c o n (a c o n e)
theorem But.upd {p : Addr} {H : Hp} {o : HO} : But p H (upd H p o) := fun b u n e => by rw [upd_ne n]; exact e
theorem But.still {p : Addr} {H H' : Hp} {u : HO} (s : But p H H') (e : H p = some u) (h1 : ∀ xs, u ≠ HO.tup xs) (h2 : ∀ o v, u ≠ HO.frz o v) : Still H H' := fun b v k q => s b v (fun z => by
  rw [z, e] at q
  have q' := Option.some.inj q
  rcases k with ⟨xs, k⟩ | ⟨o, w, k⟩
  · exact h1 xs (q'.trans k)
  · exact h2 o w (q'.trans k)) q
theorem Still.seqT {K : PySem.W.Frag} {H H' : Hp} {a : Addr} {xs : List V} (s : Still H H') (h : SqT K H a xs) : SqT K H' a xs := by
  rcases h with (h | ⟨o, h⟩) | h
  · exact .inl (.inl (s _ _ (.inl ⟨_, rfl⟩) h))
  · exact .inl (.inr ⟨o, s _ _ (.inr ⟨_, _, rfl⟩) h⟩)
  · exact .inr h
theorem Same.new {H : Hp} {p : Addr} {o : HO} (n : H p = none) : Same H (upd H p o) := fun b u e => by rw [upd_ne (ne_of_none e n)]; exact e
theorem SqT.of' {K : PySem.W.Frag} {H : Hp} {a : Addr} {xs : List V} (h : H a = some (.tup xs)) : SqT K H a xs := .inl (.inl h)
/-! ### sizes -/
def Sm (i : Int) : Prop := i.natAbs < 10 ^ 100
theorem big100 : (10 : Nat) ^ 100 ≤ 2 ^ 340 := by decide +kernel
theorem Sm.mul {i j : Int} (a : Sm i) (b : Sm j) : CMulW i j := wide_mul (a := 340) (b := 340) (Nat.lt_of_lt_of_le a big100) (Nat.lt_of_lt_of_le b big100) (by decide) (by decide) (by decide)
theorem Sm.div {i j : Int} (h : 0 < j) (b : Sm j) : CDivW i j := wide_div (b := 340) h (Nat.lt_of_lt_of_le b big100) (by decide) (by decide)
/-! ### fractions -/
/-- at x: the tuple of a and b -/
def Pr (K : PySem.W.Frag) (H : Hp) (x : V) (a b : Int) : Prop := ∃ t, x = .ref t ∧ SqT K H t [.int a, .int b]
/-- at x: the fraction of a and b -/
def Fra (K : PySem.W.Frag) (H : Hp) (x : V) (a b : Int) : Prop := Pr K H x a b ∧ 1 ≤ b ∧ Int.gcd a b = 1
theorem Pr.keep {K : PySem.W.Frag} {H H' : Hp} {x : V} {a b : Int} (s : Still H H') (h : Pr K H x a b) : Pr K H' x a b := let ⟨t, e, q⟩ := h; ⟨t, e, s.seqT q⟩
theorem Fra.keep {K : PySem.W.Frag} {H H' : Hp} {x : V} {a b : Int} (s : Still H H') (h : Fra K H x a b) : Fra K H' x a b := ⟨h.1.keep s, h.2⟩
/-- its type: t, no whole number -/
def NoNum (K : PySem.W.Frag) (H : Hp) (x : V) : Prop := ∃ (t : String) (b1 b2 : Bool), TyX K H x (.type t) ∧ kitB t "int" = some b1 ∧ kitB t "bool" = some b2 ∧ (b1 && !b2) = false
inductive NotFr (K : PySem.W.Frag) (H : Hp) : V → Prop
  | ty {x : V} {t : String} (h : TyX K H x (.type t)) (k : kitB t "tuple" = some false) : NotFr K H x
  | len {a : Addr} {xs : List V} (h : SqT K H a xs) (k : xs.length ≠ 2) (z : xs.length ≤ sizeLine) : NotFr K H (.ref a)
  | fst {a : Addr} {u v : V} (h : SqT K H a [u, v]) (k : NoNum K H u) : NotFr K H (.ref a)
  | snd {a : Addr} {i : Int} {v : V} (h : SqT K H a [.int i, v]) (k : NoNum K H v) : NotFr K H (.ref a)
  | num {a : Addr} {i j : Int} (h : SqT K H a [.int i, .int j]) (k : j < 1 ∨ Int.gcd i j ≠ 1) : NotFr K H (.ref a)
theorem ty_tup {K : PySem.W.Frag} {H : Hp} {a : Addr} {xs : List V} (h : SqT K H a xs) : TyX K H (.ref a) (.type "tuple") := by
  rcases h with (h | ⟨o, h⟩) | ⟨o, its, n, e, c, _⟩
  · exact .base (.tup h)
  · exact .fTuple h
  · exact .kTuple e c
theorem kit_tt : kitB "tuple" "tuple" = some true := by decide +kernel
theorem kit_ii : kitB "int" "int" = some true := by decide +kernel
theorem kit_ib : kitB "int" "bool" = some false := by decide +kernel
end K26
set_option maxHeartbeats 4000000
namespace K26
open PySem L2
variable {P : Program} {w : World} {K : PySem.W.Frag} {mg : Str → Option Value} {base : Heap}
/-! ### common: the greatest common divisor -/
def spCommon : Sp := fun vs H Q _ => ∃ a b : Int, vs = [.int a, .int b] ∧ Q (.int (Int.gcd a b)) H
theorem sc_common : FnScope ["one", "other"] ["one", "other"] (defScope s_common) := ⟨rfl, rfl, rfl, by decide +kernel, rfl, by decide +kernel, by decide +kernel⟩
theorem fmod_nat (n m : Nat) (h : m ≠ 0) : Int.fmod (n : Int) (m : Int) = ((n % m : Nat) : Int) := by
  rw [Int.fmod_eq_emod_of_nonneg _ (Int.natCast_nonneg m)]
  exact (Int.natCast_emod n m).symm
theorem abs_nat (a : Int) : (if a < 0 then -a else a) = ((a.natAbs : Nat) : Int) := by
  split <;> omega
theorem ok_common (M : Mgs K mg) (D : Df K "common" s_common) (bA : PySem.W.nsIn K mainGlobals "abs" = some none) : Cal P w K mg base CX0 "common" 1 ["one", "other"] spCommon := by
  obtain ⟨f, fd, hf, F⟩ := D
  have mA := M.no bA
  refine ⟨f, fd, F.ok sc_common (fun vs H Q E h => ?_) (fun cdv A outer s H vs Q E hr h => ?_), M.of hf, F.kp, F.binds fun _ _ _ _ _ _ us hl => match us, hl with | [_, _], _ => rfl⟩
  · obtain ⟨a, b, rfl, _⟩ := h
    rfl
  · obtain ⟨a, b, rfl, k⟩ := h
    refine ⟨_, pss_cons (ps_set (i := 0) sc_common.nd rfl (Or.inl rfl) (pe_callB call_abs (by rfl) mA (by decide +kernel) (pa_cons (pv 0) pa_nil)))
      (pss_cons (ps_set (i := 1) sc_common.nd rfl (Or.inl rfl) (pe_callB call_abs (by rfl) mA (by decide +kernel) (pa_cons (pv 1) pa_nil)))
      (pss_cons (ps_while PassesOwn.never (pt_cmpR op_ne (pv 1) pe_int (nomark _)) (pss_one (ps_par (i := 0) (j := 1) rfl sc_common.nd rfl rfl (by decide) rfl rfl (pa_cons (pv 1) (pa_cons (pe_op op_modN (pv 0) (pv 1)) pa_nil)) rfl)))
      (pss_one (ps_ret (pv 0))))), ?_⟩
    refine ⟨_, rfl, _, rfl, _, rfl, _, rfl, ?_⟩
    refine while_by (fun σ H' => H' = H ∧ ∃ n m : Nat, σ = [some (.int n), some (.int m)] ∧ Nat.gcd n m = Int.gcd a b) (fun σ _ => match σ with | [_, some (.int m)] => m.natAbs | _ => 0) ?_ ?_ ?_
    · refine ⟨rfl, a.natAbs, b.natAbs, ?_, rfl⟩
      rw [abs_nat, abs_nat]
      rfl
    · rintro σ H' ⟨rfl, n, m, rfl, hg⟩
      refine ⟨_, rfl, rfl, _, rfl, ?_⟩
      by_cases hm : m = 0
      · subst hm
        refine iteF ?_
        refine ⟨_, rfl, ?_⟩
        rw [← hg, Nat.gcd_zero_right] at k
        exact k
      · have e : decide (V.int (m : Int) = V.int 0) = false := decide_eq_false fun z => hm (by have := V.int.inj z; omega)
        show if (!decide (V.int (m : Int) = V.int 0)) = true then _ else _
        rw [e]
        refine iteT ?_
        refine ⟨_, rfl, _, rfl, _, rfl, _, _, rfl, rfl, by omega, _, _, rfl, ⟨rfl, m, n % m, ?_, ?_⟩, ?_⟩
        · show [some (V.int (m : Int)), some (V.int (Int.fmod (n : Int) (m : Int)))] = _
          rw [fmod_nat n m hm]
        · rw [← hg, Nat.gcd_comm n m, Nat.gcd_rec m n, Nat.gcd_comm]
        · show (Int.fmod (n : Int) (m : Int)).natAbs < ((m : Int)).natAbs
          rw [fmod_nat n m hm]
          have := Nat.mod_lt n (Nat.pos_of_ne_zero hm)
          omega
    · rintro σ H' Q1 Q2 hq ⟨v, h1, h2, k2, h3, q⟩
      exact ⟨v, h1, h2, k2, h3, hq _ _ q⟩
/-! ### is_number -/
def spIsNum (K : PySem.W.Frag) : Sp := fun vs H Q _ => ∃ (x : V) (t : String) (b1 b2 : Bool), vs = [x] ∧ TyX K H x (.type t) ∧ kitB t "int" = some b1 ∧ kitB t "bool" = some b2 ∧ Q (.bl (b1 && !b2)) H
theorem sc_is_number : FnScope ["thing"] ["thing"] (defScope s_is_number) := ⟨rfl, rfl, rfl, by decide +kernel, rfl, by decide +kernel, by decide +kernel⟩
theorem ok_is_number (M : Mgs K mg) (D : Df K "is_number" s_is_number) (b1 : PySem.W.nsIn K mainGlobals "isinstance" = some none) (b2 : PySem.W.nsIn K mainGlobals "int" = some none) (b3 : PySem.W.nsIn K mainGlobals "bool" = some none) :
    Cal P w K mg base CX0 "is_number" 1 ["thing"] (spIsNum K) := by
  obtain ⟨f, fd, hf, F⟩ := D
  refine ⟨f, fd, F.ok sc_is_number (fun vs H Q E h => ?_) (fun cdv A outer s H vs Q E hr h => ?_), M.of hf, F.kp, F.binds fun _ _ _ _ _ _ us hl => match us, hl with | [_], _ => rfl⟩
  · obtain ⟨x, t, b1, b2, rfl, _⟩ := h
    rfl
  · obtain ⟨x, t, c1, c2, rfl, ty, k1, k2, k⟩ := h
    refine ⟨_, pss_one (ps_ret (pe_and (pe_callB call_isi (by rfl) (M.no b1) (by decide +kernel) (pa_cons (pv 0) (pa_cons (pe_bltn (v := .ty "int") (by rfl) (M.no b2) (by decide +kernel) rfl) pa_nil)))
      (pe_one (pe_not (pe_callB call_isi (by rfl) (M.no b1) (by decide +kernel) (pa_cons (pv 0) (pa_cons (pe_bltn (v := .ty "bool") (by rfl) (M.no b3) (by decide +kernel) rfl) pa_nil))))))), ?_⟩
    refine ⟨_, rfl, _, _, _, _, c1, rfl, .ty _, ty, kit_ty k1, c1, rfl, ?_⟩
    cases c1 with
    | false => exact iteF k
    | true => exact iteT ⟨_, rfl, _, _, _, _, c2, rfl, .ty _, ty, kit_ty k2, c2, rfl, k⟩
/-! ### is_fraction -/
def spIsFr (K : PySem.W.Frag) : Sp := fun vs H Q _ => ∃ (x : V) (b : Bool), vs = [x] ∧ ((b = true ∧ ∃ i j, Fra K H x i j) ∨ (b = false ∧ NotFr K H x)) ∧ Q (.bl b) H
theorem sc_is_fraction : FnScope ["thing"] ["thing"] (defScope s_is_fraction) := ⟨rfl, rfl, rfl, by decide +kernel, rfl, by decide +kernel, by decide +kernel⟩
theorem ok_is_fraction (M : Mgs K mg) (D : Df K "is_fraction" s_is_fraction) (b1 : PySem.W.nsIn K mainGlobals "isinstance" = some none) (b2 : PySem.W.nsIn K mainGlobals "tuple" = some none) (b3 : PySem.W.nsIn K mainGlobals "len" = some none)
    (cN : Cal P w K mg base CX0 "is_number" 1 ["thing"] (spIsNum K)) (cC : Cal P w K mg base CX0 "common" 1 ["one", "other"] spCommon) :
    Cal P w K mg base CX0 "is_fraction" 2 ["thing"] (spIsFr K) := by
  obtain ⟨f, fd, hf, F⟩ := D
  refine ⟨f, fd, F.ok sc_is_fraction (fun vs H Q E h => ?_) (fun cdv A outer s H vs Q E hr h => ?_), M.of hf, F.kp, F.binds fun _ _ _ _ _ _ us hl => match us, hl with | [_], _ => rfl⟩
  · obtain ⟨x, b, rfl, _⟩ := h
    rfl
  · obtain ⟨x, b, rfl, hx, k⟩ := h
    refine ⟨_, pss_cons (ps_if (PW.pt (pw_or (pt_not (pt_val (pe_callB call_isi (by rfl) (M.no b1) (by decide +kernel) (pa_cons (pv 0) (pa_cons (pe_bltn (v := .ty "tuple") (by rfl) (M.no b2) (by decide +kernel) rfl) pa_nil)))))
        (pw_or (pt_cmpR op_ne (pe_callB call_len_seq (by rfl) (M.no b3) PySem.boot_len (pa_cons (pv 0) pa_nil)) pe_int (nomark _))
        (pw_or (pt_not (pt_val (pe_cal cN hr (by rfl) pass0 (pa_cons (pe_ix ix_tup (pv 0) pe_int (fun _ _ => rfl)) pa_nil))))
        (pw_or1 (pt_not (pt_val (pe_cal cN hr (by rfl) pass0 (pa_cons (pe_ix ix_tup (pv 0) pe_int (fun _ _ => rfl)) pa_nil)))))))))
        (pss_one (ps_ret pe_bl)) pss_nil)
      (pss_one (ps_ret (pe_and (pe_cmpR op_ge (pe_ix ix_tup (pv 0) pe_int (fun _ _ => rfl)) pe_int (nomark _))
        (pe_one (pe_cmpR op_eq (pe_cal cC hr (by rfl) pass0 (pa_cons (pe_ix ix_tup (pv 0) pe_int (fun _ _ => rfl)) (pa_cons (pe_ix ix_tup (pv 0) pe_int (fun _ _ => rfl)) pa_nil))) pe_int (nomark _)))))), ?_⟩
    have key : (∃ t : String, TyX K H x (.type t) ∧ kitB t "tuple" = some false ∧ b = false) ∨ (∃ (a : Addr) (xs : List V), x = .ref a ∧ SqT K H a xs ∧ xs.length ≠ 2 ∧ b = false) ∨
        (∃ (a : Addr) (u v : V), x = .ref a ∧ SqT K H a [u, v] ∧ ∃ (t : String) (c1 c2 : Bool), TyX K H u (.type t) ∧ kitB t "int" = some c1 ∧ kitB t "bool" = some c2 ∧
          ((c1 && !c2) = false → b = false) ∧ ((c1 && !c2) = true → ∃ (t' : String) (d1 d2 : Bool), TyX K H v (.type t') ∧ kitB t' "int" = some d1 ∧ kitB t' "bool" = some d2 ∧
            ((d1 && !d2) = false → b = false) ∧ ((d1 && !d2) = true → ∃ i j : Int, u = .int i ∧ v = .int j ∧ b = (decide (1 ≤ j) && decide (Int.gcd i j = 1))))) := by
      rcases hx with ⟨rfl, i, j, ⟨⟨a, ex, hs⟩, h1, hg⟩⟩ | ⟨rfl, hn⟩
      · exact .inr (.inr ⟨a, _, _, ex, hs, "int", true, false, .base (.int _), kit_ii, kit_ib, (fun z => by cases z), fun _ => ⟨"int", true, false, .base (.int _), kit_ii, kit_ib, (fun z => by cases z), fun _ => ⟨i, j, rfl, rfl, by rw [decide_eq_true h1, decide_eq_true hg]; rfl⟩⟩⟩)
      · cases hn with
        | @ty _ t h kk => exact .inl ⟨t, h, kk, rfl⟩
        | @len a xs hs kk zz => exact .inr (.inl ⟨a, xs, rfl, hs, kk, rfl⟩)
        | @fst a u v hs kk =>
          obtain ⟨t, c1, c2, ty, k1, k2, hc⟩ := kk
          exact .inr (.inr ⟨a, _, _, rfl, hs, t, c1, c2, ty, k1, k2, (fun _ => rfl), fun z => by rw [hc] at z; cases z⟩)
        | @snd a i v hs kk =>
          obtain ⟨t, c1, c2, ty, k1, k2, hc⟩ := kk
          exact .inr (.inr ⟨a, _, _, rfl, hs, "int", true, false, .base (.int _), kit_ii, kit_ib, (fun z => by cases z), fun _ => ⟨t, c1, c2, ty, k1, k2, (fun _ => rfl), fun z => by rw [hc] at z; cases z⟩⟩)
        | @num a i j hs kk =>
          refine .inr (.inr ⟨a, _, _, rfl, hs, "int", true, false, .base (.int _), kit_ii, kit_ib, (fun z => by cases z), fun _ => ⟨"int", true, false, .base (.int _), kit_ii, kit_ib, (fun z => by cases z), fun _ => ⟨i, j, rfl, rfl, ?_⟩⟩⟩)
          rcases kk with z | z
          · rw [decide_eq_false (show ¬ 1 ≤ j by omega)]; rfl
          · rw [decide_eq_false z, Bool.and_false]
    rcases key with ⟨t, h, kk, rfl⟩ | ⟨a, xs, rfl, hs, kk, rfl⟩ | ⟨a, u, v, rfl, hs, t, c1, c2, ty, k1, k2, h0, h1⟩
    · exact ⟨_, rfl, _, _, _, _, false, rfl, .ty _, h, kit_ty kk, false, rfl, iteT (iteT k)⟩
    · refine ⟨_, rfl, _, _, _, _, true, rfl, .ty _, ty_tup hs, kit_ty kit_tt, true, rfl, iteF ?_⟩
      refine ⟨_, rfl, _, _, rfl, .inr hs, rfl, _, rfl, ?_⟩
      have e : decide (V.int ((xs.length : Nat) : Int) = V.int 2) = false := decide_eq_false fun z => kk (by have := V.int.inj z; omega)
      show if (!decide (V.int ((xs.length : Nat) : Int) = V.int 2)) = true then _ else _
      rw [e]
      exact iteT (iteT k)
    · refine ⟨_, rfl, _, _, _, _, true, rfl, .ty _, ty_tup hs, kit_ty kit_tt, true, rfl, iteF ?_⟩
      refine ⟨_, rfl, _, _, rfl, .inr hs, rfl, _, rfl, iteF ?_⟩
      refine ⟨_, rfl, _, _, _, _, rfl, rfl, hs, rfl, _, t, c1, c2, rfl, ty, k1, k2, _, rfl, ?_⟩
      cases hc : (c1 && !c2) with
      | false =>
        refine iteT (iteT ?_)
        rw [h0 hc] at k
        exact k
      | true =>
        refine iteF ?_
        obtain ⟨t', d1, d2, ty', l1, l2, g0, g1⟩ := h1 hc
        refine ⟨_, rfl, _, _, _, _, rfl, rfl, hs, rfl, _, t', d1, d2, rfl, ty', l1, l2, _, rfl, ?_⟩
        cases hd : (d1 && !d2) with
        | false =>
          refine iteT ?_
          rw [g0 hd] at k
          exact k
        | true =>
          refine iteF ?_
          obtain ⟨i, j, rfl, rfl, eb⟩ := g1 hd
          refine ⟨_, rfl, _, _, _, _, rfl, rfl, hs, rfl, _, _, rfl, rfl, _, rfl, ?_⟩
          subst eb
          cases hj : decide (1 ≤ j) with
          | false =>
            refine iteF ?_
            rw [hj] at k
            exact k
          | true =>
            refine iteT ?_
            refine ⟨_, rfl, _, _, _, _, rfl, rfl, hs, rfl, _, rfl, _, _, _, _, rfl, rfl, hs, rfl, _, _, rfl, rfl, ?_⟩
            have e : decide (V.int ((Int.gcd i j : Nat) : Int) = V.int 1) = decide (Int.gcd i j = 1) := by
              by_cases z : Int.gcd i j = 1
              · rw [z]; rfl
              · rw [decide_eq_false z]
                exact decide_eq_false fun y => z (by have := V.int.inj y; omega)
            show Q (V.bl (decide (V.int ((Int.gcd i j : Nat) : Int) = V.int 1))) H
            rw [e]
            rw [hj] at k
            exact k
end K26
set_option maxHeartbeats 4000000
namespace K26
open PySem L2
/-! ### own rules: B.__init__(self, ..) where B is a class of the text over ValueError -/
section
variable {X : Cx} {C0 : Addr} {x : Str} {e : Expr} {es : List Expr} {ta : TA} {p1 p2 pos : Pos}
theorem pe_up {pl : Sem Bool} (hg : Gl X x) (hm : X.mg x = some (.ref C0)) (rd : PySem.W.readsIn X.K C0 (.type "type") = true) (ga : PySem.W.specialIn X.K (.ref C0) "__getattribute__" = some (some (.builtin "type.__getattribute__")))
    (fi : PySem.W.findCls X.K (.ref C0) (.type "type") "__init__" = some (.val (.builtin "ValueError.__init__"))) (ha : PA X (e :: es) ta)
    (tree : eval (.Call (.Attribute (.Name x p1) "__init__" p2) (e :: es) [] pos) X.env = (do
      let ov ← eval (.Name x p1) X.env
      standAt p2.atName
      let (f, first) ← holding [ov] (getMethod ov "__init__" pl)
      callWith pos f first (backTo pos (starEach (e :: es) X.env)) (backToKw pos (keywordEach [] X.env))) := by rfl)
    (hdb : (x == ("__debug__" : Str)) = false := by decide) (h1 : starEach (e :: es) X.env = (false, eval e X.env) :: starEach es X.env := by rfl) (h2 : (backTo pos (starEach es X.env)).any (·.1) = false := by rfl) :
    PE X (.Call (.Attribute (.Name x p1) "__init__" p2) (e :: es) [] pos) (tVeI X.K ta) := by
  refine ⟨fun pins s σ H Q I want => ?_⟩
  refine PySem.W.methodCall_KW (ld_glob I hg hm ?_ hdb) tree
  refine PySem.W.method_cls I.kIn ga (PySem.W.cls_value I.kIn rd fi (by decide +kernel) ?_)
  show wpAny _ _ (callWith pos (Value.builtin "ValueError.__init__") [] _ _) _ _ _
  refine PyProof.Rows.callWith_method1 (thn (ha.run pos pins _ σ H _ (I.tok _) want) fun us s1 ⟨vs, H1, I1, rel, rest⟩ => ?_) h1 h2
  obtain ⟨a, C, ws, rfl, small, T, ea, q⟩ := rest
  cases rel with
  | @cons _ u0 _ ur ra rw' =>
    obtain rfl : u0 = Value.ref a := ra
    have n1 := Paired.length rw'
    have n2 : ur.length ≤ sizeLine := by rw [← n1, sizeLine_eq]; omega
    exact oinit_ok T I1 ea n2 fun s' J => ⟨.non, H1, J, rfl, q⟩
end
/-! ### C() of a class without an own __init__ -/
def tNew0 (C : Addr) : TE := fun _ H Q => ∀ x dx, H x = none → H dx = none → dx ≠ x → Q (.ref x) (upd (upd H dx (.own x)) x (.ins C dx []))
section
variable {X : Cx} {C : Addr} {x : Str} {p pos : Pos}
theorem pe_new0 (hk : PySem.W.makesIn X.K C = true) (hi : PySem.W.findIn X.K (.ref C) "__init__" = some (some (.builtin "object.__init__"))) (kp : PySem.W.keepIn X.K (.ref C) = true) (hg : Gl X x) (hm : X.mg x = some (.ref C))
    (hdb : (x == ("__debug__" : Str)) = false := by decide) : PE X (.Call (.Name x p) [] [] pos) (tNew0 C) := by
  refine ⟨fun pins s σ H Q I want => ?_⟩
  refine wpAny_Call_Name_kw (ld_glob I hg hm ?_ hdb)
  refine PySem.W.callWith_K0 I.kIn kp ?_
  show wpAny _ _ (call (.ref C) []) _ _ _
  have J := Inv.made (C := C) I
  have fin := want (s.heap.objs.size + 1) s.heap.objs.size (I.hok.fresh (Nat.le_succ _)) (I.hok.fresh (Nat.le_refl _)) (Nat.ne_of_lt (Nat.lt_succ_self _))
  have Y := PySem.W.makes_of (M := model X.prog X.w) I.kIn hk
  have hx : ((s.heap.push PySem.W.emptyDict).push (PySem.W.instObj C s.heap.objs.size)).get? (s.heap.objs.size + 1) = some (PySem.W.instObj C s.heap.objs.size) := by heap_get
  have t1 : PySem.W.Looks (model X.prog X.w) ((s.heap.push PySem.W.emptyDict).push (PySem.W.instObj C s.heap.objs.size)) (typeOf (.ref (s.heap.objs.size + 1))) (.ref C) := (PySem.W.Looks.ld hx).andThen .now
  have t2 : PySem.W.Looks (model X.prog X.w) ((s.heap.push PySem.W.emptyDict).push (PySem.W.instObj C s.heap.objs.size)) (isInstance (.ref (s.heap.objs.size + 1)) (.type "object")) true :=
    t1.andThen (Y.top.keeps fun b o q => Heap.get?_push_of_some _ (Heap.get?_push_of_some _ q))
  refine wpAny_call (make_map0 I.kIn hk hi (fun self => PySem.W.Looks.of_pure (PySem.W.oi_bind self)) ?_)
  refine codeAny_call_builtin PySem.W.oi_plain PySem.W.entry_oi (@PySem.W.check_slot (model X.prog X.w) _ _ _ "object.__init__" "object" "__init__" (.ref (s.heap.objs.size + 1)) [] [] _ PySem.W.oi_kind PySem.W.oi_split t2 (PySem.W.oi_args (.ref (s.heap.objs.size + 1))) ?_)
  rw [PySem.W.oi_run]
  exact wpAny_pure (And.intro rfl ⟨V.ref (s.heap.objs.size + 1), _, J, rfl, fin⟩)
end
/-! ### o.m() where the class of o comes out with its value -/
def tMethOf (X : Cx) (k : Nat) (m : Str) (ta : TE) : TE := fun σ H Q => ta σ H fun x H1 => ∃ (a C dx : Addr) (fs : List (Str × V)) (f : Addr) (fd : FuncData) (sp : Sp), x = .ref a ∧ H1 a = some (.ins C dx fs) ∧ fs.lookup m = none ∧ Cls X.K C ∧ Meth X.K C m f ∧
  Binds X.K fd ["self"] [] ∧ FnOk X.prog X.w X.K X.mg X.base CX0 k f fd ["self"] sp ∧ sp [x] H1 Q E0
section
variable {X : Cx} {o : Expr} {m : Str} {ta : TE} {k : Nat} {apos pos : Pos}
theorem pe_methOf {pl : Sem Bool} (he : PE X o ta) (hr : Room k X.A)
    (tree : eval (.Call (.Attribute o m apos) [] [] pos) X.env = (do
      let ov ← eval o X.env
      standAt apos.atName
      let (f, first) ← holding [ov] (getMethod ov m pl)
      callWith pos f first (backTo pos (starEach [] X.env)) (backToKw pos (keywordEach [] X.env)))) :
    PE X (.Call (.Attribute o m apos) [] [] pos) (tMethOf X k m ta) := by
  refine ⟨fun pins s σ H Q I want => ?_⟩
  refine PySem.W.methodCall_KW (pl := pl) (thn (he.run pins s σ H _ I want) fun u s1 ⟨v, H1, I1, rv, rest⟩ => ?_) tree
  obtain ⟨a, C, dx, fs, f, fd, sp, rfl, ea, l, c, hm, hb, F, q⟩ := rest
  obtain rfl : u = Value.ref a := rv
  refine getmeth_ok I1 ea c hm l ?_
  exact PySem.W.callWith_K0 (first := [.ref a]) I1.kIn hm.kp (run_fn (us := [.ref a]) (vs := [.ref a]) F hr hb .nil pass0 I1 (.cons rfl .nil) q)
end
variable {P : Program} {w : World} {K : PySem.W.Frag} {mg : Str → Option Value} {base : Heap} {C0 C1 C2 C3 M1 M2 M3 : Addr}
/-! ### the three refusals' __init__ -/
def spIni (C : Addr) : Sp := fun vs H Q _ => ∃ (a : Addr) (x : V), vs = [.ref a, x] ∧ H a = some (exo a C none) ∧ ∀ d, H d = none → d ≠ a → Q .non (upd (upd H d (exd d [("found", x)])) a (exo a C (some d)))
structure Sup (K : PySem.W.Frag) (mg : Str → Option Value) (C0 : Addr) : Prop where
  m : mg "TermError" = some (.ref C0)
  rd : PySem.W.readsIn K C0 (.type "type") = true
  ga : PySem.W.specialIn K (.ref C0) "__getattribute__" = some (some (.builtin "type.__getattribute__"))
  fi : PySem.W.findCls K (.ref C0) (.type "type") "__init__" = some (.val (.builtin "ValueError.__init__"))
theorem sc_ini1 : FnScope ["self", "found"] ["self", "found"] (defScope s_NoFraction_init) := ⟨rfl, rfl, rfl, by decide +kernel, rfl, by decide +kernel, by decide +kernel⟩
theorem ok_ini1 {C : Addr} (M : Mgs K mg) (S : Sup K mg C0) (x1 : Xc K "NoFraction" "NoFraction.__init__" s_NoFraction_init C0 C) : ∃ (f : Addr) (fd : FuncData), PySem.W.findIn K (.ref C) "__init__" = some (some (.ref f)) ∧ PySem.W.typeIn K (.ref f) = some (.type "function") ∧
    FnOk P w K mg base CX0 1 f fd ["self", "found"] (spIni C) ∧ Binds K fd ["self", "found"] [] := by
  obtain ⟨f, fd, iC, tI, F⟩ := x1.init
  refine ⟨f, fd, iC, tI, F.ok sc_ini1 (fun vs H Q E h => ?_) (fun cdv A outer s H vs Q E hr h => ?_), F.binds fun _ _ _ _ _ _ us hl => match us, hl with | [_, _], _ => rfl⟩
  · obtain ⟨a, x, rfl, _⟩ := h
    rfl
  · obtain ⟨a, x, rfl, ea, k⟩ := h
    refine ⟨_, pss_cons (ps_expr (pe_up (by rfl) S.m S.rd S.ga S.fi (pa_cons (pv 0) (pa_cons pe_str pa_nil)))) (pss_one (ps_ost (pv 0) (pv 1))), ?_⟩
    refine ⟨_, rfl, a, C, _, rfl, (by show 1 ≤ 1000; decide), x1.ox, ea, ?_⟩
    refine ⟨_, rfl, _, rfl, a, C, rfl, x1.ox, x1.nf, .inl ⟨ea, fun d nd nda => ?_⟩⟩
    exact k d nd nda
theorem sc_ini2 : FnScope ["self", "found"] ["self", "found"] (defScope s_NoManner_init) := ⟨rfl, rfl, rfl, by decide +kernel, rfl, by decide +kernel, by decide +kernel⟩
theorem ok_ini2 {C : Addr} (M : Mgs K mg) (S : Sup K mg C0) (x1 : Xc K "NoManner" "NoManner.__init__" s_NoManner_init C0 C) : ∃ (f : Addr) (fd : FuncData), PySem.W.findIn K (.ref C) "__init__" = some (some (.ref f)) ∧ PySem.W.typeIn K (.ref f) = some (.type "function") ∧
    FnOk P w K mg base CX0 1 f fd ["self", "found"] (spIni C) ∧ Binds K fd ["self", "found"] [] := by
  obtain ⟨f, fd, iC, tI, F⟩ := x1.init
  refine ⟨f, fd, iC, tI, F.ok sc_ini2 (fun vs H Q E h => ?_) (fun cdv A outer s H vs Q E hr h => ?_), F.binds fun _ _ _ _ _ _ us hl => match us, hl with | [_, _], _ => rfl⟩
  · obtain ⟨a, x, rfl, _⟩ := h
    rfl
  · obtain ⟨a, x, rfl, ea, k⟩ := h
    refine ⟨_, pss_cons (ps_expr (pe_up (by rfl) S.m S.rd S.ga S.fi (pa_cons (pv 0) (pa_cons pe_str pa_nil)))) (pss_one (ps_ost (pv 0) (pv 1))), ?_⟩
    refine ⟨_, rfl, a, C, _, rfl, (by show 1 ≤ 1000; decide), x1.ox, ea, ?_⟩
    refine ⟨_, rfl, _, rfl, a, C, rfl, x1.ox, x1.nf, .inl ⟨ea, fun d nd nda => ?_⟩⟩
    exact k d nd nda
theorem sc_ini3 : FnScope ["self", "found"] ["self", "found"] (defScope s_NoBounds_init) := ⟨rfl, rfl, rfl, by decide +kernel, rfl, by decide +kernel, by decide +kernel⟩
theorem ok_ini3 {C : Addr} (M : Mgs K mg) (S : Sup K mg C0) (x1 : Xc K "NoBounds" "NoBounds.__init__" s_NoBounds_init C0 C) : ∃ (f : Addr) (fd : FuncData), PySem.W.findIn K (.ref C) "__init__" = some (some (.ref f)) ∧ PySem.W.typeIn K (.ref f) = some (.type "function") ∧
    FnOk P w K mg base CX0 1 f fd ["self", "found"] (spIni C) ∧ Binds K fd ["self", "found"] [] := by
  obtain ⟨f, fd, iC, tI, F⟩ := x1.init
  refine ⟨f, fd, iC, tI, F.ok sc_ini3 (fun vs H Q E h => ?_) (fun cdv A outer s H vs Q E hr h => ?_), F.binds fun _ _ _ _ _ _ us hl => match us, hl with | [_, _], _ => rfl⟩
  · obtain ⟨a, x, rfl, _⟩ := h
    rfl
  · obtain ⟨a, x, rfl, ea, k⟩ := h
    refine ⟨_, pss_cons (ps_expr (pe_up (by rfl) S.m S.rd S.ga S.fi (pa_cons (pv 0) (pa_cons pe_str pa_nil)))) (pss_one (ps_ost (pv 0) (pv 1))), ?_⟩
    refine ⟨_, rfl, a, C, _, rfl, (by show 1 ≤ 1000; decide), x1.ox, ea, ?_⟩
    refine ⟨_, rfl, _, rfl, a, C, rfl, x1.ox, x1.nf, .inl ⟨ea, fun d nd nda => ?_⟩⟩
    exact k d nd nda
/-- raise x(..): what its making asks, told once -/
def spRaise (C : Addr) (x : V) (H : Hp) (E : XK) : Prop := ∀ d H', Same H H' → H d = none → H' d = some (.xd [("found", x)]) → E (.ref C) (some d) H'
theorem raise_end {C : Addr} {x : V} {H : Hp} {Q : XK} (k : spRaise C x H Q) : ∀ a, H a = none → spIni C [.ref a, x] (upd H a (exo a C none))
    (fun v H2 => v = .non ∧ ∃ (d : Addr) (fs : List (Str × V)), H2 a = some (exo a C (some d)) ∧ H2 d = some (exd d fs) ∧ H d = none ∧ Q (.ref C) (some d) (upd (del H2 a) d (.xd fs))) (fun _ _ _ => False) := fun a na => by
  refine ⟨a, x, rfl, upd_same, fun d nd nda => ?_⟩
  have hd : H d = none := by
    rw [upd_ne nda] at nd
    exact nd
  refine ⟨rfl, d, [("found", x)], upd_same, ?_, hd, k d _ (fun b o e => ?_) hd upd_same⟩
  · rw [upd_ne nda, upd_same]
  · have nb : b ≠ d := ne_of_none e hd
    have na' : b ≠ a := ne_of_none e na
    rw [upd_ne nb, del_ne na', upd_ne na', upd_ne nb, upd_ne na']
    exact e
/-! ### need_fraction -/
def spNeed (K : PySem.W.Frag) (C1 : Addr) : Sp := fun vs H Q E => ∃ x : V, vs = [x] ∧ (((∃ i j, Fra K H x i j) ∧ Q .non H) ∨ (NotFr K H x ∧ spRaise C1 x H E))
theorem sc_need_fraction : FnScope ["thing"] ["thing"] (defScope s_need_fraction) := ⟨rfl, rfl, rfl, by decide +kernel, rfl, by decide +kernel, by decide +kernel⟩
theorem ok_need_fraction (M : Mgs K mg) (S : Sup K mg C0) (D : Df K "need_fraction" s_need_fraction) (x1 : Xc K "NoFraction" "NoFraction.__init__" s_NoFraction_init C0 C1)
    (cF : Cal P w K mg base CX0 "is_fraction" 2 ["thing"] (spIsFr K)) : Cal P w K mg base (L2.CX P w) "need_fraction" 3 ["thing"] (spNeed K C1) := by
  obtain ⟨f, fd, hf, F⟩ := D
  obtain ⟨fi, fdi, iC, tI, FI, bI⟩ := ok_ini1 (P := P) (w := w) (base := base) M S x1
  refine ⟨f, fd, F.okX sc_need_fraction (fun vs H Q E h => ?_) (fun cdv A outer s H vs Q E hr h => ?_), M.of hf, F.kp, F.binds fun _ _ _ _ _ _ us hl => match us, hl with | [_], _ => rfl⟩
  · obtain ⟨x, rfl, _⟩ := h
    rfl
  · obtain ⟨x, rfl, hx⟩ := h
    refine ⟨_, pss_one (ps_if (pt_not (pt_val (pe_cal cF hr (by rfl) pass0 (pa_cons (pv 0) pa_nil)))) (pss_one (ps_raise rfl (takes_of rfl rfl rfl rfl) (pmk_oex x1.ox iC tI FI hr bI .nil pass0 (by rfl) (M.of x1.aC) (pa_cons (pv 0) pa_nil)))) pss_nil), ?_⟩
    rcases hx with ⟨⟨i, j, fr⟩, k⟩ | ⟨nf, k⟩
    · exact ⟨_, rfl, _, true, rfl, .inl ⟨rfl, i, j, fr⟩, _, rfl, iteF k⟩
    · refine ⟨_, rfl, _, false, rfl, .inr ⟨rfl, nf⟩, _, rfl, iteT ?_⟩
      exact ⟨_, rfl, (by show 1 ≤ 1000; decide), raise_end k⟩
end K26
set_option maxHeartbeats 4000000
namespace K26
open PySem L2
variable {P : Program} {w : World} {K : PySem.W.Frag} {mg : Str → Option Value} {base : Heap} {C0 C1 C2 C3 M1 M2 M3 : Addr}
/-! ### keeping -/
theorem TyX.keep {H H' : Hp} {x : V} {t : Value} (s : Same H H') (h : TyX K H x t) : TyX K H' x t := by
  cases h with
  | base b =>
    cases b with
    | non => exact .base .non
    | bl y => exact .base (.bl y)
    | int i => exact .base (.int i)
    | str y => exact .base (.str y)
    | flt y => exact .base (.flt y)
    | lst e => exact .base (.lst (s _ _ e))
    | frz e => exact .base (.frz (s _ _ e))
    | tup e => exact .base (.tup (s _ _ e))
    | dK e => exact .base (.dK (s _ _ e))
    | dT e => exact .base (.dT (s _ _ e))
    | ins e cl ha hn htk hm => exact .base (.ins (s _ _ e) cl ha hn htk hm)
  | byt b => exact .byt b
  | set e => exact .set (s _ _ e)
  | kList e c => exact .kList e c
  | kTuple e c => exact .kTuple e c
  | kDict e c => exact .kDict e c
  | fTuple e => exact .fTuple (s _ _ e)
  | fDict e => exact .fDict (s _ _ e)
theorem NoNum.keep {H H' : Hp} {x : V} (s : Same H H') (h : NoNum K H x) : NoNum K H' x := let ⟨t, b1, b2, ty, r⟩ := h; ⟨t, b1, b2, TyX.keep s ty, r⟩
theorem NotFr.keep {H H' : Hp} {x : V} (s : Same H H') (h : NotFr K H x) : NotFr K H' x := by
  have st := Still.of s
  cases h with
  | ty h k => exact .ty (TyX.keep s h) k
  | len h k z => exact .len (st.seqT h) k z
  | fst h k => exact .fst (st.seqT h) (k.keep s)
  | snd h k => exact .snd (st.seqT h) (k.keep s)
  | num h k => exact .num (st.seqT h) k
/-! ### made -/
def lowT (t u : Int) : Int := t / (Int.gcd t u : Int)
def lowB (t u : Int) : Int := u / (Int.gcd t u : Int)
theorem gcd_pos' {t u : Int} (h : 0 < u) : (0 : Int) < (Int.gcd t u : Int) := by
  have : 0 < Int.gcd t u := Int.gcd_pos_of_ne_zero_right t (by omega)
  omega
theorem low_eq {t u : Int} (h : 0 < u) : t = (Int.gcd t u : Int) * lowT t u ∧ u = (Int.gcd t u : Int) * lowB t u ∧ 1 ≤ lowB t u ∧ Int.gcd (lowT t u) (lowB t u) = 1 := by
  have g0 := gcd_pos' (t := t) h
  have e1 : t = (Int.gcd t u : Int) * lowT t u := (Int.mul_ediv_cancel' (Int.gcd_dvd_left t u)).symm
  have e2 : u = (Int.gcd t u : Int) * lowB t u := (Int.mul_ediv_cancel' (Int.gcd_dvd_right t u)).symm
  refine ⟨e1, e2, ?_, ?_⟩
  · have e3 := e2
    rcases Int.lt_or_le 0 (lowB t u) with z | z
    · omega
    · have := Int.mul_nonpos_of_nonneg_of_nonpos (Int.le_of_lt g0) z
      omega
  · have gn : 0 < Int.gcd t u := by omega
    show Int.gcd (t / (Int.gcd t u : Int)) (u / (Int.gcd t u : Int)) = 1
    exact Int.gcd_ediv_gcd_ediv_gcd gn
theorem gcd_sm {t u : Int} (h : 0 < u) (s : Sm u) : Sm (Int.gcd t u : Int) := by
  have h1 : Int.gcd t u ≤ u.natAbs := Int.gcd_le_natAbs_right t (by omega)
  exact Nat.lt_of_le_of_lt (by simpa using h1) s
def spMade : Sp := fun vs H Q _ => ∃ t u : Int, vs = [.int t, .int u] ∧ 0 < u ∧ Sm u ∧ ∀ p H', Same H H' → H p = none → H' p = some (.tup [.int (lowT t u), .int (lowB t u)]) → Q (.ref p) H'
theorem sc_made : FnScope ["top", "bottom", "by"] ["top", "bottom"] (defScope s_made) := ⟨rfl, rfl, rfl, by decide +kernel, rfl, by decide +kernel, by decide +kernel⟩
theorem ok_made (M : Mgs K mg) (D : Df K "made" s_made) (cC : Cal P w K mg base CX0 "common" 1 ["one", "other"] spCommon) : Cal P w K mg base CX0 "made" 2 ["top", "bottom"] spMade := by
  obtain ⟨f, fd, hf, F⟩ := D
  refine ⟨f, fd, F.ok sc_made (fun vs H Q E h => ?_) (fun cdv A outer s H vs Q E hr h => ?_), M.of hf, F.kp, F.binds fun _ _ _ _ _ _ us hl => match us, hl with | [_, _], _ => rfl⟩
  · obtain ⟨a, b, rfl, _⟩ := h
    rfl
  · obtain ⟨t, u, rfl, hu, hs, k⟩ := h
    refine ⟨_, pss_cons (ps_set (i := 2) sc_made.nd rfl (Or.inl rfl) (pe_cal cC hr (by rfl) pass0 (pa_cons (pv 0) (pa_cons (pv 1) pa_nil))))
      (pss_cons (ps_if (pt_cmpR op_lt (pv 1) pe_int (nomark _)) pss_never pss_nil)
      (pss_one (ps_ret (pe_tup (pa_cons (pe_op op_fdivW (pv 0) (pv 2)) (pa_cons (pe_op op_fdivW (pv 1) (pv 2)) pa_nil)))))), ?_⟩
    refine ⟨_, rfl, _, rfl, _, _, rfl, _, rfl, _, _, rfl, rfl, _, rfl, ?_⟩
    rw [decide_eq_false (show ¬ u < 0 by omega)]
    refine iteF ?_
    have g0 := gcd_pos' (t := t) hu
    have dv : ∀ i : Int, CDivW i (Int.gcd t u : Int) := fun i => Sm.div g0 (gcd_sm (t := t) hu hs)
    refine ⟨_, rfl, _, rfl, _, _, rfl, rfl, dv _, _, rfl, _, rfl, _, _, rfl, rfl, dv _, (by show 2 ≤ sizeLine; decide), fun p np => ?_⟩
    exact k p _ (Same.new np) np upd_same
/-! ### sign_of -/
def sgn (u v : Int) : Int := (if decide (v < u) = true then 1 else 0) - (if decide (u < v) = true then 1 else 0)
def spSign (K : PySem.W.Frag) : Sp := fun vs H Q _ => ∃ (x y : V) (a b c d : Int), vs = [x, y] ∧ Fra K H x a b ∧ Fra K H y c d ∧ Sm a ∧ Sm b ∧ Sm c ∧ Sm d ∧ Q (.int (sgn (a * d) (c * b))) H
theorem sc_sign_of : FnScope ["one", "other", "here", "there"] ["one", "other"] (defScope s_sign_of) := ⟨rfl, rfl, rfl, by decide +kernel, rfl, by decide +kernel, by decide +kernel⟩
theorem ok_sign_of (M : Mgs K mg) (D : Df K "sign_of" s_sign_of) (bI : PySem.W.nsIn K mainGlobals "int" = some none) (cN : Cal P w K mg base (L2.CX P w) "need_fraction" 3 ["thing"] (spNeed K C1)) :
    Cal P w K mg base CX0 "sign_of" 4 ["one", "other"] (spSign K) := by
  obtain ⟨f, fd, hf, F⟩ := D
  refine ⟨f, fd, F.ok sc_sign_of (fun vs H Q E h => ?_) (fun cdv A outer s H vs Q E hr h => ?_), M.of hf, F.kp, F.binds fun _ _ _ _ _ _ us hl => match us, hl with | [_, _], _ => rfl⟩
  · obtain ⟨x, y, a, b, c, d, rfl, _⟩ := h
    rfl
  · obtain ⟨x, y, a, b, c, d, rfl, hx, hy, sa, sb, sc, sd, k⟩ := h
    refine ⟨_, pss_cons (ps_expr (pe_cal cN hr (by rfl) passL (pa_cons (pv 0) pa_nil))) (pss_cons (ps_expr (pe_cal cN hr (by rfl) passL (pa_cons (pv 1) pa_nil)))
      (pss_cons (ps_set (i := 2) sc_sign_of.nd rfl (Or.inl rfl) (pe_op op_mulW (pe_ix ix_tup (pv 0) pe_int (fun _ _ => rfl)) (pe_ix ix_tup (pv 1) pe_int (fun _ _ => rfl))))
      (pss_cons (ps_set (i := 3) sc_sign_of.nd rfl (Or.inl rfl) (pe_op op_mulW (pe_ix ix_tup (pv 1) pe_int (fun _ _ => rfl)) (pe_ix ix_tup (pv 0) pe_int (fun _ _ => rfl))))
      (pss_one (ps_ret (pe_op op_sub (pe_callTy call_int1 (by rfl) (M.no bI) (by decide +kernel) (pa_cons (pe_cmpR op_gt (pv 2) (pv 3) (nomark _)) pa_nil))
        (pe_callTy call_int1 (by rfl) (M.no bI) (by decide +kernel) (pa_cons (pe_cmpR op_lt (pv 2) (pv 3) (nomark _)) pa_nil)))))))), ?_⟩
    have hx' := hx
    have hy' := hy
    obtain ⟨⟨p, rfl, hp⟩, _⟩ := hx'
    obtain ⟨⟨q, rfl, hq⟩, _⟩ := hy'
    refine ⟨_, rfl, _, rfl, .inl ⟨⟨_, _, hx⟩, _, rfl, _, rfl, .inl ⟨⟨_, _, hy⟩, ?_⟩⟩⟩
    refine ⟨_, rfl, _, _, _, _, rfl, rfl, hp, rfl, _, rfl, _, _, _, _, rfl, rfl, hq, rfl, _, _, rfl, rfl, Sm.mul sa sd, ?_⟩
    refine ⟨_, rfl, _, _, _, _, rfl, rfl, hq, rfl, _, rfl, _, _, _, _, rfl, rfl, hp, rfl, _, _, rfl, rfl, Sm.mul sc sb, ?_⟩
    refine ⟨_, rfl, _, rfl, _, _, rfl, rfl, .inr ⟨_, rfl, ?_⟩⟩
    exact ⟨_, rfl, _, rfl, _, _, rfl, rfl, .inr ⟨_, rfl, _, _, rfl, rfl, k⟩⟩
/-! ### is_manner, the words -/
structure Cst (K : PySem.W.Frag) (mg : Str → Option Value) : Prop where
  fl : ∃ t, mg "FLOOR" = some (.str "floor" t)
  ce : ∃ t, mg "CEIL" = some (.str "ceil" t)
  ne : ∃ t, mg "NEAR" = some (.str "near" t)
  mn : ∃ a, mg "MANNERS" = some (.ref a) ∧ ∀ H, SqT K H a [.str "floor", .str "ceil", .str "near"]
def Mode (m : Str) : Prop := m = "floor" ∨ m = "ceil" ∨ m = "near"
/-- no word of a manner -/
def BadM (K : PySem.W.Frag) (H : Hp) (x : V) : Prop := (∃ s : Str, x = .str s ∧ inV (.str s) [.str "floor", .str "ceil", .str "near"] = false) ∨ ∃ t : String, TyX K H x (.type t) ∧ kitB t "str" = some false
def spIsMan (K : PySem.W.Frag) : Sp := fun vs H Q _ => ∃ x : V, vs = [x] ∧ (((∃ s, x = .str s ∧ Mode s) ∧ Q (.bl true) H) ∨ (BadM K H x ∧ Q (.bl false) H))
theorem sc_is_manner : FnScope ["thing"] ["thing"] (defScope s_is_manner) := ⟨rfl, rfl, rfl, by decide +kernel, rfl, by decide +kernel, by decide +kernel⟩
theorem kit_ss : kitB "str" "str" = some true := by decide +kernel
theorem inV_mode {s : Str} (h : Mode s) : inV (.str s) [.str "floor", .str "ceil", .str "near"] = true := by
  rcases h with rfl | rfl | rfl <;> decide +kernel
theorem ok_is_manner (M : Mgs K mg) (D : Df K "is_manner" s_is_manner) (c : Cst K mg) (b1 : PySem.W.nsIn K mainGlobals "isinstance" = some none) (b2 : PySem.W.nsIn K mainGlobals "str" = some none) :
    Cal P w K mg base CX0 "is_manner" 1 ["thing"] (spIsMan K) := by
  obtain ⟨f, fd, hf, F⟩ := D
  obtain ⟨am, hm, hq⟩ := c.mn
  refine ⟨f, fd, F.ok sc_is_manner (fun vs H Q E h => ?_) (fun cdv A outer s H vs Q E hr h => ?_), M.of hf, F.kp, F.binds fun _ _ _ _ _ _ us hl => match us, hl with | [_], _ => rfl⟩
  · obtain ⟨x, rfl, _⟩ := h
    rfl
  · obtain ⟨x, rfl, hx⟩ := h
    refine ⟨_, pss_one (ps_ret (pe_and (pe_callB call_isi (by rfl) (M.no b1) (by decide +kernel) (pa_cons (pv 0) (pa_cons (pe_bltn (v := .ty "str") (by rfl) (M.no b2) (by decide +kernel) rfl) pa_nil)))
      (pe_one (pe_cmpR op_in_seq (pv 0) (pe_glob (v := .ref am) (by rfl) hm rfl) (by rfl))))), ?_⟩
    rcases hx with ⟨⟨s, rfl, hs⟩, k⟩ | ⟨⟨s, rfl, hs⟩ | ⟨t, ty, hk⟩, k⟩
    · refine ⟨_, rfl, _, _, _, _, true, rfl, .ty _, .base (.str s), kit_ty kit_ss, true, rfl, iteT ?_⟩
      refine ⟨_, rfl, am, _, rfl, .inr (hq _), rfl, rfl, ?_⟩
      show Q (V.bl (inV (.str s) _)) _
      rw [inV_mode hs]
      exact k
    · refine ⟨_, rfl, _, _, _, _, true, rfl, .ty _, .base (.str s), kit_ty kit_ss, true, rfl, iteT ?_⟩
      refine ⟨_, rfl, am, _, rfl, .inr (hq _), rfl, rfl, ?_⟩
      show Q (V.bl (inV (.str s) _)) _
      rw [hs]
      exact k
    · exact ⟨_, rfl, _, _, _, _, false, rfl, .ty _, ty, kit_ty hk, false, rfl, iteF k⟩
def spWord (m : Str) : Sp := fun vs H Q _ => ∃ p, vs = [.ref p] ∧ Q (.str m) H
theorem sc_word1 : FnScope ["self"] ["self"] (defScope s_Manner_word) := ⟨rfl, rfl, rfl, by decide +kernel, rfl, by decide +kernel, by decide +kernel⟩
theorem ok_word1 {C : Addr} (M : Mgs K mg) (c : Cst K mg) (k1 : Mc K "Manner" "Manner.word" s_Manner_word C) : ∃ (f : Addr) (fd : FuncData), Meth K C "word" f ∧ Binds K fd ["self"] [] ∧ FnOk P w K mg base CX0 1 f fd ["self"] (spWord "floor") := by
  obtain ⟨f, fd, hm, F⟩ := k1.word
  obtain ⟨t, ht⟩ := c.fl
  refine ⟨f, fd, hm, F.binds (fun _ _ _ _ _ _ us hl => match us, hl with | [_], _ => rfl), F.ok sc_word1 (fun vs H Q E h => ?_) (fun cdv A outer s H vs Q E hr h => ?_)⟩
  · obtain ⟨p, rfl, _⟩ := h
    rfl
  · obtain ⟨p, rfl, k⟩ := h
    exact ⟨_, pss_one (ps_ret (pe_glob (v := .str "floor") (by rfl) ht ⟨t, rfl⟩)), k⟩
theorem sc_word2 : FnScope ["self"] ["self"] (defScope s_Ceils_word) := ⟨rfl, rfl, rfl, by decide +kernel, rfl, by decide +kernel, by decide +kernel⟩
theorem ok_word2 {C : Addr} (M : Mgs K mg) (c : Cst K mg) (k1 : Mc K "Ceils" "Ceils.word" s_Ceils_word C) : ∃ (f : Addr) (fd : FuncData), Meth K C "word" f ∧ Binds K fd ["self"] [] ∧ FnOk P w K mg base CX0 1 f fd ["self"] (spWord "ceil") := by
  obtain ⟨f, fd, hm, F⟩ := k1.word
  obtain ⟨t, ht⟩ := c.ce
  refine ⟨f, fd, hm, F.binds (fun _ _ _ _ _ _ us hl => match us, hl with | [_], _ => rfl), F.ok sc_word2 (fun vs H Q E h => ?_) (fun cdv A outer s H vs Q E hr h => ?_)⟩
  · obtain ⟨p, rfl, _⟩ := h
    rfl
  · obtain ⟨p, rfl, k⟩ := h
    exact ⟨_, pss_one (ps_ret (pe_glob (v := .str "ceil") (by rfl) ht ⟨t, rfl⟩)), k⟩
theorem sc_word3 : FnScope ["self"] ["self"] (defScope s_Nears_word) := ⟨rfl, rfl, rfl, by decide +kernel, rfl, by decide +kernel, by decide +kernel⟩
theorem ok_word3 {C : Addr} (M : Mgs K mg) (c : Cst K mg) (k1 : Mc K "Nears" "Nears.word" s_Nears_word C) : ∃ (f : Addr) (fd : FuncData), Meth K C "word" f ∧ Binds K fd ["self"] [] ∧ FnOk P w K mg base CX0 1 f fd ["self"] (spWord "near") := by
  obtain ⟨f, fd, hm, F⟩ := k1.word
  obtain ⟨t, ht⟩ := c.ne
  refine ⟨f, fd, hm, F.binds (fun _ _ _ _ _ _ us hl => match us, hl with | [_], _ => rfl), F.ok sc_word3 (fun vs H Q E h => ?_) (fun cdv A outer s H vs Q E hr h => ?_)⟩
  · obtain ⟨p, rfl, _⟩ := h
    rfl
  · obtain ⟨p, rfl, k⟩ := h
    exact ⟨_, pss_one (ps_ret (pe_glob (v := .str "near") (by rfl) ht ⟨t, rfl⟩)), k⟩
/-! ### manner_of -/
def manC (M1 M2 M3 : Addr) (m : Str) : Addr := if m = "ceil" then M2 else if m = "near" then M3 else M1
def spManOf (K : PySem.W.Frag) (C2 M1 M2 M3 : Addr) : Sp := fun vs H Q E => ∃ x : V, vs = [x] ∧ ((∃ m : Str, x = .str m ∧ Mode m ∧ ∀ p dx H', Same H H' → H' p = some (.ins (manC M1 M2 M3 m) dx []) → Q (.ref p) H') ∨ (BadM K H x ∧ spRaise C2 x H E))
theorem sc_manner_of : FnScope ["word"] ["word"] (defScope s_manner_of) := ⟨rfl, rfl, rfl, by decide +kernel, rfl, by decide +kernel, by decide +kernel⟩
theorem new_same {H : Hp} {x dx C : Addr} (nx : H x = none) (nd : H dx = none) : Same H (upd (upd H dx (.own x)) x (.ins C dx [])) := fun b o e => by
  rw [upd_ne (ne_of_none e nx), upd_ne (ne_of_none e nd)]
  exact e
theorem ok_manner_of (M : Mgs K mg) (S : Sup K mg C0) (D : Df K "manner_of" s_manner_of) (c : Cst K mg) (x2 : Xc K "NoManner" "NoManner.__init__" s_NoManner_init C0 C2)
    (k1 : Mc K "Manner" "Manner.word" s_Manner_word M1) (k2 : Mc K "Ceils" "Ceils.word" s_Ceils_word M2) (k3 : Mc K "Nears" "Nears.word" s_Nears_word M3)
    (cM : Cal P w K mg base CX0 "is_manner" 1 ["thing"] (spIsMan K)) : Cal P w K mg base (L2.CX P w) "manner_of" 3 ["word"] (spManOf K C2 M1 M2 M3) := by
  obtain ⟨f, fd, hf, F⟩ := D
  obtain ⟨fi, fdi, iC, tI, FI, bI⟩ := ok_ini2 (P := P) (w := w) (base := base) M S x2
  obtain ⟨tc, hc⟩ := c.ce
  obtain ⟨tn, hn⟩ := c.ne
  refine ⟨f, fd, F.okX sc_manner_of (fun vs H Q E h => ?_) (fun cdv A outer s H vs Q E hr h => ?_), M.of hf, F.kp, F.binds fun _ _ _ _ _ _ us hl => match us, hl with | [_], _ => rfl⟩
  · obtain ⟨x, rfl, _⟩ := h
    rfl
  · obtain ⟨x, rfl, hx⟩ := h
    refine ⟨_, pss_cons (ps_if (pt_not (pt_val (pe_cal cM (hr.mono (by decide)) (by rfl) pass0 (pa_cons (pv 0) pa_nil)))) (pss_one (ps_raise rfl (takes_of rfl rfl rfl rfl) (pmk_oex x2.ox iC tI FI hr bI .nil pass0 (by rfl) (M.of x2.aC) (pa_cons (pv 0) pa_nil)))) pss_nil)
      (pss_cons (ps_if (pt_cmpR op_eq (pv 0) (pe_glob (v := .str "ceil") (by rfl) hc ⟨tc, rfl⟩) (nomark _)) (pss_one (ps_ret (pe_new0 k2.mak k2.ini k2.kp (by rfl) (M.of k2.aC)))) pss_nil)
      (pss_cons (ps_if (pt_cmpR op_eq (pv 0) (pe_glob (v := .str "near") (by rfl) hn ⟨tn, rfl⟩) (nomark _)) (pss_one (ps_ret (pe_new0 k3.mak k3.ini k3.kp (by rfl) (M.of k3.aC)))) pss_nil)
      (pss_one (ps_ret (pe_new0 k1.mak k1.ini k1.kp (by rfl) (M.of k1.aC)))))), ?_⟩
    rcases hx with ⟨m, rfl, hm, k⟩ | ⟨bad, k⟩
    · refine ⟨_, rfl, _, rfl, .inl ⟨⟨m, rfl, hm⟩, _, rfl, iteF ?_⟩⟩
      refine ⟨_, rfl, rfl, _, rfl, ?_⟩
      rcases hm with rfl | rfl | rfl
      · rw [show decide (V.str "floor" = V.str "ceil") = false by decide +kernel]
        refine iteF ⟨_, rfl, rfl, _, rfl, ?_⟩
        rw [show decide (V.str "floor" = V.str "near") = false by decide +kernel]
        refine iteF fun p dx np nd ne => k p dx _ (new_same np nd) ?_
        rw [show manC M1 M2 M3 "floor" = M1 from by unfold manC; rw [if_neg (by decide +kernel), if_neg (by decide +kernel)]]
        exact upd_same
      · rw [show decide (V.str "ceil" = V.str "ceil") = true by decide +kernel]
        refine iteT fun p dx np nd ne => k p dx _ (new_same np nd) ?_
        rw [show manC M1 M2 M3 "ceil" = M2 from by unfold manC; rw [if_pos rfl]]
        exact upd_same
      · rw [show decide (V.str "near" = V.str "ceil") = false by decide +kernel]
        refine iteF ⟨_, rfl, rfl, _, rfl, ?_⟩
        rw [show decide (V.str "near" = V.str "near") = true by decide +kernel]
        refine iteT fun p dx np nd ne => k p dx _ (new_same np nd) ?_
        rw [show manC M1 M2 M3 "near" = M3 from by unfold manC; rw [if_neg (by decide +kernel), if_pos rfl]]
        exact upd_same
    · refine ⟨_, rfl, _, rfl, .inr ⟨bad, _, rfl, iteT ?_⟩⟩
      exact ⟨_, rfl, (by show 1 ≤ 1000; decide), raise_end k⟩
end K26
set_option maxHeartbeats 4000000
namespace K26
open PySem L2
variable {P : Program} {w : World} {K : PySem.W.Frag} {mg : Str → Option Value} {base : Heap} {C0 C1 C2 C3 M1 M2 M3 : Addr}
/-! ### the mathematics of settled -/
def meet (a b c d : Int) (hin : Bool) : Option Int := if c < (a / b + 1) * d ∨ (c = (a / b + 1) * d ∧ hin = false) then some (a / b) else none
def setM (m : Str) (a b c d : Int) (li hi : Bool) : Option Int :=
  if m = "ceil" then (meet (-c) d (-a) b li).map (fun t => -t) else if m = "near" then meet (2 * a + b) (2 * b) (2 * c + d) (2 * d) hi else meet a b c d hi
def optV : Option Int → V
  | none => .non
  | some i => .int i
theorem meet_scale {g h : Int} (hg : 0 < g) (hh : 0 < h) (A B C D : Int) (i : Bool) : meet (g * A) (g * B) (h * C) (h * D) i = meet A B C D i := by
  unfold meet
  rw [Int.mul_ediv_mul_of_pos _ _ hg]
  have e : (A / B + 1) * (h * D) = h * ((A / B + 1) * D) := by rw [Int.mul_left_comm]
  rw [e]
  have e1 : (h * C < h * ((A / B + 1) * D)) = (C < (A / B + 1) * D) := propext ⟨fun z => Int.lt_of_mul_lt_mul_left z (Int.le_of_lt hh), fun z => Int.mul_lt_mul_of_pos_left z hh⟩
  have e2 : (h * C = h * ((A / B + 1) * D)) = (C = (A / B + 1) * D) := propext ⟨fun z => Int.eq_of_mul_eq_mul_left (Int.ne_of_gt hh) z, fun z => by rw [z]⟩
  simp only [e1, e2]
def Sn (i : Int) : Prop := i.natAbs < 10 ^ 90
def Sl (i : Int) : Prop := i.natAbs < 10 ^ 80
theorem Sn.sm {i : Int} (h : Sn i) : Sm i := by
  unfold Sn at h
  unfold Sm
  omega
theorem Sl.sn {i : Int} (h : Sl i) : Sn i := by
  unfold Sl at h
  unfold Sn
  omega
theorem div_le_abs (a b : Int) : (a / b).natAbs ≤ a.natAbs := Int.natAbs_ediv_le_natAbs a b
theorem Sn.succ {a b : Int} (h : Sn a) : Sm (a / b + 1) := by
  have := div_le_abs a b
  unfold Sn at h
  unfold Sm
  omega
theorem Sl.half {a b : Int} (ha : Sl a) (hb : Sl b) : Sn (2 * a + b) := by
  unfold Sl at ha hb
  unfold Sn
  omega
theorem Sl.dbl {a : Int} (ha : Sl a) : Sn (2 * a) := by
  unfold Sl at ha
  unfold Sn
  omega
theorem Sn.low {t u : Int} (h : Sn t) : Sn (lowT t u) := Nat.lt_of_le_of_lt (div_le_abs _ _) h
theorem Sn.lowb {t u : Int} (h : Sn u) : Sn (lowB t u) := Nat.lt_of_le_of_lt (div_le_abs _ _) h
theorem Sl.neg {a : Int} (h : Sl a) : Sl (-a) := by
  unfold Sl at h ⊢
  omega
/-! ### whole_of, with the word floor -/
def spWhole (K : PySem.W.Frag) : Sp := fun vs H Q _ => ∃ (x : V) (a b : Int), vs = [x, .str "floor"] ∧ Fra K H x a b ∧ Sm b ∧ Q (.int (a / b)) H
theorem sc_whole_of : FnScope ["fraction", "how", "top", "bottom"] ["fraction", "how"] (defScope s_whole_of) := ⟨rfl, rfl, rfl, by decide +kernel, rfl, by decide +kernel, by decide +kernel⟩
theorem ok_whole_of (M : Mgs K mg) (c : Cst K mg) (D : Dd K "whole_of" s_whole_of "floor") (cN : Cal P w K mg base (L2.CX P w) "need_fraction" 3 ["thing"] (spNeed K C1)) (cM : Cal P w K mg base CX0 "is_manner" 1 ["thing"] (spIsMan K)) :
    Cal P w K mg base CX0 "whole_of" 4 ["fraction", "how"] (spWhole K) := by
  obtain ⟨f, fd, hf, F⟩ := D
  obtain ⟨tc, hc⟩ := c.ce
  obtain ⟨tn, hn⟩ := c.ne
  obtain ⟨ds, r, hb⟩ := F.binds1 (ps := ["fraction", "how"]) 2 1 (by simp) rfl (fun T kV doc pm an cdv ct us its h1 h2 => match us, its, h1, h2 with | [_, _], [_], _, _ => ⟨_, rfl, rfl⟩)
  cases r
  refine ⟨f, fd, F.ok sc_whole_of (fun vs H Q E h => ?_) (fun cdv A outer s H vs Q E hr h => ?_), M.of hf, F.kp, hb⟩
  · obtain ⟨x, a, b, rfl, _⟩ := h
    rfl
  · obtain ⟨x, a, b, rfl, hx, sb, k⟩ := h
    refine ⟨_, PSs.nox (pss_cons (ps_expr (pe_cal cN hr (by rfl) passL (pa_cons (pv 0) pa_nil)))
      (pss_cons (ps_if (pt_not (pt_val (pe_cal cM (hr.mono (by decide)) (by rfl) pass0 (pa_cons (pv 1) pa_nil)))) pss_never pss_nil)
      (pss_cons (ps_asg (pv 0) (pg_tup rfl (pgs_cons (pg_name (i := 2) sc_whole_of.nd rfl (Or.inl rfl)) (pgs_cons (pg_name (i := 3) sc_whole_of.nd rfl (Or.inl rfl)) pgs_nil))))
      (pss_cons (ps_if (pt_cmpR op_eq (pv 1) (pe_glob (v := .str "ceil") (by rfl) hc ⟨tc, rfl⟩) (nomark _)) pss_never pss_nil)
      (pss_cons (ps_if (pt_cmpR op_eq (pv 1) (pe_glob (v := .str "near") (by rfl) hn ⟨tn, rfl⟩) (nomark _)) pss_never pss_nil)
      (pss_one (ps_ret (pe_op op_fdivW (pv 2) (pv 3))))))))), ?_⟩
    have hx' := hx
    obtain ⟨⟨p, rfl, hp⟩, b1, _⟩ := hx'
    refine ⟨_, rfl, _, rfl, .inl ⟨⟨_, _, hx⟩, _, rfl, _, rfl, .inl ⟨⟨_, rfl, .inl rfl⟩, _, rfl, iteF ?_⟩⟩⟩
    refine ⟨_, rfl, p, _, rfl, hp, rfl, ?_⟩
    refine ⟨_, _, rfl, ⟨_, _, rfl, rfl, ?_⟩⟩
    refine ⟨_, rfl, rfl, _, rfl, ?_⟩
    rw [show decide (V.str "floor" = V.str "ceil") = false by decide +kernel]
    refine iteF ⟨_, rfl, rfl, _, rfl, ?_⟩
    rw [show decide (V.str "floor" = V.str "near") = false by decide +kernel]
    refine iteF ⟨_, rfl, _, rfl, _, _, rfl, rfl, Sm.div (by omega) sb, k⟩
/-! ### floors_meet -/
def spMeet (K : PySem.W.Frag) : Sp := fun vs H Q _ => ∃ (x y : V) (a b c d : Int) (i : Bool), vs = [x, y, .bl i] ∧ Fra K H x a b ∧ Fra K H y c d ∧ Sn a ∧ Sn b ∧ Sn c ∧ Sn d ∧ ∀ H', Same H H' → Q (optV (meet a b c d i)) H'
theorem sc_floors_meet : FnScope ["low", "high", "high_in", "term", "beyond"] ["low", "high", "high_in"] (defScope s_floors_meet) := ⟨rfl, rfl, rfl, by decide +kernel, rfl, by decide +kernel, by decide +kernel⟩
theorem sgn_lt {u v : Int} : sgn u v < 0 ↔ u < v := by
  unfold sgn
  by_cases h1 : u < v
  · rw [decide_eq_false (show ¬ v < u by omega), decide_eq_true h1]; simp; exact h1
  · by_cases h2 : v < u
    · rw [decide_eq_true h2, decide_eq_false h1]; simp; omega
    · rw [decide_eq_false h2, decide_eq_false h1]; simp; omega
theorem sgn_eq {u v : Int} : sgn u v = 0 ↔ u = v := by
  unfold sgn
  by_cases h1 : u < v
  · rw [decide_eq_false (show ¬ v < u by omega), decide_eq_true h1]; simp; omega
  · by_cases h2 : v < u
    · rw [decide_eq_true h2, decide_eq_false h1]; simp; omega
    · rw [decide_eq_false h2, decide_eq_false h1]; simp; omega
theorem ok_floors_meet (M : Mgs K mg) (c : Cst K mg) (D : Df K "floors_meet" s_floors_meet) (cW : Cal P w K mg base CX0 "whole_of" 4 ["fraction", "how"] (spWhole K)) (cS : Cal P w K mg base CX0 "sign_of" 4 ["one", "other"] (spSign K)) :
    Cal P w K mg base CX0 "floors_meet" 5 ["low", "high", "high_in"] (spMeet K) := by
  obtain ⟨f, fd, hf, F⟩ := D
  obtain ⟨tc, hc⟩ := c.fl
  refine ⟨f, fd, F.ok sc_floors_meet (fun vs H Q E h => ?_) (fun cdv A outer s H vs Q E hr h => ?_), M.of hf, F.kp, F.binds fun _ _ _ _ _ _ us hl => match us, hl with | [_, _, _], _ => rfl⟩
  · obtain ⟨x, y, a, b, c, d, i, rfl, _⟩ := h
    rfl
  · obtain ⟨x, y, a, b, c, d, i, rfl, hx, hy, sa, sb, sc, sd, k⟩ := h
    refine ⟨_, pss_cons (ps_set (i := 3) sc_floors_meet.nd rfl (Or.inl rfl) (pe_cal cW hr (by rfl) pass0 (pa_cons (pv 0) (pa_cons (pe_glob (v := .str "floor") (by rfl) hc ⟨tc, rfl⟩) pa_nil))))
      (pss_cons (ps_set (i := 4) sc_floors_meet.nd rfl (Or.inl rfl) (pe_cal cS hr (by rfl) pass0 (pa_cons (pv 1) (pa_cons (pe_tup (pa_cons (pe_op op_add (pv 3) pe_int) (pa_cons pe_int pa_nil))) pa_nil))))
      (pss_one (ps_ret (pe_ifExp (PW.pt (pw_or (pt_cmpR op_lt (pv 4) pe_int (nomark _)) (pw_or1 (PW.pt (pw_and (pt_cmpR op_eq (pv 4) pe_int (nomark _)) (pw_and1 (pt_not (pt_val (pv 2)))))))))
        (pv 3) pe_non)))), ?_⟩
    refine ⟨_, rfl, _, _, _, rfl, hx, sb.sm, ?_⟩
    refine ⟨_, rfl, _, rfl, _, _, rfl, rfl, (by show 2 ≤ sizeLine; decide), fun p np => ?_⟩
    have sm := Same.new (o := HO.tup [.int (a / b + 1), .int 1]) np
    refine ⟨_, _, c, d, a / b + 1, 1, rfl, hy.keep (.of sm), ⟨⟨p, rfl, SqT.of' upd_same⟩, by decide, Int.gcd_one⟩, sc.sm, sd.sm, sa.succ, (by unfold Sm; decide), ?_⟩
    rw [Int.mul_one]
    have k' := k _ sm
    refine ⟨_, rfl, _, _, rfl, rfl, _, rfl, ?_⟩
    by_cases h1 : c < (a / b + 1) * d
    · rw [decide_eq_true (sgn_lt.mpr h1)]
      refine iteT (iteT ⟨_, rfl, ?_⟩)
      unfold meet at k'
      rw [if_pos (.inl h1)] at k'
      exact k'
    · rw [decide_eq_false (fun z => h1 (sgn_lt.mp z))]
      refine iteF ⟨_, rfl, rfl, _, rfl, ?_⟩
      by_cases h2 : c = (a / b + 1) * d
      · have e : decide (V.int (sgn c ((a / b + 1) * d)) = V.int 0) = true := decide_eq_true (by rw [sgn_eq.mpr h2])
        rw [e]
        refine iteT ⟨_, rfl, _, rfl, ?_⟩
        cases i with
        | true =>
          refine iteF ?_
          unfold meet at k'
          rw [if_neg (fun z => by rcases z with z | ⟨_, z⟩; exact h1 z; cases z)] at k'
          exact k'
        | false =>
          refine iteT ⟨_, rfl, ?_⟩
          unfold meet at k'
          rw [if_pos (.inr ⟨h2, rfl⟩)] at k'
          exact k'
      · have e : decide (V.int (sgn c ((a / b + 1) * d)) = V.int 0) = false := decide_eq_false fun z => h2 (sgn_eq.mp (V.int.inj z))
        rw [e]
        refine iteF (iteF ?_)
        unfold meet at k'
        rw [if_neg (fun z => by rcases z with z | ⟨z, _⟩; exact h1 z; exact h2 z)] at k'
        exact k'
/-! ### sign_turned, half_on -/
def spTurn (K : PySem.W.Frag) : Sp := fun vs H Q _ => ∃ (x : V) (a b : Int), vs = [x] ∧ Fra K H x a b ∧ ∀ p H', Same H H' → H p = none → H' p = some (.tup [.int (-a), .int b]) → Q (.ref p) H'
theorem sc_sign_turned : FnScope ["fraction"] ["fraction"] (defScope s_sign_turned) := ⟨rfl, rfl, rfl, by decide +kernel, rfl, by decide +kernel, by decide +kernel⟩
theorem ok_sign_turned (M : Mgs K mg) (D : Df K "sign_turned" s_sign_turned) : Cal P w K mg base CX0 "sign_turned" 1 ["fraction"] (spTurn K) := by
  obtain ⟨f, fd, hf, F⟩ := D
  refine ⟨f, fd, F.ok sc_sign_turned (fun vs H Q E h => ?_) (fun cdv A outer s H vs Q E hr h => ?_), M.of hf, F.kp, F.binds fun _ _ _ _ _ _ us hl => match us, hl with | [_], _ => rfl⟩
  · obtain ⟨x, a, b, rfl, _⟩ := h
    rfl
  · obtain ⟨x, a, b, rfl, ⟨⟨t, rfl, ht⟩, _⟩, k⟩ := h
    refine ⟨_, pss_one (ps_ret (pe_tup (pa_cons (pe_un un_neg (pe_ix ix_tup (pv 0) pe_int (fun _ _ => rfl))) (pa_cons (pe_ix ix_tup (pv 0) pe_int (fun _ _ => rfl)) pa_nil)))), ?_⟩
    refine ⟨_, rfl, _, _, _, _, rfl, rfl, ht, rfl, _, rfl, _, rfl, _, _, _, _, rfl, rfl, ht, rfl, (by show 2 ≤ sizeLine; decide), fun p np => ?_⟩
    exact k p _ (Same.new np) np upd_same
def spHalf (K : PySem.W.Frag) : Sp := fun vs H Q _ => ∃ (x : V) (a b : Int), vs = [x] ∧ Fra K H x a b ∧ Sl b ∧ ∀ p H', Same H H' → H p = none → H' p = some (.tup [.int (lowT (2 * a + b) (2 * b)), .int (lowB (2 * a + b) (2 * b))]) → Q (.ref p) H'
theorem sc_half_on : FnScope ["fraction"] ["fraction"] (defScope s_half_on) := ⟨rfl, rfl, rfl, by decide +kernel, rfl, by decide +kernel, by decide +kernel⟩
theorem ok_half_on (M : Mgs K mg) (D : Df K "half_on" s_half_on) (cM : Cal P w K mg base CX0 "made" 2 ["top", "bottom"] spMade) : Cal P w K mg base CX0 "half_on" 3 ["fraction"] (spHalf K) := by
  obtain ⟨f, fd, hf, F⟩ := D
  refine ⟨f, fd, F.ok sc_half_on (fun vs H Q E h => ?_) (fun cdv A outer s H vs Q E hr h => ?_), M.of hf, F.kp, F.binds fun _ _ _ _ _ _ us hl => match us, hl with | [_], _ => rfl⟩
  · obtain ⟨x, a, b, rfl, _⟩ := h
    rfl
  · obtain ⟨x, a, b, rfl, ⟨⟨t, rfl, ht⟩, b1, _⟩, sb, k⟩ := h
    refine ⟨_, pss_one (ps_ret (pe_cal cM hr (by rfl) pass0 (pa_cons (pe_op op_add (pe_op op_mul pe_int (pe_ix ix_tup (pv 0) pe_int (fun _ _ => rfl))) (pe_ix ix_tup (pv 0) pe_int (fun _ _ => rfl)))
      (pa_cons (pe_op op_mul pe_int (pe_ix ix_tup (pv 0) pe_int (fun _ _ => rfl))) pa_nil)))), ?_⟩
    refine ⟨_, rfl, _, _, _, _, rfl, rfl, ht, rfl, _, _, rfl, rfl, .inl ⟨by decide, by decide⟩, _, rfl, _, _, _, _, rfl, rfl, ht, rfl, _, _, rfl, rfl, ?_⟩
    refine ⟨_, rfl, _, _, _, _, rfl, rfl, ht, rfl, _, _, rfl, rfl, .inl ⟨by decide, by decide⟩, ?_⟩
    exact ⟨_, _, rfl, by omega, (Sl.dbl sb).sm, k⟩
end K26
set_option maxHeartbeats 4000000
namespace K26
open PySem L2
variable {P : Program} {w : World} {K : PySem.W.Frag} {mg : Str → Option Value} {base : Heap} {C0 C1 C2 C3 M1 M2 M3 : Addr}
/-- settled as its callers see it -/
structure CalS (P : Program) (w : World) (K : PySem.W.Frag) (mg : Str → Option Value) (base : Heap) (k : Nat) (sp : Sp) : Prop where
  ex : ∃ (f : Addr) (fd : FuncData), FnOk P w K mg base (L2.CX P w) k f fd ["low", "low_in", "high", "high_in", "manner"] sp ∧ mg "settled" = some (.ref f) ∧ PySem.W.keepIn K (.ref f) = true ∧
    Binds K fd ["low", "low_in", "high", "high_in", "manner"] [] ∧ (∃ ds, Vals [.str "floor"] ds ∧ Binds K fd ["low", "low_in", "high", "high_in", "manner"] ds) ∧
    KBn K fd ["low", "low_in", "high", "high_in", "manner"] 4 ["manner"] (fun us ws => us ++ ws) (fun vs zs => vs ++ zs)
theorem CalS.cal {k : Nat} {sp : Sp} (c : CalS P w K mg base k sp) : Cal P w K mg base (L2.CX P w) "settled" k ["low", "low_in", "high", "high_in", "manner"] sp :=
  let ⟨f, fd, F, m, kp, b, _⟩ := c.ex
  ⟨f, fd, F, m, kp, b⟩
theorem kw_of {f : Addr} {fd : FuncData} (F : FunD K "settled" "settled" (defArgs s_settled) (defBody s_settled) (defScope s_settled) [.str "floor"] [] f fd) :
    KBn K fd ["low", "low_in", "high", "high_in", "manner"] 4 ["manner"] (fun us ws => us ++ ws) (fun vs zs => vs ++ zs) := by
  obtain ⟨oc, od, dV, kV, doc, pm, an, cdv, ct, osl, rfl, lk, hcd, hD, hK⟩ := F.ex
  rcases hD with ⟨z, _⟩ | ⟨_, T, o, its, n, rfl, lT, oT, rT⟩
  · cases z
  · refine ⟨fun s us ws XK l1 l2 => ?_, fun r1 r2 => r1.append r2⟩
    match us, ws, its, l1, l2, rT with
    | [u1, u2, u3, u4], [v1], [d1], _, _, rT =>
      exact BindsTo.of_looks fun Mo => looks_items (o := o) (its := [d1].toArray) (n := n) XK lT oT (.of_pure rfl)
/-! ### settled -/
def Rng (a b c d : Int) (li hi : Bool) : Prop := a * d < c * b ∨ (a * d = c * b ∧ li = true ∧ hi = true)
def spSettled (K : PySem.W.Frag) (C1 C2 C3 : Addr) : Sp := fun vs H Q E => ∃ (x y m : V) (li hi : Bool), vs = [x, .bl li, y, .bl hi, m] ∧
  ((∃ (s : Str) (a b c d : Int), m = .str s ∧ Mode s ∧ Fra K H x a b ∧ Fra K H y c d ∧ Sl a ∧ Sl b ∧ Sl c ∧ Sl d ∧
      ((Rng a b c d li hi ∧ ∀ H', Same H H' → Q (optV (setM s a b c d li hi)) H') ∨
       (¬ Rng a b c d li hi ∧ ∀ t d' H', Same H H' → H' t = some (.tup [x, y]) → H' d' = some (.xd [("found", .ref t)]) → E (.ref C3) (some d') H'))) ∨
    (BadM K H m ∧ spRaise C2 m H E) ∨ (∃ s : Str, m = .str s ∧ Mode s ∧ NotFr K H x ∧ spRaise C1 x H E) ∨
    (∃ (s : Str) (a b : Int), m = .str s ∧ Mode s ∧ Fra K H x a b ∧ NotFr K H y ∧ spRaise C1 y H E))
theorem sc_settled : FnScope ["low", "low_in", "high", "high_in", "manner", "word", "side", "term"] ["low", "low_in", "high", "high_in", "manner"] (defScope s_settled) := ⟨rfl, rfl, rfl, by decide +kernel, rfl, by decide +kernel, by decide +kernel⟩
theorem spRaise.mono {C : Addr} {x : V} {H H1 : Hp} {E : XK} (s : Same H H1) (k : spRaise C x H E) : spRaise C x H1 E := fun d H' s' nd e => k d H' (s.trans s') (s.free nd) e
theorem word_of (M : Mgs K mg) (c : Cst K mg) (k1 : Mc K "Manner" "Manner.word" s_Manner_word M1) (k2 : Mc K "Ceils" "Ceils.word" s_Ceils_word M2) (k3 : Mc K "Nears" "Nears.word" s_Nears_word M3) {m : Str} (h : Mode m) :
    Cls K (manC M1 M2 M3 m) ∧ ∃ (f : Addr) (fd : FuncData), Meth K (manC M1 M2 M3 m) "word" f ∧ Binds K fd ["self"] [] ∧ FnOk P w K mg base CX0 1 f fd ["self"] (spWord m) := by
  rcases h with rfl | rfl | rfl
  · rw [show manC M1 M2 M3 "floor" = M1 from by unfold manC; rw [if_neg (by decide +kernel), if_neg (by decide +kernel)]]
    exact ⟨k1.cl, ok_word1 M c k1⟩
  · rw [show manC M1 M2 M3 "ceil" = M2 from by unfold manC; rw [if_pos rfl]]
    exact ⟨k2.cl, ok_word2 M c k2⟩
  · rw [show manC M1 M2 M3 "near" = M3 from by unfold manC; rw [if_neg (by decide +kernel), if_pos rfl]]
    exact ⟨k3.cl, ok_word3 M c k3⟩
theorem fra_neg {H : Hp} {p : Addr} {a b : Int} (hp : H p = some (.tup [.int (-a), .int b])) (h1 : 1 ≤ b) (h2 : Int.gcd a b = 1) : Fra K H (.ref p) (-a) b := ⟨⟨p, rfl, SqT.of' hp⟩, h1, by rw [Int.neg_gcd]; exact h2⟩
theorem fra_low {H : Hp} {p : Addr} {t u : Int} (hp : H p = some (.tup [.int (lowT t u), .int (lowB t u)])) (h : 0 < u) : Fra K H (.ref p) (lowT t u) (lowB t u) := by
  obtain ⟨_, _, h3, h4⟩ := low_eq (t := t) h
  exact ⟨⟨p, rfl, SqT.of' hp⟩, h3, h4⟩
theorem setM_floor (a b c d : Int) (li hi : Bool) : setM "floor" a b c d li hi = meet a b c d hi := by
  unfold setM
  rw [if_neg (by decide +kernel), if_neg (by decide +kernel)]
theorem setM_ceil (a b c d : Int) (li hi : Bool) : setM "ceil" a b c d li hi = (meet (-c) d (-a) b li).map (fun t => -t) := by
  unfold setM
  rw [if_pos rfl]
theorem setM_near (a b c d : Int) (li hi : Bool) : setM "near" a b c d li hi = meet (2 * a + b) (2 * b) (2 * c + d) (2 * d) hi := by
  unfold setM
  rw [if_neg (by decide +kernel), if_pos rfl]
theorem meet_low {t u t' u' : Int} (h : 0 < u) (h' : 0 < u') (i : Bool) : meet (lowT t u) (lowB t u) (lowT t' u') (lowB t' u') i = meet t u t' u' i := by
  obtain ⟨e1, e2, _, _⟩ := low_eq (t := t) h
  obtain ⟨e3, e4, _, _⟩ := low_eq (t := t') h'
  have g := meet_scale (gcd_pos' (t := t) h) (gcd_pos' (t := t') h') (lowT t u) (lowB t u) (lowT t' u') (lowB t' u') i
  rw [← e1, ← e2, ← e3, ← e4] at g
  exact g.symm
theorem ok_settled (M : Mgs K mg) (S : Sup K mg C0) (c : Cst K mg) (D : Dd K "settled" s_settled "floor") (x3 : Xc K "NoBounds" "NoBounds.__init__" s_NoBounds_init C0 C3)
    (k1 : Mc K "Manner" "Manner.word" s_Manner_word M1) (k2 : Mc K "Ceils" "Ceils.word" s_Ceils_word M2) (k3 : Mc K "Nears" "Nears.word" s_Nears_word M3)
    (cO : Cal P w K mg base (L2.CX P w) "manner_of" 3 ["word"] (spManOf K C2 M1 M2 M3)) (cN : Cal P w K mg base (L2.CX P w) "need_fraction" 3 ["thing"] (spNeed K C1))
    (cS : Cal P w K mg base CX0 "sign_of" 4 ["one", "other"] (spSign K)) (cF : Cal P w K mg base CX0 "floors_meet" 5 ["low", "high", "high_in"] (spMeet K))
    (cT : Cal P w K mg base CX0 "sign_turned" 1 ["fraction"] (spTurn K)) (cH : Cal P w K mg base CX0 "half_on" 3 ["fraction"] (spHalf K)) : CalS P w K mg base 6 (spSettled K C1 C2 C3) := by
  obtain ⟨f, fd, hf, F⟩ := D
  obtain ⟨fi, fdi, iC, tI, FI, bI⟩ := ok_ini3 (P := P) (w := w) (base := base) M S x3
  obtain ⟨tc, hc⟩ := c.ce
  obtain ⟨tn, hn⟩ := c.ne
  obtain ⟨ds, r, hb⟩ := F.binds1 (ps := ["low", "low_in", "high", "high_in", "manner"]) 5 1 (by simp) rfl (fun T kV doc pm an cdv ct us its h1 h2 => match us, its, h1, h2 with | [_, _, _, _, _], [_], _, _ => ⟨_, rfl, rfl⟩)
  cases r
  have hb4 := F.binds1 (ps := ["low", "low_in", "high", "high_in", "manner"]) 4 0 (by simp) rfl (fun T kV doc pm an cdv ct us its h1 h2 => match us, its, h1, h2 with | [_, _, _, _], [_], _, _ => ⟨_, rfl, rfl⟩)
  refine ⟨f, fd, F.ok sc_settled (fun vs H Q E h => ?_) (fun cdv A outer s H vs Q E hr h => ?_), M.of hf, F.kp, hb, hb4, kw_of F⟩
  · obtain ⟨x, y, m, li, hi, rfl, _⟩ := h
    rfl
  · obtain ⟨x, y, m, li, hi, rfl, hx⟩ := h
    refine ⟨_, pss_cons (ps_set (i := 5) sc_settled.nd rfl (Or.inl rfl) (pe_methOf (k := 1) (pe_cal cO (hr.mono (by decide)) (by rfl) (passes_call (takes_of rfl rfl rfl rfl) (fun _ _ _ _ h => h)) (pa_cons (pv 4) pa_nil)) (hr.mono (by decide)) (by rfl)))
      (pss_cons (ps_expr (pe_cal cN (hr.mono (by decide)) (by rfl) (passes_call (takes_of rfl rfl rfl rfl) (fun _ _ _ _ h => h)) (pa_cons (pv 0) pa_nil)))
      (pss_cons (ps_expr (pe_cal cN (hr.mono (by decide)) (by rfl) (passes_call (takes_of rfl rfl rfl rfl) (fun _ _ _ _ h => h)) (pa_cons (pv 2) pa_nil)))
      (pss_cons (ps_set (i := 6) sc_settled.nd rfl (Or.inl rfl) (pe_cal cS (hr.mono (by decide)) (by rfl) pass0 (pa_cons (pv 2) (pa_cons (pv 0) pa_nil))))
      (pss_cons (ps_if (PW.pt (pw_or (pt_cmpR op_lt (pv 6) pe_int (nomark _)) (pw_or1 (PW.pt (pw_and (pt_cmpR op_eq (pv 6) pe_int (nomark _)) (pw_and1 (pt_not (PW.pt (pw_and (pt_val (pv 1)) (pw_and1 (pt_val (pv 3))))))))))))
        (pss_one (ps_raise rfl (takes_of rfl rfl rfl rfl) (pmk_oex x3.ox iC tI FI (hr.mono (by decide)) bI .nil pass0 (by rfl) (M.of x3.aC) (pa_cons (pe_tup (pa_cons (pv 0) (pa_cons (pv 2) pa_nil))) pa_nil)))) pss_nil)
      (pss_cons (ps_if (pt_cmpR op_eq (pv 5) (pe_glob (v := .str "ceil") (by rfl) hc ⟨tc, rfl⟩) (nomark _))
        (pss_cons (ps_set (i := 7) sc_settled.nd rfl (Or.inl rfl) (pe_cal cF hr (by rfl) pass0 (pa_cons (pe_cal cT (hr.mono (by decide)) (by rfl) pass0 (pa_cons (pv 2) pa_nil)) (pa_cons (pe_cal cT (hr.mono (by decide)) (by rfl) pass0 (pa_cons (pv 0) pa_nil)) (pa_cons (pv 1) pa_nil)))))
          (pss_one (ps_ret (pe_ifExp (pt_cmpR op_isN (pv 7) pe_non (nomark _)) pe_non (pe_un un_neg (pv 7)))))) pss_nil)
      (pss_cons (ps_if (pt_cmpR op_eq (pv 5) (pe_glob (v := .str "near") (by rfl) hn ⟨tn, rfl⟩) (nomark _))
        (pss_one (ps_ret (pe_cal cF hr (by rfl) pass0 (pa_cons (pe_cal cH (hr.mono (by decide)) (by rfl) pass0 (pa_cons (pv 0) pa_nil)) (pa_cons (pe_cal cH (hr.mono (by decide)) (by rfl) pass0 (pa_cons (pv 2) pa_nil)) (pa_cons (pv 3) pa_nil)))))) pss_nil)
      (pss_one (ps_ret (pe_cal cF hr (by rfl) pass0 (pa_cons (pv 0) (pa_cons (pv 2) (pa_cons (pv 3) pa_nil)))))))))))), ?_⟩
    rcases hx with ⟨z, a, b, cc, d, rfl, hz, fx, fy, sa, sb, sc, sd, k⟩ | ⟨bad, k⟩ | ⟨z, rfl, hz, nf, k⟩ | ⟨z, a, b, rfl, hz, fx, nf, k⟩
    · obtain ⟨cl, fw, fdw, hm, bw, Fw⟩ := word_of (P := P) (w := w) (base := base) M c k1 k2 k3 hz
      refine ⟨_, rfl, _, rfl, .inl ⟨z, rfl, hz, fun p dx H1 s1 e1 => ⟨p, _, dx, [], fw, fdw, spWord z, rfl, e1, rfl, cl, hm, bw, Fw, p, rfl, ?_⟩⟩⟩
      have fx1 := fx.keep (.of s1)
      have fy1 := fy.keep (.of s1)
      refine ⟨_, rfl, _, rfl, .inl ⟨⟨_, _, fx1⟩, _, rfl, _, rfl, .inl ⟨⟨_, _, fy1⟩, ?_⟩⟩⟩
      refine ⟨_, rfl, _, rfl, _, _, cc, d, a, b, rfl, fy1, fx1, sc.sn.sm, sd.sn.sm, sa.sn.sm, sb.sn.sm, ?_⟩
      refine ⟨_, rfl, _, _, rfl, rfl, _, rfl, ?_⟩
      have raise : ¬ Rng a b cc d li hi → ∀ t d' H', Same H H' → H' t = some (.tup [x, y]) → H' d' = some (.xd [("found", .ref t)]) → E (.ref C3) (some d') H' := fun nr => by
        rcases k with ⟨rg, _⟩ | ⟨_, k⟩
        · exact absurd rg nr
        · exact k
      -- the refusal
      have go_raise : ∀ (D : Ends) (σ : St), σ[0]? = some (some x) → σ[2]? = some (some y) → ¬ Rng a b cc d li hi →
          ∃ v, σ[0]? = some (some v) ∧ ∃ v', σ[2]? = some (some v') ∧ [v, v'].length ≤ sizeLine ∧ ∀ p, H1 p = none → [V.ref p].length ≤ 1000 ∧ ∀ a, (upd H1 p (.tup [v, v'])) a = none → spIni C3 (.ref a :: ([V.ref p] ++ [])) (upd (upd H1 p (.tup [v, v'])) a (exo a C3 none))
            (fun v H2 => v = .non ∧ ∃ (d : Addr) (fs : List (Str × V)), H2 a = some (exo a C3 (some d)) ∧ H2 d = some (exd d fs) ∧ (upd H1 p (.tup [x, y])) d = none ∧ E (.ref C3) (some d) (upd (del H2 a) d (.xd fs))) (fun _ _ _ => False) := fun D σ h0 h2 nr => by
        refine ⟨x, h0, y, h2, (by show 2 ≤ sizeLine; decide), fun p np => ⟨(by show 1 ≤ 1000; decide), ?_⟩⟩
        refine raise_end (H := upd H1 p (.tup [x, y])) (Q := fun cls d H' => E cls d H') fun d' H' s' nd e' => ?_
        exact raise nr p d' H' ((s1.trans (Same.new np)).trans s') (s' _ _ upd_same) e'
      by_cases q1 : cc * b < a * d
      · rw [decide_eq_true (sgn_lt.mpr q1)]
        refine iteT (iteT ?_)
        have nr : ¬ Rng a b cc d li hi := fun z => by rcases z with z | ⟨z, _⟩ <;> omega
        obtain ⟨v, e1, v', e2, e3, e4⟩ := go_raise { nx := fun _ _ => True, rt := Q } [some x, some (.bl li), some y, some (.bl hi), some (.str z), some (.str z), some (.int (sgn (cc * b) (a * d))), none] rfl rfl nr
        cases e1
        cases e2
        exact ⟨_, rfl, _, rfl, e3, e4⟩
      · rw [decide_eq_false (fun z => q1 (sgn_lt.mp z))]
        refine iteF ⟨_, rfl, rfl, _, rfl, ?_⟩
        have told : Rng a b cc d li hi → ∀ H', Same H H' → Q (optV (setM z a b cc d li hi)) H' := fun rg => by
          rcases k with ⟨_, k⟩ | ⟨nr, _⟩
          · exact k
          · exact absurd rg nr
        by_cases q2 : cc * b = a * d
        · have e : decide (V.int (sgn (cc * b) (a * d)) = V.int 0) = true := decide_eq_true (by rw [sgn_eq.mpr q2])
          rw [e]
          refine iteT ⟨_, rfl, li, rfl, ?_⟩
          cases li with
          | false =>
            refine iteF (iteT ?_)
            have nr : ¬ Rng a b cc d false hi := fun z => by rcases z with z | ⟨_, z, _⟩; omega; cases z
            obtain ⟨v, e1, v', e2, e3, e4⟩ := go_raise { nx := fun _ _ => True, rt := Q } [some x, some (.bl false), some y, some (.bl hi), some (.str z), some (.str z), some (.int (sgn (cc * b) (a * d))), none] rfl rfl nr
            cases e1
            cases e2
            exact ⟨_, rfl, _, rfl, e3, e4⟩
          | true =>
            refine iteT ⟨_, rfl, hi, rfl, ?_⟩
            cases hi with
            | false =>
              refine iteT ?_
              have nr : ¬ Rng a b cc d true false := fun z => by rcases z with z | ⟨_, _, z⟩; omega; cases z
              obtain ⟨v, e1, v', e2, e3, e4⟩ := go_raise { nx := fun _ _ => True, rt := Q } [some x, some (.bl true), some y, some (.bl false), some (.str z), some (.str z), some (.int (sgn (cc * b) (a * d))), none] rfl rfl nr
              cases e1
              cases e2
              exact ⟨_, rfl, _, rfl, e3, e4⟩
            | true =>
              refine iteF ?_
              have rg : Rng a b cc d true true := .inr ⟨by omega, rfl, rfl⟩
              have T := told rg
              refine ⟨_, rfl, rfl, _, rfl, ?_⟩
              rcases hz with rfl | rfl | rfl
              · rw [show decide (V.str "floor" = V.str "ceil") = false by decide +kernel]
                refine iteF ⟨_, rfl, rfl, _, rfl, ?_⟩
                rw [show decide (V.str "floor" = V.str "near") = false by decide +kernel]
                refine iteF ⟨_, rfl, _, rfl, _, rfl, x, y, a, b, cc, d, true, rfl, fx1, fy1, sa.sn, sb.sn, sc.sn, sd.sn, fun H' s' => ?_⟩
                have T' := T H' (s1.trans s')
                rw [setM_floor] at T'
                exact T'
              · rw [show decide (V.str "ceil" = V.str "ceil") = true by decide +kernel]
                refine iteT ⟨_, rfl, y, cc, d, rfl, fy1, fun p2 H2 s2 np2 e2 => ⟨_, rfl, x, a, b, rfl, fx1.keep (.of s2), fun p3 H3 s3 np3 e3 => ⟨_, rfl, .ref p2, .ref p3, -cc, d, -a, b, true, rfl,
                  fra_neg (s3 _ _ e2) fy.2.1 fy.2.2, fra_neg e3 fx.2.1 fx.2.2, sc.neg.sn, sd.sn, sa.neg.sn, sb.sn, fun H4 s4 => ?_⟩⟩⟩
                have T' := T H4 (((s1.trans s2).trans s3).trans s4)
                rw [setM_ceil] at T'
                revert T'
                generalize meet (-cc) d (-a) b true = r
                intro T'
                cases r with
                | none => exact ⟨_, rfl, rfl, _, rfl, iteT T'⟩
                | some t => exact ⟨_, rfl, rfl, _, rfl, iteF ⟨_, rfl, t, rfl, T'⟩⟩
              · rw [show decide (V.str "near" = V.str "ceil") = false by decide +kernel]
                refine iteF ⟨_, rfl, rfl, _, rfl, ?_⟩
                rw [show decide (V.str "near" = V.str "near") = true by decide +kernel]
                have hb2 : (0 : Int) < 2 * b := by have := fx.2.1; omega
                have hd2 : (0 : Int) < 2 * d := by have := fy.2.1; omega
                refine iteT ⟨_, rfl, x, a, b, rfl, fx1, sb, fun p2 H2 s2 np2 e2 => ⟨_, rfl, y, cc, d, rfl, fy1.keep (.of s2), sd, fun p3 H3 s3 np3 e3 => ⟨_, rfl, .ref p2, .ref p3, _, _, _, _, true, rfl,
                  fra_low (s3 _ _ e2) hb2, fra_low e3 hd2, (sa.half sb).low, sb.dbl.lowb, (sc.half sd).low, sd.dbl.lowb, fun H4 s4 => ?_⟩⟩⟩
                have T' := T H4 (((s1.trans s2).trans s3).trans s4)
                rw [setM_near] at T'
                rw [meet_low hb2 hd2]
                exact T'
        · have e : decide (V.int (sgn (cc * b) (a * d)) = V.int 0) = false := decide_eq_false fun z => q2 (sgn_eq.mp (V.int.inj z))
          rw [e]
          refine iteF (iteF ?_)
          have rg : Rng a b cc d li hi := .inl (by omega)
          have T := told rg
          refine ⟨_, rfl, rfl, _, rfl, ?_⟩
          rcases hz with rfl | rfl | rfl
          · rw [show decide (V.str "floor" = V.str "ceil") = false by decide +kernel]
            refine iteF ⟨_, rfl, rfl, _, rfl, ?_⟩
            rw [show decide (V.str "floor" = V.str "near") = false by decide +kernel]
            refine iteF ⟨_, rfl, _, rfl, _, rfl, x, y, a, b, cc, d, hi, rfl, fx1, fy1, sa.sn, sb.sn, sc.sn, sd.sn, fun H' s' => ?_⟩
            have T' := T H' (s1.trans s')
            rw [setM_floor] at T'
            exact T'
          · rw [show decide (V.str "ceil" = V.str "ceil") = true by decide +kernel]
            refine iteT ⟨_, rfl, y, cc, d, rfl, fy1, fun p2 H2 s2 np2 e2 => ⟨_, rfl, x, a, b, rfl, fx1.keep (.of s2), fun p3 H3 s3 np3 e3 => ⟨_, rfl, .ref p2, .ref p3, -cc, d, -a, b, li, rfl,
              fra_neg (s3 _ _ e2) fy.2.1 fy.2.2, fra_neg e3 fx.2.1 fx.2.2, sc.neg.sn, sd.sn, sa.neg.sn, sb.sn, fun H4 s4 => ?_⟩⟩⟩
            have T' := T H4 (((s1.trans s2).trans s3).trans s4)
            rw [setM_ceil] at T'
            revert T'
            generalize meet (-cc) d (-a) b li = r
            intro T'
            cases r with
            | none => exact ⟨_, rfl, rfl, _, rfl, iteT T'⟩
            | some t => exact ⟨_, rfl, rfl, _, rfl, iteF ⟨_, rfl, t, rfl, T'⟩⟩
          · rw [show decide (V.str "near" = V.str "ceil") = false by decide +kernel]
            refine iteF ⟨_, rfl, rfl, _, rfl, ?_⟩
            rw [show decide (V.str "near" = V.str "near") = true by decide +kernel]
            have hb2 : (0 : Int) < 2 * b := by have := fx.2.1; omega
            have hd2 : (0 : Int) < 2 * d := by have := fy.2.1; omega
            refine iteT ⟨_, rfl, x, a, b, rfl, fx1, sb, fun p2 H2 s2 np2 e2 => ⟨_, rfl, y, cc, d, rfl, fy1.keep (.of s2), sd, fun p3 H3 s3 np3 e3 => ⟨_, rfl, .ref p2, .ref p3, _, _, _, _, hi, rfl,
              fra_low (s3 _ _ e2) hb2, fra_low e3 hd2, (sa.half sb).low, sb.dbl.lowb, (sc.half sd).low, sd.dbl.lowb, fun H4 s4 => ?_⟩⟩⟩
            have T' := T H4 (((s1.trans s2).trans s3).trans s4)
            rw [setM_near] at T'
            rw [meet_low hb2 hd2]
            exact T'
    · refine ⟨_, rfl, _, rfl, .inr ⟨bad, k⟩⟩
    · obtain ⟨cl, fw, fdw, hm, bw, Fw⟩ := word_of (P := P) (w := w) (base := base) M c k1 k2 k3 hz
      refine ⟨_, rfl, _, rfl, .inl ⟨z, rfl, hz, fun p dx H1 s1 e1 => ⟨p, _, dx, [], fw, fdw, spWord z, rfl, e1, rfl, cl, hm, bw, Fw, p, rfl, ?_⟩⟩⟩
      exact ⟨_, rfl, _, rfl, .inr ⟨nf.keep s1, k.mono s1⟩⟩
    · obtain ⟨cl, fw, fdw, hm, bw, Fw⟩ := word_of (P := P) (w := w) (base := base) M c k1 k2 k3 hz
      refine ⟨_, rfl, _, rfl, .inl ⟨z, rfl, hz, fun p dx H1 s1 e1 => ⟨p, _, dx, [], fw, fdw, spWord z, rfl, e1, rfl, cl, hm, bw, Fw, p, rfl, ?_⟩⟩⟩
      refine ⟨_, rfl, _, rfl, .inl ⟨⟨_, _, fx.keep (.of s1)⟩, _, rfl, _, rfl, .inr ⟨nf.keep s1, k.mono s1⟩⟩⟩
end K26
set_option maxHeartbeats 4000000
namespace K26
open PySem L2
variable {P : Program} {w : World} {K : PySem.W.Frag} {mg : Str → Option Value} {base : Heap} {C0 C1 C2 C3 M1 M2 M3 : Addr}
/-! ### the purse -/
def Purse (H : Hp) (p : Addr) (n : Nat) : Prop := ∃ a b c : Int, H p = some (.lst [.int a, .int b, .int c]) ∧ 0 ≤ a ∧ 0 ≤ b ∧ b < 2147483629 ∧ 0 ≤ c ∧ c ≤ n
theorem Purse.mono {H : Hp} {p : Addr} {n m : Nat} (h : Purse H p n) (k : n ≤ m) : Purse H p m := by
  obtain ⟨a, b, c, e, h1, h2, h3, h4, h5⟩ := h
  exact ⟨a, b, c, e, h1, h2, h3, h4, by omega⟩
theorem Purse.keep {H H' : Hp} {p : Addr} {n : Nat} (s : Same H H') (h : Purse H p n) : Purse H' p n := by
  obtain ⟨a, b, c, e, r⟩ := h
  exact ⟨a, b, c, s _ _ e, r⟩
theorem Purse.still {H H' : Hp} {p : Addr} {n : Nat} (h : Purse H p n) (s : But p H H') : Still H H' := by
  obtain ⟨a, b, c, e, r⟩ := h
  exact s.still e (fun xs z => by cases z) fun o v z => by cases z
theorem Purse.ne {H : Hp} {p q : Addr} {n : Nat} (h : Purse H p n) (nq : H q = none) : q ≠ p := fun z => by
  obtain ⟨a, b, c, e, r⟩ := h
  rw [z, e] at nq
  cases nq
/-! ### _law_cell -/
def spCell (K : PySem.W.Frag) : Sp := fun vs H Q _ => ∃ (a : Addr) (ns : List Int) (k : Int), vs = [.ref a, .int k] ∧ SqL K H a (ns.map V.int) ∧ 0 ≤ k ∧ ∀ z : Int, Q (.int z) H
theorem sc_law_cell : FnScope ["_law_script", "_law_k"] ["_law_script", "_law_k"] (defScope s_law_cell) := ⟨rfl, rfl, rfl, by decide +kernel, rfl, by decide +kernel, by decide +kernel⟩
theorem ok_law_cell (M : Mgs K mg) (D : Df K "_law_cell" s_law_cell) (b1 : PySem.W.nsIn K mainGlobals "len" = some none) : Cal P w K mg base CX0 "_law_cell" 1 ["_law_script", "_law_k"] (spCell K) := by
  obtain ⟨f, fd, hf, F⟩ := D
  refine ⟨f, fd, F.ok sc_law_cell (fun vs H Q E h => ?_) (fun cdv A outer s H vs Q E hr h => ?_), M.of hf, F.kp, F.binds fun _ _ _ _ _ _ us hl => match us, hl with | [_, _], _ => rfl⟩
  · obtain ⟨a, ns, k, rfl, _⟩ := h
    rfl
  · obtain ⟨a, ns, k, rfl, hs, h0, q⟩ := h
    refine ⟨_, pss_cons (ps_if (pt_cmpR op_lt (pv 1) (pe_callB call_len_seq (by rfl) (M.no b1) PySem.boot_len (pa_cons (pv 0) pa_nil)) (nomark _)) (pss_one (ps_ret (pe_ix ix_list (pv 0) (pv 1) (fun _ _ => rfl)))) pss_nil)
      (pss_one (ps_ret (pe_op op_add (pe_op op_mul pe_int (pv 1)) pe_int))), ?_⟩
    refine ⟨_, rfl, _, rfl, _, _, rfl, .inl hs, _, _, rfl, rfl, _, rfl, ?_⟩
    by_cases hk : k < (((ns.map V.int).length : Nat) : Int)
    · rw [decide_eq_true hk]
      have hk' : k.toNat < ns.length := by rw [List.length_map] at hk; omega
      refine iteT ⟨_, rfl, _, rfl, a, _, k, .int (ns[k.toNat]), rfl, rfl, hs, ?_, q _⟩
      refine at_of (j := k.toNat) (by omega) ?_
      simp [hk']
    · rw [decide_eq_false hk]
      refine iteF ⟨_, rfl, _, _, rfl, rfl, .inl ⟨by decide, by decide⟩, _, _, rfl, rfl, q _⟩
/-! ### _law_purse -/
def spPurse : Sp := fun vs H Q _ => ∃ z : Int, vs = [.int z] ∧ ∀ p H', H p = none → Same H H' → Purse H' p 0 → Q (.ref p) H'
theorem sc_law_purse : FnScope ["_law_cell_here"] ["_law_cell_here"] (defScope s_law_purse) := ⟨rfl, rfl, rfl, by decide +kernel, rfl, by decide +kernel, by decide +kernel⟩
theorem ok_law_purse (M : Mgs K mg) (D : Df K "_law_purse" s_law_purse) (b1 : PySem.W.nsIn K mainGlobals "max" = some none) : Cal P w K mg base CX0 "_law_purse" 1 ["_law_cell_here"] spPurse := by
  obtain ⟨f, fd, hf, F⟩ := D
  refine ⟨f, fd, F.ok sc_law_purse (fun vs H Q E h => ?_) (fun cdv A outer s H vs Q E hr h => ?_), M.of hf, F.kp, F.binds fun _ _ _ _ _ _ us hl => match us, hl with | [_], _ => rfl⟩
  · obtain ⟨z, rfl, _⟩ := h
    rfl
  · obtain ⟨z, rfl, q⟩ := h
    refine ⟨_, pss_one (ps_ret (pe_lst (pa_cons (pe_callB (call_max2 rfl) (by rfl) (M.no b1) (by decide +kernel) (pa_cons pe_int (pa_cons (pe_op op_sub (pv 0) (pe_op op_pow pe_int pe_int)) pa_nil)))
      (pa_cons (pe_op op_mod (pv 0) pe_int) (pa_cons pe_int pa_nil))))), ?_⟩
    refine ⟨_, rfl, _, _, rfl, rfl, ⟨by decide, by decide, by decide⟩, _, _, rfl, rfl, _, _, rfl, _, rfl, _, _, rfl, rfl, (by show (0 : Int) < 2147483629; decide), (by show 3 ≤ sizeLine; decide), fun p np => ?_⟩
    refine q p _ np (Same.new np) ⟨_, _, _, upd_same, ?_, ?_, ?_, by decide, by decide⟩
    · split <;> omega
    · omega
    · omega
/-! ### _law_take -/
def spTake : Sp := fun vs H Q _ => ∃ (p : Addr) (m : Int) (n : Nat), vs = [.ref p, .int m] ∧ 0 < m ∧ m ≤ 10 ^ 12 ∧ Purse H p n ∧ n ≤ 1000 ∧ ∀ d H', 0 ≤ d → d < m → But p H H' → Purse H' p (n + 1) → Q (.int d) H'
theorem sc_law_take : FnScope ["_law_purse_here", "_law_many", "_law_digit", "_law_one", "_law_other"] ["_law_purse_here", "_law_many"] (defScope s_law_take) := ⟨rfl, rfl, rfl, by decide +kernel, rfl, by decide +kernel, by decide +kernel⟩
theorem ok_law_take (M : Mgs K mg) (D : Df K "_law_take" s_law_take) : Cal P w K mg base CX0 "_law_take" 1 ["_law_purse_here", "_law_many"] spTake := by
  obtain ⟨f, fd, hf, F⟩ := D
  refine ⟨f, fd, F.ok sc_law_take (fun vs H Q E h => ?_) (fun cdv A outer s H vs Q E hr h => ?_), M.of hf, F.kp, F.binds fun _ _ _ _ _ _ us hl => match us, hl with | [_, _], _ => rfl⟩
  · obtain ⟨p, m, n, rfl, _⟩ := h
    rfl
  · obtain ⟨p, m, n, rfl, m0, m1, ⟨a, b, c, e, a0, b0, b1, c0, c1⟩, hn, q⟩ := h
    refine ⟨_, pss_cons (ps_if (pt_cmpR op_gt (pe_ix ix_list (pv 0) pe_int (fun _ _ => rfl)) pe_int (nomark _))
        (pss_cons (ps_set (i := 2) sc_law_take.nd rfl (Or.inl rfl) (pe_op op_mod (pe_ix ix_list (pv 0) pe_int (fun _ _ => rfl)) (pv 1)))
        (pss_cons (ps_asg (pe_op op_fdivW (pe_ix ix_list (pv 0) pe_int (fun _ _ => rfl)) (pv 1)) (pg_sub (pv 0) pe_int set_list))
        (pss_one (ps_ret (pv 2))))) pss_nil)
      (pss_cons (ps_asg (pe_op op_add (pe_ix ix_list (pv 0) pe_int (fun _ _ => rfl)) pe_int) (pg_sub (pv 0) pe_int set_list))
      (pss_cons (ps_set (i := 3) sc_law_take.nd rfl (Or.inl rfl) (pe_op op_mod (pe_op op_pow (pe_op op_add (pe_op op_add (pe_ix ix_list (pv 0) pe_int (fun _ _ => rfl)) (pe_op op_mul pe_int (pe_ix ix_list (pv 0) pe_int (fun _ _ => rfl)))) pe_int) pe_int) pe_int))
      (pss_cons (ps_set (i := 4) sc_law_take.nd rfl (Or.inl rfl) (pe_op op_mod (pe_op op_pow (pe_op op_add (pe_op op_add (pe_op op_fdiv (pv 3) pe_int)
        (pe_op op_mul (pe_op op_mul pe_int (pe_ix ix_list (pv 0) pe_int (fun _ _ => rfl))) (pe_ix ix_list (pv 0) pe_int (fun _ _ => rfl)))) pe_int) pe_int) pe_int))
      (pss_one (ps_ret (pe_op op_mod (pe_op op_add (pe_op op_fdiv (pv 3) pe_int) (pe_op op_mul pe_int (pe_op op_fdiv (pv 4) pe_int))) (pv 1))))))), ?_⟩
    have hs : SqL K H p [.int a, .int b, .int c] := SqL.of e
    have sm : Sm m := by
      unfold Sm
      omega
    refine ⟨_, rfl, _, _, _, _, rfl, rfl, hs, rfl, _, _, rfl, rfl, _, rfl, ?_⟩
    by_cases ha : 0 < a
    · rw [decide_eq_true ha]
      refine iteT ⟨_, rfl, _, _, _, _, rfl, rfl, hs, rfl, _, rfl, _, _, rfl, rfl, m0, ?_⟩
      refine ⟨_, rfl, _, _, _, _, rfl, rfl, hs, rfl, _, rfl, _, _, rfl, rfl, Sm.div m0 sm, ?_⟩
      refine ⟨_, rfl, p, _, _, 0, rfl, rfl, e, rfl, ?_⟩
      refine ⟨_, rfl, ?_⟩
      refine q _ _ (Int.emod_nonneg _ (by omega)) (Int.emod_lt_of_pos _ m0) But.upd ⟨a / m, b, c, upd_same, Int.ediv_nonneg a0 (by omega), b0, b1, c0, by omega⟩
    · rw [decide_eq_false ha]
      refine iteF ?_
      refine ⟨_, rfl, _, _, _, _, rfl, rfl, hs, rfl, _, _, rfl, rfl, ?_⟩
      refine ⟨_, rfl, p, _, _, 2, rfl, rfl, e, rfl, ?_⟩
      have e' : upd H p (.lst [.int a, .int b, .int (c + 1)]) p = some (.lst [.int a, .int b, .int (c + 1)]) := upd_same
      have hs' : SqL K (upd H p (.lst [.int a, .int b, .int (c + 1)])) p [.int a, .int b, .int (c + 1)] := SqL.of e'
      refine ⟨_, rfl, _, _, _, _, rfl, rfl, hs', rfl, _, rfl, _, _, _, _, rfl, rfl, hs', rfl, _, _, rfl, rfl, .inl ⟨by decide, by decide⟩, _, _, rfl, rfl, _, _, rfl, rfl, _, _, rfl, rfl, ⟨by decide, by decide, by show (b + 7919 * (c + 1) + 89 : Int).natAbs < 2 ^ 64; omega⟩,
        _, _, rfl, rfl, (by show (0 : Int) < 2147483647; decide), ?_⟩
      generalize ((b + 7919 * (c + 1) + 89) ^ (5 : Int).toNat) = big
      have sq : (104729 * (c + 1) * (c + 1)).natAbs < 2 ^ 63 := by
        have h1 : (c + 1) * (c + 1) ≤ 1001 * 1001 := Int.mul_le_mul (by omega) (by omega) (by omega) (by omega)
        have h2 : 0 ≤ (c + 1) * (c + 1) := Int.mul_nonneg (by omega) (by omega)
        rw [Int.mul_assoc]
        omega
      refine ⟨_, rfl, _, _, rfl, rfl, ⟨by decide, by decide⟩, _, rfl, _, _, _, _, rfl, rfl, hs', rfl, _, _, rfl, rfl, .inl ⟨by decide, by decide⟩, _, rfl, _, _, _, _, rfl, rfl, hs', rfl, _, _, rfl, rfl, .inr ⟨by omega, by omega⟩, _, _, rfl, rfl, _, _, rfl, rfl, _, _, rfl, rfl,
        ⟨by decide, by decide, by show (big % 2147483647 / 8 + 104729 * (c + 1) * (c + 1) + 3 : Int).natAbs < 2 ^ 64; omega⟩, _, _, rfl, rfl, (by show (0 : Int) < 2147483587; decide), ?_⟩
      refine ⟨_, rfl, _, _, rfl, rfl, ⟨by decide, by decide⟩, _, rfl, _, _, rfl, rfl, ⟨by decide, by decide⟩, _, _, rfl, rfl, .inl ⟨by decide, by decide⟩, _, _, rfl, rfl, _, rfl, _, _, rfl, rfl, m0, ?_⟩
      exact q _ _ (Int.emod_nonneg _ (by omega)) (Int.emod_lt_of_pos _ m0) But.upd ⟨a, b, c + 1, upd_same, a0, b0, b1, by omega, by omega⟩
/-! ### _law_common, _law_lowest -/
theorem sc_law_common : FnScope ["_law_one", "_law_other"] ["_law_one", "_law_other"] (defScope s_law_common) := ⟨rfl, rfl, rfl, by decide +kernel, rfl, by decide +kernel, by decide +kernel⟩
theorem ok_law_common (M : Mgs K mg) (D : Df K "_law_common" s_law_common) (bA : PySem.W.nsIn K mainGlobals "abs" = some none) : Cal P w K mg base CX0 "_law_common" 1 ["_law_one", "_law_other"] spCommon := by
  obtain ⟨f, fd, hf, F⟩ := D
  have mA := M.no bA
  refine ⟨f, fd, F.ok sc_law_common (fun vs H Q E h => ?_) (fun cdv A outer s H vs Q E hr h => ?_), M.of hf, F.kp, F.binds fun _ _ _ _ _ _ us hl => match us, hl with | [_, _], _ => rfl⟩
  · obtain ⟨a, b, rfl, _⟩ := h
    rfl
  · obtain ⟨a, b, rfl, k⟩ := h
    refine ⟨_, pss_cons (ps_par (i := 0) (j := 1) rfl sc_law_common.nd rfl rfl (by decide) rfl rfl (pa_cons (pe_callB call_abs (by rfl) mA (by decide +kernel) (pa_cons (pv 0) pa_nil)) (pa_cons (pe_callB call_abs (by rfl) mA (by decide +kernel) (pa_cons (pv 1) pa_nil)) pa_nil)) rfl)
      (pss_cons (ps_while PassesOwn.never (pt_cmpR op_gt (pv 1) pe_int (nomark _)) (pss_one (ps_par (i := 0) (j := 1) rfl sc_law_common.nd rfl rfl (by decide) rfl rfl (pa_cons (pv 1) (pa_cons (pe_op op_modN (pv 0) (pv 1)) pa_nil)) rfl)))
      (pss_one (ps_ret (pv 0)))), ?_⟩
    refine ⟨_, rfl, _, rfl, _, rfl, _, rfl, _, _, rfl, ?_⟩
    refine while_by (fun σ H' => H' = H ∧ ∃ n m : Nat, σ = [some (.int n), some (.int m)] ∧ Nat.gcd n m = Int.gcd a b) (fun σ _ => match σ with | [_, some (.int m)] => m.natAbs | _ => 0) ?_ ?_ ?_
    · refine ⟨rfl, a.natAbs, b.natAbs, ?_, rfl⟩
      rw [abs_nat, abs_nat]
      rfl
    · rintro σ H' ⟨rfl, n, m, rfl, hg⟩
      refine ⟨_, rfl, _, _, rfl, rfl, _, rfl, ?_⟩
      by_cases hm : m = 0
      · subst hm
        refine iteF ?_
        refine ⟨_, rfl, ?_⟩
        rw [← hg, Nat.gcd_zero_right] at k
        exact k
      · rw [decide_eq_true (show (0 : Int) < (m : Int) by omega)]
        refine iteT ?_
        refine ⟨_, rfl, _, rfl, _, rfl, _, _, rfl, rfl, by omega, _, _, rfl, ⟨rfl, m, n % m, ?_, ?_⟩, ?_⟩
        · show [some (V.int (m : Int)), some (V.int (Int.fmod (n : Int) (m : Int)))] = _
          rw [fmod_nat n m hm]
        · rw [← hg, Nat.gcd_comm n m, Nat.gcd_rec m n, Nat.gcd_comm]
        · show (Int.fmod (n : Int) (m : Int)).natAbs < ((m : Int)).natAbs
          rw [fmod_nat n m hm]
          have := Nat.mod_lt n (Nat.pos_of_ne_zero hm)
          omega
    · rintro σ H' Q1 Q2 hq ⟨v, h1, i, j, h2, h3, k2, h4, q⟩
      exact ⟨v, h1, i, j, h2, h3, k2, h4, hq _ _ q⟩
theorem sc_law_lowest : FnScope ["_law_top", "_law_bottom", "_law_by"] ["_law_top", "_law_bottom"] (defScope s_law_lowest) := ⟨rfl, rfl, rfl, by decide +kernel, rfl, by decide +kernel, by decide +kernel⟩
theorem ok_law_lowest (M : Mgs K mg) (D : Df K "_law_lowest" s_law_lowest) (b1 : PySem.W.nsIn K mainGlobals "int" = some none) (cC : Cal P w K mg base CX0 "_law_common" 1 ["_law_one", "_law_other"] spCommon) :
    Cal P w K mg base CX0 "_law_lowest" 2 ["_law_top", "_law_bottom"] spMade := by
  obtain ⟨f, fd, hf, F⟩ := D
  refine ⟨f, fd, F.ok sc_law_lowest (fun vs H Q E h => ?_) (fun cdv A outer s H vs Q E hr h => ?_), M.of hf, F.kp, F.binds fun _ _ _ _ _ _ us hl => match us, hl with | [_, _], _ => rfl⟩
  · obtain ⟨a, b, rfl, _⟩ := h
    rfl
  · obtain ⟨t, u, rfl, hu, hs, k⟩ := h
    refine ⟨_, pss_cons (ps_set (i := 2) sc_law_lowest.nd rfl (Or.inl rfl) (pe_op op_mul (pe_cal cC hr (by rfl) pass0 (pa_cons (pv 0) (pa_cons (pv 1) pa_nil)))
        (pe_ix ix_list (pe_lst (pa_cons pe_int (pa_cons (pe_un un_neg pe_int) pa_nil))) (pe_callTy call_int1 (by rfl) (M.no b1) (by decide +kernel) (pa_cons (pe_cmpR op_lt (pv 1) pe_int (nomark _)) pa_nil)) (fun _ _ => rfl))))
      (pss_one (ps_ret (pe_tup (pa_cons (pe_op op_fdivW (pv 0) (pv 2)) (pa_cons (pe_op op_fdivW (pv 1) (pv 2)) pa_nil))))), ?_⟩
    refine ⟨_, rfl, _, rfl, _, _, rfl, _, rfl, (by show 2 ≤ sizeLine; decide), fun l nl => ?_⟩
    refine ⟨_, rfl, _, _, rfl, rfl, .inr ⟨_, rfl, ?_⟩⟩
    rw [decide_eq_false (show ¬ u < 0 by omega)]
    refine ⟨_, _, _, _, rfl, rfl, SqL.of upd_same, rfl, _, _, rfl, rfl, .inr ⟨by decide, by decide⟩, ?_⟩
    have g0 := gcd_pos' (t := t) hu
    have dv : ∀ i : Int, CDivW i ((Int.gcd t u : Int) * 1) := fun i => by rw [Int.mul_one]; exact Sm.div g0 (gcd_sm (t := t) hu hs)
    refine ⟨_, rfl, _, rfl, _, _, rfl, rfl, dv _, _, rfl, _, rfl, _, _, rfl, rfl, dv _, (by show 2 ≤ sizeLine; decide), fun p np => ?_⟩
    have np' : H p = none := (Same.new nl).free np
    refine k p _ ((Same.new nl).trans (Same.new np)) np' ?_
    show upd _ p (.tup [.int (t / ((Int.gcd t u : Int) * 1)), .int (u / ((Int.gcd t u : Int) * 1))]) p = _
    rw [Int.mul_one]
    exact upd_same
/-! ### _law_term -/
def termM (m : Str) (t u : Int) : Int := if m = "floor" then t / u else if m = "ceil" then -((-t) / u) else (2 * t + u) / (2 * u)
def spTerm : Sp := fun vs H Q _ => ∃ (t u : Int) (m : Str), vs = [.int t, .int u, .str m] ∧ Mode m ∧ 0 < u ∧ Sn u ∧ Q (.int (termM m t u)) H
theorem sc_law_term : FnScope ["_law_top", "_law_bottom", "_law_mode"] ["_law_top", "_law_bottom", "_law_mode"] (defScope s_law_term) := ⟨rfl, rfl, rfl, by decide +kernel, rfl, by decide +kernel, by decide +kernel⟩
theorem Sn.dbl {a : Int} (ha : Sn a) : Sm (2 * a) := by
  unfold Sn at ha
  unfold Sm
  omega
theorem ok_law_term (M : Mgs K mg) (D : Df K "_law_term" s_law_term) : Cal P w K mg base CX0 "_law_term" 1 ["_law_top", "_law_bottom", "_law_mode"] spTerm := by
  obtain ⟨f, fd, hf, F⟩ := D
  refine ⟨f, fd, F.ok sc_law_term (fun vs H Q E h => ?_) (fun cdv A outer s H vs Q E hr h => ?_), M.of hf, F.kp, F.binds fun _ _ _ _ _ _ us hl => match us, hl with | [_, _, _], _ => rfl⟩
  · obtain ⟨a, b, m, rfl, _⟩ := h
    rfl
  · obtain ⟨t, u, m, rfl, hm, hu, su, k⟩ := h
    refine ⟨_, pss_cons (ps_if (pt_cmpR op_eq (pv 2) pe_str (nomark _)) (pss_one (ps_ret (pe_op op_fdivW (pv 0) (pv 1)))) pss_nil)
      (pss_one (ps_ret (pe_ifExp (pt_cmpR op_eq (pv 2) pe_str (nomark _)) (pe_un un_neg (pe_op op_fdivW (pe_un un_neg (pv 0)) (pv 1))) (pe_op op_fdivW (pe_op op_add (pe_op op_mul pe_int (pv 0)) (pv 1)) (pe_op op_mul pe_int (pv 1)))))), ?_⟩
    refine ⟨_, rfl, rfl, _, rfl, ?_⟩
    unfold termM at k
    rcases hm with rfl | rfl | rfl
    · rw [show decide (V.str "floor" = V.str "floor") = true by decide +kernel]
      rw [if_pos rfl] at k
      exact iteT ⟨_, rfl, _, rfl, _, _, rfl, rfl, Sm.div hu su.sm, k⟩
    · rw [show decide (V.str "ceil" = V.str "floor") = false by decide +kernel]
      refine iteF ⟨_, rfl, rfl, _, rfl, ?_⟩
      rw [show decide (V.str "ceil" = V.str "ceil") = true by decide +kernel]
      rw [if_neg (by decide +kernel), if_pos rfl] at k
      exact iteT ⟨_, rfl, _, rfl, _, rfl, _, _, rfl, rfl, Sm.div hu su.sm, _, rfl, k⟩
    · rw [show decide (V.str "near" = V.str "floor") = false by decide +kernel]
      refine iteF ⟨_, rfl, rfl, _, rfl, ?_⟩
      rw [show decide (V.str "near" = V.str "ceil") = false by decide +kernel]
      rw [if_neg (by decide +kernel), if_neg (by decide +kernel)] at k
      exact iteF ⟨_, rfl, _, _, rfl, rfl, .inl ⟨by decide, by decide⟩, _, rfl, _, _, rfl, rfl, _, rfl, _, _, rfl, rfl, .inl ⟨by decide, by decide⟩, _, _, rfl, rfl, Sm.div (by omega) su.dbl, k⟩
end K26
set_option maxHeartbeats 4000000
namespace K26
open PySem
/-! ### the plain law: what settled tells, against the numbers of the range -/
def far : Int := 10 ^ 40
/-- the bounds that the law draws keep, with room -/
def Bw (a b : Int) : Prop := 1 ≤ b ∧ b ≤ 10 ^ 15 ∧ -(10 ^ 15 * b) ≤ a ∧ a ≤ 10 ^ 15 * b
theorem floor_lo {a b : Int} (hb : 0 < b) : a / b * b ≤ a := Int.ediv_mul_le a (by omega)
theorem floor_hi {a b : Int} (hb : 0 < b) : a < (a / b + 1) * b := Int.lt_ediv_add_one_mul_self a hb
theorem div_is {p q t : Int} (hq : 0 < q) (h1 : t * q ≤ p) (h2 : p < (t + 1) * q) : p / q = t := by
  have a1 := Int.le_ediv_of_mul_le hq h1
  have a2 := Int.ediv_lt_of_lt_mul hq h2
  omega
theorem core_told {a b c d t : Int} {i : Bool} (hb : 0 < b) (hd : 0 < d) (h : meet a b c d i = some t) {p q : Int} (hq : 0 < q) (lo : a * q ≤ p * b) (hi : p * d ≤ c * q) (hc : p * d = c * q → i = true) : p / q = t := by
  unfold meet at h
  split at h
  · rename_i h'
    have et : a / b = t := Option.some.inj h
    rw [et] at h'
    have f1 := floor_lo (a := a) hb
    rw [et] at f1
    refine div_is hq ?_ ?_
    · have e1 : t * b * q ≤ a * q := Int.mul_le_mul_of_nonneg_right f1 (Int.le_of_lt hq)
      have e2 : t * q * b ≤ p * b := by
        have : t * q * b = t * b * q := by grind
        omega
      exact Int.le_of_mul_le_mul_right e2 hb
    · have e3 : p * d < (t + 1) * q * d := by
        have e4 : (t + 1) * q * d = (t + 1) * d * q := by grind
        rcases h' with h' | ⟨h', hi'⟩
        · have : c * q < (t + 1) * d * q := Int.mul_lt_mul_of_pos_right h' hq
          omega
        · have : p * d ≠ c * q := fun z => by
            rw [hc z] at hi'
            cases hi'
          rw [h'] at this hi
          omega
      exact Int.lt_of_mul_lt_mul_right e3 (Int.le_of_lt hd)
  · cases h
theorem core_same {a b c d : Int} {i : Bool} (hb : 0 < b) (hd : 0 < d) (e : a * d = c * b) : meet a b c d i = some (a / b) := by
  have f2 := floor_hi (a := a) hb
  have : c < (a / b + 1) * d := by
    have e1 : a * d < (a / b + 1) * b * d := Int.mul_lt_mul_of_pos_right f2 hd
    have e2 : (a / b + 1) * b * d = (a / b + 1) * d * b := by grind
    have e3 : c * b < (a / b + 1) * d * b := by omega
    exact Int.lt_of_mul_lt_mul_right e3 (Int.le_of_lt hb)
  unfold meet
  rw [if_pos (.inl this)]
theorem core_none {a b c d : Int} {i : Bool} (ha : Bw a b) (hc : Bw c d) (lt : a * d < c * b) (h : meet a b c d i = none) :
    (a * d * far + c * b) / (b * d * (1 + far)) = a / b ∧ (a / b + 1 ≤ (a * d + c * b * far) / (b * d * (far + 1)) ∨ (i = true ∧ c / d = a / b + 1)) := by
  obtain ⟨b1, b2, a1, a2⟩ := ha
  obtain ⟨d1, d2, c1, c2⟩ := hc
  have hb : 0 < b := by omega
  have hd : 0 < d := by omega
  have F0 : (0 : Int) < far := by unfold far; decide
  have f1 := floor_lo (a := a) hb
  have f2 := floor_hi (a := a) hb
  unfold meet at h
  split at h
  · cases h
  rename_i h'
  revert f1 f2 h'
  generalize a / b = t
  intro f1 f2 h'
  have ge : (t + 1) * d ≤ c := by
    rcases Int.lt_or_le c ((t + 1) * d) with z | z
    · exact absurd (.inl z) h'
    · exact z
  have hbd : 0 < b * d := Int.mul_pos hb hd
  -- (t + 1) is not far below
  have t1 : -(10 ^ 15) ≤ t + 1 := by
    rcases Int.lt_or_le (t + 1) (-(10 ^ 15)) with z | z
    · have : (t + 1) * b < -(10 ^ 15) * b := Int.mul_lt_mul_of_pos_right z hb
      omega
    · exact z
  constructor
  · refine div_is (Int.mul_pos hbd (by omega)) ?_ ?_
    · have e1 : t * b * d ≤ a * d := Int.mul_le_mul_of_nonneg_right f1 (Int.le_of_lt hd)
      have e2 : t * b * d * far ≤ a * d * far := Int.mul_le_mul_of_nonneg_right e1 (Int.le_of_lt F0)
      have e3 : t * (b * d * (1 + far)) = t * b * d * far + t * b * d := by grind
      omega
    · have e1 : 1 ≤ (t + 1) * b - a := by omega
      have e2 : d * far * 1 ≤ d * far * ((t + 1) * b - a) := Int.mul_le_mul_of_nonneg_left e1 (Int.le_of_lt (Int.mul_pos hd F0))
      have e3 : (t + 1) * (b * d * (1 + far)) = (a * d * far + c * b) + (d * far * ((t + 1) * b - a) + b * ((t + 1) * d - c)) := by grind
      have e4 : -(2 * 10 ^ 15) * d ≤ (t + 1) * d - c := by
        have : -(10 ^ 15) * d ≤ (t + 1) * d := Int.mul_le_mul_of_nonneg_right t1 (Int.le_of_lt hd)
        omega
      have e5 : b * (-(2 * 10 ^ 15) * d) ≤ b * ((t + 1) * d - c) := Int.mul_le_mul_of_nonneg_left e4 (Int.le_of_lt hb)
      have e6 : b * d ≤ 10 ^ 15 * d := Int.mul_le_mul_of_nonneg_right b2 (Int.le_of_lt hd)
      have e7 : b * (-(2 * 10 ^ 15) * d) = -(2 * 10 ^ 15) * (b * d) := by grind
      have e8 : d * far * 1 = 10 ^ 40 * d := by unfold far; grind
      omega
  · rcases Int.lt_or_le ((t + 1) * d) c with z | z
    · left
      refine Int.le_ediv_of_mul_le (Int.mul_pos hbd (by omega)) ?_
      have e1 : b * far * ((t + 1) * d + 1) ≤ b * far * c := Int.mul_le_mul_of_nonneg_left (by omega) (Int.le_of_lt (Int.mul_pos hb F0))
      have e2 : (t + 1) * b - a ≤ b := by
        have : (t + 1) * b = t * b + b := by grind
        omega
      have e3 : d * ((t + 1) * b - a) ≤ d * b := Int.mul_le_mul_of_nonneg_left e2 (Int.le_of_lt hd)
      have e4 : b * d ≤ b * far := Int.mul_le_mul_of_nonneg_left (by unfold far; omega) (Int.le_of_lt hb)
      have e5 : (t + 1) * (b * d * (far + 1)) = b * far * ((t + 1) * d + 1) - b * far + d * ((t + 1) * b - a) + a * d := by grind
      have e6 : c * b * far = b * far * c := by grind
      have e7 : d * b = b * d := Int.mul_comm d b
      omega
    · right
      have e : c = (t + 1) * d := by omega
      refine ⟨?_, by rw [e]; exact Int.mul_ediv_cancel _ (by omega)⟩
      cases i with
      | true => rfl
      | false => exact absurd (.inr ⟨e, rfl⟩) h'
/-! ### the numbers of the range that the law draws -/
/-- a number of the range -/
def InR (a b c d : Int) (li hi : Bool) (p q : Int) : Prop := 0 < q ∧ a * q ≤ p * b ∧ p * d ≤ c * q ∧ (a * q = p * b → li = true) ∧ (p * d = c * q → hi = true)
/-- a pair as lowest tells it -/
def Red (f : Int × Int) (T U : Int) : Prop := ∃ g : Int, 0 < g ∧ T = g * f.1 ∧ U = g * f.2
/-- what the law's list holds -/
structure Ins (a b c d : Int) (li hi : Bool) (fs : List (Int × Int)) : Prop where
  all : ∀ f ∈ fs, InR a b c d li hi f.1 f.2
  some_ : fs ≠ []
  near : a * d < c * b → (∃ f ∈ fs, Red f (a * d * far + c * b) (b * d * (1 + far))) ∧ (∃ f ∈ fs, Red f (a * d + c * b * far) (b * d * (far + 1)))
  lo : a * d < c * b → li = true → ∃ f ∈ fs, f.1 = a ∧ f.2 = b
  hi : a * d < c * b → hi = true → ∃ f ∈ fs, f.1 = c ∧ f.2 = d
def Bd (a b : Int) : Prop := 1 ≤ b ∧ b ≤ 10 ^ 14 ∧ -(10 ^ 13 * b) ≤ a ∧ a ≤ 10 ^ 13 * b
theorem Bd.w {a b : Int} (h : Bd a b) : Bw a b := by
  obtain ⟨h1, h2, h3, h4⟩ := h
  exact ⟨h1, by omega, by omega, by omega⟩
theorem Bd.half {a b : Int} (h : Bd a b) : Bw (2 * a + b) (2 * b) := by
  obtain ⟨h1, h2, h3, h4⟩ := h
  exact ⟨by omega, by omega, by omega, by omega⟩
theorem Bd.neg {a b : Int} (h : Bd a b) : Bw (-a) b := by
  obtain ⟨h1, h2, h3, h4⟩ := h
  exact ⟨h1, by omega, by omega, by omega⟩
theorem red_div {f : Int × Int} {T U : Int} (r : Red f T U) : f.1 / f.2 = T / U := by
  obtain ⟨g, g0, e1, e2⟩ := r
  rw [e1, e2, Int.mul_ediv_mul_of_pos _ _ g0]
theorem red_neg {f : Int × Int} {T U : Int} (r : Red f T U) : (-f.1) / f.2 = (-T) / U := by
  obtain ⟨g, g0, e1, e2⟩ := r
  have : -T = g * (-f.1) := by rw [e1]; grind
  rw [this, e2, Int.mul_ediv_mul_of_pos _ _ g0]
theorem red_half {f : Int × Int} {T U : Int} (r : Red f T U) : (2 * f.1 + f.2) / (2 * f.2) = (2 * T + U) / (2 * U) := by
  obtain ⟨g, g0, e1, e2⟩ := r
  have h1 : 2 * T + U = g * (2 * f.1 + f.2) := by rw [e1, e2]; grind
  have h2 : 2 * U = g * (2 * f.2) := by rw [e2]; grind
  rw [h1, h2, Int.mul_ediv_mul_of_pos _ _ g0]
theorem plain_told {m : Str} (hm : Mode m) {a b c d t : Int} {li hi : Bool} {fs : List (Int × Int)} (hb : 0 < b) (hd : 0 < d) (I : Ins a b c d li hi fs) (h : setM m a b c d li hi = some t) : ∀ f ∈ fs, termM m f.1 f.2 = t := by
  intro f hf
  obtain ⟨q0, lo, up, l1, l2⟩ := I.all f hf
  rcases hm with rfl | rfl | rfl
  · rw [setM_floor] at h
    have := core_told hb hd h q0 lo up l2
    unfold termM
    rw [if_pos rfl]
    exact this
  · rw [setM_ceil] at h
    obtain ⟨r, e, rfl⟩ := Option.map_eq_some_iff.mp h
    have := core_told (p := -f.1) (q := f.2) hd hb e q0 (by have z1 : -c * f.2 = -(c * f.2) := by grind
                                                            have z2 : -f.1 * d = -(f.1 * d) := by grind
                                                            omega) (by have z1 : -f.1 * b = -(f.1 * b) := by grind
                                                                       have z2 : -a * f.2 = -(a * f.2) := by grind
                                                                       omega) (fun z => l1 (by have z1 : -f.1 * b = -(f.1 * b) := by grind
                                                                                               have z2 : -a * f.2 = -(a * f.2) := by grind
                                                                                               omega))
    unfold termM
    rw [if_neg (by decide +kernel), if_pos rfl, this]
  · rw [setM_near] at h
    have y1 : (2 * a + b) * (2 * f.2) = 4 * (a * f.2) + 2 * (b * f.2) := by grind
    have y2 : (2 * f.1 + f.2) * (2 * b) = 4 * (f.1 * b) + 2 * (b * f.2) := by grind
    have y3 : (2 * f.1 + f.2) * (2 * d) = 4 * (f.1 * d) + 2 * (d * f.2) := by grind
    have y4 : (2 * c + d) * (2 * f.2) = 4 * (c * f.2) + 2 * (d * f.2) := by grind
    have := core_told (p := 2 * f.1 + f.2) (q := 2 * f.2) (by omega) (by omega) h (by omega) (by omega) (by omega) (fun z => l2 (by omega))
    unfold termM
    rw [if_neg (by decide +kernel), if_neg (by decide +kernel)]
    exact this
theorem plain_none {m : Str} (hm : Mode m) {a b c d : Int} {li hi : Bool} {fs : List (Int × Int)} (ha : Bd a b) (hc : Bd c d) (rg : Rng a b c d li hi) (I : Ins a b c d li hi fs) (h : setM m a b c d li hi = none) :
    ∃ f ∈ fs, ∃ g ∈ fs, termM m f.1 f.2 ≠ termM m g.1 g.2 := by
  have hb : 0 < b := by have := ha.1; omega
  have hd : 0 < d := by have := hc.1; omega
  rcases hm with rfl | rfl | rfl
  · rw [setM_floor] at h
    have lt : a * d < c * b := by
      rcases rg with z | ⟨z, _⟩
      · exact z
      · rw [core_same hb hd z] at h
        cases h
    obtain ⟨⟨f, hf, rf⟩, ⟨g, hg, rgd⟩⟩ := I.near lt
    obtain ⟨h1, h2⟩ := core_none ha.w hc.w lt h
    have e1 := red_div rf
    have e2 := red_div rgd
    unfold termM
    simp only [if_pos]
    rcases h2 with h2 | ⟨h2, h3⟩
    · exact ⟨f, hf, g, hg, by rw [e1, e2, h1]; omega⟩
    · obtain ⟨k, hk, k1, k2⟩ := I.hi lt h2
      exact ⟨f, hf, k, hk, by rw [e1, h1, k1, k2, h3]; omega⟩
  · rw [setM_ceil] at h
    have h0 : meet (-c) d (-a) b li = none := Option.map_eq_none_iff.mp h
    have lt : a * d < c * b := by
      rcases rg with z | ⟨z, _⟩
      · exact z
      · rw [core_same hd hb (by grind)] at h0
        cases h0
    obtain ⟨⟨f, hf, rf⟩, ⟨g, hg, rgd⟩⟩ := I.near lt
    obtain ⟨h1, h2⟩ := core_none hc.neg ha.neg (by have z1 : -c * b = -(c * b) := by grind
                                                   have z2 : -a * d = -(a * d) := by grind
                                                   omega) h0
    have e1 := red_neg rf
    have e2 := red_neg rgd
    have y1 : -(a * d + c * b * far) = -c * b * far + -a * d := by grind
    have y2 : b * d * (far + 1) = d * b * (1 + far) := by grind
    have y3 : -(a * d * far + c * b) = -c * b + -a * d * far := by grind
    have y4 : b * d * (1 + far) = d * b * (far + 1) := by grind
    rw [y1, y2] at e2
    rw [y3, y4] at e1
    unfold termM
    have ne : ("ceil" : Str) ≠ "floor" := by decide +kernel
    simp only [if_neg ne, if_pos]
    rcases h2 with h2 | ⟨h2, h3⟩
    · exact ⟨g, hg, f, hf, by rw [e1, e2, h1]; omega⟩
    · obtain ⟨k, hk, k1, k2⟩ := I.lo lt h2
      exact ⟨g, hg, k, hk, by rw [e2, h1, k1, k2, h3]; omega⟩
  · rw [setM_near] at h
    have lt : a * d < c * b := by
      rcases rg with z | ⟨z, _⟩
      · exact z
      · rw [core_same (by omega) (by omega) (by grind)] at h
        cases h
    obtain ⟨⟨f, hf, rf⟩, ⟨g, hg, rgd⟩⟩ := I.near lt
    obtain ⟨h1, h2⟩ := core_none ha.half hc.half (by have z1 : (2 * a + b) * (2 * d) = 4 * (a * d) + 2 * (b * d) := by grind
                                                     have z2 : (2 * c + d) * (2 * b) = 4 * (c * b) + 2 * (b * d) := by grind
                                                     omega) h
    have e1 := red_half rf
    have e2 := red_half rgd
    have y1 : (2 * a + b) * (2 * d) * far + (2 * c + d) * (2 * b) = 2 * (2 * (a * d * far + c * b) + b * d * (1 + far)) := by grind
    have y2 : 2 * b * (2 * d) * (1 + far) = 2 * (2 * (b * d * (1 + far))) := by grind
    have y3 : (2 * a + b) * (2 * d) + (2 * c + d) * (2 * b) * far = 2 * (2 * (a * d + c * b * far) + b * d * (far + 1)) := by grind
    have y4 : 2 * b * (2 * d) * (far + 1) = 2 * (2 * (b * d * (far + 1))) := by grind
    rw [y1, y2, Int.mul_ediv_mul_of_pos _ _ (by decide)] at h1
    rw [y3, y4, Int.mul_ediv_mul_of_pos _ _ (by decide)] at h2
    unfold termM
    have ne : ("near" : Str) ≠ "floor" := by decide +kernel
    have ne2 : ("near" : Str) ≠ "ceil" := by decide +kernel
    simp only [if_neg ne, if_neg ne2]
    rcases h2 with h2 | ⟨h2, h3⟩
    · exact ⟨f, hf, g, hg, by rw [e1, e2, h1]; omega⟩
    · obtain ⟨k, hk, k1, k2⟩ := I.hi lt h2
      exact ⟨f, hf, k, hk, by rw [e1, h1, k1, k2, h3]; omega⟩
end K26
set_option maxHeartbeats 4000000
namespace K26
open PySem L2
variable {P : Program} {w : World} {K : PySem.W.Frag} {mg : Str → Option Value} {base : Heap} {C0 C1 C2 C3 M1 M2 M3 : Addr}
theorem pick3 {x y z : V} {d : Int} (h0 : 0 ≤ d) (h1 : d < 3) : ∃ v, atI [x, y, z] d = some v ∧ (v = x ∨ v = y ∨ v = z) := by
  have : d = 0 ∨ d = 1 ∨ d = 2 := by omega
  rcases this with rfl | rfl | rfl
  · exact ⟨x, rfl, .inl rfl⟩
  · exact ⟨y, rfl, .inr (.inl rfl)⟩
  · exact ⟨z, rfl, .inr (.inr rfl)⟩
theorem pick2 {x y : V} {d : Int} (h0 : 0 ≤ d) (h1 : d < 2) : ∃ v, atI [x, y] d = some v ∧ (v = x ∨ v = y) := by
  have : d = 0 ∨ d = 1 := by omega
  rcases this with rfl | rfl
  · exact ⟨x, rfl, .inl rfl⟩
  · exact ⟨y, rfl, .inr rfl⟩
def V1 (a b : Int) : Prop := b ≤ 10 ^ 12 ∧ -(10 ^ 12 * b) ≤ a ∧ a ≤ 10 ^ 12 * b
theorem odd_gcd (n : Int) : Int.gcd (2 * n + 1) 2 = 1 := by
  have h1 : (Int.gcd (2 * n + 1) 2 : Int) ∣ 2 * n + 1 := Int.gcd_dvd_left _ _
  have h2 : (Int.gcd (2 * n + 1) 2 : Int) ∣ 2 := Int.gcd_dvd_right _ _
  have h3 : Int.gcd (2 * n + 1) 2 ≤ 2 := by
    have := Int.le_of_dvd (by decide) h2
    omega
  have h4 : Int.gcd (2 * n + 1) 2 = 0 ∨ Int.gcd (2 * n + 1) 2 = 1 ∨ Int.gcd (2 * n + 1) 2 = 2 := by omega
  rcases h4 with e | e | e
  · rw [e] at h2
    obtain ⟨k, hk⟩ := h2
    omega
  · exact e
  · rw [e] at h1
    obtain ⟨k, hk⟩ := h1
    omega
theorem low_bd {t u M N : Int} (h : 0 < u) (hu : u ≤ N) (h1 : -(M * u) ≤ t) (h2 : t ≤ M * u) : lowB t u ≤ N ∧ -(M * lowB t u) ≤ lowT t u ∧ lowT t u ≤ M * lowB t u := by
  obtain ⟨e1, e2, e3, _⟩ := low_eq (t := t) h
  have g0 := gcd_pos' (t := t) h
  revert e1 e2 e3 g0
  generalize (Int.gcd t u : Int) = g
  generalize lowT t u = A
  generalize lowB t u = B
  intro e1 e2 e3 g0
  refine ⟨?_, ?_, ?_⟩
  · have : 1 * B ≤ g * B := Int.mul_le_mul_of_nonneg_right (by omega) (by omega)
    omega
  · have : g * -(M * B) ≤ g * A := by
      have z : g * -(M * B) = -(M * (g * B)) := by grind
      rw [z, ← e1, ← e2]
      exact h1
    exact Int.le_of_mul_le_mul_left this g0
  · have : g * A ≤ g * (M * B) := by
      have z : g * (M * B) = M * (g * B) := by grind
      rw [z, ← e1, ← e2]
      exact h2
    exact Int.le_of_mul_le_mul_left this g0
/-! ### _law_end -/
def spEnd (K : PySem.W.Frag) : Sp := fun vs H Q _ => ∃ (p : Addr) (n : Nat), vs = [.ref p] ∧ Purse H p n ∧ n ≤ 900 ∧ ∀ x a b H', But p H H' → Purse H' p (n + 6) → Fra K H' x a b → V1 a b → Q x H'
theorem sc_law_end : FnScope ["_law_purse_here", "_law_base", "_law_wide", "_law_some"] ["_law_purse_here"] (defScope s_law_end) := ⟨rfl, rfl, rfl, by decide +kernel, rfl, by decide +kernel, by decide +kernel⟩
theorem p12 : ((10 : Int) ^ (12 : Int).toNat) = 1000000000000 := by decide
theorem ok_law_end (M : Mgs K mg) (D : Df K "_law_end" s_law_end) (cT : Cal P w K mg base CX0 "_law_take" 1 ["_law_purse_here", "_law_many"] spTake) (cL : Cal P w K mg base CX0 "_law_lowest" 2 ["_law_top", "_law_bottom"] spMade) :
    Cal P w K mg base CX0 "_law_end" 3 ["_law_purse_here"] (spEnd K) := by
  obtain ⟨f, fd, hf, F⟩ := D
  refine ⟨f, fd, F.ok sc_law_end (fun vs H Q E h => ?_) (fun cdv A outer s H vs Q E hr h => ?_), M.of hf, F.kp, F.binds fun _ _ _ _ _ _ us hl => match us, hl with | [_], _ => rfl⟩
  · obtain ⟨p, n, rfl, _⟩ := h
    rfl
  · obtain ⟨p, n, rfl, pu, hn, q⟩ := h
    have hr1 : Room 1 _ := hr.mono (by decide)
    refine ⟨_, pss_cons (ps_set (i := 1) sc_law_end.nd rfl (Or.inl rfl) (pe_cal cT hr1 (by rfl) pass0 (pa_cons (pv 0) (pa_cons (pe_ix ix_list (pe_lst (pa_cons pe_int (pa_cons pe_int (pa_cons (pe_op op_pow pe_int pe_int) pa_nil)))) (pe_cal cT hr1 (by rfl) pass0 (pa_cons (pv 0) (pa_cons pe_int pa_nil))) (fun _ _ => rfl)) pa_nil))))
      (pss_cons (ps_set (i := 1) sc_law_end.nd rfl (Or.inl rfl) (pe_ix ix_list (pe_lst (pa_cons (pv 1) (pa_cons (pe_un un_neg (pv 1)) pa_nil))) (pe_cal cT hr1 (by rfl) pass0 (pa_cons (pv 0) (pa_cons pe_int pa_nil))) (fun _ _ => rfl)))
      (pss_cons (ps_set (i := 2) sc_law_end.nd rfl (Or.inl rfl) (pe_ix ix_list (pe_lst (pa_cons pe_int (pa_cons (pe_op op_pow pe_int pe_int) pa_nil))) (pe_cal cT hr1 (by rfl) pass0 (pa_cons (pv 0) (pa_cons pe_int pa_nil))) (fun _ _ => rfl)))
      (pss_cons (ps_set (i := 3) sc_law_end.nd rfl (Or.inl rfl) (pe_lst (pa_cons (pe_tup (pa_cons (pv 1) (pa_cons pe_int pa_nil))) (pa_cons (pe_tup (pa_cons (pe_op op_add (pe_op op_mul pe_int (pv 1)) pe_int) (pa_cons pe_int pa_nil)))
        (pa_cons (pe_cal cL hr (by rfl) pass0 (pa_cons (pe_op op_add (pe_op op_mul (pv 1) (pv 2)) (pe_cal cT hr1 (by rfl) pass0 (pa_cons (pv 0) (pa_cons (pv 2) pa_nil)))) (pa_cons (pv 2) pa_nil))) pa_nil)))))
      (pss_one (ps_ret (pe_ix ix_list (pv 3) (pe_cal cT hr1 (by rfl) pass0 (pa_cons (pv 0) (pa_cons pe_int pa_nil))) (fun _ _ => rfl))))))), ?_⟩
    -- base
    refine ⟨_, rfl, _, _, rfl, rfl, ⟨by decide, by decide, by decide⟩, (by show 3 ≤ sizeLine; decide), fun l1 nl1 => ?_⟩
    have s1 : Same H _ := Same.new (o := HO.lst [.int 3, .int 9, .int ((10 : Int) ^ (12 : Int).toNat)]) nl1
    refine ⟨_, rfl, p, 3, n, rfl, by decide, by decide, pu.keep s1, by omega, fun d1 H2 d10 d11 bt2 pu2 => ?_⟩
    obtain ⟨v1, at1, hv1⟩ := pick3 (x := .int 3) (y := .int 9) (z := .int ((10 : Int) ^ (12 : Int).toNat)) d10 d11
    have e1 : H2 l1 = some (.lst [.int 3, .int 9, .int ((10 : Int) ^ (12 : Int).toNat)]) := bt2 _ _ (pu.ne nl1) upd_same
    refine ⟨l1, _, d1, v1, rfl, rfl, SqL.of e1, at1, ?_⟩
    obtain ⟨m1, rfl, m10, m11⟩ : ∃ m : Int, v1 = .int m ∧ 0 < m ∧ m ≤ 10 ^ 12 := by
      rcases hv1 with rfl | rfl | rfl
      · exact ⟨_, rfl, by decide, by decide⟩
      · exact ⟨_, rfl, by decide, by decide⟩
      · exact ⟨_, rfl, by decide, by decide⟩
    refine ⟨p, m1, n + 1, rfl, m10, m11, pu2, by omega, fun bs H3 bs0 bs1 bt3 pu3 => ?_⟩
    -- its sign
    refine ⟨_, rfl, _, rfl, _, rfl, (by show 2 ≤ sizeLine; decide), fun l2 nl2 => ?_⟩
    have s4 : Same H3 _ := Same.new (o := HO.lst [.int bs, .int (-bs)]) nl2
    refine ⟨_, rfl, p, 2, n + 2, rfl, by decide, by decide, pu3.keep s4, by omega, fun d2 H5 d20 d21 bt5 pu5 => ?_⟩
    obtain ⟨v2, at2, hv2⟩ := pick2 (x := .int bs) (y := .int (-bs)) d20 d21
    have e2 : H5 l2 = some (.lst [.int bs, .int (-bs)]) := bt5 _ _ (pu3.ne nl2) upd_same
    refine ⟨l2, _, d2, v2, rfl, rfl, SqL.of e2, at2, ?_⟩
    obtain ⟨b, rfl, hb0, hb1⟩ : ∃ b : Int, v2 = .int b ∧ -(999999999999) ≤ b ∧ b ≤ 999999999999 := by
      rcases hv2 with rfl | rfl
      · exact ⟨_, rfl, by omega, by omega⟩
      · exact ⟨_, rfl, by omega, by omega⟩
    -- wide
    refine ⟨_, _, rfl, rfl, ⟨by decide, by decide, by decide⟩, (by show 2 ≤ sizeLine; decide), fun l3 nl3 => ?_⟩
    have s6 : Same H5 _ := Same.new (o := HO.lst [.int 9, .int ((10 : Int) ^ (12 : Int).toNat)]) nl3
    refine ⟨_, rfl, p, 2, n + 3, rfl, by decide, by decide, pu5.keep s6, by omega, fun d3 H7 d30 d31 bt7 pu7 => ?_⟩
    obtain ⟨v3, at3, hv3⟩ := pick2 (x := .int 9) (y := .int ((10 : Int) ^ (12 : Int).toNat)) d30 d31
    have e3 : H7 l3 = some (.lst [.int 9, .int ((10 : Int) ^ (12 : Int).toNat)]) := bt7 _ _ (pu5.ne nl3) upd_same
    refine ⟨l3, _, d3, v3, rfl, rfl, SqL.of e3, at3, ?_⟩
    obtain ⟨wd, rfl, hw⟩ : ∃ wd : Int, v3 = .int wd ∧ (wd = 9 ∨ wd = 1000000000000) := by
      rcases hv3 with rfl | rfl
      · exact ⟨_, rfl, .inl rfl⟩
      · exact ⟨_, rfl, .inr p12⟩
    -- the three
    refine ⟨_, rfl, (by show 2 ≤ sizeLine; decide), fun t1 nt1 => ?_⟩
    have s8 : Same H7 _ := Same.new (o := HO.tup [.int b, .int 1]) nt1
    refine ⟨_, rfl, _, _, rfl, rfl, .inl ⟨by decide, by decide⟩, _, _, rfl, rfl, (by show 2 ≤ sizeLine; decide), fun t2 nt2 => ?_⟩
    have s9 : Same _ _ := Same.new (o := HO.tup [.int (2 * b + 1), .int 2]) nt2
    refine ⟨_, rfl, _, rfl, _, _, rfl, rfl, .inl ⟨by omega, by omega⟩, _, rfl, _, rfl, p, wd, n + 4, rfl, by omega, by omega, (pu7.keep s8).keep s9, by omega, fun d4 H10 d40 d41 bt10 pu10 => ?_⟩
    refine ⟨_, _, rfl, rfl, _, rfl, _, wd, rfl, by omega, (by unfold Sm; omega), fun t3 H11 s11 nt3 e11 => ?_⟩
    refine ⟨(by show 3 ≤ sizeLine; decide), fun l4 nl4 => ?_⟩
    have s12 : Same H11 _ := Same.new (o := HO.lst [.ref t1, .ref t2, .ref t3]) nl4
    refine ⟨_, rfl, _, rfl, p, 3, n + 5, rfl, by decide, by decide, (pu10.keep s11).keep s12, by omega, fun d5 H13 d50 d51 bt13 pu13 => ?_⟩
    obtain ⟨v5, at5, hv5⟩ := pick3 (x := .ref t1) (y := .ref t2) (z := .ref t3) d50 d51
    have e13 : H13 l4 = some (.lst [.ref t1, .ref t2, .ref t3]) := bt13 _ _ ((pu10.keep s11).ne nl4) upd_same
    refine ⟨l4, _, d5, v5, rfl, rfl, SqL.of e13, at5, ?_⟩
    have bt : But p H H13 := ((((((((((But.of s1).trans bt2).trans bt3).trans (But.of s4)).trans bt5).trans (But.of s6)).trans bt7).trans (But.of s8)).trans (But.of s9)).trans bt10).trans (((But.of s11).trans (But.of s12)).trans bt13)
    have st10 := ((pu7.keep s8).keep s9).still bt10
    have st13 := ((pu10.keep s11).keep s12).still bt13
    have st : Still _ H13 := (st10.trans ((Still.of s11).trans ((Still.of s12).trans st13)))
    rcases hv5 with rfl | rfl | rfl
    · refine q _ b 1 H13 bt pu13 ⟨⟨t1, rfl, (st.seqT (SqT.of' (s9 _ _ upd_same)))⟩, by decide, Int.gcd_one⟩ ⟨by decide, by omega, by omega⟩
    · refine q _ (2 * b + 1) 2 H13 bt pu13 ⟨⟨t2, rfl, (st.seqT (SqT.of' upd_same))⟩, by decide, odd_gcd b⟩ ⟨by decide, by omega, by omega⟩
    · have hw0 : 0 < wd := by omega
      have bd : -(10 ^ 12 * wd) ≤ b * wd + d4 ∧ b * wd + d4 ≤ 10 ^ 12 * wd := by
        rcases hw with rfl | rfl
        · constructor <;> omega
        · constructor <;> omega
      obtain ⟨z1, z2, z3⟩ := low_bd (N := 10 ^ 12) hw0 (by omega) bd.1 bd.2
      refine q _ _ _ H13 bt pu13 (fra_low (K := K) (H := H13) (p := t3) (t := b * wd + d4) (u := wd) ?_ hw0) ⟨z1, z2, z3⟩
      exact st13 _ _ (.inl ⟨_, rfl⟩) (s12 _ _ e11)
end K26
set_option maxHeartbeats 4000000
namespace K26
open PySem L2
variable {P : Program} {w : World} {K : PySem.W.Frag} {mg : Str → Option Value} {base : Heap} {C0 C1 C2 C3 M1 M2 M3 : Addr}
/-! ### == of two pairs -/
theorem pr_dp {H : Hp} {x : V} {a b : Int} (h : Pr K H x a b) : Dp K H x (.tuple [.int a, .int b]) := by
  obtain ⟨t, rfl, q⟩ := h
  exact .tup q (.cons (.int a) (.cons (.int b) .nil))
theorem pr_shaped (a b : Int) : SeqAt.shaped (.tuple [.int a, .int b]) = true := by
  simp [SeqAt.shaped, PyData.canLay0, PyData.canLayAll0, PyData.depth, PyData.depthAll]
theorem pr_eqv (a b c d : Int) : PyData.eqv (.tuple [.int a, .int b]) (.tuple [.int c, .int d]) = (a == c && b == d) := by
  simp [PyData.eqv, PyData.eqvAll]
/-- two fractions of one value are one -/
theorem red_one {a b c d : Int} (hb : 1 ≤ b) (hd : 1 ≤ d) (g1 : Int.gcd a b = 1) (g2 : Int.gcd c d = 1) (e : a * d = c * b) : a = c ∧ b = d := by
  have h1 : b ∣ d := by
    have z := (Int.dvd_gcd_mul_iff_dvd_mul (k := b) (n := a) (m := d)).mpr ⟨c, by rw [e, Int.mul_comm]⟩
    rw [Int.gcd_comm, g1] at z
    simpa using z
  have h2 : d ∣ b := by
    have z := (Int.dvd_gcd_mul_iff_dvd_mul (k := d) (n := c) (m := b)).mpr ⟨a, by rw [← e, Int.mul_comm]⟩
    rw [Int.gcd_comm, g2] at z
    simpa using z
  have h3 := Int.le_of_dvd (by omega) h1
  have h4 := Int.le_of_dvd (by omega) h2
  have eb : b = d := by omega
  subst eb
  exact ⟨Int.eq_of_mul_eq_mul_right (by omega) e, rfl⟩
/-! ### _law_bounds -/
def spBounds (K : PySem.W.Frag) : Sp := fun vs H Q _ => ∃ (p : Addr) (n : Nat), vs = [.ref p] ∧ Purse H p n ∧ n ≤ 800 ∧ ∀ t x y a b c d li hi H', But p H H' → Purse H' p (n + 20) → H' t = some (.tup [x, .bl li, y, .bl hi]) →
  Fra K H' x a b → Fra K H' y c d → Bd a b → Bd c d → Rng a b c d li hi → Q (.ref t) H'
abbrev nBounds : List Str := ["_law_purse_here", "_law_low", "_law_way", "_law_step", "_law_high", "_law_other", "_law_same"]
theorem sc_law_bounds : FnScope nBounds ["_law_purse_here"] (defScope s_law_bounds) := ⟨rfl, rfl, rfl, by decide +kernel, rfl, by decide +kernel, by decide +kernel⟩
theorem ok_law_bounds (M : Mgs K mg) (D : Df K "_law_bounds" s_law_bounds) (b1 : PySem.W.nsIn K mainGlobals "int" = some none) (cT : Cal P w K mg base CX0 "_law_take" 1 ["_law_purse_here", "_law_many"] spTake)
    (cL : Cal P w K mg base CX0 "_law_lowest" 2 ["_law_top", "_law_bottom"] spMade) (cE : Cal P w K mg base CX0 "_law_end" 3 ["_law_purse_here"] (spEnd K)) : Cal P w K mg base CX0 "_law_bounds" 4 ["_law_purse_here"] (spBounds K) := by
  obtain ⟨f, fd, hf, F⟩ := D
  refine ⟨f, fd, F.ok sc_law_bounds (fun vs H Q E h => ?_) (fun cdv A outer s H vs Q E hr h => ?_), M.of hf, F.kp, F.binds fun _ _ _ _ _ _ us hl => match us, hl with | [_], _ => rfl⟩
  · obtain ⟨p, n, rfl, _⟩ := h
    rfl
  · obtain ⟨p, n, rfl, pu, hn, q⟩ := h
    have hr1 : Room 1 _ := hr.mono (by decide)
    have hr2 : Room 2 _ := hr.mono (by decide)
    -- the last two rows
    obtain ⟨t2, d2, r2⟩ : ∃ t, PSs (cxOf CX0 P w K mg base nBounds "_law_bounds" (defScope s_law_bounds) f cdv A outer s H E).nox ((defBody s_law_bounds).drop 6) t ∧
        ∀ (x y : V) (a b c d : Int) (v2 v3 : V) (v5 : Option V) (H' : Hp), But p H H' → Purse H' p (n + 18) → Fra K H' x a b → Fra K H' y c d → Bd a b → Bd c d → a * d ≤ c * b →
          t { nx := fun _ H' => Q .non H', rt := Q } [some (.ref p), some x, some v2, some v3, some y, v5, none] H' := by
      refine ⟨_, pss_cons (ps_set (i := 6) sc_law_bounds.nd rfl (Or.inl rfl) (pe_cmpR (op_eqD hr.units) (pv 1) (pv 4) (nomark _)))
        (pss_one (ps_ret (pe_tup (pa_cons (pv 1) (pa_cons (pe_or (pv 6) (pe_one (pe_cmpR op_eq (pe_cal cT hr1 (by rfl) pass0 (pa_cons (pv 0) (pa_cons pe_int pa_nil))) pe_int (nomark _))))
          (pa_cons (pv 4) (pa_cons (pe_or (pv 6) (pe_one (pe_cmpR op_eq (pe_cal cT hr1 (by rfl) pass0 (pa_cons (pv 0) (pa_cons pe_int pa_nil))) pe_int (nomark _)))) pa_nil))))))), ?_⟩
      intro x y a b c d v2 v3 v5 H' bt pu' fx fy ba bc le
      refine ⟨_, rfl, _, rfl, _, _, pr_dp fx.1, pr_dp fy.1, pr_shaped a b, pr_shaped c d, ?_⟩
      rw [pr_eqv]
      refine ⟨_, rfl, _, rfl, _, rfl, ?_⟩
      by_cases e : a * d = c * b
      · obtain ⟨e1, e2⟩ := red_one fx.2.1 fy.2.1 fx.2.2 fy.2.2 e
        have et : (a == c && b == d) = true := by rw [e1, e2]; simp
        rw [et]
        refine iteT ⟨_, rfl, _, rfl, _, rfl, iteT ⟨(by show 4 ≤ sizeLine; decide), fun t nt => ?_⟩⟩
        have sn := Same.new (o := HO.tup [x, .bl true, y, .bl true]) nt
        exact q t x y a b c d true true _ (bt.trans (.of sn)) ((pu'.keep sn).mono (by omega)) upd_same (fx.keep (.of sn)) (fy.keep (.of sn)) ba bc (.inr ⟨e, rfl, rfl⟩)
      · have et : (a == c && b == d) = false := by
          rw [Bool.and_eq_false_iff]
          by_cases z : a = c
          · right
            refine beq_eq_false_iff_ne.mpr fun z2 => e (by rw [z, z2])
          · exact .inl (beq_eq_false_iff_ne.mpr z)
        rw [et]
        refine iteF ⟨_, rfl, p, 2, n + 18, rfl, by decide, by decide, pu', by omega, fun d1 H1 _ _ bt1 pu1 => ?_⟩
        refine ⟨rfl, _, rfl, _, rfl, _, rfl, iteF ?_⟩
        refine ⟨_, rfl, p, 2, n + 19, rfl, by decide, by decide, pu1, by omega, fun d2 H2 _ _ bt2 pu2 => ?_⟩
        refine ⟨rfl, (by show 4 ≤ sizeLine; decide), fun t nt => ?_⟩
        have sn := Same.new (o := HO.tup [x, .bl (decide (V.int d1 = V.int 1)), y, .bl (decide (V.int d2 = V.int 1))]) nt
        have st := ((pu'.still bt1).trans (pu1.still bt2)).trans (Still.of sn)
        exact q t x y a b c d _ _ _ (((bt.trans bt1).trans bt2).trans (.of sn)) (pu2.keep sn) upd_same (fx.keep st) (fy.keep st) ba bc (.inl (by omega))
    refine ⟨_, pss_cons (ps_set (i := 1) sc_law_bounds.nd rfl (Or.inl rfl) (pe_cal cE hr (by rfl) pass0 (pa_cons (pv 0) pa_nil)))
      (pss_cons (ps_set (i := 2) sc_law_bounds.nd rfl (Or.inl rfl) (pe_cal cT hr1 (by rfl) pass0 (pa_cons (pv 0) (pa_cons pe_int pa_nil))))
      (pss_cons (ps_set (i := 3) sc_law_bounds.nd rfl (Or.inl rfl) (pe_ix ix_list (pe_lst (pa_cons (pe_tup (pa_cons pe_int (pa_cons pe_int pa_nil))) (pa_cons (pe_tup (pa_cons pe_int (pa_cons pe_int pa_nil)))
        (pa_cons (pe_cal cL hr2 (by rfl) pass0 (pa_cons pe_int (pa_cons (pe_op op_add pe_int (pe_cal cT hr1 (by rfl) pass0 (pa_cons (pv 0) (pa_cons pe_int pa_nil)))) pa_nil))) pa_nil)))) (pe_cal cT hr1 (by rfl) pass0 (pa_cons (pv 0) (pa_cons pe_int pa_nil))) (fun _ _ => rfl)))
      (pss_cons (ps_set (i := 4) sc_law_bounds.nd rfl (Or.inl rfl) (pe_cal cL hr2 (by rfl) pass0 (pa_cons (pe_op op_add (pe_op op_mulW (pe_ix ix_tup (pv 1) pe_int (fun _ _ => rfl)) (pe_ix ix_tup (pv 3) pe_int (fun _ _ => rfl))) (pe_op op_mulW (pe_ix ix_tup (pv 3) pe_int (fun _ _ => rfl)) (pe_ix ix_tup (pv 1) pe_int (fun _ _ => rfl))))
        (pa_cons (pe_op op_mulW (pe_ix ix_tup (pv 1) pe_int (fun _ _ => rfl)) (pe_ix ix_tup (pv 3) pe_int (fun _ _ => rfl))) pa_nil))))
      (pss_cons (ps_if (pt_cmpR op_eq (pv 2) pe_int (nomark _)) (pss_one (ps_set (i := 4) sc_law_bounds.nd rfl (Or.inl rfl) (pv 1))) pss_nil)
      (pss_cons (ps_if (pt_cmpR op_eq (pv 2) pe_int (nomark _)) (pss_cons (ps_set (i := 5) sc_law_bounds.nd rfl (Or.inl rfl) (pe_cal cE hr (by rfl) pass0 (pa_cons (pv 0) pa_nil)))
        (pss_one (ps_asg (pe_ix ix_list (pe_lst (pa_cons (pe_tup (pa_cons (pv 1) (pa_cons (pv 5) pa_nil))) (pa_cons (pe_tup (pa_cons (pv 5) (pa_cons (pv 1) pa_nil))) pa_nil)))
          (pe_callTy call_int1 (by rfl) (M.no b1) (by decide +kernel) (pa_cons (pe_cmpR op_lt (pe_op op_mulW (pe_ix ix_tup (pv 5) pe_int (fun _ _ => rfl)) (pe_ix ix_tup (pv 1) pe_int (fun _ _ => rfl))) (pe_op op_mulW (pe_ix ix_tup (pv 1) pe_int (fun _ _ => rfl)) (pe_ix ix_tup (pv 5) pe_int (fun _ _ => rfl))) (nomark _)) pa_nil)) (fun _ _ => rfl))
          (pg_tup rfl (pgs_cons (pg_name (i := 1) sc_law_bounds.nd rfl (Or.inl rfl)) (pgs_cons (pg_name (i := 4) sc_law_bounds.nd rfl (Or.inl rfl)) pgs_nil)))))) pss_nil)
      d2))))), ?_⟩
    -- low
    refine ⟨_, rfl, p, n, rfl, pu, by omega, fun x a b H1 bt1 pu1 fx1 va => ?_⟩
    refine ⟨_, rfl, p, 4, n + 6, rfl, by decide, by decide, pu1, by omega, fun wy H2 wy0 wy1 bt2 pu2 => ?_⟩
    -- step
    refine ⟨(by show 2 ≤ sizeLine; decide), fun t1 nt1 => ⟨(by show 2 ≤ sizeLine; decide), fun t2 nt2 => ⟨_, rfl, ?_⟩⟩⟩
    have s3 : Same H2 _ := Same.new (o := HO.tup [.int 1, .int 1]) nt1
    have s4 : Same _ _ := Same.new (o := HO.tup [.int 1, .int 2]) nt2
    refine ⟨p, 99, n + 7, rfl, by decide, by decide, (pu2.keep s3).keep s4, by omega, fun d5 H5 d50 d51 bt5 pu5 => ?_⟩
    have st5 := ((pu2.keep s3).keep s4).still bt5
    refine ⟨_, _, rfl, rfl, 1, 1 + d5, rfl, by omega, (by unfold Sm; omega), fun t3 H6 s6 nt3 e6 => ?_⟩
    refine ⟨(by show 3 ≤ sizeLine; decide), fun l4 nl4 => ?_⟩
    have s7 : Same H6 _ := Same.new (o := HO.lst [.ref t1, .ref t2, .ref t3]) nl4
    refine ⟨_, rfl, p, 3, n + 8, rfl, by decide, by decide, (pu5.keep s6).keep s7, by omega, fun d8 H8 d80 d81 bt8 pu8 => ?_⟩
    have st8 := ((pu5.keep s6).keep s7).still bt8
    obtain ⟨v8, at8, hv8⟩ := pick3 (x := .ref t1) (y := .ref t2) (z := .ref t3) d80 d81
    have e8 : H8 l4 = some (.lst [.ref t1, .ref t2, .ref t3]) := bt8 _ _ ((pu5.keep s6).ne nl4) upd_same
    refine ⟨l4, _, d8, v8, rfl, rfl, SqL.of e8, at8, ?_⟩
    have st28 : Still H2 H8 := ((((Still.of s3).trans (Still.of s4)).trans st5).trans ((Still.of s6).trans (Still.of s7))).trans st8
    have bt28 : But p H2 H8 := ((((But.of s3).trans (But.of s4)).trans bt5).trans ((But.of s6).trans (But.of s7))).trans bt8
    obtain ⟨ts, sb, rfl, hs8, sb1, sb2⟩ : ∃ (ts : Addr) (sb : Int), v8 = .ref ts ∧ SqT K H8 ts [.int 1, .int sb] ∧ 1 ≤ sb ∧ sb ≤ 99 := by
      have stT : Still _ H8 := (st5.trans ((Still.of s6).trans (Still.of s7))).trans st8
      rcases hv8 with rfl | rfl | rfl
      · exact ⟨t1, 1, rfl, stT.seqT (SqT.of' (s4 _ _ upd_same)), by decide, by decide⟩
      · exact ⟨t2, 2, rfl, stT.seqT (SqT.of' upd_same), by decide, by decide⟩
      · have g1 : Int.gcd 1 (1 + d5) = 1 := Int.one_gcd
        have z1 : lowT 1 (1 + d5) = 1 := by unfold lowT; rw [g1]; rfl
        have z2 : lowB 1 (1 + d5) = 1 + d5 := by unfold lowB; rw [g1]; exact Int.ediv_one _
        rw [z1, z2] at e6
        exact ⟨t3, 1 + d5, rfl, st8.seqT (SqT.of' (s7 _ _ e6)), by omega, by omega⟩
    -- high
    have bt8' : But p H H8 := (bt1.trans bt2).trans bt28
    have fx8 := (fx1.keep (pu1.still bt2)).keep st28
    have fx8' := fx8
    obtain ⟨⟨tx, rfl, hx⟩, hb1, hg1⟩ := fx8'
    obtain ⟨va1, va2, va3⟩ := va
    have smA : Sm a := by unfold Sm; omega
    have smB : Sm b := by unfold Sm; omega
    have smS : Sm sb := by unfold Sm; omega
    have sm1 : Sm 1 := by unfold Sm; decide
    have asb1 : -(10 ^ 12 * b) * sb ≤ a * sb := Int.mul_le_mul_of_nonneg_right va2 (by omega)
    have asb2 : a * sb ≤ 10 ^ 12 * b * sb := Int.mul_le_mul_of_nonneg_right va3 (by omega)
    have asb3 : 10 ^ 12 * b * sb = 10 ^ 12 * (b * sb) := by grind
    have asb4 : -(10 ^ 12 * b) * sb = -(10 ^ 12 * (b * sb)) := by grind
    have bsb1 : b * 1 ≤ b * sb := Int.mul_le_mul_of_nonneg_left sb1 (by omega)
    have bsb2 : b * sb ≤ b * 99 := Int.mul_le_mul_of_nonneg_left sb2 (by omega)
    have hU : 0 < b * sb := by omega
    refine ⟨_, rfl, _, _, _, _, rfl, rfl, hx, rfl, _, rfl, _, _, _, _, rfl, rfl, hs8, rfl, _, _, rfl, rfl, Sm.mul smA smS, ?_⟩
    refine ⟨_, rfl, _, _, _, _, rfl, rfl, hs8, rfl, _, rfl, _, _, _, _, rfl, rfl, hx, rfl, _, _, rfl, rfl, Sm.mul sm1 smB, _, _, rfl, rfl, ?_⟩
    refine ⟨_, rfl, _, _, _, _, rfl, rfl, hx, rfl, _, rfl, _, _, _, _, rfl, rfl, hs8, rfl, _, _, rfl, rfl, Sm.mul smB smS, ?_⟩
    refine ⟨_, _, rfl, hU, (by unfold Sm; omega), fun t9 H9 s9 nt9 e9 => ?_⟩
    have fy9 : Fra K H9 (.ref t9) (lowT (a * sb + 1 * b) (b * sb)) (lowB (a * sb + 1 * b) (b * sb)) := fra_low e9 hU
    have fx9 := fx8.keep (.of s9)
    have bdA : Bd a b := ⟨hb1, by omega, by omega, by omega⟩
    have bdC : Bd (lowT (a * sb + 1 * b) (b * sb)) (lowB (a * sb + 1 * b) (b * sb)) := by
      obtain ⟨z1, z2, z3⟩ := low_bd (t := a * sb + 1 * b) (M := 10 ^ 13) (N := 10 ^ 14) hU (by omega) (by omega) (by omega)
      exact ⟨fy9.2.1, z1, z2, z3⟩
    have le9 : a * lowB (a * sb + 1 * b) (b * sb) ≤ lowT (a * sb + 1 * b) (b * sb) * b := by
      obtain ⟨y1, y2, _, _⟩ := low_eq (t := a * sb + 1 * b) hU
      have g0 := gcd_pos' (t := a * sb + 1 * b) hU
      revert y1 y2 g0
      generalize (Int.gcd (a * sb + 1 * b) (b * sb) : Int) = g
      generalize lowT (a * sb + 1 * b) (b * sb) = A
      generalize lowB (a * sb + 1 * b) (b * sb) = B
      intro y1 y2 g0
      refine Int.le_of_mul_le_mul_left (a := g) ?_ g0
      have y3 : g * (a * B) = a * (g * B) := by grind
      have y4 : g * (A * b) = (g * A) * b := by grind
      rw [y3, y4, ← y1, ← y2]
      have y5 : (a * sb + 1 * b) * b = a * (b * sb) + b * b := by grind
      have y6 : 0 ≤ b * b := Int.mul_nonneg (by omega) (by omega)
      omega
    have bt9 := bt8'.trans (But.of s9)
    have pu9 := pu8.keep s9
    -- the ways
    refine ⟨_, rfl, rfl, _, rfl, ?_⟩
    by_cases w0 : wy = 0
    · subst w0
      refine iteT ⟨_, rfl, _, rfl, rfl, _, rfl, iteF ?_⟩
      exact r2 _ _ a b a b _ _ none H9 bt9 (pu9.mono (by omega)) fx9 fx9 bdA bdA (Int.le_refl _)
    · rw [decide_eq_false (fun z => w0 (V.int.inj z))]
      refine iteF ⟨_, rfl, rfl, _, rfl, ?_⟩
      by_cases w1 : wy = 1
      · subst w1
        refine iteT ⟨_, rfl, p, n + 9, rfl, pu9, by omega, fun xo ao bo Ho bto puo fo vo => ?_⟩
        have sto := pu9.still bto
        have fxo := fx9.keep sto
        refine ⟨_, rfl, _, rfl, (by show 2 ≤ sizeLine; decide), fun ta nta => ⟨_, rfl, _, rfl, (by show 2 ≤ sizeLine; decide), fun tb ntb => ⟨(by show 2 ≤ sizeLine; decide), fun lc nlc => ?_⟩⟩⟩
        have sa : Same Ho _ := Same.new (o := HO.tup [.ref tx, xo]) nta
        have sb' : Same _ _ := Same.new (o := HO.tup [xo, .ref tx]) ntb
        have sc : Same _ _ := Same.new (o := HO.lst [.ref ta, .ref tb]) nlc
        have sabc := (sa.trans sb').trans sc
        have fxc := fxo.keep (.of sabc)
        have foc := fo.keep (.of sabc)
        have fxc' := fxc
        have foc' := foc
        obtain ⟨⟨_, z, hxc⟩, _⟩ := fxc'
        cases z
        obtain ⟨⟨to_, rfl, hoc⟩, bo1, _⟩ := foc'
        obtain ⟨vo1, vo2, vo3⟩ := vo
        have smAo : Sm ao := by unfold Sm; omega
        have smBo : Sm bo := by unfold Sm; omega
        have bdO : Bd ao bo := ⟨bo1, by omega, by omega, by omega⟩
        refine ⟨_, rfl, _, _, _, _, rfl, rfl, hoc, rfl, _, rfl, _, _, _, _, rfl, rfl, hxc, rfl, _, _, rfl, rfl, Sm.mul smAo smB, ?_⟩
        refine ⟨_, rfl, _, _, _, _, rfl, rfl, hxc, rfl, _, rfl, _, _, _, _, rfl, rfl, hoc, rfl, _, _, rfl, rfl, Sm.mul smA smBo, _, _, rfl, rfl, .inr ⟨_, rfl, ?_⟩⟩
        have btc := (bt9.trans bto).trans (But.of sabc)
        have puc := puo.keep sabc
        by_cases lt : ao * b < a * bo
        · rw [decide_eq_true lt]
          refine ⟨lc, _, _, .ref tb, rfl, rfl, SqL.of upd_same, rfl, tb, _, rfl, SqT.of' (sc _ _ upd_same), rfl, ⟨_, _, rfl, ⟨_, _, rfl, rfl, ?_⟩⟩⟩
          exact r2 _ _ ao bo a b _ _ _ _ btc (puc.mono (by omega)) foc fxc bdO bdA (by omega)
        · rw [decide_eq_false lt]
          refine ⟨lc, _, _, .ref ta, rfl, rfl, SqL.of upd_same, rfl, ta, _, rfl, SqT.of' (sc _ _ (sb' _ _ upd_same)), rfl, ⟨_, _, rfl, ⟨_, _, rfl, rfl, ?_⟩⟩⟩
          exact r2 _ _ a b ao bo _ _ _ _ btc (puc.mono (by omega)) fxc foc bdA bdO (by omega)
      · rw [decide_eq_false (fun z => w1 (V.int.inj z))]
        refine iteF ?_
        exact r2 _ _ a b _ _ _ _ none H9 bt9 (pu9.mono (by omega)) fx9 fy9 bdA bdC le9
end K26
set_option maxHeartbeats 4000000
namespace K26
open PySem L2
variable {P : Program} {w : World} {K : PySem.W.Frag} {mg : Str → Option Value} {base : Heap} {C0 C1 C2 C3 M1 M2 M3 : Addr}
theorem ab_mul {x y : Int} {m n : Nat} (hx : x.natAbs ≤ m) (hy : y.natAbs ≤ n) : (x * y).natAbs ≤ m * n := by
  rw [Int.natAbs_mul]
  exact Nat.mul_le_mul hx hy
/-- what the law draws between the ends -/
def btT (a b c d o r : Int) : Int := a * d * r + c * b * o
def btB (b d o r : Int) : Int := b * d * (o + r)
structure Wt (o r : Int) : Prop where
  o1 : 1 ≤ o
  o2 : o ≤ 10 ^ 40
  r1 : 1 ≤ r
  r2 : r ≤ 10 ^ 40
theorem bd_ab {a b : Int} (h : Bd a b) : a.natAbs ≤ 10 ^ 27 ∧ b.natAbs ≤ 10 ^ 14 := by
  obtain ⟨h1, h2, h3, h4⟩ := h
  constructor <;> omega
structure BtS (a b c d o r : Int) : Prop where
  ad : Sm (a * d)
  adr : Sm (a * d * r)
  cb : Sm (c * b)
  bd : Sm (b * d)
  t : Sn (btT a b c d o r)
  u : Sn (btB b d o r)
  u0 : 0 < btB b d o r
theorem bt_sizes {a b c d o r : Int} (ha : Bd a b) (hc : Bd c d) (w : Wt o r) : BtS a b c d o r := by
  obtain ⟨a1, b1⟩ := bd_ab ha
  obtain ⟨c1, d1⟩ := bd_ab hc
  obtain ⟨o1, o2, r1, r2⟩ := w
  have ro : r.natAbs ≤ 10 ^ 40 := by omega
  have oo : o.natAbs ≤ 10 ^ 40 := by omega
  have e1 := ab_mul a1 d1
  have e2 := ab_mul e1 ro
  have e3 := ab_mul c1 b1
  have e4 := ab_mul e3 oo
  have e5 := ab_mul b1 d1
  have e6 := ab_mul e5 (show (o + r).natAbs ≤ 2 * 10 ^ 40 by omega)
  have p1 : 0 < b * d := Int.mul_pos (by have := ha.1; omega) (by have := hc.1; omega)
  have p2 : 0 < b * d * (o + r) := Int.mul_pos p1 (by omega)
  refine ⟨?_, ?_, ?_, ?_, ?_, ?_, ?_⟩
  · unfold Sm; omega
  · unfold Sm; omega
  · unfold Sm; omega
  · unfold Sm; omega
  · unfold Sn btT; omega
  · unfold Sn btB; omega
  · exact p2
theorem bt_in {a b c d o r : Int} {li hi : Bool} (hb : 0 < b) (hd : 0 < d) (lt : a * d < c * b) (w : Wt o r) (u0 : 0 < btB b d o r) : InR a b c d li hi (lowT (btT a b c d o r) (btB b d o r)) (lowB (btT a b c d o r) (btB b d o r)) := by
  obtain ⟨e1, e2, e3, _⟩ := low_eq (t := btT a b c d o r) u0
  have g0 := gcd_pos' (t := btT a b c d o r) u0
  have l1 : a * btB b d o r < btT a b c d o r * b := by
    unfold btT btB
    have y1 : a * (b * d * (o + r)) = b * (a * d * o) + b * (a * d * r) := by grind
    have y2 : (a * d * r + c * b * o) * b = b * (a * d * r) + b * (c * b * o) := by grind
    have y3 : a * d * o < c * b * o := Int.mul_lt_mul_of_pos_right lt (by have := w.o1; omega)
    have y4 : b * (a * d * o) < b * (c * b * o) := Int.mul_lt_mul_of_pos_left y3 hb
    omega
  have l2 : btT a b c d o r * d < c * btB b d o r := by
    unfold btT btB
    have y1 : c * (b * d * (o + r)) = d * (c * b * o) + d * (c * b * r) := by grind
    have y2 : (a * d * r + c * b * o) * d = d * (a * d * r) + d * (c * b * o) := by grind
    have y3 : a * d * r < c * b * r := Int.mul_lt_mul_of_pos_right lt (by have := w.r1; omega)
    have y4 : d * (a * d * r) < d * (c * b * r) := Int.mul_lt_mul_of_pos_left y3 hd
    omega
  revert e1 e2 e3 g0 l1 l2
  generalize (Int.gcd (btT a b c d o r) (btB b d o r) : Int) = g
  generalize lowT (btT a b c d o r) (btB b d o r) = A
  generalize lowB (btT a b c d o r) (btB b d o r) = B
  intro e1 e2 e3 g0 l1 l2
  rw [e1, e2] at l1 l2
  have m1 : a * B < A * b := by
    refine Int.lt_of_mul_lt_mul_left (a := g) ?_ (Int.le_of_lt g0)
    have z1 : g * (a * B) = a * (g * B) := by grind
    have z2 : g * (A * b) = g * A * b := by grind
    omega
  have m2 : A * d < c * B := by
    refine Int.lt_of_mul_lt_mul_left (a := g) ?_ (Int.le_of_lt g0)
    have z1 : g * (A * d) = g * A * d := by grind
    have z2 : g * (c * B) = c * (g * B) := by grind
    omega
  exact ⟨by omega, by omega, by omega, fun z => absurd z (by omega), fun z => absurd z (by omega)⟩
theorem bt_red {a b c d o r : Int} (u0 : 0 < btB b d o r) : Red (lowT (btT a b c d o r) (btB b d o r), lowB (btT a b c d o r) (btB b d o r)) (btT a b c d o r) (btB b d o r) := by
  obtain ⟨e1, e2, _, _⟩ := low_eq (t := btT a b c d o r) u0
  exact ⟨_, gcd_pos' (t := btT a b c d o r) u0, e1, e2⟩
/-! ### _law_between -/
def spBetw (K : PySem.W.Frag) : Sp := fun vs H Q _ => ∃ (x y : V) (a b c d o r : Int), vs = [x, y, .int o, .int r] ∧ Fra K H x a b ∧ Fra K H y c d ∧ Bd a b ∧ Bd c d ∧ Wt o r ∧
  ∀ p H', Same H H' → H p = none → H' p = some (.tup [.int (lowT (btT a b c d o r) (btB b d o r)), .int (lowB (btT a b c d o r) (btB b d o r))]) → Q (.ref p) H'
theorem sc_law_between : FnScope ["_law_low", "_law_high", "_law_one", "_law_other", "_law_top"] ["_law_low", "_law_high", "_law_one", "_law_other"] (defScope s_law_between) := ⟨rfl, rfl, rfl, by decide +kernel, rfl, by decide +kernel, by decide +kernel⟩
theorem Wt.so {o r : Int} (w : Wt o r) : Sm o ∧ Sm r ∧ Sm (o + r) := by
  obtain ⟨o1, o2, r1, r2⟩ := w
  refine ⟨?_, ?_, ?_⟩ <;> (unfold Sm; omega)
theorem ok_law_between (M : Mgs K mg) (D : Df K "_law_between" s_law_between) (cL : Cal P w K mg base CX0 "_law_lowest" 2 ["_law_top", "_law_bottom"] spMade) :
    Cal P w K mg base CX0 "_law_between" 3 ["_law_low", "_law_high", "_law_one", "_law_other"] (spBetw K) := by
  obtain ⟨f, fd, hf, F⟩ := D
  refine ⟨f, fd, F.ok sc_law_between (fun vs H Q E h => ?_) (fun cdv A outer s H vs Q E hr h => ?_), M.of hf, F.kp, F.binds fun _ _ _ _ _ _ us hl => match us, hl with | [_, _, _, _], _ => rfl⟩
  · obtain ⟨x, y, a, b, c, d, o, r, rfl, _⟩ := h
    rfl
  · obtain ⟨x, y, a, b, c, d, o, r, rfl, fx, fy, ba, bc, w, q⟩ := h
    obtain ⟨⟨tx, rfl, hx⟩, hb, _⟩ := fx
    obtain ⟨⟨ty, rfl, hy⟩, hd, _⟩ := fy
    have S := bt_sizes ba bc w
    obtain ⟨so, sr, sor⟩ := w.so
    obtain ⟨a1, b1⟩ := bd_ab ba
    obtain ⟨c1, d1⟩ := bd_ab bc
    have smA : Sm a := by unfold Sm; omega
    have smB : Sm b := by unfold Sm; omega
    have smC : Sm c := by unfold Sm; omega
    have smD : Sm d := by unfold Sm; omega
    refine ⟨_, pss_cons (ps_set (i := 4) sc_law_between.nd rfl (Or.inl rfl) (pe_op op_add (pe_op op_mulW (pe_op op_mulW (pe_ix ix_tup (pv 0) pe_int (fun _ _ => rfl)) (pe_ix ix_tup (pv 1) pe_int (fun _ _ => rfl))) (pv 3))
        (pe_op op_mulW (pe_op op_mulW (pe_ix ix_tup (pv 1) pe_int (fun _ _ => rfl)) (pe_ix ix_tup (pv 0) pe_int (fun _ _ => rfl))) (pv 2))))
      (pss_one (ps_ret (pe_cal cL hr (by rfl) pass0 (pa_cons (pv 4) (pa_cons (pe_op op_mulW (pe_op op_mulW (pe_ix ix_tup (pv 0) pe_int (fun _ _ => rfl)) (pe_ix ix_tup (pv 1) pe_int (fun _ _ => rfl))) (pe_op op_add (pv 2) (pv 3))) pa_nil))))), ?_⟩
    refine ⟨_, rfl, _, _, _, _, rfl, rfl, hx, rfl, _, rfl, _, _, _, _, rfl, rfl, hy, rfl, _, _, rfl, rfl, Sm.mul smA smD, _, rfl, _, _, rfl, rfl, Sm.mul S.ad sr, ?_⟩
    refine ⟨_, rfl, _, _, _, _, rfl, rfl, hy, rfl, _, rfl, _, _, _, _, rfl, rfl, hx, rfl, _, _, rfl, rfl, Sm.mul smC smB, _, rfl, _, _, rfl, rfl, Sm.mul S.cb so, _, _, rfl, rfl, ?_⟩
    refine ⟨_, rfl, _, rfl, _, _, _, _, rfl, rfl, hx, rfl, _, rfl, _, _, _, _, rfl, rfl, hy, rfl, _, _, rfl, rfl, Sm.mul smB smD, _, rfl, _, rfl, _, _, rfl, rfl, _, _, rfl, rfl, Sm.mul S.bd sor, ?_⟩
    exact ⟨_, _, rfl, S.u0, S.u.sm, q⟩
theorem low_pos {t u : Int} (h : 0 < u) : 0 < lowB t u := by
  obtain ⟨_, _, z, _⟩ := low_eq (t := t) h
  omega
/-! ### _law_inside -/
/-- the list's items are these pairs -/
inductive AllP (K : PySem.W.Frag) (H : Hp) : List V → List (Int × Int) → Prop
  | nil : AllP K H [] []
  | cons {v : V} {vs : List V} {f : Int × Int} {fs : List (Int × Int)} (h : Pr K H v f.1 f.2) (h0 : 0 < f.2) (h1 : Sn f.1) (h2 : Sn f.2) (r : AllP K H vs fs) : AllP K H (v :: vs) (f :: fs)
theorem AllP.keep {H H' : Hp} (s : Still H H') : ∀ {vs : List V} {fs : List (Int × Int)}, AllP K H vs fs → AllP K H' vs fs
  | _, _, .nil => .nil
  | _, _, .cons h h0 h1 h2 r => .cons (h.keep s) h0 h1 h2 (AllP.keep s r)
theorem AllP.app {H : Hp} : ∀ {vs us : List V} {fs gs : List (Int × Int)}, AllP K H vs fs → AllP K H us gs → AllP K H (vs ++ us) (fs ++ gs)
  | _, _, _, _, .nil, s => s
  | _, _, _, _, .cons h h0 h1 h2 r, s => .cons h h0 h1 h2 (AllP.app r s)
theorem AllP.get {H : Hp} : ∀ {vs : List V} {fs : List (Int × Int)} {i : Nat} {v : V}, AllP K H vs fs → vs[i]? = some v → ∃ f, fs[i]? = some f ∧ Pr K H v f.1 f.2 ∧ 0 < f.2 ∧ Sn f.1 ∧ Sn f.2
  | _, _, _, _, .nil, e => by simp at e
  | _, _, 0, v, .cons (f := f) h h0 h1 h2 r, e => by
    simp at e
    subst e
    exact ⟨f, rfl, h, h0, h1, h2⟩
  | _, _, i + 1, v, .cons h h0 h1 h2 r, e => by
    obtain ⟨f, e1, q⟩ := AllP.get (i := i) r (by simpa using e)
    exact ⟨f, by simpa using e1, q⟩
theorem AllP.len {H : Hp} : ∀ {vs : List V} {fs : List (Int × Int)}, AllP K H vs fs → vs.length = fs.length
  | _, _, .nil => rfl
  | _, _, .cons _ _ _ _ r => by rw [List.length_cons, List.length_cons, r.len]
def spInside (K : PySem.W.Frag) : Sp := fun vs H Q _ => ∃ (p : Addr) (n : Nat) (x y : V) (a b c d : Int) (li hi : Bool), vs = [.ref p, x, .bl li, y, .bl hi] ∧ Purse H p n ∧ n ≤ 900 ∧ Fra K H x a b ∧ Fra K H y c d ∧ Bd a b ∧ Bd c d ∧ Rng a b c d li hi ∧
  ∀ l xs fs H', But p H H' → Purse H' p (n + 2) → H' l = some (.lst xs) → l ≠ p → AllP K H' xs fs → xs.length ≤ 6 → Ins a b c d li hi fs → Q (.ref l) H'
theorem sc_law_inside : FnScope ["_law_purse_here", "_law_low", "_law_low_in", "_law_high", "_law_high_in", "_law_far", "_law_found"] ["_law_purse_here", "_law_low", "_law_low_in", "_law_high", "_law_high_in"] (defScope s_law_inside) := ⟨rfl, rfl, rfl, by decide +kernel, rfl, by decide +kernel, by decide +kernel⟩
theorem p40 : ((10 : Int) ^ (40 : Int).toNat) = far := by decide
def repV (b : Bool) (x : V) : List V := (List.replicate (if b then (1 : Int) else 0).toNat [x]).flatten
theorem repV_eq (b : Bool) (x : V) : repV b x = if b then [x] else [] := by cases b <;> rfl
theorem rep_len (b : Bool) (x : V) : (repV b x).length ≤ 1 := by
  rw [repV_eq]
  cases b
  · exact Nat.zero_le _
  · exact Nat.le_refl _
theorem AllP.rep {H : Hp} {x : V} {a b : Int} (i : Bool) (h : Pr K H x a b) (h0 : 0 < b) (h1 : Sn a) (h2 : Sn b) : AllP K H (repV i x) (if i then [(a, b)] else []) := by
  rw [repV_eq]
  cases i with
  | true => exact .cons h h0 h1 h2 .nil
  | false => exact .nil
theorem Bd.sn {a b : Int} (h : Bd a b) : Sn a ∧ Sn b := by
  obtain ⟨h1, h2⟩ := bd_ab h
  constructor <;> (unfold Sn; omega)
theorem in_lo {a b c d : Int} {li hi : Bool} (hb : 0 < b) (lt : a * d < c * b) (h : li = true) : InR a b c d li hi a b := ⟨hb, by omega, by omega, fun _ => h, fun z => by omega⟩
theorem in_hi {a b c d : Int} {li hi : Bool} (hd : 0 < d) (lt : a * d < c * b) (h : hi = true) : InR a b c d li hi c d := ⟨hd, by omega, by omega, fun z => by omega, fun _ => h⟩
theorem ok_law_inside (M : Mgs K mg) (D : Df K "_law_inside" s_law_inside) (b1 : PySem.W.nsIn K mainGlobals "int" = some none) (cT : Cal P w K mg base CX0 "_law_take" 1 ["_law_purse_here", "_law_many"] spTake)
    (cB : Cal P w K mg base CX0 "_law_between" 3 ["_law_low", "_law_high", "_law_one", "_law_other"] (spBetw K)) :
    Cal P w K mg base CX0 "_law_inside" 4 ["_law_purse_here", "_law_low", "_law_low_in", "_law_high", "_law_high_in"] (spInside K) := by
  obtain ⟨f, fd, hf, F⟩ := D
  refine ⟨f, fd, F.ok sc_law_inside (fun vs H Q E h => ?_) (fun cdv A outer s H vs Q E hr h => ?_), M.of hf, F.kp, F.binds fun _ _ _ _ _ _ us hl => match us, hl with | [_, _, _, _, _], _ => rfl⟩
  · obtain ⟨p, n, x, y, a, b, c, d, li, hi, rfl, _⟩ := h
    rfl
  · obtain ⟨p, n, x, y, a, b, c, d, li, hi, rfl, pu, hn, fx, fy, ba, bc, rg, q⟩ := h
    have hr1 : Room 1 _ := hr.mono (by decide)
    refine ⟨_, pss_cons (ps_if (pt_cmpR (op_eqD hr.units) (pv 1) (pv 3) (nomark _)) (pss_one (ps_ret (pe_lst (pa_cons (pv 1) pa_nil)))) pss_nil)
      (pss_cons (ps_set (i := 5) sc_law_inside.nd rfl (Or.inl rfl) (pe_op op_pow pe_int pe_int))
      (pss_cons (ps_set (i := 6) sc_law_inside.nd rfl (Or.inl rfl) (pe_op op_cat (pe_op op_rep (pe_lst (pa_cons (pv 1) pa_nil)) (pe_callTy call_int1 (by rfl) (M.no b1) (by decide +kernel) (pa_cons (pv 2) pa_nil))) (pe_op op_rep (pe_lst (pa_cons (pv 3) pa_nil)) (pe_callTy call_int1 (by rfl) (M.no b1) (by decide +kernel) (pa_cons (pv 4) pa_nil)))))
      (pss_cons (ps_set (i := 6) sc_law_inside.nd rfl (Or.inl rfl) (pe_op op_cat (pv 6) (pe_lst (pa_cons (pe_cal cB hr (by rfl) pass0 (pa_cons (pv 1) (pa_cons (pv 3) (pa_cons pe_int (pa_cons (pv 5) pa_nil)))))
        (pa_cons (pe_cal cB hr (by rfl) pass0 (pa_cons (pv 1) (pa_cons (pv 3) (pa_cons (pv 5) (pa_cons pe_int pa_nil))))) (pa_cons (pe_cal cB hr (by rfl) pass0 (pa_cons (pv 1) (pa_cons (pv 3) (pa_cons pe_int (pa_cons pe_int pa_nil))))) pa_nil))))))
      (pss_one (ps_ret (pe_op op_cat (pv 6) (pe_lst (pa_cons (pe_cal cB hr (by rfl) pass0 (pa_cons (pv 1) (pa_cons (pv 3) (pa_cons (pe_op op_add pe_int (pe_cal cT hr1 (by rfl) pass0 (pa_cons (pv 0) (pa_cons pe_int pa_nil))))
        (pa_cons (pe_op op_add pe_int (pe_cal cT hr1 (by rfl) pass0 (pa_cons (pv 0) (pa_cons pe_int pa_nil)))) pa_nil))))) pa_nil)))))))), ?_⟩
    have hb : 0 < b := by have := ba.1; omega
    have hd : 0 < d := by have := bc.1; omega
    obtain ⟨sa, sb⟩ := ba.sn
    obtain ⟨sc, sd⟩ := bc.sn
    refine ⟨_, rfl, _, rfl, _, _, pr_dp fx.1, pr_dp fy.1, pr_shaped a b, pr_shaped c d, _, rfl, ?_⟩
    rw [pr_eqv]
    by_cases e : a * d = c * b
    · obtain ⟨e1, e2⟩ := red_one fx.2.1 fy.2.1 fx.2.2 fy.2.2 e
      have et : (a == c && b == d) = true := by rw [e1, e2]; simp
      rw [et]
      refine iteT ⟨_, rfl, (by show 1 ≤ sizeLine; decide), fun l nl => ?_⟩
      have sn := Same.new (o := HO.lst [x]) nl
      have hin : li = true ∧ hi = true := by
        rcases rg with z | z
        · omega
        · exact z.2
      refine q l [x] [(a, b)] _ (But.of sn) ((pu.keep sn).mono (by omega)) upd_same (pu.ne nl) (.cons (fx.keep (.of sn)).1 hb sa sb .nil) (by show 1 ≤ 6; decide) ⟨fun f hf => ?_, by simp, fun z => by omega, fun z => by omega, fun z => by omega⟩
      have ef : f = (a, b) := by simpa using hf
      subst ef
      exact ⟨hb, Int.le_refl _, by show a * d ≤ c * b; omega, fun _ => hin.1, fun _ => hin.2⟩
    · have lt : a * d < c * b := by
        rcases rg with z | z
        · exact z
        · exact absurd z.1 e
      have et : (a == c && b == d) = false := by
        rw [Bool.and_eq_false_iff]
        by_cases z : a = c
        · exact .inr (beq_eq_false_iff_ne.mpr fun z2 => e (by rw [z, z2]))
        · exact .inl (beq_eq_false_iff_ne.mpr z)
      rw [et]
      refine iteF ⟨_, _, rfl, rfl, ⟨by decide, by decide, by decide⟩, ?_⟩
      -- the ends that are in
      refine ⟨_, rfl, (by show 1 ≤ sizeLine; decide), fun l1 nl1 => ⟨_, rfl, .inr ⟨li, rfl, l1, _, [x], rfl, rfl, upd_same, (by cases li <;> decide), (by cases li <;> decide), (by cases li <;> (show 1 * _ ≤ sizeLine; rw [sizeLine_eq]; decide)), fun l2 nl2 => ?_⟩⟩⟩
      refine ⟨_, rfl, (by show 1 ≤ sizeLine; decide), fun l3 nl3 => ⟨_, rfl, .inr ⟨hi, rfl, l3, _, [y], rfl, rfl, upd_same, (by cases hi <;> decide), (by cases hi <;> decide), (by cases hi <;> (show 1 * _ ≤ sizeLine; rw [sizeLine_eq]; decide)), fun l4 nl4 => ?_⟩⟩⟩
      have s1 := Same.new (o := HO.lst [x]) nl1
      have s2 := Same.new (o := HO.lst (repV li x)) nl2
      have s3 := Same.new (o := HO.lst [y]) nl3
      have s4 := Same.new (o := HO.lst (repV hi y)) nl4
      refine ⟨l2, l4, repV li x, repV hi y, rfl, rfl, s4 _ _ (s3 _ _ upd_same), upd_same, (by have := rep_len li x; have := rep_len hi y; rw [sizeLine_eq]; omega), fun l5 nl5 => ?_⟩
      have s5 := Same.new (o := HO.lst (repV li x ++ repV hi y)) nl5
      have s15 := (((s1.trans s2).trans s3).trans s4).trans s5
      -- the three
      have F0 : (1 : Int) ≤ far ∧ far ≤ 10 ^ 40 := by unfold far; exact ⟨by decide, by decide⟩
      have w1 : Wt 1 far := ⟨by decide, by decide, F0.1, F0.2⟩
      have w2 : Wt far 1 := ⟨F0.1, F0.2, by decide, by decide⟩
      have w3 : Wt 1 1 := ⟨by decide, by decide, by decide, by decide⟩
      refine ⟨_, rfl, _, rfl, _, rfl, _, rfl, x, y, a, b, c, d, 1, far, rfl, fx.keep (.of s15), fy.keep (.of s15), ba, bc, w1, fun t1 G1 u1 nt1 g1 => ?_⟩
      refine ⟨_, rfl, _, rfl, _, rfl, x, y, a, b, c, d, far, 1, rfl, fx.keep (.of (s15.trans u1)), fy.keep (.of (s15.trans u1)), ba, bc, w2, fun t2 G2 u2 nt2 g2 => ?_⟩
      refine ⟨_, rfl, _, rfl, x, y, a, b, c, d, 1, 1, rfl, fx.keep (.of ((s15.trans u1).trans u2)), fy.keep (.of ((s15.trans u1).trans u2)), ba, bc, w3, fun t3 G3 u3 nt3 g3 => ?_⟩
      refine ⟨(by show 3 ≤ sizeLine; decide), fun l6 nl6 => ?_⟩
      have s6 := Same.new (o := HO.lst [.ref t1, .ref t2, .ref t3]) nl6
      have s56 := ((u1.trans u2).trans u3).trans s6
      have zl : (repV li x ++ repV hi y).length ≤ 2 := by have := rep_len li x; have := rep_len hi y; rw [List.length_append]; omega
      refine ⟨l5, l6, repV li x ++ repV hi y, _, rfl, rfl, s56 _ _ upd_same, upd_same, (by show (repV li x ++ repV hi y).length + 3 ≤ sizeLine; rw [sizeLine_eq]; omega), fun l7 nl7 => ?_⟩
      have s7 := Same.new (o := HO.lst (repV li x ++ repV hi y ++ [.ref t1, .ref t2, .ref t3])) nl7
      have s17 := (s15.trans s56).trans s7
      -- the last
      refine ⟨_, rfl, _, rfl, _, rfl, _, rfl, p, 99, n, rfl, by decide, by decide, pu.keep s17, by omega, fun d1 J1 d10 d11 bt1 pu1 => ?_⟩
      refine ⟨_, _, rfl, rfl, _, rfl, p, 99, n + 1, rfl, by decide, by decide, pu1, by omega, fun d2 J2 d20 d21 bt2 pu2 => ?_⟩
      have stJ := ((pu.keep s17).still bt1).trans (pu1.still bt2)
      have w4 : Wt (1 + d1) (1 + d2) := ⟨by omega, by omega, by omega, by omega⟩
      have fxJ := (fx.keep (.of s17)).keep stJ
      have fyJ := (fy.keep (.of s17)).keep stJ
      refine ⟨_, _, rfl, rfl, x, y, a, b, c, d, 1 + d1, 1 + d2, rfl, fxJ, fyJ, ba, bc, w4, fun t4 J3 u4 nt4 g4 => ?_⟩
      refine ⟨(by show 1 ≤ sizeLine; decide), fun l8 nl8 => ?_⟩
      have s8 := Same.new (o := HO.lst [.ref t4]) nl8
      have p0 : Purse _ p n := pu.keep s17
      have n7 : l7 ≠ p := (pu.keep (s15.trans s56)).ne nl7
      have e7 : J2 l7 = some (.lst (repV li x ++ repV hi y ++ [.ref t1, .ref t2, .ref t3])) := bt2 _ _ n7 (bt1 _ _ n7 upd_same)
      refine ⟨l7, l8, _, _, rfl, rfl, s8 _ _ (u4 _ _ e7), upd_same, (by rw [List.length_append]; show (repV li x ++ repV hi y).length + 3 + 1 ≤ sizeLine; rw [sizeLine_eq]; omega), fun l9 nl9 => ?_⟩
      have s9 := Same.new (o := HO.lst (repV li x ++ repV hi y ++ [.ref t1, .ref t2, .ref t3] ++ [.ref t4])) nl9
      have pu9 := ((pu2.keep u4).keep s8)
      have stE := (Still.of u4).trans ((Still.of s8).trans (Still.of s9))
      have stT := stJ.trans stE
      have S1 := bt_sizes ba bc w1
      have S2 := bt_sizes ba bc w2
      have S3 := bt_sizes ba bc w3
      have S4 := bt_sizes ba bc w4
      have low1 : ∀ {o r : Int} (_ : BtS a b c d o r), 0 < lowB (btT a b c d o r) (btB b d o r) ∧ Sn (lowT (btT a b c d o r) (btB b d o r)) ∧ Sn (lowB (btT a b c d o r) (btB b d o r)) := fun S => by
        exact ⟨low_pos S.u0, S.t.low, S.u.lowb⟩
      have stH : Still H _ := (Still.of s17).trans stT
      have pA := AllP.app (AllP.app (AllP.app (AllP.rep li (fx.keep stH).1 hb sa sb) (AllP.rep hi (fy.keep stH).1 hd sc sd))
        (.cons (f := (_, _)) ⟨t1, rfl, stT.seqT (SqT.of' (s7 _ _ (s6 _ _ (u3 _ _ (u2 _ _ g1)))))⟩ (low1 S1).1 (low1 S1).2.1 (low1 S1).2.2
        (.cons (f := (_, _)) ⟨t2, rfl, stT.seqT (SqT.of' (s7 _ _ (s6 _ _ (u3 _ _ g2))))⟩ (low1 S2).1 (low1 S2).2.1 (low1 S2).2.2
        (.cons (f := (_, _)) ⟨t3, rfl, stT.seqT (SqT.of' (s7 _ _ (s6 _ _ g3)))⟩ (low1 S3).1 (low1 S3).2.1 (low1 S3).2.2 .nil))))
        (.cons (f := (_, _)) ⟨t4, rfl, SqT.of' (s9 _ _ (s8 _ _ g4))⟩ (low1 S4).1 (low1 S4).2.1 (low1 S4).2.2 .nil)
      refine q l9 _ _ _ (((((But.of s17).trans bt1).trans bt2).trans (But.of u4)).trans ((But.of s8).trans (But.of s9))) (pu9.keep s9) upd_same (pu9.ne nl9) pA ?_ ?_
      · rw [List.length_append, List.length_append]
        show (repV li x ++ repV hi y).length + 3 + 1 ≤ 6
        omega
      · refine ⟨fun f hf => ?_, by simp, fun _ => ⟨⟨_, List.mem_append_left _ (List.mem_append_right _ List.mem_cons_self), ?_⟩, ⟨_, List.mem_append_left _ (List.mem_append_right _ (List.mem_cons_of_mem _ List.mem_cons_self)), ?_⟩⟩, fun _ z => ⟨(a, b), ?_, rfl, rfl⟩, fun _ z => ⟨(c, d), ?_, rfl, rfl⟩⟩
        · rcases List.mem_append.mp hf with hf | hf
          · rcases List.mem_append.mp hf with hf | hf
            · rcases List.mem_append.mp hf with hf | hf
              · cases hli : li with
                | true =>
                  rw [hli] at hf
                  have ef : f = (a, b) := by simpa using hf
                  subst ef
                  exact in_lo hb lt rfl
                | false =>
                  rw [hli] at hf
                  simp at hf
              · cases hhi : hi with
                | true =>
                  rw [hhi] at hf
                  have ef : f = (c, d) := by simpa using hf
                  subst ef
                  exact in_hi hd lt rfl
                | false =>
                  rw [hhi] at hf
                  simp at hf
            · rcases List.mem_cons.mp hf with rfl | hf
              · exact bt_in hb hd lt w1 S1.u0
              · rcases List.mem_cons.mp hf with rfl | hf
                · exact bt_in hb hd lt w2 S2.u0
                · rcases List.mem_cons.mp hf with rfl | hf
                  · exact bt_in hb hd lt w3 S3.u0
                  · cases hf
          · rcases List.mem_cons.mp hf with rfl | hf
            · exact bt_in hb hd lt w4 S4.u0
            · cases hf
        · have := bt_red (a := a) (c := c) S1.u0
          unfold btT btB at this ⊢
          rw [Int.mul_one] at this ⊢
          exact this
        · have := bt_red (a := a) (c := c) S2.u0
          unfold btT btB at this ⊢
          rw [Int.mul_one] at this ⊢
          exact this
        · rw [z]
          simp
        · rw [z]
          simp
end K26
set_option maxHeartbeats 4000000
namespace K26
open PySem L2
variable {P : Program} {w : World} {K : PySem.W.Frag} {mg : Str → Option Value} {base : Heap} {C0 C1 C2 C3 M1 M2 M3 : Addr}
/-! ### repr of a whole number or None -/
def txtO : Option Int → Str
  | none => "None"
  | some i => toString i
theorem call_reprO {X : Cx} : CallR X (.builtin "repr") (fun xs H Q => ∃ o : Option Int, xs = [optV o] ∧ (∀ i, o = some i → i.natAbs.log2 < 1920) ∧ Q (.str (txtO o)) H) := by
  intro pins s σ H xs us Q I r h
  obtain ⟨o, rfl, hz, q⟩ := h
  cases o with
  | none =>
    cases r with
    | cons r1 r2 =>
      cases r2
      cases r1
      exact PySem.P.repr_of_none ⟨.str _, H, I.tok _, ⟨_, rfl⟩, q⟩
  | some i =>
    obtain ⟨u, rfl, t, rfl⟩ := vals1 r
    exact PySem.P.repr_of_int (hz i rfl) ⟨.str _, H, I.tok _, ⟨_, rfl⟩, q⟩
theorem log_sm {i : Int} (h : Sm i) : i.natAbs.log2 < 1920 := by
  have := PySem.Flt.log2_lt_of (show 0 < 340 by decide) (Nat.lt_of_lt_of_le h big100)
  omega
/-! ### a list of ints as data -/
theorem dp_ints {H : Hp} : ∀ ns : List Int, DpAll K H (ns.map V.int) (ns.map PyData.int)
  | [] => .nil
  | n :: r => .cons (.int n) (dp_ints r)
theorem ints_lay : ∀ ns : List Int, PyData.canLayAll0 (ns.map PyData.int) = true ∧ PyData.depthAll (ns.map PyData.int) = 0
  | [] => ⟨rfl, rfl⟩
  | n :: r => by
    obtain ⟨h1, h2⟩ := ints_lay r
    refine ⟨?_, ?_⟩
    · rw [List.map_cons]
      simp only [PyData.canLayAll0, PyData.canLay0, h1, Bool.and_self]
    · rw [List.map_cons]
      simp only [PyData.depthAll, PyData.depth, h2]
      decide
theorem ints_shaped (ns : List Int) : SeqAt.shaped (.list (ns.map PyData.int)) = true := by
  obtain ⟨h1, h2⟩ := ints_lay ns
  simp [SeqAt.shaped, PyData.canLay0, PyData.depth, h1, h2]
theorem ints_eqv_nil (ns : List Int) : PyData.eqv (.list (ns.map PyData.int)) (.list []) = ns.isEmpty := by
  cases ns with
  | nil => simp [PyData.eqv, PyData.eqvAll]
  | cons n r => simp [PyData.eqv, PyData.eqvAll]
/-! ### _law_right -/
theorem term_sm {m : Str} (hm : Mode m) {p q : Int} (h0 : 0 < q) (hp : Sn p) (hq : Sn q) : Sm (termM m p q) := by
  unfold Sn at hp hq
  unfold termM Sm
  rcases hm with rfl | rfl | rfl
  · rw [if_pos rfl]
    have := div_le_abs p q
    omega
  · rw [if_neg (by decide +kernel), if_pos rfl]
    have := div_le_abs (-p) q
    omega
  · rw [if_neg (by decide +kernel), if_neg (by decide +kernel)]
    have := div_le_abs (2 * p + q) (2 * q)
    omega
/-- what the law reckons of the terms: the common one, or None -/
theorem right_end {ts : List Int} {o : Option Int} {t0 : Int} {r : List Int} (e : ts = t0 :: r) (h1 : ∀ t, o = some t → ∀ x ∈ ts, x = t) (h2 : o = none → ∃ x ∈ ts, ∃ y ∈ ts, x ≠ y) :
    o = if (ts.filter fun x => decide (x ≠ t0)).isEmpty then some t0 else none := by
  cases o with
  | some t =>
    have a := h1 t rfl
    have e0 : t0 = t := a t0 (by rw [e]; exact List.mem_cons_self)
    have : (ts.filter fun x => decide (x ≠ t0)) = [] := by
      refine List.filter_eq_nil_iff.mpr fun x hx => ?_
      rw [a x hx, e0]
      simp
    rw [this, e0]
    rfl
  | none =>
    obtain ⟨x, hx, y, hy, ne⟩ := h2 rfl
    have : (ts.filter fun x => decide (x ≠ t0)) ≠ [] := fun z => by
      have z' := List.filter_eq_nil_iff.mp z
      have a1 := z' x hx
      have a2 := z' y hy
      simp at a1 a2
      exact ne (a1.trans a2.symm)
    cases hf : (ts.filter fun x => decide (x ≠ t0)) with
    | nil => exact absurd hf this
    | cons _ _ => rfl
def spRight (K : PySem.W.Frag) : Sp := fun vs H Q _ => ∃ (p t : Addr) (n : Nat) (m : Str) (x y : V) (a b c d : Int) (li hi : Bool), vs = [.ref p, .ref t, .str m] ∧ Mode m ∧ Purse H p n ∧ n ≤ 900 ∧ SqT K H t [x, .bl li, y, .bl hi] ∧
  Fra K H x a b ∧ Fra K H y c d ∧ Bd a b ∧ Bd c d ∧ Rng a b c d li hi ∧ ∀ H', But p H H' → Purse H' p (n + 2) → Q (.bl true) H'
abbrev nRight : List Str := ["_law_purse_here", "_law_bounds_here", "_law_mode", "_law_low", "_law_low_in", "_law_high", "_law_high_in", "_law_found", "_law_terms", "_law_alike", "_law_one", "_law_term_here"]
theorem sc_law_right : FnScope nRight ["_law_purse_here", "_law_bounds_here", "_law_mode"] (defScope s_law_right) := ⟨rfl, rfl, rfl, by decide +kernel, rfl, by decide +kernel, by decide +kernel⟩
theorem Bd.sl {a b : Int} (h : Bd a b) : Sl a ∧ Sl b := by
  obtain ⟨h1, h2⟩ := bd_ab h
  constructor <;> (unfold Sl; omega)
theorem take_map_succ {ts : List Int} {i : Nat} {x : Int} (h : ts[i]? = some x) : (ts.take (i + 1)).map V.int = (ts.take i).map V.int ++ [V.int x] := by
  rw [List.take_add_one, h, List.map_append]
  rfl
theorem ok_law_right (M : Mgs K mg) (D : Df K "_law_right" s_law_right) (bR : PySem.W.nsIn K mainGlobals "repr" = some none) (cS : CalS P w K mg base 6 (spSettled K C1 C2 C3))
    (cI : Cal P w K mg base CX0 "_law_inside" 4 ["_law_purse_here", "_law_low", "_law_low_in", "_law_high", "_law_high_in"] (spInside K)) (cT : Cal P w K mg base CX0 "_law_term" 1 ["_law_top", "_law_bottom", "_law_mode"] spTerm) :
    Cal P w K mg base CX0 "_law_right" 7 ["_law_purse_here", "_law_bounds_here", "_law_mode"] (spRight K) := by
  obtain ⟨f, fd, hf, F⟩ := D
  refine ⟨f, fd, F.ok sc_law_right (fun vs H Q E h => ?_) (fun cdv A outer s H vs Q E hr h => ?_), M.of hf, F.kp, F.binds fun _ _ _ _ _ _ us hl => match us, hl with | [_, _, _], _ => rfl⟩
  · obtain ⟨p, t, n, m, x, y, a, b, c, d, li, hi, rfl, _⟩ := h
    rfl
  · obtain ⟨p, t, n, m, x, y, a, b, c, d, li, hi, rfl, hm, pu, hn, ht, fx, fy, ba, bc, rg, q⟩ := h
    have hr1 : Room 1 _ := hr.mono (by decide)
    have hr4 : Room 4 _ := hr.mono (by decide)
    refine ⟨_, pss_cons (ps_asg (pv 1) (pg_tup rfl (pgs_cons (pg_name (i := 3) sc_law_right.nd rfl (Or.inl rfl)) (pgs_cons (pg_name (i := 4) sc_law_right.nd rfl (Or.inl rfl)) (pgs_cons (pg_name (i := 5) sc_law_right.nd rfl (Or.inl rfl)) (pgs_cons (pg_name (i := 6) sc_law_right.nd rfl (Or.inl rfl)) pgs_nil))))))
      (pss_cons (ps_set (i := 7) sc_law_right.nd rfl (Or.inl rfl) (pe_cal cS.cal hr (by rfl) passL (pa_cons (pv 3) (pa_cons (pv 4) (pa_cons (pv 5) (pa_cons (pv 6) (pa_cons (pv 2) pa_nil)))))))
      (pss_cons (ps_set (i := 8) sc_law_right.nd rfl (Or.inr rfl) (pe_lc (own := [("_law_one", 10)]) (g := gName 10) (tt := tYes) rfl sc_law_right.nd (pi_list (pe_cal cI hr4 (by rfl) pass0 (pa_cons (pv 0) (pa_cons (pv 3) (pa_cons (pv 4) (pa_cons (pv 5) (pa_cons (pv 6) pa_nil)))))))
        (blkOk_by (N := nRight) (sc := defScope s_law_right) (by decide +kernel)) (fun _ _ _ _ _ => pg_name (i := 10) sc_law_right.nd rfl (Or.inl rfl)) (fun _ _ _ _ _ => pts_nil)
        (fun _ _ _ _ _ => pe_cal cT hr1 (by rfl) pass0 (pa_cons (pe_ix (r := rIxT K) ix_tup (pv 10) pe_int (fun _ _ => rfl)) (pa_cons (pe_ix (r := rIxT K) ix_tup (pv 10) pe_int (fun _ _ => rfl)) (pa_cons (pv 2) pa_nil))))))
      (pss_cons (ps_set (i := 9) sc_law_right.nd rfl (Or.inl rfl) (pe_cmpR (op_eqD hr.units) (pe_lc (own := [("_law_term_here", 11)]) (g := gName 11) rfl sc_law_right.nd (pi_list (pv 8))
        (blkOk_by (N := nRight) (sc := defScope s_law_right) (by decide +kernel)) (fun _ _ _ _ _ => pg_name (i := 11) sc_law_right.nd rfl (Or.inl rfl)) (fun _ _ _ _ _ => pts_one (pt_cmpR op_ne (pv 11) (pe_ix (r := rIxL K) ix_list (pv 8) pe_int (fun _ _ => rfl)) (nomark _)))
        (fun _ _ _ _ _ => pv 11)) (pe_lst pa_nil) (nomark _)))
      (pss_one (ps_ret (pe_cmpR op_eq (pe_callB call_reprO (by rfl) (M.no bR) (by decide +kernel) (pa_cons (pv 7) pa_nil))
        (pe_callB call_reprO (by rfl) (M.no bR) (by decide +kernel) (pa_cons (pe_ifExp (pt_val (pv 9)) (pe_ix ix_list (pv 8) pe_int (fun _ _ => rfl)) pe_non) pa_nil)) (nomark _))))))), ?_⟩
    have hb : 0 < b := by have := ba.1; omega
    have hd : 0 < d := by have := bc.1; omega
    refine ⟨_, rfl, t, _, rfl, ht, rfl, ⟨_, _, rfl, ⟨_, _, rfl, ⟨_, _, rfl, ⟨_, _, rfl, rfl, ?_⟩⟩⟩⟩⟩
    refine ⟨_, rfl, _, rfl, _, rfl, _, rfl, _, rfl, x, y, .str m, li, hi, rfl, .inl ⟨m, a, b, c, d, rfl, hm, fx, fy, ba.sl.1, ba.sl.2, bc.sl.1, bc.sl.2, .inl ⟨rg, fun H1 s1 => ?_⟩⟩⟩
    refine ⟨_, rfl, _, rfl, _, rfl, _, rfl, _, rfl, p, n, x, y, a, b, c, d, li, hi, rfl, pu.keep s1, hn, fx.keep (.of s1), fy.keep (.of s1), ba, bc, rg, fun l xs fs H2 bt2 pu2 el nlp al xl ins => ?_⟩
    -- the terms
    have tl : ∀ f ∈ fs, ∀ t, setM m a b c d li hi = some t → termM m f.1 f.2 = t := fun f hf t e => plain_told hm hb hd ins e f hf
    obtain ⟨ts, ets⟩ : ∃ ts : List Int, ts = fs.map fun f => termM m f.1 f.2 := ⟨_, rfl⟩
    have len : xs.length = ts.length := by rw [ets, List.length_map]; exact al.len
    refine ⟨l, rfl, ⟨_, SqL.of el⟩, fun D nD => lc_list (K := K) (a := l) (xs := xs) (fun i G => Same H2 G ∧ G D = some (.lst ((ts.take i).map V.int))) ⟨Same.new nD, upd_same⟩ (fun i G _ h => SqL.of (h.1 _ _ el)) ?_ ?_⟩
    · rintro i v G hv ⟨sG, eD⟩
      obtain ⟨f, hf, ⟨tp, rfl, hp⟩, f0, f1, f2⟩ := AllP.get al hv
      have hp' := (Still.of sG).seqT hp
      refine ⟨rfl, iteT (B := Same H2 G ∧ G D = some (.lst ((ts.take (i + 1)).map V.int))) ?_⟩
      refine ⟨_, rfl, _, _, _, _, rfl, rfl, hp', rfl, _, rfl, _, _, _, _, rfl, rfl, hp', rfl, _, rfl, f.1, f.2, m, rfl, hm, f0, f2, ?_⟩
      have hi : ts[i]? = some (termM m f.1 f.2) := by rw [ets, List.getElem?_map, hf]; rfl
      refine ⟨_, eD, ?_, (fun b o e => by rw [upd_ne (ne_of_none e nD)]; exact sG _ _ e), ?_⟩
      · rw [List.length_map, sizeLine_eq]
        have := List.length_take_le' i ts
        omega
      · rw [upd_same, take_map_succ hi]
    · rintro G ⟨sG, eD⟩
      rw [len, List.take_length] at eD
      -- those that part
      have ne : ts ≠ [] := by rw [ets]; intro z; exact ins.some_ (List.map_eq_nil_iff.mp z)
      obtain ⟨t0, r, e0⟩ : ∃ t0 r, ts = t0 :: r := by
        cases ts with
        | nil => exact absurd rfl ne
        | cons t0 r => exact ⟨t0, r, rfl⟩
      have at0 : atI (ts.map V.int) 0 = some (V.int t0) := by rw [e0]; exact at_of (j := 0) rfl rfl
      refine ⟨_, rfl, D, rfl, ⟨_, SqL.of eD⟩, fun D2 nD2 => lc_list (K := K) (a := D) (xs := ts.map V.int) (fun i J => Same G J ∧ J D2 = some (.lst (((ts.take i).filter fun x => decide (x ≠ t0)).map V.int))) ⟨Same.new nD2, upd_same⟩ (fun i J _ h => SqL.of (h.1 _ _ eD)) ?_ ?_⟩
      · rintro i v J hv ⟨sJ, eJ⟩
        rw [List.getElem?_map] at hv
        cases hx : ts[i]? with
        | none =>
          rw [hx] at hv
          cases hv
        | some x =>
          rw [hx] at hv
          cases hv
          have tk : (ts.take (i + 1)).filter (fun x => decide (x ≠ t0)) = (ts.take i).filter (fun x => decide (x ≠ t0)) ++ (if x ≠ t0 then [x] else []) := by
            rw [List.take_add_one, hx, List.filter_append]
            congr 1
            by_cases z : x = t0
            · rw [if_neg (by simpa using z)]
              simp [z]
            · rw [if_pos z]
              simp [z]
          refine ⟨rfl, _, rfl, _, rfl, _, _, _, _, rfl, rfl, SqL.of (sJ _ _ eD), at0, rfl, _, rfl, ?_⟩
          by_cases z : x = t0
          · have e1 : decide (V.int x = V.int t0) = true := decide_eq_true (by rw [z])
            rw [e1]
            refine iteF ⟨sJ, ?_⟩
            rw [tk, if_neg (by simpa using z), List.append_nil]
            exact eJ
          · have e1 : decide (V.int x = V.int t0) = false := decide_eq_false fun y => z (V.int.inj y)
            rw [e1]
            refine iteT ⟨_, rfl, _, eJ, ?_, (fun b o e => by rw [upd_ne (ne_of_none e nD2)]; exact sJ _ _ e), ?_⟩
            · have h1 := List.length_filter_le (fun x => decide (x ≠ t0)) (ts.take i)
              have h2 := List.length_take_le' i ts
              rw [List.length_map, sizeLine_eq]
              omega
            · rw [upd_same, tk, if_pos z, List.map_append]
              rfl
      · rintro J ⟨sJ, eJ⟩
        rw [List.length_map, List.take_length] at eJ
        refine ⟨Nat.zero_le _, fun l3 nl3 => ?_⟩
        have s3 := Same.new (o := HO.lst []) nl3
        refine ⟨_, _, .lst (SqL.of (s3 _ _ eJ)) (dp_ints _), .lst (SqL.of upd_same) .nil, ints_shaped _, (by simp [SeqAt.shaped, PyData.canLay0, PyData.canLayAll0, PyData.depth, PyData.depthAll]), ?_⟩
        rw [ints_eqv_nil]
        have fin := right_end e0 (o := setM m a b c d li hi) (fun t e x hx => by
          rw [ets] at hx
          obtain ⟨f, hf, rfl⟩ := List.mem_map.mp hx
          exact tl f hf t e) (fun e => by
          obtain ⟨f, hf, g, hg, hne⟩ := plain_none hm ba bc rg ins e
          exact ⟨_, by rw [ets]; exact List.mem_map.mpr ⟨f, hf, rfl⟩, _, by rw [ets]; exact List.mem_map.mpr ⟨g, hg, rfl⟩, hne⟩)
        have small : ∀ i, setM m a b c d li hi = some i → i.natAbs.log2 < 1920 := fun i e => by
          have h0 : t0 ∈ ts := by rw [e0]; exact List.mem_cons_self
          rw [ets] at h0
          obtain ⟨f, hf, hft⟩ := List.mem_map.mp h0
          have := tl f hf i e
          obtain ⟨j, hj⟩ := List.getElem?_of_mem hf
          have hxj : j < xs.length := by rw [al.len]; exact (List.getElem?_eq_some_iff.mp hj).1
          obtain ⟨f', hf', _, f0, f1, f2⟩ := AllP.get (i := j) al (List.getElem?_eq_some_iff.mpr ⟨hxj, rfl⟩)
          rw [hj] at hf'
          cases hf'
          rw [← this]
          exact log_sm (term_sm hm f0 f1 f2)
        have D3 : upd J l3 (.lst []) D = some (.lst (ts.map V.int)) := s3 _ _ (sJ _ _ eD)
        have btE : But p H _ := ((((But.of s1).trans bt2).trans (But.of sG)).trans (But.of sJ)).trans (But.of s3)
        have puE := ((pu2.keep sG).keep sJ).keep s3
        refine ⟨_, rfl, setM m a b c d li hi, rfl, small, ?_⟩
        refine ⟨_, rfl, _, rfl, ?_⟩
        revert fin small
        generalize setM m a b c d li hi = o
        intro fin small
        cases he : (ts.filter fun x => decide (x ≠ t0)).isEmpty with
        | true =>
          rw [he] at fin
          have fin' : o = some t0 := fin
          refine iteT ⟨_, rfl, D, _, 0, _, rfl, rfl, SqL.of D3, at0, some t0, rfl, fun i e => small i (fin'.trans e), rfl, ?_⟩
          rw [fin', decide_eq_true rfl]
          exact q _ btE puE
        | false =>
          rw [he] at fin
          have fin' : o = none := fin
          refine iteF ⟨none, rfl, (fun i e => by cases e), rfl, ?_⟩
          rw [fin', decide_eq_true rfl]
          exact q _ btE puE
end K26
set_option maxHeartbeats 4000000
namespace K26
open PySem L2
/-! ### defs that are called where no guarded call (repr, ==) runs: what is around them is told (A.guards) -/
structure FnG (P : Program) (w : World) (K : PySem.W.Frag) (mg : Str → Option Value) (base : Heap) (k : Nat) (f : Addr) (fd : FuncData) (ps : List Str) (sp : Sp) : Prop where
  len : ∀ vs H Q E, sp vs H Q E → vs.length = ps.length
  run : ∀ (A : Around) (outer : List Env) (s : Shared) (H : Hp) (args : Args) (us : List Value) (vs : List V) (Q : VK), A.guards = some [] → Room k A → Env0 P w K mg base A outer s H → BindsTo s fd args (ps.zip us) → Vals vs us → sp vs H Q E0 →
    codeAny (model P w) A (.call (.ref f) args) (CR CX0 outer P w H s Q E0) s
section
variable {P : Program} {w : World} {K : PySem.W.Frag} {mg : Str → Option Value} {base : Heap}
theorem okG {x qual : Str} {st : Stmt} {f : Addr} {fd : FuncData} {N ps : List Str} {k : Nat} {sp : Sp} (F : Fun K x qual st f fd) (S : FnScope N ps (defScope st)) (len : ∀ vs H Q E, sp vs H Q E → vs.length = ps.length)
    (body : ∀ (cdv : Value) (A : Around) (outer : List Env) (s : Shared) (H : Hp) (vs : List V) (Q : VK), (A.deeper (PyProof.Rows.envOfC qual (defScope st) s.heap.objs.size f cdv)).guards = some [] → Room k (A.deeper (PyProof.Rows.envOfC qual (defScope st) s.heap.objs.size f cdv)) → sp vs H Q E0 →
      ∃ t, PSs (cxOf CX0 P w K mg base N qual (defScope st) f cdv A outer s H E0).nox (defBody st) t ∧ t { nx := fun _ H' => Q .non H', rt := Q } (start N vs) H) : FnG P w K mg base (k + 1) f fd ps sp := by
  obtain ⟨oc, od, kV, doc, pm, an, cdv, ct, osl, rfl, lk, hcd⟩ := F.ex
  refine ⟨len, fun A outer s H args us vs Q gu room env bind rel want => ?_⟩
  have bk : ∀ b o, base.get? b = some o → s.heap.get? b = some o := fun b o e => (env.bs b o e).1
  have kin : K.In s.heap := env.mod.kin.keeps bk
  have kinds : ∀ y ∈ ps.zip us, (defScope st).names.lookup y.1 = some .local ∨ ((defScope st).names.lookup y.1 = some .cell ∧ ((PySem.cellsFrom (s.heap.objs.size + 1) (defScope st).names []).lookup y.1).isSome = true) := by
    rintro ⟨n, v⟩ hy
    refine (S.par n (List.of_mem_zip hy).1).imp id fun q => ⟨q, PySem.W.cellsFrom_some _ _ _ (.inl q)⟩
  refine codeAny_call_function room.depth (kin _ _ lk) rfl S.co S.gen rfl (PySem.W.codeRec_of kin hcd) (bind _ _ _ _ ?_)
  refine PySem.wpAny_newFunctionEnv_cells S.kind kinds fun nv he s1 fresh => ?_
  subst he
  refine ⟨(env.mod.nolimit.keeps bk).keeps fresh.toInCall.keep, codeAny_func ?_⟩
  obtain ⟨t, der, rd⟩ := body cdv A outer s H vs Q gu (room.deeper _) want
  have J : Inv (cxOf CX0 P w K mg base N qual (defScope st) f cdv A outer s H E0) [] (start N vs) H s1 := inv_start S room.hd env (len _ _ _ _ want) rel fresh
  refine wpAny_mono (der.nox.run [] s1 (start N vs) H _ J rd) (fun fl s' out => ?_) fun _ _ out => out
  have done : ∀ {σ' : St} {H' : Hp} {v : V} {u : Value}, Inv (cxOf CX0 P w K mg base N qual (defScope st) f cdv A outer s H E0) [] σ' H' s' → RelV v u → Q v H' → CE outer P w H s Q u s' :=
    fun {_ H' v _} G rv q => ⟨v, H', G.os, G.bare, G.base, G.hok, rv, q⟩
  match fl, out with
  | .ret _, ⟨_, _, _, G, rv, q⟩ => exact done G rv q
  | .next, ⟨_, _, G, q⟩ => exact done (v := V.non) (u := Value.none) G rfl q
  | .brk, ⟨_, _, _, q⟩ => exact q.elim
  | .cont, ⟨_, _, _, q⟩ => exact q.elim
end
structure CalG (P : Program) (w : World) (K : PySem.W.Frag) (mg : Str → Option Value) (base : Heap) (x : Str) (k : Nat) (ps : List Str) (sp : Sp) : Prop where
  ex : ∃ (f : Addr) (fd : FuncData), FnG P w K mg base k f fd ps sp ∧ mg x = some (.ref f) ∧ PySem.W.keepIn K (.ref f) = true ∧ Binds K fd ps []
section
variable {X : Cx} {k : Nat} {ps : List Str} {sp : Sp} {x : Str} {p pos : Pos} {e : Expr} {es : List Expr} {t : TA}
theorem pe_calG (c : CalG X.prog X.w X.K X.mg X.base x k ps sp) (gu : X.A.guards = some []) (hr : Room k X.A) (hg : Gl X x) (ha : PA X (e :: es) t)
    (hdb : (x == ("__debug__" : Str)) = false := by decide) (h1 : starEach (e :: es) X.env = (false, eval e X.env) :: starEach es X.env := by rfl) (h2 : (backTo pos (starEach es X.env)).any (·.1) = false := by rfl) :
    PE X (.Call (.Name x p) (e :: es) [] pos) (tCall sp [] E0 t) := by
  obtain ⟨f, fd, F, hm, hk, hb⟩ := c.ex
  refine ⟨fun pins s σ H Q I want => ?_⟩
  refine wpAny_Call_Name_kw (ld_glob I hg hm ?_ hdb)
  refine PySem.W.callWith_K (h₀ := X.base) I.ok.mod.kin hk (thn (ha.run pos pins s σ H _ I want) fun us s1 ⟨vs, H1, I1, rel, q⟩ => ⟨I1.kIn, ?_⟩) h1 h2
  show wpAny _ _ (call (.ref f) us) _ _ _
  have q' : sp vs H1 Q E0 := by
    have z : sp (vs ++ []) H1 Q E0 := q
    rw [List.append_nil] at z
    exact z
  have hl : us.length = ps.length := by rw [← rel.length]; exact F.len _ _ _ _ q'
  have bi := hb s1 us I1.kIn (by rw [List.append_nil]; exact hl)
  rw [List.append_nil] at bi
  refine wpAny_call (codeAny_mono (F.run X.A X.stack s1 H1 ⟨us, []⟩ us vs Q gu hr I1.env0 bi rel q') fun r s' out => ?_)
  match r, out with
  | .ok (.ret _), out => exact I1.after out
end
/-! ### repr of data -/
/-- a thing without parts -/
def atomD : V → Option PyData
  | .non => some .none
  | .bl b => some (.bool b)
  | .int i => some (.int i)
  | .str s => some (.str s)
  | _ => none
def keyD : Key → PyData
  | .inl i => .int i
  | .inr s => .str s
/-- x is the data d: without dicts, or a dict of plain things -/
def Rp (K : PySem.W.Frag) (H : Hp) (x : V) (d : PyData) : Prop :=
  (Dp K H x d ∧ d.hasDict = false) ∨ ∃ (a : Addr) (kvs : List (Key × V)) (ds : List PyData), x = .ref a ∧ H a = some (.dK kvs) ∧ kvs.map (fun kv => atomD kv.2) = ds.map some ∧ d = .dict ((kvs.map fun kv => keyD kv.1).zip ds)
section
variable {X : Cx} {pins : List (Addr × Obj)} {σ : St} {H : Hp} {s : Shared}
theorem atom_reads {h : Heap} {v : V} {u : Value} {d : PyData} (r : RelV v u) (e : atomD v = some d) : Reads h u d [] := by
  cases v with
  | non => cases e; cases r; exact .none
  | bl b => cases e; cases r; exact .bool b
  | int i => cases e; obtain ⟨t, rfl⟩ := r; exact .int i t
  | str x => cases e; obtain ⟨t, rfl⟩ := r; exact .str x t
  | byt _ => cases e
  | flt _ => cases e
  | ref _ => cases e
  | ty _ => cases e
theorem pairs_reads {P : Program} {w : World} {h : Heap} : ∀ {es : List DictEntry} {kvs : List (Key × V)} {vs : List (Key × Value)} {ds : List PyData}, KV kvs vs → Pairs (mixKind P w) es vs → kvs.map (fun kv => atomD kv.2) = ds.map some →
    ∃ as bs, ReadsAll h (es.map (·.key)) (((kvs.map fun kv => keyD kv.1).zip ds).map (·.1)) as ∧ ReadsAll h (es.map (·.val)) (((kvs.map fun kv => keyD kv.1).zip ds).map (·.2)) bs ∧ as = [] ∧ bs = []
  | _, _, _, [], .nil, .nil, _ => ⟨_, _, .nil, .nil, rfl, rfl⟩
  | _, _, _, _ :: _, .nil, .nil, e => by cases e
  | _, _, _, [], .cons _ _, .cons _ _ _, e => by cases e
  | _, (k, v) :: kvs, _, d :: ds, .cons r rs, .cons hk hv hs, e => by
    have e1 := List.cons.inj e
    obtain ⟨as, bs, h1, h2, ea, eb⟩ := pairs_reads (h := h) rs hs e1.2
    obtain ⟨rk, rv⟩ := r
    subst ea eb
    refine ⟨[] ++ [], [] ++ [], .cons ?_ h1, .cons ?_ h2, rfl, rfl⟩
    · dsimp only
      rcases keyIs_shape hk with ⟨i, t, z1, z2⟩ | ⟨x, t, z1, z2⟩
      · rw [z2]
        have : k = Sum.inl i := rk.trans z1
        subst this
        exact .int i t
      · rw [z2]
        have : k = Sum.inr x := rk.trans z1
        subst this
        exact .str x t
    · dsimp only
      rw [hv]
      exact atom_reads rv e1.1
theorem Rp.reads (I : Inv X pins σ H s) {x : V} {u : Value} {d : PyData} (h : Rp X.K H x d) (r : RelV x u) : ∃ as, Reads s.heap u d as ∧ (d.hasDict = true → sysModules ∉ as) := by
  rcases h with ⟨hd, nd⟩ | ⟨a, kvs, ds, rfl, ea, ev, rfl⟩
  · obtain ⟨as, q⟩ := Dp.reads I d x u hd r
    exact ⟨as, q, fun z => by rw [nd] at z; cases z⟩
  · cases r
    obtain ⟨_, ns, vs, kv, o, es, ep, ho, ex, hdt, _, hp, _⟩ := (show ObjOk X.prog X.w H s.heap a (.dK kvs) from I.hok a _ ea)
    obtain ⟨as, bs, h1, h2, z1, z2⟩ := pairs_reads (h := s.heap) kv hp ev
    refine ⟨_, Reads.dict ho ex.1 hdt h1 h2, fun _ hm => ?_⟩
    subst z1 z2
    have : sysModules = a := by simpa using hm
    rw [← this] at ns
    simp at ns
def rRepr (K : PySem.W.Frag) : List V → Hp → VK → Prop := fun xs H Q => ∃ (x : V) (d : PyData), xs = [x] ∧ Rp K H x d ∧ d.showable = true ∧ d.depth ≤ 60 ∧ d.shown.length ≤ sizeLine ∧ Q (.str d.shown) H
theorem call_reprD (gu : X.A.guards = some []) (hu : X.A.units + 64 < cLine) : CallR X (.builtin "repr") (rRepr X.K) := by
  intro pins s σ H xs us Q I r h
  obtain ⟨x, d, rfl, hx, hs, hdp, hz, q⟩ := h
  obtain ⟨u, rfl, ru⟩ := vals1 r
  obtain ⟨as, rd, hsm⟩ := hx.reads I ru
  have fin : ∀ (t : Tok) (h' : Heap) (tk : Nat), (∀ b o, s.heap.get? b = some o → h'.get? b = some o) → EP X pins σ Q (.str d.shown t) { s with heap := h', toks := tk } := fun t h' tk kp => ⟨.str d.shown, H, I.kept (t' := tk) kp, ⟨t, rfl⟩, q⟩
  cases rd with
  | none =>
    have e : (PyData.none).shown = ("None" : Str) := by simp only [PyData.shown]
    rw [e] at fin
    exact PySem.P.repr_of_none (fin _ s.heap _ fun _ _ z => z)
  | bool b =>
    have e : (PyData.bool b).shown = if b then ("True" : Str) else ("False" : Str) := by simp only [PyData.shown]
    rw [e] at fin
    refine PySem.P.repr_of_bool ?_
    have z := fin s.toks s.heap (s.toks + 1) fun _ _ z => z
    cases b <;> exact z
  | int i t =>
    have e : (PyData.int i).shown = (toString i : Str) := by simp only [PyData.shown]
    rw [e] at fin
    exact PySem.P.repr_of_int (by simpa [PyData.showable] using hs) (fin _ s.heap _ fun _ _ z => z)
  | str x t =>
    have e : (PyData.str x).shown = reprText x := by simp only [PyData.shown]
    rw [e] at fin hz
    exact PySem.P.repr_of_str (fin _ s.heap _ fun _ _ z => z) hz
  | list h1 h2 h3 h4 => exact repr_of_reads' (.list h1 h2 h3 h4) hs hsm gu (by omega) (fun _ _ z => z) (fun h' t tk kp => fin t h' tk kp) hz
  | tuple h1 h2 h3 h4 => exact repr_of_reads' (.tuple h1 h2 h3 h4) hs hsm gu (by omega) (fun _ _ z => z) (fun h' t tk kp => fin t h' tk kp) hz
  | dict h1 h2 h3 h4 h5 => exact repr_of_reads' (.dict h1 h2 h3 h4 h5) hs hsm gu (by omega) (fun _ _ z => z) (fun h' t tk kp => fin t h' tk kp) hz
end
end K26
set_option maxHeartbeats 4000000
namespace K26
open PySem L2
/-! ### try: body / except A as n: .. / except B as n: .. / .. where one of the clauses takes whatever the body lets out -/
def backTo_ (D : Ends) (i : Nat) : Ends := { nx := fun σ' H' => D.nx (σ'.set i none) H', rt := D.rt, bk := fun σ' H' => D.bk (σ'.set i none) H', ct := fun σ' H' => D.ct (σ'.set i none) H' }
def wAses (K : PySem.W.Frag) (i : Nat) (D : Ends) : List (Value × (Addr → Value → Option Addr → TS)) → WX
  | [] => fun _ _ _ _ => False
  | (c, ts) :: r => fun cls d σ H => ∃ b, PySem.W.exmOne K cls c = some b ∧ (b = true → ∀ a, H a = none → ts a cls d (backTo_ D i) (σ.set i (some (.ref a))) H) ∧ (b = false → wAses K i D r cls d σ H)
inductive HdsAs (X : Cx) (n : Str) : List ExceptHandler → List (Value × (Addr → Value → Option Addr → TS)) → Prop
  | nil : HdsAs X n [] []
  | cons {x : Str} {c : Value} {ts : Addr → Value → Option Addr → TS} {b₀ : Stmt} {suite : List Stmt} {np hp : Pos} {hds : List ExceptHandler} {l : List (Value × (Addr → Value → Option Addr → TS))} (hc : Names X x c)
      (hsu : ∀ (a : Addr) (oe : Obj) (cls : Value) (d : Option Addr) (pn : List (Addr × Obj)), Zc cls d oe → (∃ vs, oe.data = .fields vs) → PSs (X.suite a ((a, oe) :: pn)) (b₀ :: suite) (ts a cls d)) (r : HdsAs X n hds l) :
      HdsAs X n (.ExceptHandler (some (.Name x np)) (some n) (b₀ :: suite) hp :: hds) ((c, ts) :: l)
section
variable {X : Cx} {n : Str} {i : Nat} {body : List Stmt} {h₀ : ExceptHandler} {hds : List ExceptHandler} {l : List (Value × (Addr → Value → Option Addr → TS))} {pos : Pos} {tb : WX → TS}
/-- the exception stands on the ground at h3: the clauses are asked, one behind another -/
theorem clauses {pins : List (Addr × Obj)} {σ : St} {H : Hp} {D : Ends} {a : Addr} {B : Heap} {cls : Value} {d : Option Addr} {sI s' : Shared} {h3 : Heap} (ok : X.Ok) (hf : X.env.frame = some X.env.locals) (hN : X.N.Nodup) (hi : X.N[i]? = some n) (hln : X.env.kindOf n = some .local)
    (J : Inv X pins σ H sI) (nb : ∀ b o, sI.heap.get? b = some o → b ∉ frs X.stack → B.get? b = some o) (up : sI.heap.UpToSlots s'.heap) (os : s'.os = sI.os) (ag : PyProof.Rows.AllBare s'.gens) (na : H a = none) (hs : X.stack = X.env :: X.outer)
    (fl : HandSPX.FlyingZ B (X.env :: X.outer) a (Zc cls d) h3) (up3 : s'.heap.UpToSlots h3) {hds : List ExceptHandler} {l : List (Value × (Addr → Value → Option Addr → TS))} (hk : HdsAs X n hds l) :
    wAses X.K i D l cls d σ H → wpAny (model X.prog X.w) X.A (handleBy (.ref a) X.env hds) (SP X pins D) X.xe { s' with heap := h3 } := by
  have apart : ∀ {h : Heap} {o : Obj} {vs : Array Value}, h.FunFrames B (X.env :: X.outer) → h.get? a = some o → o.data = .fields vs → a ∉ frs (X.env :: X.outer) := by
    intro h o vs ff e dd hm
    obtain ⟨_, o', e', hnf⟩ := ff.mem hm
    rw [e] at e'
    cases e'
    exact hnf _ dd
  obtain ⟨oe3, vs3, he3, hz3, hd3⟩ := fl.there
  have far1 := apart fl.2.2.1 he3 hd3
  have nL : a ≠ X.env.locals := fun z => far1 (List.mem_filterMap.mpr ⟨X.env, List.mem_cons_self, by rw [hf, z]⟩)
  have nF : a ∉ X.fs := fun hm => by
    obtain ⟨e, he, q⟩ := List.mem_filterMap.mp hm
    exact far1 (List.mem_filterMap.mpr ⟨e, List.mem_cons_of_mem _ he, q⟩)
  have J3 : Inv X pins σ H { s' with heap := h3 } := J.landed nb fl.1 (up.trans up3) os ag
  have S3 := J3.suite he3 hd3 na nL nF
  induction hk with
  | nil => exact fun w => w.elim
  | @cons x c ts b₀ suite np hp hds2 l2 hc hsu _ ih =>
    rintro ⟨b, hb, yes, no⟩
    refine wpAny_handleBy_cons (codeAny_handlers_test ?_) (fun q => by cases q)
    have ty : PySem.W.Looks (model X.prog X.w) h3 (typeOf (.ref a)) cls := fun A Q E s k q => wpAny_typeOf_ref (k _ _ he3) (by rw [hz3.1]; exact q)
    have lk := PySem.W.exm_one (M := model X.prog X.w) J3.kIn ty hb
    have name : ∀ {Q : Value → Shared → Prop} {E : Value → Shared → Prop}, Q c { s' with heap := h3 } → wpAny (model X.prog X.w) (X.A.mark (some (.ref a))) (eval (.Name x np) X.env) Q E { s' with heap := h3 } := by
      intro Q E q
      obtain ⟨hg, hdbg, hm | ⟨hm, hv, hnn⟩⟩ := hc
      · exact ld_glob (X := X.suite a ((a, oe3) :: (X.pn ++ pins))) S3 hg hm q hdbg
      · exact ld_blt (X := X.suite a ((a, oe3) :: (X.pn ++ pins))) S3 hg hm hv q hnn hdbg
    refine name (lk.here ?_)
    cases b with
    | false =>
      show wpAny _ X.A (handleBy (.ref a) X.env hds2) _ _ _
      exact ih (no rfl)
    | true =>
      refine codeAny_handlers_suite_as (HandSPX.lands_againZ fl fun h4 fl4 up4 => ?_)
      obtain ⟨oe4, vs4, he4, hz4, hd4⟩ := fl4.there
      have J4 : Inv X pins σ H { s' with heap := h4 } := J.landed nb fl4.1 ((up.trans up3).trans up4) os ag
      refine store_ok (X := X.suite a ((a, oe4) :: (X.pn ++ pins))) (v := .ref a) (J4.suite he4 hd4 na nL nF) hN hi (.inl hln) rfl (fun s5 S5 => ?_) (.inr hln)
      refine wpAny_mono ((hsu a oe4 cls d (X.pn ++ pins) hz4 ⟨_, hd4⟩).run [] s5 _ H _ S5 (yes rfl a na)) (fun f s6 out => ?_) fun _ _ z => z.elim
      have away : ∀ {σ6 : St} {H6 : Hp} {Q : Shared → Prop}, Inv (X.suite a ((a, oe4) :: (X.pn ++ pins))) [] σ6 H6 s6 → (∀ s7, Inv X pins (σ6.set i none) H6 s7 → Q s7) →
          wpAny (model X.prog X.w) X.A (do bindName X.env n .none; unbindBehindTheSuite X.env n hp) (fun _ s7 => Q s7) X.xe s6 := fun S6 hq => gone_ok (S6.unsuite ok) hN hi hln hq
      match f, out with
      | .next, ⟨_, _, S6, q6⟩ => exact away S6 fun s7 J7 => ⟨_, _, J7, q6⟩
      | .brk, ⟨_, _, S6, q6⟩ => exact away S6 fun s7 J7 => ⟨_, _, J7, q6⟩
      | .cont, ⟨_, _, S6, q6⟩ => exact away S6 fun s7 J7 => ⟨_, _, J7, q6⟩
      | .ret _, ⟨_, _, _, S6, r6, q6⟩ => exact away S6 fun s7 J7 => ⟨_, _, _, J7, r6, q6⟩
theorem ps_try_ases (hs : X.stack = X.env :: X.outer) (hf : X.env.frame = some X.env.locals) (hN : X.N.Nodup) (hi : X.N[i]? = some n) (hln : X.env.kindOf n = some .local)
    (hb : ∀ (W : WX) (pn : List (Addr × Obj)) (xe : Value → Shared → Prop), Takes (X.tr pn xe) W → PassesOwn (model X.prog X.w) X.A X.env xe → PSs (X.tr pn xe) body (tb W))
    (hh : HdsAs X n (h₀ :: hds) l) : PS X (.Try body (h₀ :: hds) [] [] pos) (fun D σ H => tb (wAses X.K i D l) D σ H) := by
  refine ⟨fun pins s σ H D I want => wpAny_Try_except ?_⟩
  have ok := I.ok
  have frm : X.A.frames = some (X.env :: X.outer) := by rw [ok.frames, hs]
  refine wpAny_mono ((hb (wAses X.K i D l) (X.pn ++ pins) (fun e s₁ => wpAny (model X.prog X.w) X.A (noteFrame e X.env) (fun _ s₂ => wpAny (model X.prog X.w) X.A (setFlight e none) (fun _ s₃ =>
    wpAny (model X.prog X.w) X.A (handleBy e X.env (h₀ :: hds)) (SP X pins D) X.xe s₃) X.xe s₂) X.xe s₁) (fun u s' air => ?_) PassesOwn.looking).run [] s σ H D (I.toTry _) want) (fun f s1 out => ?_) fun _ _ z => z
  · obtain ⟨a, B, sI, pins', σ', H', cls, d, rfl, J', nb, up, sky, na, os, ag, w⟩ := air
    have sky' : Sky B (X.env :: X.outer) a (Zc cls d) X.env.locals s'.heap := by rw [← hs]; exact sky
    show wpAny (model X.prog X.w) X.A (noteFrame (.ref a) X.env) _ _ _
    exact Sky.land Zc.steady frm hf sky' fun h3 fl3 up3 => clauses ok hf hN hi hln (J'.ofTry ok) nb up os ag na hs fl3 up3 hh w
  · match f, out with
    | .next, ⟨_, _, G, q⟩ => exact wpAny_execs_nil ⟨_, _, G.ofTry ok, q⟩
    | .brk, ⟨_, _, G, q⟩ => exact ⟨_, _, G.ofTry ok, q⟩
    | .cont, ⟨_, _, G, q⟩ => exact ⟨_, _, G.ofTry ok, q⟩
    | .ret _, ⟨_, _, _, G, r, q⟩ => exact ⟨_, _, _, G.ofTry ok, r, q⟩
end
/-! ### f(e, .., k = v) where what is raised is wished for at the caller's slots -/
def tCallNS (n m : Nat) (sp : Sp) (gV : List V → List V → List V) (E : St → XK) (t tk : TA) : TE := fun σ H Q => t σ H fun vs H1 => tk σ H1 fun zs H2 => vs.length = n ∧ zs.length = m ∧ sp (gV vs zs) H2 Q (E σ)
section
variable {X : Cx} {CX : CXT} {k n : Nat} {f : Addr} {fd : FuncData} {ps ks : List Str} {sp : Sp} {E : St → XK} {x : Str} {p pos : Pos} {e : Expr} {es : List Expr} {kws : List Keyword} {t tk : TA} {g : List Value → List Value → List Value} {gV : List V → List V → List V}
theorem pe_callNS (F : FnOk X.prog X.w X.K X.mg X.base CX k f fd ps sp) (hr : Room k X.A) (hg : Gl X x) (hm : X.mg x = some (.ref f)) (hk : PySem.W.keepIn X.K (.ref f) = true) (hb : KBn X.K fd ps n ks g gV) (hx : ∀ σ, PassesAt CX X σ (E σ))
    (ha : PA X (e :: es) t) (hkw : PK X kws tk) (hall : (backToKw pos (keywordEach kws X.env)).all (·.1.isSome) = true := by rfl) (hks : (backToKw pos (keywordEach kws X.env)).filterMap (·.1) = ks := by rfl)
    (hdb : (x == ("__debug__" : Str)) = false := by decide) (he : starEach (e :: es) X.env = (false, eval e X.env) :: starEach es X.env := by rfl)
    (hpl : ((backTo pos (starEach (e :: es) X.env)).any (·.1) || (backToKw pos (keywordEach kws X.env)).any (·.1.isNone)) = false := by rfl) :
    PE X (.Call (.Name x p) (e :: es) kws pos) (tCallNS n ks.length sp gV E t tk) := by
  refine ⟨fun pins s σ H Q I want => wpAny_Call_Name_kw (ld_glob I hg hm ?_ hdb)⟩
  refine PySem.W.callWith_KW (h₀ := X.base) I.ok.mod.kin hk hall (thn (ha.run pos pins s σ H _ I want) fun us s1 ⟨vs, H1, I1, r, q⟩ => ?_) hpl he
  refine thn (hkw.run pos pins s1 σ H1 _ I1 q) fun ws s2 ⟨zs, H2, I2, rz, l1, l2, q2⟩ => ⟨I2.kIn, ?_⟩
  rw [hks]
  refine wpAny_call (codeAny_mono (F.run X.A X.stack s2 H2 ⟨us, ks.zip ws⟩ (g us ws) (gV vs zs) Q (E σ) hr I2.env0 (hb.to s2 us ws I2.kIn (r.length.symm.trans l1) (rz.length.symm.trans l2)) (hb.rel r rz) q2) fun o s' out => ?_)
  match o, out with
  | .error u, out => exact hx σ pins H2 s2 u s' I2 out
  | .ok (.ret _), out => exact I2.after out
end
/-! ### isinstance(e, C) of the caught one, which has a dict -/
section
variable {X : Cx} {a D : Addr} {oe : Obj} {cls : Value} {d : Option Addr} {pn : List (Addr × Obj)}
def rIsX (K : PySem.W.Frag) (D a : Addr) (cls : Value) (d : Option Addr) : List V → Hp → VK → Prop := fun xs H Q => ∃ (c dd : Addr) (fs : List (Str × V)) (b : Bool), xs = [.ref a, .ref c] ∧ cls = .ref D ∧ d = some dd ∧ H dd = some (.xd fs) ∧ PySem.W.kitOne K (.ref D) (.ref c) = some b ∧ Q (.bl b) H
theorem call_isX (ic : (PySem.W.clsIn X.K D).isSome = true) (xf : XfC X.K D) (cl : PySem.W.findIn X.K (.ref D) "__class__" = some (some (.builtin "object.__class__"))) (mo : PySem.W.mroIn X.K D (.type "object") = some true)
    (gd : PySem.W.specialIn X.K (.builtin "object.__class__") "__get__" = some (some (.builtin "getset_descriptor.__get__"))) (tk : PySem.W.takesIn X.K (.builtin "object.__class__") = some true)
    (hz : Zc cls d oe) (hf : ∃ vs, oe.data = .fields vs) : CallR (X.suite a ((a, oe) :: pn)) (.builtin "isinstance")
      (rIsX X.K D a cls d) := by
  intro pins s σ H xs us Q I r h
  obtain ⟨c, dd, fs, b, rfl, rfl, rfl, ed, e, q⟩ := h
  obtain ⟨u1, u2, rfl, r1, r2⟩ := vals2 r
  cases r1
  cases r2
  obtain ⟨ha, _⟩ := I.pin (a, oe) (List.mem_append.mpr (.inl List.mem_cons_self))
  obtain ⟨vs, hv⟩ := hf
  obtain ⟨mA, hns, _⟩ := (show ObjOk X.prog X.w H s.heap dd (.xd fs) from I.hok dd _ ed)
  obtain ⟨od, ho⟩ : ∃ od, s.heap.get? dd = some od := by
    obtain ⟨o, _, _, h1, _⟩ := hns
    exact ⟨o, h1⟩
  have J : PySem.W.InstAt s.heap a oe D (some od) := ⟨ha, hz.1, by unfold PySem.W.notCls; rw [hv] <;> rfl, by rw [hz.2]; exact ho⟩
  exact PySem.W.kia_one (PySem.W.kitx_exc ic xf.ga xf.gg xf.exC cl gd tk mo) I.kIn J e (fun z => nomatch z) fun t => ⟨.bl b, H, I.tok t, rfl, q⟩
end
end K26
set_option maxHeartbeats 4000000
namespace K26
open PySem L2
variable {P : Program} {w : World} {K : PySem.W.Frag} {mg : Str → Option Value} {base : Heap} {C0 C1 C2 C3 M1 M2 M3 : Addr}
theorem exm_is {C : Addr} {cls : Value} {b : Bool} (ox : OexC K C) (ic : (PySem.W.clsIn K C).isSome = true) (h : PySem.W.subIn K cls (.ref C) = some b) : PySem.W.exmOne K cls (.ref C) = some b := by
  unfold PySem.W.exmOne
  rw [if_pos (by rw [ox.exC]; rfl)]
  unfold PySem.W.kitCls
  dsimp only
  rw [if_pos (by rw [ic, ox.tyC]; rfl)]
  exact h
theorem kit_is {C0 D : Addr} (ic : (PySem.W.clsIn K C0).isSome = true) (ty : PySem.W.typeIn K (.ref C0) = some (.type "type")) (h : PySem.W.subIn K (.ref D) (.ref C0) = some true) : PySem.W.kitOne K (.ref D) (.ref C0) = some true := by
  unfold PySem.W.kitOne
  split
  · rfl
  · unfold PySem.W.kitCls
    dsimp only
    rw [if_pos (by rw [ic, ty]; rfl)]
    exact h
/-- what the clauses of _law_asked need of the classes -/
structure Cls3 (K : PySem.W.Frag) (C0 C1 C2 C3 : Addr) : Prop where
  x1 : Xc K "NoFraction" "NoFraction.__init__" s_NoFraction_init C0 C1
  x2 : Xc K "NoManner" "NoManner.__init__" s_NoManner_init C0 C2
  x3 : Xc K "NoBounds" "NoBounds.__init__" s_NoBounds_init C0 C3
  m12 : PySem.W.subIn K (.ref C1) (.ref C2) = some false
  m31 : PySem.W.subIn K (.ref C3) (.ref C1) = some false
  m32 : PySem.W.subIn K (.ref C3) (.ref C2) = some false
  ic0 : (PySem.W.clsIn K C0).isSome = true
  ty0 : PySem.W.typeIn K (.ref C0) = some (.type "type")
  gd : PySem.W.specialIn K (.builtin "object.__class__") "__get__" = some (some (.builtin "getset_descriptor.__get__"))
  tk : PySem.W.takesIn K (.builtin "object.__class__") = some true
def tClause (K : PySem.W.Frag) (C0 C : Addr) (wd : Str) : Addr → Value → Option Addr → TS := fun a cls d =>
  tRet (tLst (tCons (tC (.str wd)) (tCons (tXf a cls d C "found" (tVar 5)) (tCons (tCB (rIsX K C a cls d) (tCons (tVar 5) (tCons (tC (.ref C0)) tNil))) tNil))))
def lClauses (K : PySem.W.Frag) (C0 C1 C2 C3 : Addr) : List (Value × (Addr → Value → Option Addr → TS)) := [(.ref C2, tClause K C0 C2 "mode"), (.ref C1, tClause K C0 C1 "fraction"), (.ref C3, tClause K C0 C3 "bounds")]
def spAsked (K : PySem.W.Frag) : Sp := fun vs H Q _ => ∃ (x y m : V) (li hi : Bool), vs = [x, .bl li, y, .bl hi, m] ∧
  ((BadM K H m ∧ ∀ p H', Same H H' → H' p = some (.lst [.str "mode", m, .bl true]) → Q (.ref p) H') ∨
   (∃ s : Str, m = .str s ∧ Mode s ∧ (NotFr K H x ∧ ∀ p H', Same H H' → H' p = some (.lst [.str "fraction", x, .bl true]) → Q (.ref p) H')) ∨
   (∃ (s : Str) (a b : Int), m = .str s ∧ Mode s ∧ Fra K H x a b ∧ (NotFr K H y ∧ ∀ p H', Same H H' → H' p = some (.lst [.str "fraction", y, .bl true]) → Q (.ref p) H')) ∨
   (∃ (s : Str) (a b c d : Int), m = .str s ∧ Mode s ∧ Fra K H x a b ∧ Fra K H y c d ∧ Sl a ∧ Sl b ∧ Sl c ∧ Sl d ∧ ¬ Rng a b c d li hi ∧
      ∀ t p H', Same H H' → H' t = some (.tup [x, y]) → H' p = some (.lst [.str "bounds", .ref t, .bl true]) → Q (.ref p) H'))
abbrev nAsked : List Str := ["_law_low", "_law_low_in", "_law_high", "_law_high_in", "_law_mode", "e"]
theorem sc_law_asked : FnScope nAsked ["_law_low", "_law_low_in", "_law_high", "_law_high_in", "_law_mode"] (defScope s_law_asked) := ⟨rfl, rfl, rfl, by decide +kernel, rfl, by decide +kernel, by decide +kernel⟩
/-- a suite's end: the answer's list -/
theorem clause_end {C : Addr} {x : V} {wd : Str} {H : Hp} {D : Ends} {σ : St} {a d' : Addr} {H' : Hp} (k0 : PySem.W.kitOne K (.ref C) (.ref C0) = some true) (e : H' d' = some (.xd [("found", x)])) (h5 : σ[5]? = some (some (.ref a)))
    (k : ∀ p, H' p = none → D.rt (.ref p) (upd H' p (.lst [.str wd, x, .bl true]))) : tClause K C0 C wd a (.ref C) (some d') D σ H' := by
  have lk : List.lookup ("found" : Str) [(("found" : Str), x)] = some x := by simp [List.lookup]
  refine ⟨_, h5, rfl, rfl, d', [("found", x)], x, rfl, e, lk, _, h5, C0, d', [("found", x)], true, rfl, rfl, rfl, e, k0, (by show 3 ≤ sizeLine; decide), fun p np => k p np⟩
theorem ok_law_asked (M : Mgs K mg) (S : Sup K mg C0) (D : Df K "_law_asked" s_law_asked) (B : Cls3 K C0 C1 C2 C3) (bI : PySem.W.nsIn K mainGlobals "isinstance" = some none) (cS : CalS P w K mg base 6 (spSettled K C1 C2 C3)) :
    Cal P w K mg base CX0 "_law_asked" 7 ["_law_low", "_law_low_in", "_law_high", "_law_high_in", "_law_mode"] (spAsked K) := by
  obtain ⟨f, fd, hf, F⟩ := D
  obtain ⟨fs, fds, FS, ms, ks, _, _, kb⟩ := cS.ex
  refine ⟨f, fd, F.ok sc_law_asked (fun vs H Q E h => ?_) (fun cdv A outer s H vs Q E hr h => ?_), M.of hf, F.kp, F.binds fun _ _ _ _ _ _ us hl => match us, hl with | [_, _, _, _, _], _ => rfl⟩
  · obtain ⟨x, y, m, li, hi, rfl, _⟩ := h
    rfl
  · obtain ⟨x, y, m, li, hi, rfl, hx⟩ := h
    refine ⟨_, pss_one (ps_try_ases (i := 5) (n := "e") (l := lClauses K C0 C1 C2 C3)
      (tb := fun W => tRet (tLst (tCons (tC (.str "told")) (tCons (tCallNS 4 1 (spSettled K C1 C2 C3) (fun vs zs => vs ++ zs) (WE W) (tCons (tVar 0) (tCons (tVar 1) (tCons (tVar 2) (tCons (tVar 3) tNil)))) (tCons (tVar 4) tNil)) tNil)))) rfl rfl sc_law_asked.nd rfl rfl
      (fun W pn xe tk _ => pss_one (ps_ret (pe_lst (pa_cons pe_str (pa_cons (pe_callNS FS hr (by rfl) ms ks kb (fun σ => passAt tk σ) (pa_cons (pv 0) (pa_cons (pv 1) (pa_cons (pv 2) (pa_cons (pv 3) pa_nil)))) (pk_cons (pv 4) pk_nil)) pa_nil)))))
      (HdsAs.cons ⟨rfl, by decide, .inl (M.of B.x2.aC)⟩ (fun a oe cls d pn hz hf => by exact (pss_one (ps_ret (pe_lst (pa_cons pe_str (pa_cons (pe_xf B.x2.xf B.x2.nf hz hf (pv 5)) (pa_cons (pe_callB (call_isX B.x2.ic B.x2.xf B.x2.cl B.x2.mo B.gd B.tk hz hf) (by rfl) (M.no bI) (by decide +kernel) (pa_cons (pv 5) (pa_cons (pe_glob (v := .ref C0) (by rfl) S.m rfl) pa_nil))) pa_nil)))))))
      (HdsAs.cons ⟨rfl, by decide, .inl (M.of B.x1.aC)⟩ (fun a oe cls d pn hz hf => by exact (pss_one (ps_ret (pe_lst (pa_cons pe_str (pa_cons (pe_xf B.x1.xf B.x1.nf hz hf (pv 5)) (pa_cons (pe_callB (call_isX B.x1.ic B.x1.xf B.x1.cl B.x1.mo B.gd B.tk hz hf) (by rfl) (M.no bI) (by decide +kernel) (pa_cons (pv 5) (pa_cons (pe_glob (v := .ref C0) (by rfl) S.m rfl) pa_nil))) pa_nil)))))))
      (HdsAs.cons ⟨rfl, by decide, .inl (M.of B.x3.aC)⟩ (fun a oe cls d pn hz hf => by exact (pss_one (ps_ret (pe_lst (pa_cons pe_str (pa_cons (pe_xf B.x3.xf B.x3.nf hz hf (pv 5)) (pa_cons (pe_callB (call_isX B.x3.ic B.x3.xf B.x3.cl B.x3.mo B.gd B.tk hz hf) (by rfl) (M.no bI) (by decide +kernel) (pa_cons (pv 5) (pa_cons (pe_glob (v := .ref C0) (by rfl) S.m rfl) pa_nil))) pa_nil)))))))
      HdsAs.nil)))), ?_⟩
    have e22 := exm_is B.x2.ox B.x2.ic B.x2.ss
    have e12 := exm_is B.x2.ox B.x2.ic B.m12
    have e32 := exm_is B.x2.ox B.x2.ic B.m32
    have e11 := exm_is B.x1.ox B.x1.ic B.x1.ss
    have e31 := exm_is B.x1.ox B.x1.ic B.m31
    have e33 := exm_is B.x3.ox B.x3.ic B.x3.ss
    have k1 := kit_is B.ic0 B.ty0 B.x1.s0
    have k2 := kit_is B.ic0 B.ty0 B.x2.s0
    have k3 := kit_is B.ic0 B.ty0 B.x3.s0
    have frac : ∀ (v : V) (σ : St) (D : Ends), σ.length = 6 → D.rt = Q → (∀ p H', Same H H' → H' p = some (.lst [.str "fraction", v, .bl true]) → Q (.ref p) H') → spRaise C1 v H (WE (wAses K 5 D (lClauses K C0 C1 C2 C3)) σ) := fun v σ D hl hD k d' H' sH nd e => by
      refine ⟨false, e12, (fun z => by cases z), fun _ => ⟨true, e11, fun _ a na => ?_, fun z => by cases z⟩⟩
      refine clause_end (H := H) k1 e (by rw [List.getElem?_set_self (by omega)]) fun p np => ?_
      show D.rt _ _
      rw [hD]
      exact k p _ (sH.trans (Same.new np)) upd_same
    refine ⟨_, rfl, _, rfl, _, rfl, _, rfl, _, rfl, rfl, rfl, x, y, m, li, hi, rfl, ?_⟩
    rcases hx with ⟨bad, k⟩ | ⟨z, rfl, hz, nf, k⟩ | ⟨z, a, b, rfl, hz, fx, nf, k⟩ | ⟨z, a, b, c, d, rfl, hz, fx, fy, sa, sb, sc, sd, nr, k⟩
    · refine .inr (.inl ⟨bad, fun d' H' sH nd e => ⟨true, e22, fun _ a na => ?_, fun z => by cases z⟩⟩)
      exact clause_end (H := H) k2 e rfl fun p np => k p _ (sH.trans (Same.new np)) upd_same
    · exact .inr (.inr (.inl ⟨z, rfl, hz, nf, frac x _ _ rfl rfl k⟩))
    · exact .inr (.inr (.inr ⟨z, a, b, rfl, hz, fx, nf, frac y _ _ rfl rfl k⟩))
    · refine .inl ⟨z, a, b, c, d, rfl, hz, fx, fy, sa, sb, sc, sd, .inr ⟨nr, fun t d' H' sH et e => ⟨false, e32, (fun z => by cases z), fun _ => ⟨false, e31, (fun z => by cases z), fun _ => ⟨true, e33, fun _ a na => ?_, fun z => by cases z⟩⟩⟩⟩⟩
      exact clause_end (H := H) k3 e rfl fun p np => k t p _ (sH.trans (Same.new np)) (Same.new np _ _ et) upd_same
end K26
set_option maxHeartbeats 4000000
namespace K26
open PySem L2
variable {P : Program} {w : World} {K : PySem.W.Frag} {mg : Str → Option Value} {base : Heap} {C0 C1 C2 C3 M1 M2 M3 : Addr}
/-! ### data that is shown: sizes -/
theorem list_len (ts : List Str) : (listText ts).length ≤ piled ts + 2 := by
  have hX : (listText ts).length = (textFrom 0 "[" ts).length + 1 := by
    show (textFrom 0 "[" ts ++ "]").length = _
    rw [strLen_append]; rfl
  cases ts with
  | nil => rw [hX]; decide
  | cons t r =>
    have hY : (textFrom 0 "[" (t :: r)).length = (textFrom 1 (("[" : Str) ++ (if (0 : Nat) > 0 then ", " else "" : String) ++ t) r).length := rfl
    rw [hX, hY, textFrom_length_pos r 1 _ (by decide), strLen_append, strLen_append, piled_cons]
    have e1 : (Str.ofString "[").length = 1 := by decide +kernel
    have e2 : (Str.ofString (if (0 : Nat) > 0 then ", " else "")).length = 0 := by decide +kernel
    have e1' : ("[" : Str).length = 1 := e1
    omega
theorem tup_len (ts : List Str) : (tupleText ts).length ≤ piled ts + 3 := by
  unfold tupleText
  rw [strLen_append, strLen_append]
  have e1 : (Str.ofString "(").length = 1 := by decide +kernel
  have e2 : (Str.ofString (if (ts.length == 1) = true then ",)" else ")")).length ≤ 2 := by
    split <;> decide +kernel
  have e3 : (Str.join ", " ts).length ≤ piled ts := by
    cases ts with
    | nil => decide +kernel
    | cons t r =>
      have := join_length_add (t :: r) (by simp)
      omega
  omega
structure Its (ds : List PyData) (n : Nat) : Prop where
  sh : PyData.showableAll ds = true
  nd : PyData.hasDictAll ds = false
  dp : PyData.depthAll ds ≤ 9
  sz : piled (PyData.shownAll ds) ≤ 5000 + 10 * n
theorem shAll_app : ∀ xs ys : List PyData, PyData.showableAll (xs ++ ys) = (PyData.showableAll xs && PyData.showableAll ys)
  | [], ys => by simp [PyData.showableAll]
  | x :: xs, ys => by
    rw [List.cons_append]
    simp only [PyData.showableAll, shAll_app xs ys, Bool.and_assoc]
theorem ndAll_app : ∀ xs ys : List PyData, PyData.hasDictAll (xs ++ ys) = (PyData.hasDictAll xs || PyData.hasDictAll ys)
  | [], ys => by simp [PyData.hasDictAll]
  | x :: xs, ys => by
    rw [List.cons_append]
    simp only [PyData.hasDictAll, ndAll_app xs ys, Bool.or_assoc]
theorem dpAll_app : ∀ xs ys : List PyData, PyData.depthAll (xs ++ ys) = max (PyData.depthAll xs) (PyData.depthAll ys)
  | [], ys => by simp [PyData.depthAll]
  | x :: xs, ys => by
    rw [List.cons_append]
    simp only [PyData.depthAll, dpAll_app xs ys, Nat.max_assoc]
theorem shown_app : ∀ xs ys : List PyData, PyData.shownAll (xs ++ ys) = PyData.shownAll xs ++ PyData.shownAll ys
  | [], ys => by simp [PyData.shownAll]
  | x :: xs, ys => by
    rw [List.cons_append]
    simp only [PyData.shownAll, shown_app xs ys, List.cons_append]
theorem Its.mono {ds : List PyData} {n m : Nat} (h : Its ds n) (k : n ≤ m) : Its ds m := ⟨h.sh, h.nd, h.dp, by have := h.sz; omega⟩
theorem more_len : (reprText "more").length = 6 := by decide +kernel
theorem Its.more {ds : List PyData} {n : Nat} (h : Its ds n) : Its (ds ++ [.str "more"]) (n + 1) := by
  refine ⟨?_, ?_, ?_, ?_⟩
  · rw [shAll_app, h.sh]
    simp [PyData.showableAll, PyData.showable]
  · rw [ndAll_app, h.nd]
    simp [PyData.hasDictAll, PyData.hasDict]
  · rw [dpAll_app]
    have := h.dp
    simp only [PyData.depthAll, PyData.depth]
    omega
  · rw [shown_app, piled_append]
    simp only [PyData.shownAll, PyData.shown, piled_cons, piled_nil]
    have := h.sz
    have := more_len
    omega
theorem Its.lst {ds : List PyData} {n : Nat} (h : Its ds n) (hn : n ≤ 1000) : (PyData.list ds).showable = true ∧ (PyData.list ds).hasDict = false ∧ (PyData.list ds).depth ≤ 60 ∧ (PyData.list ds).shown.length ≤ sizeLine := by
  refine ⟨by simpa only [PyData.showable] using h.sh, by simpa only [PyData.hasDict] using h.nd, by have := h.dp; simp only [PyData.depth]; omega, ?_⟩
  simp only [PyData.shown]
  have := list_len (PyData.shownAll ds)
  have := h.sz
  rw [sizeLine_eq]
  omega
theorem Its.tup {ds : List PyData} {n : Nat} (h : Its ds n) (hn : n ≤ 1000) : (PyData.tuple ds).showable = true ∧ (PyData.tuple ds).hasDict = false ∧ (PyData.tuple ds).depth ≤ 60 ∧ (PyData.tuple ds).shown.length ≤ sizeLine := by
  refine ⟨by simpa only [PyData.showable] using h.sh, by simpa only [PyData.hasDict] using h.nd, by have := h.dp; simp only [PyData.depth]; omega, ?_⟩
  simp only [PyData.shown]
  have := tup_len (PyData.shownAll ds)
  have := h.sz
  rw [sizeLine_eq]
  omega
/-! ### a heap without what stands at a -/
def hide (H : Hp) (a : Addr) : Hp := fun b => if b = a then none else H b
theorem hide_sub (H : Hp) (a : Addr) : Same (hide H a) H := fun b o e => by
  unfold hide at e
  split at e
  · cases e
  · exact e
theorem hide_upd (H : Hp) (a : Addr) (o : HO) : hide (upd H a o) a = hide H a := by
  funext b
  unfold hide
  by_cases h : b = a
  · rw [if_pos h, if_pos h]
  · rw [if_neg h, if_neg h, upd_ne h]
theorem hide_same {H H' : Hp} (s : Same H H') (a : Addr) : Same (hide H a) (hide H' a) := fun b o e => by
  unfold hide at e ⊢
  split at e
  · cases e
  · rename_i h
    rw [if_neg h]
    exact s _ _ e
theorem hide_but {H H' : Hp} {p : Addr} (s : But p H H') : Same (hide H p) (hide H' p) := fun b o e => by
  unfold hide at e ⊢
  split at e
  · cases e
  · rename_i h
    rw [if_neg h]
    exact s _ _ h e
mutual
theorem Dp.keep {H H' : Hp} (s : Same H H') : ∀ {v : V} {d : PyData}, Dp K H v d → Dp K H' v d
  | _, _, .non => .non
  | _, _, .bl b => .bl b
  | _, _, .int i => .int i
  | _, _, .str x => .str x
  | _, _, .lst h r => .lst (s.seq h) (DpAll.keep s r)
  | _, _, .tup h r => .tup ((Still.of s).seqT h) (DpAll.keep s r)
theorem DpAll.keep {H H' : Hp} (s : Same H H') : ∀ {vs : List V} {ds : List PyData}, DpAll K H vs ds → DpAll K H' vs ds
  | _, _, .nil => .nil
  | _, _, .cons h r => .cons (Dp.keep s h) (DpAll.keep s r)
end
theorem dpAll_app' {H : Hp} : ∀ {vs us : List V} {ds es : List PyData}, DpAll K H vs ds → DpAll K H us es → DpAll K H (vs ++ us) (ds ++ es)
  | _, _, _, _, .nil, s => s
  | _, _, _, _, .cons h r, s => .cons h (dpAll_app' r s)
/-! ### the odd things -/
def dBase : List (List (Key × V)) := [[], [(.inr "a", .int 1)], [(.inl 7, .non)]]
def dMore : Key × V := (.inr "more", .int 1)
inductive Odd (K : PySem.W.Frag) (H : Hp) (n : Nat) : V → Prop
  | atom {x : V} {d : PyData} (e : atomD x = some d) (hs : d.showable = true) (hz : d.shown.length ≤ sizeLine) : Odd K H n x
  | lst {a : Addr} {xs : List V} {ds : List PyData} (e : H a = some (.lst xs)) (hd : DpAll K (hide H a) xs ds) (it : Its ds n) (hl : xs.length ≤ 100 + n) : Odd K H n (.ref a)
  | tup {a : Addr} {xs : List V} {ds : List PyData} (e : H a = some (.tup xs)) (hd : DpAll K H xs ds) (it : Its ds n) (nf : NotFr K H (.ref a)) : Odd K H n (.ref a)
  | dct {a : Addr} {kvs : List (Key × V)} (e : H a = some (.dK kvs)) (hk : kvs ∈ dBase ∨ kvs ∈ dBase.map (· ++ [dMore])) : Odd K H n (.ref a)
theorem Odd.keep {H H' : Hp} {n : Nat} {x : V} (s : Same H H') (h : Odd K H n x) : Odd K H' n x := by
  cases h with
  | atom e hs hz => exact .atom e hs hz
  | lst e hd it hl => exact .lst (s _ _ e) (DpAll.keep (hide_same s _) hd) it hl
  | tup e hd it nf => exact .tup (s _ _ e) (DpAll.keep s hd) it (nf.keep s)
  | dct e hk => exact .dct (s _ _ e) hk
theorem Odd.mono {H : Hp} {n m : Nat} {x : V} (h : Odd K H n x) (k : n ≤ m) : Odd K H m x := by
  cases h with
  | atom e hs hz => exact .atom e hs hz
  | lst e hd it hl => exact .lst e hd (it.mono k) (by omega)
  | tup e hd it nf => exact .tup e hd (it.mono k) nf
  | dct e hk => exact .dct e hk
theorem Odd.there {H : Hp} {n : Nat} {a : Addr} (h : Odd K H n (.ref a)) : H a ≠ none := by
  cases h with
  | atom e hs hz => cases e
  | lst e hd it hl => rw [e]; simp
  | tup e hd it nf => rw [e]; simp
  | dct e hk => rw [e]; simp
theorem k_nt : kitB "NoneType" "tuple" = some false := by decide +kernel
theorem k_bt : kitB "bool" "tuple" = some false := by decide +kernel
theorem k_it : kitB "int" "tuple" = some false := by decide +kernel
theorem k_st : kitB "str" "tuple" = some false := by decide +kernel
theorem k_lt : kitB "list" "tuple" = some false := by decide +kernel
theorem k_dt : kitB "dict" "tuple" = some false := by decide +kernel
theorem Odd.nf {H : Hp} {n : Nat} {x : V} (h : Odd K H n x) : NotFr K H x := by
  cases h with
  | @atom _ d e hs hz =>
    cases x with
    | non => exact .ty (.base .non) k_nt
    | bl b => exact .ty (.base (.bl b)) k_bt
    | int i => exact .ty (.base (.int i)) k_it
    | str s => exact .ty (.base (.str s)) k_st
    | byt _ => cases e
    | flt _ => cases e
    | ref _ => cases e
    | ty _ => cases e
  | lst e hd it hl => exact .ty (.base (.lst e)) k_lt
  | tup e hd it nf => exact nf
  | dct e hk => exact .ty (.base (.dK e)) k_dt
/-- what _law_very does to x -/
def Eff (x : V) (H H' : Hp) : Prop := H' = H ∨ ∃ (a : Addr) (o o' : HO), x = .ref a ∧ H a = some o ∧ (∀ xs, o ≠ .tup xs) ∧ (∀ ob u, o ≠ .frz ob u) ∧ H' = upd H a o'
theorem Eff.still {x : V} {H H' : Hp} (e : Eff x H H') : Still H H' := by
  rcases e with rfl | ⟨a, o, o', rfl, ea, h1, h2, rfl⟩
  · exact Still.refl _
  · exact But.still But.upd ea h1 h2
theorem Eff.but {a : Addr} {H H' : Hp} (e : Eff (.ref a) H H') : But a H H' := by
  rcases e with rfl | ⟨b, o, o', eb, ea, h1, h2, rfl⟩
  · exact But.refl _ _
  · cases eb
    exact But.upd
theorem Eff.at {x : V} {H H' : Hp} {l : Addr} {o : HO} (e : Eff x H H') (n : x ≠ .ref l) (h : H l = some o) : H' l = some o := by
  rcases e with rfl | ⟨b, o1, o', rfl, ea, h1, h2, rfl⟩
  · exact h
  · rw [upd_ne (fun z => n (by rw [z]))]
    exact h
/-! ### _law_very -/
def VeryP (K : PySem.W.Frag) (f x : V) (H : Hp) (Q : VK) : Prop :=
  (f = x ∧ ∃ n, Odd K H n x ∧ n ≤ 500 ∧ ∀ H', Eff x H H' → Odd K H' (n + 1) x → Q (.bl true) H') ∨
  (∃ (a b : Addr) (xs ys : List V) (ds : List PyData) (n : Nat), f = .ref a ∧ x = .ref b ∧ H a = some (.tup xs) ∧ H b = some (.tup ys) ∧ DpAll K H xs ds ∧ DpAll K H ys ds ∧ Its ds n ∧ n ≤ 500 ∧ Q (.bl true) H)
def spVery (K : PySem.W.Frag) : Sp := fun vs H Q _ => ∃ f x : V, vs = [f, x] ∧ VeryP K f x H Q
theorem sc_law_very : FnScope ["_law_found", "_law_thing"] ["_law_found", "_law_thing"] (defScope s_law_very) := ⟨rfl, rfl, rfl, by decide +kernel, rfl, by decide +kernel, by decide +kernel⟩
theorem kll : kitB "list" "list" = some true := by decide +kernel
theorem kld : kitB "list" "dict" = some false := by decide +kernel
theorem kdl : kitB "dict" "list" = some false := by decide +kernel
theorem kdd : kitB "dict" "dict" = some true := by decide +kernel
theorem ktl : kitB "tuple" "list" = some false := by decide +kernel
theorem ktd : kitB "tuple" "dict" = some false := by decide +kernel
theorem atom_ty {x : V} {d : PyData} (H : Hp) (e : atomD x = some d) : ∃ t : String, TyX K H x (.type t) ∧ kitB t "list" = some false ∧ kitB t "dict" = some false := by
  cases x with
  | non => exact ⟨_, .base .non, by decide +kernel, by decide +kernel⟩
  | bl b => exact ⟨_, .base (.bl b), by decide +kernel, by decide +kernel⟩
  | int i => exact ⟨_, .base (.int i), by decide +kernel, by decide +kernel⟩
  | str s => exact ⟨_, .base (.str s), by decide +kernel, by decide +kernel⟩
  | byt _ => cases e
  | flt _ => cases e
  | ref _ => cases e
  | ty _ => cases e
theorem atom_dp {x : V} {d : PyData} (H : Hp) (e : atomD x = some d) : Dp K H x d ∧ d.hasDict = false ∧ d.depth = 0 := by
  cases x with
  | non => cases e; exact ⟨.non, by simp only [PyData.hasDict], by simp only [PyData.depth]⟩
  | bl b => cases e; exact ⟨.bl b, by simp only [PyData.hasDict], by simp only [PyData.depth]⟩
  | int i => cases e; exact ⟨.int i, by simp only [PyData.hasDict], by simp only [PyData.depth]⟩
  | str s => cases e; exact ⟨.str s, by simp only [PyData.hasDict], by simp only [PyData.depth]⟩
  | byt _ => cases e
  | flt _ => cases e
  | ref _ => cases e
  | ty _ => cases e
/-- the six dicts, with the data that they show -/
def dData : List (List PyData) := [[], [.int 1], [.none]]
theorem d_base {kvs : List (Key × V)} (h : kvs ∈ dBase ∨ kvs ∈ dBase.map (· ++ [dMore])) :
    putK kvs (.inr "more") (.int 1) ∈ dBase.map (· ++ [dMore]) ∧ kvs.length < sizeLine := by
  have key : kvs ∈ dBase ++ dBase.map (· ++ [dMore]) := by
    rcases h with h | h
    · exact List.mem_append_left _ h
    · exact List.mem_append_right _ h
  simp only [dBase, List.map_cons, List.map_nil, List.cons_append, List.nil_append, List.mem_cons, List.not_mem_nil, or_false] at key
  rcases key with rfl | rfl | rfl | rfl | rfl | rfl
  · exact ⟨List.mem_map.mpr ⟨[], List.mem_cons_self, by kernel_rfl⟩, by rw [sizeLine_eq]; decide⟩
  · exact ⟨List.mem_map.mpr ⟨[(.inr "a", .int 1)], (List.mem_cons_of_mem _ List.mem_cons_self), by kernel_rfl⟩, by rw [sizeLine_eq]; decide⟩
  · exact ⟨List.mem_map.mpr ⟨[(.inl 7, .non)], (List.mem_cons_of_mem _ (List.mem_cons_of_mem _ List.mem_cons_self)), by kernel_rfl⟩, by rw [sizeLine_eq]; decide⟩
  · exact ⟨List.mem_map.mpr ⟨[], List.mem_cons_self, by kernel_rfl⟩, by rw [sizeLine_eq]; decide⟩
  · exact ⟨List.mem_map.mpr ⟨[(.inr "a", .int 1)], (List.mem_cons_of_mem _ List.mem_cons_self), by kernel_rfl⟩, by rw [sizeLine_eq]; decide⟩
  · exact ⟨List.mem_map.mpr ⟨[(.inl 7, .non)], (List.mem_cons_of_mem _ (List.mem_cons_of_mem _ List.mem_cons_self)), by kernel_rfl⟩, by rw [sizeLine_eq]; decide⟩
theorem d_shown {kvs : List (Key × V)} (h : kvs ∈ dBase ∨ kvs ∈ dBase.map (· ++ [dMore])) :
    ∃ ds : List PyData, kvs.map (fun kv => atomD kv.2) = ds.map some ∧ (PyData.dict ((kvs.map fun kv => keyD kv.1).zip ds)).showable = true ∧ (PyData.dict ((kvs.map fun kv => keyD kv.1).zip ds)).depth ≤ 60 ∧
      (PyData.dict ((kvs.map fun kv => keyD kv.1).zip ds)).shown.length ≤ sizeLine := by
  have key : kvs ∈ dBase ++ dBase.map (· ++ [dMore]) := by
    rcases h with h | h
    · exact List.mem_append_left _ h
    · exact List.mem_append_right _ h
  simp only [dBase, List.map_cons, List.map_nil, List.cons_append, List.nil_append, List.mem_cons, List.not_mem_nil, or_false] at key
  rcases key with rfl | rfl | rfl | rfl | rfl | rfl
  · exact ⟨[], rfl, by decide +kernel, by decide +kernel, by decide +kernel⟩
  · exact ⟨[.int 1], rfl, by decide +kernel, by decide +kernel, by decide +kernel⟩
  · exact ⟨[.none], rfl, by decide +kernel, by decide +kernel, by decide +kernel⟩
  · exact ⟨[.int 1], rfl, by decide +kernel, by decide +kernel, by decide +kernel⟩
  · exact ⟨[.int 1, .int 1], rfl, by decide +kernel, by decide +kernel, by decide +kernel⟩
  · exact ⟨[.none, .int 1], rfl, by decide +kernel, by decide +kernel, by decide +kernel⟩
theorem ok_law_very (M : Mgs K mg) (D : Df K "_law_very" s_law_very) (b1 : PySem.W.nsIn K mainGlobals "isinstance" = some none) (b2 : PySem.W.nsIn K mainGlobals "list" = some none) (b3 : PySem.W.nsIn K mainGlobals "dict" = some none) (b4 : PySem.W.nsIn K mainGlobals "repr" = some none) :
    CalG P w K mg base "_law_very" 1 ["_law_found", "_law_thing"] (spVery K) := by
  obtain ⟨f, fd, hf, F⟩ := D
  refine ⟨f, fd, okG F sc_law_very (fun vs H Q E h => ?_) (fun cdv A outer s H vs Q gu hr h => ?_), M.of hf, F.kp, F.binds fun _ _ _ _ _ _ us hl => match us, hl with | [_, _], _ => rfl⟩
  · obtain ⟨f, x, rfl, _⟩ := h
    rfl
  · obtain ⟨f, x, rfl, hx⟩ := h
    refine ⟨_, pss_cons (ps_if (pt_val (pe_callB call_isi (by rfl) (M.no b1) (by decide +kernel) (pa_cons (pv 1) (pa_cons (pe_bltn (v := .ty "list") (by rfl) (M.no b2) (by decide +kernel) rfl) pa_nil))))
        (pss_one (ps_expr (pe_bm PySem.F.plainAttrs_list PySem.F.slot_list_append PySem.F.type_list_append mt_append (pv 1) (pa_cons pe_str pa_nil)))) pss_nil)
      (pss_cons (ps_if (pt_val (pe_callB call_isi (by rfl) (M.no b1) (by decide +kernel) (pa_cons (pv 1) (pa_cons (pe_bltn (v := .ty "dict") (by rfl) (M.no b3) (by decide +kernel) rfl) pa_nil))))
        (pss_one (ps_dput (hu_of hr) (pv 1) pe_str pe_int rfl)) pss_nil)
      (pss_one (ps_ret (pe_cmpR op_eq (pe_callB (call_reprD gu hr.units) (by rfl) (M.no b4) (by decide +kernel) (pa_cons (pv 0) pa_nil)) (pe_callB (call_reprD gu hr.units) (by rfl) (M.no b4) (by decide +kernel) (pa_cons (pv 1) pa_nil)) (nomark _))))), ?_⟩
    rcases hx with ⟨rfl, n, ho, hn, k⟩ | ⟨a, b, xs, ys, ds, n, rfl, rfl, ea, eb, da, db, it, hn, k⟩
    · cases ho with
      | @atom _ d e hs hz =>
        obtain ⟨t, ty, k1, k2⟩ := atom_ty (K := K) H e
        obtain ⟨dp, nd, dd⟩ := atom_dp (K := K) H e
        refine ⟨_, rfl, _, _, _, _, false, rfl, .ty _, ty, kit_ty k1, false, rfl, iteF ?_⟩
        refine ⟨_, rfl, _, _, _, _, false, rfl, .ty _, ty, kit_ty k2, false, rfl, iteF ?_⟩
        refine ⟨_, rfl, _, d, rfl, .inl ⟨dp, nd⟩, hs, by omega, hz, _, rfl, _, d, rfl, .inl ⟨dp, nd⟩, hs, by omega, hz, rfl, ?_⟩
        rw [decide_eq_true rfl]
        exact k H (.inl rfl) (.atom e hs hz)
      | @lst a xs ds e hd it hl =>
        refine ⟨_, rfl, _, _, _, _, true, rfl, .ty _, .base (.lst e), kit_ty kll, true, rfl, iteT ?_⟩
        refine ⟨_, rfl, .inl ⟨rfl, _, SqL.of e⟩, a, xs, _, rfl, rfl, e, (by rw [sizeLine_eq]; omega), ?_⟩
        have e' : upd H a (.lst (xs ++ [.str "more"])) a = some (.lst (xs ++ [.str "more"])) := upd_same
        have hd' : DpAll K (hide (upd H a (.lst (xs ++ [.str "more"]))) a) (xs ++ [.str "more"]) (ds ++ [.str "more"]) := by
          rw [hide_upd]
          exact dpAll_app' hd (.cons (.str _) .nil)
        have it' := it.more
        obtain ⟨q1, q2, q3, q4⟩ := it'.lst (by omega)
        have dp : Dp K (upd H a (.lst (xs ++ [.str "more"]))) (.ref a) (.list (ds ++ [.str "more"])) := .lst (SqL.of e') (DpAll.keep (hide_sub _ _) hd')
        refine ⟨_, rfl, _, _, _, _, false, rfl, .ty _, .base (.lst e'), kit_ty kld, false, rfl, iteF ?_⟩
        refine ⟨_, rfl, _, _, rfl, .inl ⟨dp, q2⟩, q1, q3, q4, _, rfl, _, _, rfl, .inl ⟨dp, q2⟩, q1, q3, q4, rfl, ?_⟩
        rw [decide_eq_true rfl]
        refine k _ (.inr ⟨a, _, _, rfl, e, (fun z q => by cases q), (fun o u q => by cases q), rfl⟩) (.lst e' hd' it' ?_)
        rw [List.length_append]
        show xs.length + 1 ≤ _
        omega
      | @tup a xs ds e hd it nf =>
        have ty : TyX K H (.ref a) (.type "tuple") := .base (.tup e)
        obtain ⟨q1, q2, q3, q4⟩ := it.tup (by omega)
        have dp : Dp K H (.ref a) (.tuple ds) := .tup (SqT.of' e) hd
        refine ⟨_, rfl, _, _, _, _, false, rfl, .ty _, ty, kit_ty ktl, false, rfl, iteF ?_⟩
        refine ⟨_, rfl, _, _, _, _, false, rfl, .ty _, ty, kit_ty ktd, false, rfl, iteF ?_⟩
        refine ⟨_, rfl, _, _, rfl, .inl ⟨dp, q2⟩, q1, q3, q4, _, rfl, _, _, rfl, .inl ⟨dp, q2⟩, q1, q3, q4, rfl, ?_⟩
        rw [decide_eq_true rfl]
        exact k H (.inl rfl) (.tup e hd (it.mono (Nat.le_succ n)) nf)
      | @dct a kvs e hk =>
        obtain ⟨h1, h2⟩ := d_base hk
        refine ⟨_, rfl, _, _, _, _, false, rfl, .ty _, .base (.dK e), kit_ty kdl, false, rfl, iteF ?_⟩
        refine ⟨_, rfl, _, _, _, _, true, rfl, .ty _, .base (.dK e), kit_ty kdd, true, rfl, iteT ?_⟩
        refine ⟨_, rfl, a, _, rfl, DPut.k (k := .inr "more") e h2, ?_⟩
        have e' : upd H a (.dK (putK kvs (.inr "more") (.int 1))) a = some (.dK (putK kvs (.inr "more") (.int 1))) := upd_same
        obtain ⟨ds, v1, v2, v3, v4⟩ := d_shown (.inr h1)
        have rp : Rp K (upd H a (.dK (putK kvs (.inr "more") (.int 1)))) (.ref a) (.dict (((putK kvs (.inr "more") (.int 1)).map fun kv => keyD kv.1).zip ds)) := .inr ⟨a, _, ds, rfl, e', v1, rfl⟩
        refine ⟨_, rfl, _, _, rfl, rp, v2, v3, v4, _, rfl, _, _, rfl, rp, v2, v3, v4, rfl, ?_⟩
        rw [decide_eq_true rfl]
        exact k _ (.inr ⟨a, _, _, rfl, e, (fun z q => by cases q), (fun o u q => by cases q), rfl⟩) (.dct e' (.inr h1))
    · obtain ⟨q1, q2, q3, q4⟩ := it.tup (by omega)
      have ty : TyX K H (.ref b) (.type "tuple") := .base (.tup eb)
      have dpa : Dp K H (.ref a) (.tuple ds) := .tup (SqT.of' ea) da
      have dpb : Dp K H (.ref b) (.tuple ds) := .tup (SqT.of' eb) db
      refine ⟨_, rfl, _, _, _, _, false, rfl, .ty _, ty, kit_ty ktl, false, rfl, iteF ?_⟩
      refine ⟨_, rfl, _, _, _, _, false, rfl, .ty _, ty, kit_ty ktd, false, rfl, iteF ?_⟩
      refine ⟨_, rfl, _, _, rfl, .inl ⟨dpa, q2⟩, q1, q3, q4, _, rfl, _, _, rfl, .inl ⟨dpb, q2⟩, q1, q3, q4, rfl, ?_⟩
      rw [decide_eq_true rfl]
      exact k
/-! ### _law_refused -/
def spRefused (K : PySem.W.Frag) : Sp := fun vs H Q _ => ∃ (l : Addr) (wd : Str) (f x : V), vs = [.ref l, .str wd, x] ∧ SqL K H l [.str wd, f, .bl true] ∧ VeryP K f x H Q
theorem sc_law_refused : FnScope ["_law_found", "_law_word", "_law_thing"] ["_law_found", "_law_word", "_law_thing"] (defScope s_law_refused) := ⟨rfl, rfl, rfl, by decide +kernel, rfl, by decide +kernel, by decide +kernel⟩
theorem ok_law_refused (M : Mgs K mg) (D : Df K "_law_refused" s_law_refused) (cV : CalG P w K mg base "_law_very" 1 ["_law_found", "_law_thing"] (spVery K)) :
    CalG P w K mg base "_law_refused" 2 ["_law_found", "_law_word", "_law_thing"] (spRefused K) := by
  obtain ⟨f, fd, hf, F⟩ := D
  refine ⟨f, fd, okG F sc_law_refused (fun vs H Q E h => ?_) (fun cdv A outer s H vs Q gu hr h => ?_), M.of hf, F.kp, F.binds fun _ _ _ _ _ _ us hl => match us, hl with | [_, _, _], _ => rfl⟩
  · obtain ⟨l, wd, f, x, rfl, _⟩ := h
    rfl
  · obtain ⟨l, wd, f, x, rfl, hl, k⟩ := h
    refine ⟨_, pss_one (ps_ret (pe_and (pe_cmpR op_eq (pe_ix ix_list (pv 0) pe_int (fun _ _ => rfl)) (pv 1) (nomark _)) (pe_and (pe_cmpR op_isBl (pe_ix ix_list (pv 0) pe_int (fun _ _ => rfl)) pe_bl (nomark _))
      (pe_one (pe_calG cV gu hr (by rfl) (pa_cons (pe_ix ix_list (pv 0) pe_int (fun _ _ => rfl)) (pa_cons (pv 2) pa_nil))))))), ?_⟩
    refine ⟨_, rfl, _, _, _, _, rfl, rfl, hl, rfl, _, rfl, rfl, _, rfl, ?_⟩
    rw [decide_eq_true rfl]
    refine iteT ⟨_, rfl, _, _, _, _, rfl, rfl, hl, rfl, _, _, rfl, rfl, _, rfl, iteT ?_⟩
    exact ⟨_, rfl, _, _, _, _, rfl, rfl, hl, rfl, _, rfl, f, x, rfl, k⟩
end K26
set_option maxHeartbeats 8000000
namespace K26
open PySem L2
variable {P : Program} {w : World} {K : PySem.W.Frag} {mg : Str → Option Value} {base : Heap} {C0 C1 C2 C3 M1 M2 M3 : Addr}
theorem Same.new2 {H : Hp} {p : Addr} {o u : HO} (n : H p = none) : Same H (upd (upd H p o) p u) := fun b v e => by
  rw [upd_ne (ne_of_none e n), upd_ne (ne_of_none e n)]
  exact e
theorem same_end {H H' : Hp} (_ : Same H H') : Same H' H' := Same.refl H'
theorem ne_new {H H' : Hp} {p a : Addr} {o : HO} (s : Same H H') (e : H p = some o) (n : H' a = none) : a ≠ p := fun z => by
  rw [z, s _ _ e] at n
  cases n
theorem hide_at {H : Hp} {a b : Addr} {o : HO} (n : a ≠ b) (e : H a = some o) : hide H b a = some o := by
  unfold hide
  rw [if_neg n]
  exact e
/-! ### _law_odd -/
def spOdd (K : PySem.W.Frag) : Sp := fun vs H Q _ => ∃ (p : Addr) (n : Nat), vs = [.ref p] ∧ Purse H p n ∧ n ≤ 900 ∧ ∀ x H', But p H H' → Purse H' p (n + 1) → (Odd K (hide H' p) 0 x ∨ ∃ i j, Fra K H' x i j) → Q x H'
theorem sc_law_odd : FnScope ["_law_purse_here", "_law_some"] ["_law_purse_here"] (defScope s_law_odd) := ⟨rfl, rfl, rfl, by decide +kernel, rfl, by decide +kernel, by decide +kernel⟩
theorem ok_law_odd (M : Mgs K mg) (D : Df K "_law_odd" s_law_odd) (cT : Cal P w K mg base CX0 "_law_take" 1 ["_law_purse_here", "_law_many"] spTake) : Cal P w K mg base CX0 "_law_odd" 2 ["_law_purse_here"] (spOdd K) := by
  obtain ⟨f, fd, hf, F⟩ := D
  refine ⟨f, fd, F.ok sc_law_odd (fun vs H Q E h => ?_) (fun cdv A outer s H vs Q E hr h => ?_), M.of hf, F.kp, F.binds fun _ _ _ _ _ _ us hl => match us, hl with | [_], _ => rfl⟩
  · obtain ⟨p, n, rfl, _⟩ := h
    rfl
  · obtain ⟨p, n, rfl, pu, hn, q⟩ := h
    refine ⟨_, pss_cons (ps_set (i := 1) sc_law_odd.nd rfl (Or.inl rfl) (pe_lst (pa_cons pe_non (pa_cons pe_bl (pa_cons pe_bl (pa_cons pe_int (pa_cons (pe_un un_neg pe_int) (pa_cons pe_int (pa_cons (pe_op op_pow pe_int pe_int) (pa_cons (pe_un un_neg (pe_op op_pow pe_int pe_int)) (pa_cons pe_str (pa_cons pe_str (pa_cons pe_str (pa_cons pe_str (pa_cons pe_str (pa_cons pe_str (pa_cons (pe_lst pa_nil) (pa_cons (pe_lst (pa_cons pe_int pa_nil)) (pa_cons (pe_lst (pa_cons pe_str pa_nil)) pa_nil)))))))))))))))))))
      (pss_cons (ps_set (i := 1) sc_law_odd.nd rfl (Or.inl rfl) (pe_op op_cat (pv 1) (pe_lst (pa_cons (pe_tup pa_nil) (pa_cons (pe_tup (pa_cons pe_int pa_nil)) (pa_cons (pe_tup (pa_cons pe_int (pa_cons pe_int pa_nil))) (pa_cons (pe_tup (pa_cons pe_int (pa_cons pe_int pa_nil))) (pa_cons (pe_tup (pa_cons pe_int (pa_cons pe_int pa_nil))) (pa_cons (pe_tup (pa_cons pe_int (pa_cons (pe_un un_neg pe_int) pa_nil))) (pa_cons (pe_tup (pa_cons pe_bl (pa_cons pe_int pa_nil))) (pa_cons (pe_lst (pa_cons pe_int (pa_cons pe_int pa_nil))) (pa_cons (pe_tup (pa_cons pe_int (pa_cons pe_int (pa_cons pe_int pa_nil)))) (pa_cons pe_dnewK (pa_cons (pe_disp (pps_cons pe_str pe_int pps_nil) (by rfl) (by rfl) (fun z => by cases z) (by decide)) (pa_cons (pe_disp (pps_cons pe_int pe_non pps_nil) (by rfl) (by rfl) (fun z => by cases z) (by decide)) pa_nil)))))))))))))))
      (pss_one (ps_ret (pe_ix ix_list (pe_op op_cat (pv 1) (pe_lst (pa_cons (pe_lst (pa_cons (pe_lst (pa_cons (pe_lst (pa_cons (pe_lst (pa_cons (pe_lst (pa_cons pe_str pa_nil)) pa_nil)) pa_nil)) pa_nil)) pa_nil)) (pa_cons (pe_tup (pa_cons (pe_tup (pa_cons pe_int (pa_cons pe_int pa_nil))) (pa_cons (pe_tup (pa_cons pe_int (pa_cons pe_int pa_nil))) pa_nil))) pa_nil)))) (pe_cal cT hr (by rfl) pass0 (pa_cons (pv 0) (pa_cons pe_int pa_nil))) (fun _ _ => rfl))))), ?_⟩
    refine ⟨_, rfl, ?_⟩
    refine ⟨_, _, rfl, rfl, ⟨by decide, by decide, by decide⟩, ?_⟩
    refine ⟨_, _, rfl, rfl, ⟨by decide, by decide, by decide⟩, ?_⟩
    refine ⟨_, rfl, ?_⟩
    refine ⟨(by show 0 ≤ sizeLine; decide), fun a0 n0 => ?_⟩
    have s0 : Same _ _ := Same.new (o := HO.lst []) n0
    refine ⟨(by show 1 ≤ sizeLine; decide), fun a1 n1 => ?_⟩
    have s1 : Same _ _ := Same.new (o := HO.lst [.int 1]) n1
    refine ⟨(by show 1 ≤ sizeLine; decide), fun a2 n2 => ?_⟩
    have s2 : Same _ _ := Same.new (o := HO.lst [.str "a"]) n2
    refine ⟨(by show 17 ≤ sizeLine; decide), fun a3 n3 => ?_⟩
    have s3 : Same _ _ := Same.new (o := HO.lst [.non, .bl true, .bl false, .int 0, .int (-1), .int 7, .int ((10 : Int) ^ (29 : Int).toNat), .int (-((10 : Int) ^ (29 : Int).toNat)), .str "", .str "a", .str "7", .str "-3/7", .str "3;7", .str "floor", .ref a0, .ref a1, .ref a2]) n3
    refine ⟨_, rfl, ?_⟩
    refine ⟨(by show 0 ≤ sizeLine; decide), fun a4 n4 => ?_⟩
    have s4 : Same _ _ := Same.new (o := HO.tup []) n4
    refine ⟨(by show 1 ≤ sizeLine; decide), fun a5 n5 => ?_⟩
    have s5 : Same _ _ := Same.new (o := HO.tup [.int 1]) n5
    refine ⟨(by show 2 ≤ sizeLine; decide), fun a6 n6 => ?_⟩
    have s6 : Same _ _ := Same.new (o := HO.tup [.int 3, .int 7]) n6
    refine ⟨(by show 2 ≤ sizeLine; decide), fun a7 n7 => ?_⟩
    have s7 : Same _ _ := Same.new (o := HO.tup [.int 4, .int 2]) n7
    refine ⟨(by show 2 ≤ sizeLine; decide), fun a8 n8 => ?_⟩
    have s8 : Same _ _ := Same.new (o := HO.tup [.int 3, .int 0]) n8
    refine ⟨_, rfl, ?_⟩
    refine ⟨(by show 2 ≤ sizeLine; decide), fun a9 n9 => ?_⟩
    have s9 : Same _ _ := Same.new (o := HO.tup [.int 3, .int (-7)]) n9
    refine ⟨(by show 2 ≤ sizeLine; decide), fun a10 n10 => ?_⟩
    have s10 : Same _ _ := Same.new (o := HO.tup [.bl true, .int 2]) n10
    refine ⟨(by show 2 ≤ sizeLine; decide), fun a11 n11 => ?_⟩
    have s11 : Same _ _ := Same.new (o := HO.lst [.int 3, .int 7]) n11
    refine ⟨(by show 3 ≤ sizeLine; decide), fun a12 n12 => ?_⟩
    have s12 : Same _ _ := Same.new (o := HO.tup [.int 3, .int 7, .int 1]) n12
    refine fun a13 n13 => ?_
    have s13 : Same _ _ := Same.new (o := HO.dK []) n13
    refine fun a14 n14 => ⟨upd_same, [(.inr "a", .int 1)], rfl, by decide, ?_⟩
    have s14 : Same _ _ := Same.new2 (o := HO.dK []) (u := HO.dK (mergeK [] [(.inr "a", .int 1)])) n14
    refine fun a15 n15 => ⟨upd_same, [(.inl 7, .non)], rfl, by decide, ?_⟩
    have s15 : Same _ _ := Same.new2 (o := HO.dK []) (u := HO.dK (mergeK [] [(.inl 7, .non)])) n15
    refine ⟨(by show 12 ≤ sizeLine; decide), fun a16 n16 => ?_⟩
    have s16 : Same _ _ := Same.new (o := HO.lst [.ref a4, .ref a5, .ref a6, .ref a7, .ref a8, .ref a9, .ref a10, .ref a11, .ref a12, .ref a13, .ref a14, .ref a15]) n16
    refine ⟨a3, a16, _, _, rfl, rfl, (s16 _ _ (s15 _ _ (s14 _ _ (s13 _ _ (s12 _ _ (s11 _ _ (s10 _ _ (s9 _ _ (s8 _ _ (s7 _ _ (s6 _ _ (s5 _ _ (s4 _ _ upd_same))))))))))))), upd_same, (by show 17 + 12 ≤ sizeLine; decide), fun a17 n17 => ?_⟩
    have s17 : Same _ _ := Same.new (o := HO.lst ([.non, .bl true, .bl false, .int 0, .int (-1), .int 7, .int ((10 : Int) ^ (29 : Int).toNat), .int (-((10 : Int) ^ (29 : Int).toNat)), .str "", .str "a", .str "7", .str "-3/7", .str "3;7", .str "floor", .ref a0, .ref a1, .ref a2] ++ [.ref a4, .ref a5, .ref a6, .ref a7, .ref a8, .ref a9, .ref a10, .ref a11, .ref a12, .ref a13, .ref a14, .ref a15])) n17
    refine ⟨_, rfl, ?_⟩
    refine ⟨(by show 1 ≤ sizeLine; decide), fun a18 n18 => ?_⟩
    have s18 : Same _ _ := Same.new (o := HO.lst [.str "a"]) n18
    refine ⟨(by show 1 ≤ sizeLine; decide), fun a19 n19 => ?_⟩
    have s19 : Same _ _ := Same.new (o := HO.lst [.ref a18]) n19
    refine ⟨(by show 1 ≤ sizeLine; decide), fun a20 n20 => ?_⟩
    have s20 : Same _ _ := Same.new (o := HO.lst [.ref a19]) n20
    refine ⟨(by show 1 ≤ sizeLine; decide), fun a21 n21 => ?_⟩
    have s21 : Same _ _ := Same.new (o := HO.lst [.ref a20]) n21
    refine ⟨(by show 1 ≤ sizeLine; decide), fun a22 n22 => ?_⟩
    have s22 : Same _ _ := Same.new (o := HO.lst [.ref a21]) n22
    refine ⟨(by show 2 ≤ sizeLine; decide), fun a23 n23 => ?_⟩
    have s23 : Same _ _ := Same.new (o := HO.tup [.int 1, .int 0]) n23
    refine ⟨(by show 2 ≤ sizeLine; decide), fun a24 n24 => ?_⟩
    have s24 : Same _ _ := Same.new (o := HO.tup [.int 0, .int 1]) n24
    refine ⟨(by show 2 ≤ sizeLine; decide), fun a25 n25 => ?_⟩
    have s25 : Same _ _ := Same.new (o := HO.tup [.ref a23, .ref a24]) n25
    refine ⟨(by show 2 ≤ sizeLine; decide), fun a26 n26 => ?_⟩
    have s26 : Same _ _ := Same.new (o := HO.lst [.ref a22, .ref a25]) n26
    refine ⟨a17, a26, _, _, rfl, rfl, (s26 _ _ (s25 _ _ (s24 _ _ (s23 _ _ (s22 _ _ (s21 _ _ (s20 _ _ (s19 _ _ (s18 _ _ upd_same))))))))), upd_same, (by show 29 + 2 ≤ sizeLine; decide), fun a27 n27 => ?_⟩
    have s27 : Same _ _ := Same.new (o := HO.lst ([.non, .bl true, .bl false, .int 0, .int (-1), .int 7, .int ((10 : Int) ^ (29 : Int).toNat), .int (-((10 : Int) ^ (29 : Int).toNat)), .str "", .str "a", .str "7", .str "-3/7", .str "3;7", .str "floor", .ref a0, .ref a1, .ref a2] ++ [.ref a4, .ref a5, .ref a6, .ref a7, .ref a8, .ref a9, .ref a10, .ref a11, .ref a12, .ref a13, .ref a14, .ref a15] ++ [.ref a22, .ref a25])) n27
    have z27 := same_end s27
    have z26 := s27.trans z27
    have z25 := s26.trans z26
    have z24 := s25.trans z25
    have z23 := s24.trans z24
    have z22 := s23.trans z23
    have z21 := s22.trans z22
    have z20 := s21.trans z21
    have z19 := s20.trans z20
    have z18 := s19.trans z19
    have z17 := s18.trans z18
    have z16 := s17.trans z17
    have z15 := s16.trans z16
    have z14 := s15.trans z15
    have z13 := s14.trans z14
    have z12 := s13.trans z13
    have z11 := s12.trans z12
    have z10 := s11.trans z11
    have z9 := s10.trans z10
    have z8 := s9.trans z9
    have z7 := s8.trans z8
    have z6 := s7.trans z7
    have z5 := s6.trans z6
    have z4 := s5.trans z5
    have z3 := s4.trans z4
    have z2 := s3.trans z3
    have z1 := s2.trans z2
    have z0 := s1.trans z1
    have zz := s0.trans z0
    obtain ⟨pa, pb, pc, pe, pr⟩ := id pu
    have y0 : Same H _ := s0
    have y1 := y0.trans s1
    have y2 := y1.trans s2
    have y3 := y2.trans s3
    have y4 := y3.trans s4
    have y5 := y4.trans s5
    have y6 := y5.trans s6
    have y7 := y6.trans s7
    have y8 := y7.trans s8
    have y9 := y8.trans s9
    have y10 := y9.trans s10
    have y11 := y10.trans s11
    have y12 := y11.trans s12
    have y13 := y12.trans s13
    have y14 := y13.trans s14
    have y15 := y14.trans s15
    have y16 := y15.trans s16
    have y17 := y16.trans s17
    have y18 := y17.trans s18
    have y19 := y18.trans s19
    have y20 := y19.trans s20
    have y21 := y20.trans s21
    have y22 := y21.trans s22
    have y23 := y22.trans s23
    have y24 := y23.trans s24
    have y25 := y24.trans s25
    have y26 := y25.trans s26
    have y27 := y26.trans s27
    have m0 : a0 ≠ p := ne_new (Same.refl H) pe n0
    have m1 : a1 ≠ p := ne_new y0 pe n1
    have m2 : a2 ≠ p := ne_new y1 pe n2
    have m3 : a3 ≠ p := ne_new y2 pe n3
    have m4 : a4 ≠ p := ne_new y3 pe n4
    have m5 : a5 ≠ p := ne_new y4 pe n5
    have m6 : a6 ≠ p := ne_new y5 pe n6
    have m7 : a7 ≠ p := ne_new y6 pe n7
    have m8 : a8 ≠ p := ne_new y7 pe n8
    have m9 : a9 ≠ p := ne_new y8 pe n9
    have m10 : a10 ≠ p := ne_new y9 pe n10
    have m11 : a11 ≠ p := ne_new y10 pe n11
    have m12 : a12 ≠ p := ne_new y11 pe n12
    have m13 : a13 ≠ p := ne_new y12 pe n13
    have m14 : a14 ≠ p := ne_new y13 pe n14
    have m15 : a15 ≠ p := ne_new y14 pe n15
    have m16 : a16 ≠ p := ne_new y15 pe n16
    have m17 : a17 ≠ p := ne_new y16 pe n17
    have m18 : a18 ≠ p := ne_new y17 pe n18
    have m19 : a19 ≠ p := ne_new y18 pe n19
    have m20 : a20 ≠ p := ne_new y19 pe n20
    have m21 : a21 ≠ p := ne_new y20 pe n21
    have m22 : a22 ≠ p := ne_new y21 pe n22
    have m23 : a23 ≠ p := ne_new y22 pe n23
    have m24 : a24 ≠ p := ne_new y23 pe n24
    have m25 : a25 ≠ p := ne_new y24 pe n25
    have m26 : a26 ≠ p := ne_new y25 pe n26
    have m27 : a27 ≠ p := ne_new y26 pe n27
    refine ⟨_, rfl, p, 31, n, rfl, by decide, by decide, pu.keep zz, by omega, fun d G d0 d1 bt pu1 => ?_⟩
    have lift := fun (a : Addr) (o : HO) e (m : a ≠ p) => hide_at (H := G) m (bt a o m e)
    have g0 : hide G p a0 = some (HO.lst []) := lift _ _ (z0 _ _ upd_same) m0
    have g1 : hide G p a1 = some (HO.lst [.int 1]) := lift _ _ (z1 _ _ upd_same) m1
    have g2 : hide G p a2 = some (HO.lst [.str "a"]) := lift _ _ (z2 _ _ upd_same) m2
    have g4 : hide G p a4 = some (HO.tup []) := lift _ _ (z4 _ _ upd_same) m4
    have g5 : hide G p a5 = some (HO.tup [.int 1]) := lift _ _ (z5 _ _ upd_same) m5
    have g6 : hide G p a6 = some (HO.tup [.int 3, .int 7]) := lift _ _ (z6 _ _ upd_same) m6
    have g7 : hide G p a7 = some (HO.tup [.int 4, .int 2]) := lift _ _ (z7 _ _ upd_same) m7
    have g8 : hide G p a8 = some (HO.tup [.int 3, .int 0]) := lift _ _ (z8 _ _ upd_same) m8
    have g9 : hide G p a9 = some (HO.tup [.int 3, .int (-7)]) := lift _ _ (z9 _ _ upd_same) m9
    have g10 : hide G p a10 = some (HO.tup [.bl true, .int 2]) := lift _ _ (z10 _ _ upd_same) m10
    have g11 : hide G p a11 = some (HO.lst [.int 3, .int 7]) := lift _ _ (z11 _ _ upd_same) m11
    have g12 : hide G p a12 = some (HO.tup [.int 3, .int 7, .int 1]) := lift _ _ (z12 _ _ upd_same) m12
    have g13 : hide G p a13 = some (HO.dK []) := lift _ _ (z13 _ _ upd_same) m13
    have g14 : hide G p a14 = some (HO.dK (mergeK [] [(.inr "a", .int 1)])) := lift _ _ (z14 _ _ upd_same) m14
    have g15 : hide G p a15 = some (HO.dK (mergeK [] [(.inl 7, .non)])) := lift _ _ (z15 _ _ upd_same) m15
    have g18 : hide G p a18 = some (HO.lst [.str "a"]) := lift _ _ (z18 _ _ upd_same) m18
    have g19 : hide G p a19 = some (HO.lst [.ref a18]) := lift _ _ (z19 _ _ upd_same) m19
    have g20 : hide G p a20 = some (HO.lst [.ref a19]) := lift _ _ (z20 _ _ upd_same) m20
    have g21 : hide G p a21 = some (HO.lst [.ref a20]) := lift _ _ (z21 _ _ upd_same) m21
    have g22 : hide G p a22 = some (HO.lst [.ref a21]) := lift _ _ (z22 _ _ upd_same) m22
    have g23 : hide G p a23 = some (HO.tup [.int 1, .int 0]) := lift _ _ (z23 _ _ upd_same) m23
    have g24 : hide G p a24 = some (HO.tup [.int 0, .int 1]) := lift _ _ (z24 _ _ upd_same) m24
    have g25 : hide G p a25 = some (HO.tup [.ref a23, .ref a24]) := lift _ _ (z25 _ _ upd_same) m25
    have gl : G a27 = some (HO.lst ([.non, .bl true, .bl false, .int 0, .int (-1), .int 7, .int ((10 : Int) ^ (29 : Int).toNat), .int (-((10 : Int) ^ (29 : Int).toNat)), .str "", .str "a", .str "7", .str "-3/7", .str "3;7", .str "floor", .ref a0, .ref a1, .ref a2] ++ [.ref a4, .ref a5, .ref a6, .ref a7, .ref a8, .ref a9, .ref a10, .ref a11, .ref a12, .ref a13, .ref a14, .ref a15] ++ [.ref a22, .ref a25])) := bt _ _ m27 upd_same
    have o0 : Odd K (hide G p) 0 (.non) := .atom (d := .none) rfl (by decide +kernel) (by decide +kernel)
    have o1 : Odd K (hide G p) 0 (.bl true) := .atom (d := .bool true) rfl (by decide +kernel) (by decide +kernel)
    have o2 : Odd K (hide G p) 0 (.bl false) := .atom (d := .bool false) rfl (by decide +kernel) (by decide +kernel)
    have o3 : Odd K (hide G p) 0 (.int 0) := .atom (d := .int 0) rfl (by decide +kernel) (by decide +kernel)
    have o4 : Odd K (hide G p) 0 (.int (-1)) := .atom (d := .int (-1)) rfl (by decide +kernel) (by decide +kernel)
    have o5 : Odd K (hide G p) 0 (.int 7) := .atom (d := .int 7) rfl (by decide +kernel) (by decide +kernel)
    have o6 : Odd K (hide G p) 0 (.int ((10 : Int) ^ (29 : Int).toNat)) := .atom (d := .int ((10 : Int) ^ (29 : Int).toNat)) rfl (by decide +kernel) (by decide +kernel)
    have o7 : Odd K (hide G p) 0 (.int (-((10 : Int) ^ (29 : Int).toNat))) := .atom (d := .int (-((10 : Int) ^ (29 : Int).toNat))) rfl (by decide +kernel) (by decide +kernel)
    have o8 : Odd K (hide G p) 0 (.str "") := .atom (d := .str "") rfl (by decide +kernel) (by decide +kernel)
    have o9 : Odd K (hide G p) 0 (.str "a") := .atom (d := .str "a") rfl (by decide +kernel) (by decide +kernel)
    have o10 : Odd K (hide G p) 0 (.str "7") := .atom (d := .str "7") rfl (by decide +kernel) (by decide +kernel)
    have o11 : Odd K (hide G p) 0 (.str "-3/7") := .atom (d := .str "-3/7") rfl (by decide +kernel) (by decide +kernel)
    have o12 : Odd K (hide G p) 0 (.str "3;7") := .atom (d := .str "3;7") rfl (by decide +kernel) (by decide +kernel)
    have o13 : Odd K (hide G p) 0 (.str "floor") := .atom (d := .str "floor") rfl (by decide +kernel) (by decide +kernel)
    have o14 : Odd K (hide G p) 0 (.ref a0) := .lst (ds := []) g0 .nil ⟨by decide +kernel, by decide +kernel, by decide +kernel, by decide +kernel⟩ (Nat.le_of_ble_eq_true rfl)
    have o15 : Odd K (hide G p) 0 (.ref a1) := .lst (ds := [.int 1]) g1 (.cons (.int _) .nil) ⟨by decide +kernel, by decide +kernel, by decide +kernel, by decide +kernel⟩ (Nat.le_of_ble_eq_true rfl)
    have o16 : Odd K (hide G p) 0 (.ref a2) := .lst (ds := [.str "a"]) g2 (.cons (.str _) .nil) ⟨by decide +kernel, by decide +kernel, by decide +kernel, by decide +kernel⟩ (Nat.le_of_ble_eq_true rfl)
    have o17 : Odd K (hide G p) 0 (.ref a4) := .tup (ds := []) g4 .nil ⟨by decide +kernel, by decide +kernel, by decide +kernel, by decide +kernel⟩ (.len (SqT.of' g4) (by decide) (by show 0 ≤ sizeLine; decide))
    have o18 : Odd K (hide G p) 0 (.ref a5) := .tup (ds := [.int 1]) g5 (.cons (.int _) .nil) ⟨by decide +kernel, by decide +kernel, by decide +kernel, by decide +kernel⟩ (.len (SqT.of' g5) (by decide) (by show 1 ≤ sizeLine; decide))
    have o19 : Fra K G (.ref a6) 3 7 := ⟨⟨a6, rfl, SqT.of' (hide_sub _ _ _ _ g6)⟩, by decide, by decide⟩
    have o20 : Odd K (hide G p) 0 (.ref a7) := .tup (ds := [.int 4, .int 2]) g7 (.cons (.int _) (.cons (.int _) .nil)) ⟨by decide +kernel, by decide +kernel, by decide +kernel, by decide +kernel⟩ (.num (SqT.of' g7) (.inr (by decide)))
    have o21 : Odd K (hide G p) 0 (.ref a8) := .tup (ds := [.int 3, .int 0]) g8 (.cons (.int _) (.cons (.int _) .nil)) ⟨by decide +kernel, by decide +kernel, by decide +kernel, by decide +kernel⟩ (.num (SqT.of' g8) (.inl (by decide)))
    have o22 : Odd K (hide G p) 0 (.ref a9) := .tup (ds := [.int 3, .int (-7)]) g9 (.cons (.int _) (.cons (.int _) .nil)) ⟨by decide +kernel, by decide +kernel, by decide +kernel, by decide +kernel⟩ (.num (SqT.of' g9) (.inl (by decide)))
    have o23 : Odd K (hide G p) 0 (.ref a10) := .tup (ds := [.bool true, .int 2]) g10 (.cons (.bl _) (.cons (.int _) .nil)) ⟨by decide +kernel, by decide +kernel, by decide +kernel, by decide +kernel⟩ (.fst (SqT.of' g10) ⟨"bool", true, true, .base (.bl true), by decide +kernel, by decide +kernel, rfl⟩)
    have o24 : Odd K (hide G p) 0 (.ref a11) := .lst (ds := [.int 3, .int 7]) g11 (.cons (.int _) (.cons (.int _) .nil)) ⟨by decide +kernel, by decide +kernel, by decide +kernel, by decide +kernel⟩ (Nat.le_of_ble_eq_true rfl)
    have o25 : Odd K (hide G p) 0 (.ref a12) := .tup (ds := [.int 3, .int 7, .int 1]) g12 (.cons (.int _) (.cons (.int _) (.cons (.int _) .nil))) ⟨by decide +kernel, by decide +kernel, by decide +kernel, by decide +kernel⟩ (.len (SqT.of' g12) (by decide) (by show 3 ≤ sizeLine; decide))
    have o26 : Odd K (hide G p) 0 (.ref a13) := .dct g13 (.inl List.mem_cons_self)
    have o27 : Odd K (hide G p) 0 (.ref a14) := .dct g14 (.inl (by rw [show mergeK [] [(.inr "a", .int 1)] = [(.inr "a", .int 1)] from by kernel_rfl]; exact (List.mem_cons_of_mem _ List.mem_cons_self)))
    have o28 : Odd K (hide G p) 0 (.ref a15) := .dct g15 (.inl (by rw [show mergeK [] [(.inl 7, .non)] = [(.inl 7, .non)] from by kernel_rfl]; exact (List.mem_cons_of_mem _ (List.mem_cons_of_mem _ List.mem_cons_self))))
    have o29 : Odd K (hide G p) 0 (.ref a22) := .lst (ds := [.list [.list [.list [.list [.str "a"]]]]]) g22 (.cons (.lst (SqL.of (hide_at (ne_of_none upd_same n22) g21)) (.cons (.lst (SqL.of (hide_at (ne_of_none (s21 _ _ upd_same) n22) g20)) (.cons (.lst (SqL.of (hide_at (ne_of_none (s21 _ _ (s20 _ _ upd_same)) n22) g19)) (.cons (.lst (SqL.of (hide_at (ne_of_none (s21 _ _ (s20 _ _ (s19 _ _ upd_same))) n22) g18)) (.cons (.str _) .nil)) .nil)) .nil)) .nil)) .nil) ⟨by decide +kernel, by decide +kernel, by decide +kernel, by decide +kernel⟩ (Nat.le_of_ble_eq_true rfl)
    have o30 : Odd K (hide G p) 0 (.ref a25) := .tup (ds := [.tuple [.int 1, .int 0], .tuple [.int 0, .int 1]]) g25 (.cons (.tup (SqT.of' g23) (.cons (.int _) (.cons (.int _) .nil))) (.cons (.tup (SqT.of' g24) (.cons (.int _) (.cons (.int _) .nil))) .nil)) ⟨by decide +kernel, by decide +kernel, by decide +kernel, by decide +kernel⟩ (.fst (SqT.of' g25) ⟨"tuple", false, false, .base (.tup g23), by decide +kernel, by decide +kernel, rfl⟩)
    have bt' := (But.of zz).trans bt
    have fin : ∀ k : Nat, k < 31 → ∃ v, (([.non, .bl true, .bl false, .int 0, .int (-1), .int 7, .int ((10 : Int) ^ (29 : Int).toNat), .int (-((10 : Int) ^ (29 : Int).toNat)), .str "", .str "a", .str "7", .str "-3/7", .str "3;7", .str "floor", .ref a0, .ref a1, .ref a2] ++ [.ref a4, .ref a5, .ref a6, .ref a7, .ref a8, .ref a9, .ref a10, .ref a11, .ref a12, .ref a13, .ref a14, .ref a15] ++ [.ref a22, .ref a25]) : List V)[k]? = some v ∧ (Odd K (hide G p) 0 v ∨ ∃ i j, Fra K G v i j) := fun k hk => by
      match k, hk with
      | 0, _ => exact ⟨_, rfl, .inl o0⟩
      | 1, _ => exact ⟨_, rfl, .inl o1⟩
      | 2, _ => exact ⟨_, rfl, .inl o2⟩
      | 3, _ => exact ⟨_, rfl, .inl o3⟩
      | 4, _ => exact ⟨_, rfl, .inl o4⟩
      | 5, _ => exact ⟨_, rfl, .inl o5⟩
      | 6, _ => exact ⟨_, rfl, .inl o6⟩
      | 7, _ => exact ⟨_, rfl, .inl o7⟩
      | 8, _ => exact ⟨_, rfl, .inl o8⟩
      | 9, _ => exact ⟨_, rfl, .inl o9⟩
      | 10, _ => exact ⟨_, rfl, .inl o10⟩
      | 11, _ => exact ⟨_, rfl, .inl o11⟩
      | 12, _ => exact ⟨_, rfl, .inl o12⟩
      | 13, _ => exact ⟨_, rfl, .inl o13⟩
      | 14, _ => exact ⟨_, rfl, .inl o14⟩
      | 15, _ => exact ⟨_, rfl, .inl o15⟩
      | 16, _ => exact ⟨_, rfl, .inl o16⟩
      | 17, _ => exact ⟨_, rfl, .inl o17⟩
      | 18, _ => exact ⟨_, rfl, .inl o18⟩
      | 19, _ => exact ⟨_, rfl, .inr ⟨_, _, o19⟩⟩
      | 20, _ => exact ⟨_, rfl, .inl o20⟩
      | 21, _ => exact ⟨_, rfl, .inl o21⟩
      | 22, _ => exact ⟨_, rfl, .inl o22⟩
      | 23, _ => exact ⟨_, rfl, .inl o23⟩
      | 24, _ => exact ⟨_, rfl, .inl o24⟩
      | 25, _ => exact ⟨_, rfl, .inl o25⟩
      | 26, _ => exact ⟨_, rfl, .inl o26⟩
      | 27, _ => exact ⟨_, rfl, .inl o27⟩
      | 28, _ => exact ⟨_, rfl, .inl o28⟩
      | 29, _ => exact ⟨_, rfl, .inl o29⟩
      | 30, _ => exact ⟨_, rfl, .inl o30⟩
      | k + 31, h => exact absurd h (by omega)
    obtain ⟨v, hv, hodd⟩ := fin d.toNat (by omega)
    refine ⟨a27, _, d, v, rfl, rfl, SqL.of gl, at_of (j := d.toNat) (by omega) hv, ?_⟩
    exact q v G bt' pu1 hodd
end K26
set_option maxHeartbeats 4000000
namespace K26
open PySem L2
variable {P : Program} {w : World} {K : PySem.W.Frag} {mg : Str → Option Value} {base : Heap} {C0 C1 C2 C3 M1 M2 M3 : Addr}
/-! ### a word between two statements -/
def tCut (t : TS) : TS := fun D σ H => ∃ Pv : St → Hp → Prop, t { D with nx := Pv } σ H ∧ ∀ σ' H', Pv σ' H' → D.nx σ' H'
theorem ps_cut {X : Cx} {s : Stmt} {t : TS} (h : PS X s t) : PS X s (tCut t) := by
  refine ⟨fun pins s1 σ H D I want => ?_⟩
  obtain ⟨Pv, h1, h2⟩ := want
  refine wpAny_mono (h.run pins s1 σ H _ I h1) (fun f s' out => ?_) fun _ _ z => z
  match f, out with
  | .next, ⟨σ', H', I', q⟩ => exact ⟨σ', H', I', h2 _ _ q⟩
  | .brk, o => exact o
  | .cont, o => exact o
  | .ret _, o => exact o
/-! ### _law_odd_right -/
theorem int_len {a : Int} (h : a.natAbs ≤ 10 ^ 27) : (Str.ofString (toString a)).length ≤ 29 := by
  have h1 : a.natAbs < 10 ^ 28 := by omega
  have h2 := int_text_length_le10 (k := 28) (by decide) h1
  rw [ofString_length]
  exact h2
theorem int_shows {a : Int} (h : a.natAbs ≤ 10 ^ 27) : (PyData.int a).showable = true := by
  have := PySem.Flt.log2_lt_of (show 0 < 100 by decide) (show a.natAbs < 2 ^ 100 by omega)
  simp only [PyData.showable]
  exact decide_eq_true (by omega)
theorem pair_len {a b : Int} (ha : a.natAbs ≤ 10 ^ 27) (hb : b.natAbs ≤ 10 ^ 27) : (PyData.tuple [.int a, .int b]).shown.length ≤ 100 := by
  simp only [PyData.shown, PyData.shownAll]
  have h := tup_len [(toString a : Str), (toString b : Str)]
  have h1 := int_len ha
  have h2 := int_len hb
  simp only [piled_cons, piled_nil] at h
  omega
theorem its_two {a b c d : Int} (ba : Bd a b) (bc : Bd c d) : Its [.tuple [.int a, .int b], .tuple [.int c, .int d]] 0 := by
  have h1 := bd_ab ba
  have h2 := bd_ab bc
  have a1 := h1.1
  have b1 : b.natAbs ≤ 10 ^ 27 := by have := h1.2; omega
  have c1 := h2.1
  have d1 : d.natAbs ≤ 10 ^ 27 := by have := h2.2; omega
  refine ⟨?_, ?_, ?_, ?_⟩
  · have s1 := int_shows a1
    have s2 := int_shows b1
    have s3 := int_shows c1
    have s4 := int_shows d1
    simp only [PyData.showableAll, PyData.showable] at s1 s2 s3 s4 ⊢
    rw [s1, s2, s3, s4]
    rfl
  · simp only [PyData.hasDictAll, PyData.hasDict, Bool.or_self]
  · simp only [PyData.depthAll, PyData.depth]
    omega
  · rw [PyData.shownAll, PyData.shownAll, PyData.shownAll]
    simp only [piled_cons, piled_nil]
    have := pair_len a1 b1
    have := pair_len c1 d1
    omega
def spOddRight (K : PySem.W.Frag) : Sp := fun vs H Q _ => ∃ (p t : Addr) (n : Nat) (x y : V) (a b c d : Int) (li hi : Bool), vs = [.ref p, .ref t] ∧ Purse H p n ∧ n ≤ 800 ∧ SqT K H t [x, .bl li, y, .bl hi] ∧
  Fra K H x a b ∧ Fra K H y c d ∧ Bd a b ∧ Bd c d ∧ Rng a b c d li hi ∧ ∀ H', Still H H' → Q (.bl true) H'
abbrev nOddR : List Str := ["_law_purse_here", "_law_bounds_here", "_law_low", "_law_low_in", "_law_high", "_law_high_in", "_law_odd_here", "_law_other", "_law_word", "_law_there", "_law_here", "_law_one", "_law_two"]
theorem sc_law_odd_right : FnScope nOddR ["_law_purse_here", "_law_bounds_here"] (defScope s_law_odd_right) := ⟨rfl, rfl, rfl, by decide +kernel, rfl, by decide +kernel, by decide +kernel⟩
theorem ok_law_odd_right (M : Mgs K mg) (D : Df K "_law_odd_right" s_law_odd_right) (cT : Cal P w K mg base CX0 "_law_take" 1 ["_law_purse_here", "_law_many"] spTake)
    (cO : Cal P w K mg base CX0 "_law_odd" 2 ["_law_purse_here"] (spOdd K)) (cF : Cal P w K mg base CX0 "is_fraction" 2 ["thing"] (spIsFr K))
    (cA : Cal P w K mg base CX0 "_law_asked" 7 ["_law_low", "_law_low_in", "_law_high", "_law_high_in", "_law_mode"] (spAsked K)) (cR : CalG P w K mg base "_law_refused" 2 ["_law_found", "_law_word", "_law_thing"] (spRefused K)) :
    CalG P w K mg base "_law_odd_right" 8 ["_law_purse_here", "_law_bounds_here"] (spOddRight K) := by
  obtain ⟨f, fd, hf, F⟩ := D
  refine ⟨f, fd, okG F sc_law_odd_right (fun vs H Q E h => ?_) (fun cdv A outer s H vs Q gu hr h => ?_), M.of hf, F.kp, F.binds fun _ _ _ _ _ _ us hl => match us, hl with | [_, _], _ => rfl⟩
  · obtain ⟨p, t, n, x, y, a, b, c, d, li, hi, rfl, _⟩ := h
    rfl
  · obtain ⟨p, t, n, x, y, a, b, c, d, li, hi, rfl, pu, hn, ht, fx, fy, ba, bc, rg, q⟩ := h
    have nd := sc_law_odd_right.nd
    have hr1 : Room 1 _ := hr.mono (by decide)
    have hr2 : Room 2 _ := hr.mono (by decide)
    refine ⟨_, pss_cons (ps_asg (pv 1) (pg_tup rfl (pgs_cons (pg_name (i := 2) nd rfl (Or.inl rfl)) (pgs_cons (pg_name (i := 3) nd rfl (Or.inl rfl)) (pgs_cons (pg_name (i := 4) nd rfl (Or.inl rfl)) (pgs_cons (pg_name (i := 5) nd rfl (Or.inl rfl)) pgs_nil))))))
      (pss_cons (ps_par (i := 6) (j := 7) rfl nd rfl rfl (by decide) rfl rfl (pa_cons (pe_cal cO hr2 (by rfl) pass0 (pa_cons (pv 0) pa_nil)) (pa_cons (pe_cal cO hr2 (by rfl) pass0 (pa_cons (pv 0) pa_nil)) pa_nil)) rfl)
      (pss_cons (ps_set (i := 8) nd rfl (Or.inl rfl) (pe_ix ix_list (pe_lst (pa_cons pe_non (pa_cons pe_str (pa_cons pe_str (pa_cons pe_int (pa_cons (pe_lst (pa_cons pe_str pa_nil)) pa_nil)))))) (pe_cal cT hr1 (by rfl) pass0 (pa_cons (pv 0) (pa_cons pe_int pa_nil))) (fun _ _ => rfl)))
      (pss_cons (ps_if (pt_not (pt_val (pe_calG cR gu hr2 (by rfl) (pa_cons (pe_cal cA hr (by rfl) pass0 (pa_cons (pv 6) (pa_cons (pv 3) (pa_cons (pv 7) (pa_cons (pv 5) (pa_cons (pv 8) pa_nil)))))) (pa_cons pe_str (pa_cons (pv 8) pa_nil)))))) (pss_one (ps_ret pe_bl)) pss_nil)
      (pss_cons (ps_cut (ps_if (pt_not (pt_val (pe_cal cF hr2 (by rfl) pass0 (pa_cons (pv 6) pa_nil))))
        (pss_cons (ps_for PassesOwn.never rfl (pi_list (pe_lst (pa_cons (pv 4) (pa_cons (pv 7) pa_nil)))) (pg_name (i := 9) nd rfl (Or.inl rfl))
          (pss_one (ps_if (pt_not (pt_val (pe_calG cR gu hr2 (by rfl) (pa_cons (pe_cal cA hr (by rfl) pass0 (pa_cons (pv 6) (pa_cons (pv 3) (pa_cons (pv 9) (pa_cons (pv 5) (pa_cons pe_str pa_nil)))))) (pa_cons pe_str (pa_cons (pv 6) pa_nil)))))) (pss_one (ps_ret pe_bl)) pss_nil)))
        (pss_one (ps_if (pt_not (pt_val (pe_calG cR gu hr2 (by rfl) (pa_cons (pe_cal cA hr (by rfl) pass0 (pa_cons (pv 2) (pa_cons (pv 3) (pa_cons (pv 6) (pa_cons (pv 5) (pa_cons pe_str pa_nil)))))) (pa_cons pe_str (pa_cons (pv 6) pa_nil)))))) (pss_one (ps_ret pe_bl)) pss_nil))) pss_nil))
      (pss_cons (ps_for PassesOwn.never rfl (pi_list (pe_lst (pa_cons (pe_tup (pa_cons (pv 4) (pa_cons (pv 2) (pa_cons pe_bl (pa_cons pe_bl pa_nil))))) (pa_cons (pe_tup (pa_cons (pv 2) (pa_cons (pv 2) (pa_cons pe_bl (pa_cons pe_bl pa_nil))))) (pa_cons (pe_tup (pa_cons (pv 2) (pa_cons (pv 2) (pa_cons pe_bl (pa_cons pe_bl pa_nil))))) pa_nil)))))
          (pg_tup rfl (pgs_cons (pg_name (i := 10) nd rfl (Or.inl rfl)) (pgs_cons (pg_name (i := 9) nd rfl (Or.inl rfl)) (pgs_cons (pg_name (i := 11) nd rfl (Or.inl rfl)) (pgs_cons (pg_name (i := 12) nd rfl (Or.inl rfl)) pgs_nil)))))
          (pss_one (ps_if (PW.pt (pw_or (pt_cmpR (op_neD hr.units) (pv 10) (pv 9) (nomark _)) (pw_or1 (pt_not (PW.pt (pw_and (pt_val (pv 11)) (pw_and1 (pt_val (pv 12)))))))))
            (pss_one (ps_if (pt_not (pt_val (pe_calG cR gu hr2 (by rfl) (pa_cons (pe_cal cA hr (by rfl) pass0 (pa_cons (pv 10) (pa_cons (pv 11) (pa_cons (pv 9) (pa_cons (pv 12) (pa_cons pe_str pa_nil)))))) (pa_cons pe_str (pa_cons (pe_tup (pa_cons (pv 10) (pa_cons (pv 9) pa_nil))) pa_nil)))))) (pss_one (ps_ret pe_bl)) pss_nil)) pss_nil)))
      (pss_one (ps_ret pe_bl))))))), ?_⟩
    refine ⟨_, rfl, t, _, rfl, ht, rfl, ⟨_, _, rfl, ⟨_, _, rfl, ⟨_, _, rfl, ⟨_, _, rfl, rfl, ?_⟩⟩⟩⟩⟩
    refine ⟨_, rfl, p, n, rfl, pu, (by omega), fun o1 H1 bt1 pu1 od1 => ?_⟩
    refine ⟨_, rfl, p, n + 1, rfl, pu1, (by omega), fun o2 H2 bt2 pu2 od2 => ?_⟩
    refine ⟨_, _, rfl, ?_⟩
    refine ⟨(by show 1 ≤ sizeLine; decide), fun l1 n1 => ?_⟩
    refine ⟨(by show 5 ≤ sizeLine; decide), fun l2 n2 => ?_⟩
    have s1 : Same H2 (upd H2 l1 (.lst [.str "near"])) := Same.new n1
    have s2 : Same (upd H2 l1 (.lst [.str "near"])) (upd (upd H2 l1 (.lst [.str "near"])) l2 (.lst [.non, .str "Floor", .str "", .int 3, .ref l1])) := Same.new n2
    have puA := (pu2.keep s1).keep s2
    refine ⟨_, rfl, p, 5, n + 1 + 1, rfl, by decide, by decide, puA, by omega, fun k H3 k0 k1 bt3 pu3 => ?_⟩
    obtain ⟨pa, pb, pc, pe, _⟩ := id pu2
    have ml1 : l1 ≠ p := ne_new (Same.refl H2) pe n1
    have ml2 : l2 ≠ p := ne_new s1 pe n2
    have el1 : H3 l1 = some (.lst [.str "near"]) := bt3 _ _ ml1 (s2 _ _ upd_same)
    have el2 : H3 l2 = some (.lst [.non, .str "Floor", .str "", .int 3, .ref l1]) := bt3 _ _ ml2 upd_same
    have bt23 : But p H2 H3 := ((But.of s1).trans (But.of s2)).trans bt3
    have word : ∀ j : Nat, j < 5 → ∃ v, ([.non, .str "Floor", .str "", .int 3, .ref l1] : List V)[j]? = some v ∧ BadM K H3 v ∧ Odd K H3 0 v ∧ ∀ G G', Eff v G G' → But l1 G G' := fun j hj => by
      have no : ∀ v : V, (∀ a, v ≠ .ref a) → ∀ G G', Eff v G G' → But l1 G G' := fun v hv G G' e => by
        rcases e with rfl | ⟨a, o, o', ea, _⟩
        · exact But.refl _ _
        · exact absurd ea (hv a)
      match j, hj with
      | 0, _ => exact ⟨_, rfl, .inr ⟨_, .base .non, by decide +kernel⟩, .atom (d := .none) rfl (by decide +kernel) (by decide +kernel), no _ fun a z => by cases z⟩
      | 1, _ => exact ⟨_, rfl, .inl ⟨_, rfl, by decide +kernel⟩, .atom (d := .str "Floor") rfl (by decide +kernel) (by decide +kernel), no _ fun a z => by cases z⟩
      | 2, _ => exact ⟨_, rfl, .inl ⟨_, rfl, by decide +kernel⟩, .atom (d := .str "") rfl (by decide +kernel) (by decide +kernel), no _ fun a z => by cases z⟩
      | 3, _ => exact ⟨_, rfl, .inr ⟨_, .base (.int 3), by decide +kernel⟩, .atom (d := .int 3) rfl (by decide +kernel) (by decide +kernel), no _ fun a z => by cases z⟩
      | 4, _ => exact ⟨_, rfl, .inr ⟨_, .base (.lst el1), by decide +kernel⟩, .lst (ds := [.str "near"]) el1 (.cons (.str _) .nil) ⟨by decide +kernel, by decide +kernel, by decide +kernel, by decide +kernel⟩ (Nat.le_of_ble_eq_true rfl), fun G G' e => e.but⟩
      | j + 5, h => exact absurd h (by omega)
    obtain ⟨v, hv, bad, odv, effv⟩ := word k.toNat (by omega)
    refine ⟨l2, _, k, v, rfl, rfl, SqL.of el2, at_of (j := k.toNat) (by omega) hv, ?_⟩
    refine ⟨_, rfl, _, rfl, _, rfl, _, rfl, _, rfl, o1, o2, v, li, hi, rfl, .inl ⟨bad, fun pA HA sA eA => ?_⟩⟩
    refine ⟨_, rfl, pA, "mode", v, v, rfl, SqL.of eA, .inl ⟨rfl, 0, odv.keep sA, by decide, fun HB eff odB => ?_⟩⟩
    refine ⟨_, rfl, iteF ?_⟩
    have btB : But p H2 HB := fun b o nb e => effv _ _ eff b o (ne_of_none e n1) (sA _ _ (bt23 b o nb e))
    have btAll : But p H HB := (bt1.trans bt2).trans btB
    have stB : Still H HB := by
      obtain ⟨qa, qb, qc, qe, _⟩ := pu
      exact btAll.still qe (fun xs z => by cases z) (fun o v z => by cases z)
    have fxB := fx.keep stB
    have fyB := fy.keep stB
    have odd1 : Odd K HB 0 o1 ∨ ∃ i j, Fra K HB o1 i j := by
      rcases od1 with z | ⟨i, j, z⟩
      · exact .inl ((z.keep (hide_but (bt2.trans btB))).keep (hide_sub _ _))
      · refine .inr ⟨i, j, z.keep ?_⟩
        obtain ⟨qa, qb, qc, qe, _⟩ := pu1
        exact (bt2.trans btB).still qe (fun xs z => by cases z) (fun o v z => by cases z)
    refine ⟨fun σ' G => Still HB G ∧ ∃ s9 s10 s11 s12, σ' = [some (.ref p), some (.ref t), some x, some (.bl li), some y, some (.bl hi), some o1, some o2, some v, s9, s10, s11, s12], ?_, ?_⟩
    · rcases odd1 with od | ⟨i, j, fr⟩
      · refine ⟨_, rfl, o1, false, rfl, .inr ⟨rfl, od.nf⟩, _, rfl, iteT ?_⟩
        refine ⟨_, rfl, _, rfl, (by show 2 ≤ sizeLine; decide), fun l nl => ?_⟩
        refine ⟨l, rfl, ⟨_, SqL.of upd_same⟩, ?_⟩
        have ol : o1 ≠ .ref l := fun z => by
          subst z
          exact od.there nl
        have sl : Same HB (upd HB l (.lst [y, o2])) := Same.new nl
        refine for_list (K := K) (a := l) (xs := [y, o2]) (fun i σ' G => Odd K G i o1 ∧ G l = some (.lst [y, o2]) ∧ Still HB G ∧ ∃ s9, σ' = [some (.ref p), some (.ref t), some x, some (.bl li), some y, some (.bl hi), some o1, some o2, some v, s9, none, none, none])
          ⟨od.keep sl, upd_same, .of sl, _, rfl⟩ (fun i σ' G _ z => SqL.of z.2.1) ?_ ?_
        · rintro i u σ' G hu ⟨odG, eG, stG, s9, rfl⟩
          have hi2 : i < 2 := (List.getElem?_eq_some_iff.mp hu).1
          refine ⟨_, rfl, _, rfl, _, rfl, _, rfl, o1, u, .str "ceil", li, hi, rfl, .inr (.inl ⟨_, rfl, .inr (.inl rfl), odG.nf, fun pA HA sA eA => ?_⟩)⟩
          refine ⟨_, rfl, pA, "fraction", o1, o1, rfl, SqL.of eA, .inl ⟨rfl, i, odG.keep sA, by omega, fun HC effC odC => ?_⟩⟩
          exact ⟨_, rfl, iteF ⟨odC, effC.at ol (sA _ _ eG), (stG.trans (.of sA)).trans effC.still, _, rfl⟩⟩
        · rintro σ' G ⟨odG, eG, stG, s9, rfl⟩
          refine ⟨_, rfl, _, rfl, _, rfl, _, rfl, x, o1, .str "near", li, hi, rfl, .inr (.inr (.inl ⟨_, a, b, rfl, .inr (.inr rfl), fxB.keep stG, odG.nf, fun pA HA sA eA => ?_⟩))⟩
          refine ⟨_, rfl, pA, "fraction", o1, o1, rfl, SqL.of eA, .inl ⟨rfl, 2, odG.keep sA, by omega, fun HC effC odC => ?_⟩⟩
          exact ⟨_, rfl, iteF ⟨(stG.trans (.of sA)).trans effC.still, _, _, _, _, rfl⟩⟩
      · exact ⟨_, rfl, o1, true, rfl, .inl ⟨rfl, i, j, fr⟩, _, rfl, iteF ⟨Still.refl _, _, _, _, _, rfl⟩⟩
    · rintro σ' G ⟨stG, s9, s10, s11, s12, rfl⟩
      refine ⟨_, rfl, _, rfl, (by show 4 ≤ sizeLine; decide), fun a1 m1 => ?_⟩
      refine ⟨_, rfl, _, rfl, (by show 4 ≤ sizeLine; decide), fun a2 m2 => ?_⟩
      refine ⟨_, rfl, _, rfl, (by show 4 ≤ sizeLine; decide), fun a3 m3 => ?_⟩
      refine ⟨(by show 3 ≤ sizeLine; decide), fun l nl => ?_⟩
      refine ⟨l, rfl, ⟨_, SqL.of upd_same⟩, ?_⟩
      have sG : Same G (upd (upd (upd (upd G a1 (.tup [y, x, .bl true, .bl true])) a2 (.tup [x, x, .bl true, .bl false])) a3 (.tup [x, x, .bl false, .bl true])) l (.lst [.ref a1, .ref a2, .ref a3])) :=
        (((Same.new m1).trans (Same.new m2)).trans (Same.new m3)).trans (Same.new nl)
      have q1 := (Same.new (o := HO.lst [.ref a1, .ref a2, .ref a3]) nl) _ _ ((Same.new (o := HO.tup [x, x, .bl false, .bl true]) m3) _ _ ((Same.new (o := HO.tup [x, x, .bl true, .bl false]) m2) a1 _ upd_same))
      have q2 := (Same.new (o := HO.lst [.ref a1, .ref a2, .ref a3]) nl) _ _ ((Same.new (o := HO.tup [x, x, .bl false, .bl true]) m3) a2 _ upd_same)
      have q3 := (Same.new (o := HO.lst [.ref a1, .ref a2, .ref a3]) nl) a3 (.tup [x, x, .bl false, .bl true]) upd_same
      have q4 : (upd (upd (upd (upd G a1 (.tup [y, x, .bl true, .bl true])) a2 (.tup [x, x, .bl true, .bl false])) a3 (.tup [x, x, .bl false, .bl true])) l (.lst [.ref a1, .ref a2, .ref a3])) l = some (.lst [.ref a1, .ref a2, .ref a3]) := upd_same
      revert sG q1 q2 q3 q4
      generalize (upd (upd (upd (upd G a1 (.tup [y, x, .bl true, .bl true])) a2 (.tup [x, x, .bl true, .bl false])) a3 (.tup [x, x, .bl false, .bl true])) l (.lst [.ref a1, .ref a2, .ref a3])) = GL
      intro sG q1 q2 q3 q4
      have fxL := fxB.keep (stG.trans (.of sG))
      have fyL := fyB.keep (stG.trans (.of sG))
      have hb : 0 < b := by have := ba.1; omega
      have hd : 0 < d := by have := bc.1; omega
      refine for_list (K := K) (a := l) (xs := [.ref a1, .ref a2, .ref a3]) (fun i σ' G' => Same GL G' ∧ ∃ s9 s10 s11 s12, σ' = [some (.ref p), some (.ref t), some x, some (.bl li), some y, some (.bl hi), some o1, some o2, some v, s9, s10, s11, s12])
        ⟨Same.refl _, _, _, _, _, rfl⟩ (fun i σ' G _ z => SqL.of (z.1 _ _ q4)) ?_ ?_
      · rintro i u σ' G' hu ⟨sG', s9, s10, s11, s12, rfl⟩
        have turn : ∃ (ai : Addr) (x1 x2 : V) (i1 j1 i2 j2 : Int) (one two : Bool), u = .ref ai ∧ GL ai = some (.tup [x1, x2, .bl one, .bl two]) ∧ Fra K GL x1 i1 j1 ∧ Fra K GL x2 i2 j2 ∧ Bd i1 j1 ∧ Bd i2 j2 ∧ (((i1 == i2 && j1 == j2) = false ∨ (one && two) = false) → ¬ Rng i1 j1 i2 j2 one two) := by
          match i, hu with
          | 0, hu =>
            refine ⟨a1, y, x, c, d, a, b, true, true, (Option.some.inj hu).symm, q1, fyL, fxL, bc, ba, fun z r => ?_⟩
            have ne : (c == a && d == b) = false := by
              rcases z with z | z
              · exact z
              · cases z
            rcases r with r | ⟨r, _⟩
            · rcases rg with g | ⟨g, _⟩ <;> omega
            · obtain ⟨e1, e2⟩ := red_one bc.1 ba.1 fyL.2.2 fxL.2.2 r
              rw [e1, e2] at ne
              simp at ne
          | 1, hu =>
            refine ⟨a2, x, x, a, b, a, b, true, false, (Option.some.inj hu).symm, q2, fxL, fxL, ba, ba, fun z r => ?_⟩
            rcases r with r | ⟨_, _, r⟩
            · omega
            · cases r
          | 2, hu =>
            refine ⟨a3, x, x, a, b, a, b, false, true, (Option.some.inj hu).symm, q3, fxL, fxL, ba, ba, fun z r => ?_⟩
            rcases r with r | ⟨_, r, _⟩
            · omega
            · cases r
          | i + 3, hu => cases hu
        obtain ⟨ai, x1, x2, i1, j1, i2, j2, one, two, rfl, eai, f1, f2, b1, b2, bad⟩ := turn
        have f1' := f1.keep (.of sG')
        have f2' := f2.keep (.of sG')
        refine ⟨ai, _, rfl, SqT.of' (sG' _ _ eai), rfl, ⟨_, _, rfl, ⟨_, _, rfl, ⟨_, _, rfl, ⟨_, _, rfl, rfl, ?_⟩⟩⟩⟩⟩
        refine ⟨_, rfl, _, rfl, _, _, pr_dp f1'.1, pr_dp f2'.1, pr_shaped _ _, pr_shaped _ _, ?_⟩
        rw [pr_eqv]
        refine ⟨_, rfl, ?_⟩
        cases he : (i1 == i2 && j1 == j2) with
        | false =>
          refine iteT (iteT ?_)
          have nr := bad (.inl he)
          refine ⟨_, rfl, _, rfl, _, rfl, _, rfl, x1, x2, .str "floor", one, two, rfl, .inr (.inr (.inr ⟨_, i1, j1, i2, j2, rfl, .inl rfl, f1', f2', b1.sl.1, b1.sl.2, b2.sl.1, b2.sl.2, nr, fun tA pA HA sA etA eA => ?_⟩))⟩
          refine ⟨_, rfl, _, rfl, (by show 2 ≤ sizeLine; decide), fun tB nB => ?_⟩
          have sB : Same HA (upd HA tB (.tup [x1, x2])) := Same.new nB
          have dpa := DpAll.cons (pr_dp (f1'.keep (.of (sA.trans sB))).1) (DpAll.cons (pr_dp (f2'.keep (.of (sA.trans sB))).1) DpAll.nil)
          refine ⟨pA, "bounds", .ref tA, .ref tB, rfl, SqL.of (sB _ _ eA), .inr ⟨tA, tB, _, _, _, 0, rfl, rfl, sB _ _ etA, upd_same, dpa, dpa, its_two b1 b2, by decide, ?_⟩⟩
          exact ⟨_, rfl, iteF ⟨(sG'.trans sA).trans sB, _, _, _, _, rfl⟩⟩
        | true =>
          refine iteF ⟨_, rfl, one, rfl, ?_⟩
          cases one with
          | false =>
            refine iteF (iteT ?_)
            have nr := bad (.inr rfl)
            refine ⟨_, rfl, _, rfl, _, rfl, _, rfl, x1, x2, .str "floor", false, two, rfl, .inr (.inr (.inr ⟨_, i1, j1, i2, j2, rfl, .inl rfl, f1', f2', b1.sl.1, b1.sl.2, b2.sl.1, b2.sl.2, nr, fun tA pA HA sA etA eA => ?_⟩))⟩
            refine ⟨_, rfl, _, rfl, (by show 2 ≤ sizeLine; decide), fun tB nB => ?_⟩
            have sB : Same HA (upd HA tB (.tup [x1, x2])) := Same.new nB
            have dpa := DpAll.cons (pr_dp (f1'.keep (.of (sA.trans sB))).1) (DpAll.cons (pr_dp (f2'.keep (.of (sA.trans sB))).1) DpAll.nil)
            refine ⟨pA, "bounds", .ref tA, .ref tB, rfl, SqL.of (sB _ _ eA), .inr ⟨tA, tB, _, _, _, 0, rfl, rfl, sB _ _ etA, upd_same, dpa, dpa, its_two b1 b2, by decide, ?_⟩⟩
            exact ⟨_, rfl, iteF ⟨(sG'.trans sA).trans sB, _, _, _, _, rfl⟩⟩
          | true =>
            refine iteT ⟨_, rfl, two, rfl, ?_⟩
            cases two with
            | false =>
              refine iteT ?_
              have nr := bad (.inr rfl)
              refine ⟨_, rfl, _, rfl, _, rfl, _, rfl, x1, x2, .str "floor", true, false, rfl, .inr (.inr (.inr ⟨_, i1, j1, i2, j2, rfl, .inl rfl, f1', f2', b1.sl.1, b1.sl.2, b2.sl.1, b2.sl.2, nr, fun tA pA HA sA etA eA => ?_⟩))⟩
              refine ⟨_, rfl, _, rfl, (by show 2 ≤ sizeLine; decide), fun tB nB => ?_⟩
              have sB : Same HA (upd HA tB (.tup [x1, x2])) := Same.new nB
              have dpa := DpAll.cons (pr_dp (f1'.keep (.of (sA.trans sB))).1) (DpAll.cons (pr_dp (f2'.keep (.of (sA.trans sB))).1) DpAll.nil)
              refine ⟨pA, "bounds", .ref tA, .ref tB, rfl, SqL.of (sB _ _ eA), .inr ⟨tA, tB, _, _, _, 0, rfl, rfl, sB _ _ etA, upd_same, dpa, dpa, its_two b1 b2, by decide, ?_⟩⟩
              exact ⟨_, rfl, iteF ⟨(sG'.trans sA).trans sB, _, _, _, _, rfl⟩⟩
            | true =>
              exact iteF ⟨sG', _, _, _, _, rfl⟩
      · rintro σ' G' ⟨sG', s9, s10, s11, s12, rfl⟩
        exact q _ ((stB.trans stG).trans ((Still.of sG).trans (.of sG')))
end K26
set_option maxHeartbeats 4000000
namespace K26
open PySem L2
variable {P : Program} {w : World} {K : PySem.W.Frag} {mg : Str → Option Value} {base : Heap} {C0 C1 C2 C3 M1 M2 M3 : Addr}
/-! ### the law's script, which nothing changes -/
def Scr (K : PySem.W.Frag) (H : Hp) (a : Addr) (vs : List V) : Prop := (∃ o, H a = some (.frz o (.lst vs))) ∨ ∀ G : Hp, SqL K G a vs
theorem Scr.seq {H : Hp} {a : Addr} {vs : List V} (h : Scr K H a vs) : SqL K H a vs := by
  rcases h with ⟨o, e⟩ | h
  · exact .inl (.inr ⟨o, e⟩)
  · exact h H
theorem Scr.still {H H' : Hp} {a : Addr} {vs : List V} (s : Still H H') (h : Scr K H a vs) : Scr K H' a vs := by
  rcases h with ⟨o, e⟩ | h
  · exact .inl ⟨o, s _ _ (.inr ⟨_, _, rfl⟩) e⟩
  · exact .inr h
theorem Purse.off {H : Hp} {p a : Addr} {n : Nat} (h : Purse H p n) (e : H a = none) : a ≠ p := by
  obtain ⟨_, _, _, q, _⟩ := h
  exact ne_new (Same.refl H) q e
theorem optV_scal (o : Option Int) : scal (optV o) (optV o) = true := by
  cases o <;> rfl
/-! ### law -/
def spLaw (K : PySem.W.Frag) : Sp := fun vs H Q _ => ∃ (a : Addr) (ns : List Int), vs = [.ref a] ∧ Scr K H a (ns.map V.int) ∧ ns.length ≤ 63 ∧ ∀ H', Q (.bl true) H'
abbrev nLaw : List Str := ["_law_script", "_law_k", "_law_purse_here", "_law_bounds_here", "_law_mode", "_law_low", "_law_low_in", "_law_high", "_law_high_in"]
theorem sc_law : FnScope nLaw ["_law_script"] (defScope s_law) := ⟨rfl, rfl, rfl, by decide +kernel, rfl, by decide +kernel, by decide +kernel⟩
theorem ok_law (M : Mgs K mg) {f : Addr} {fd : FuncData} (F : Fun K "law" "law" s_law f fd) (b1 : PySem.W.nsIn K mainGlobals "range" = some none) (b2 : PySem.W.nsIn K mainGlobals "max" = some none) (b3 : PySem.W.nsIn K mainGlobals "min" = some none) (b4 : PySem.W.nsIn K mainGlobals "len" = some none)
    (cC : Cal P w K mg base CX0 "_law_cell" 1 ["_law_script", "_law_k"] (spCell K)) (cP : Cal P w K mg base CX0 "_law_purse" 1 ["_law_cell_here"] spPurse) (cB : Cal P w K mg base CX0 "_law_bounds" 4 ["_law_purse_here"] (spBounds K))
    (cR : Cal P w K mg base CX0 "_law_right" 7 ["_law_purse_here", "_law_bounds_here", "_law_mode"] (spRight K)) (cS : CalS P w K mg base 6 (spSettled K C1 C2 C3))
    (cO : CalG P w K mg base "_law_odd_right" 8 ["_law_purse_here", "_law_bounds_here"] (spOddRight K)) :
    FnG P w K mg base 9 f fd ["_law_script"] (spLaw K) := by
  obtain ⟨fs, fds, FS, ms, ks, _, ⟨ds, rds, bds⟩, _⟩ := cS.ex
  refine okG F sc_law (fun vs H Q E h => ?_) (fun cdv A outer s H vs Q gu hr h => ?_)
  · obtain ⟨a, ns, rfl, _⟩ := h
    rfl
  · obtain ⟨a, ns, rfl, sc, hl, q⟩ := h
    have nd := sc_law.nd
    have hr1 : Room 1 _ := hr.mono (by decide)
    have hr4 : Room 4 _ := hr.mono (by decide)
    have hr6 : Room 6 _ := hr.mono (by decide)
    have hr7 : Room 7 _ := hr.mono (by decide)
    refine ⟨_, pss_cons (ps_for PassesOwn.never rfl (pi_range1 (by rfl) (M.no b1) (pa_cons (pe_callB (call_max2 rfl) (by rfl) (M.no b2) (by decide +kernel) (pa_cons pe_int (pa_cons (pe_callB (call_min2 rfl) (by rfl) (M.no b3) (by decide +kernel)
          (pa_cons pe_int (pa_cons (pe_callB call_len_seq (by rfl) (M.no b4) (by decide +kernel) (pa_cons (pv 0) pa_nil)) pa_nil))) pa_nil))) pa_nil)) (pg_name (i := 1) nd rfl (Or.inl rfl))
        (pss_cons (ps_set (i := 2) nd rfl (Or.inl rfl) (pe_cal cP hr1 (by rfl) pass0 (pa_cons (pe_cal cC hr1 (by rfl) pass0 (pa_cons (pv 0) (pa_cons (pv 1) pa_nil))) pa_nil)))
        (pss_cons (ps_set (i := 3) nd rfl (Or.inl rfl) (pe_cal cB hr4 (by rfl) pass0 (pa_cons (pv 2) pa_nil)))
        (pss_cons (ps_for PassesOwn.never rfl (pi_list (pe_lst (pa_cons pe_str (pa_cons pe_str (pa_cons pe_str pa_nil))))) (pg_name (i := 4) nd rfl (Or.inl rfl))
          (pss_one (ps_if (pt_not (pt_val (pe_cal cR hr7 (by rfl) pass0 (pa_cons (pv 2) (pa_cons (pv 3) (pa_cons (pv 4) pa_nil)))))) (pss_one (ps_ret pe_bl)) pss_nil)))
        (pss_cons (ps_asg (pv 3) (pg_tup rfl (pgs_cons (pg_name (i := 5) nd rfl (Or.inl rfl)) (pgs_cons (pg_name (i := 6) nd rfl (Or.inl rfl)) (pgs_cons (pg_name (i := 7) nd rfl (Or.inl rfl)) (pgs_cons (pg_name (i := 8) nd rfl (Or.inl rfl)) pgs_nil))))))
        (pss_cons (ps_if (pt_cmpR op_ne (pe_call FS hr6 (by rfl) ms ks bds rds passL (pa_cons (pv 5) (pa_cons (pv 6) (pa_cons (pv 7) (pa_cons (pv 8) pa_nil)))))
            (pe_cal cS.cal hr6 (by rfl) passL (pa_cons (pv 5) (pa_cons (pv 6) (pa_cons (pv 7) (pa_cons (pv 8) (pa_cons pe_str pa_nil)))))) (nomark _)) (pss_one (ps_ret pe_bl)) pss_nil)
        (pss_one (ps_if (pt_not (pt_val (pe_calG cO gu hr (by rfl) (pa_cons (pv 2) (pa_cons (pv 3) pa_nil))))) (pss_one (ps_ret pe_bl)) pss_nil))))))))
      (pss_one (ps_ret pe_bl)), ?_⟩
    refine ⟨_, rfl, a, _, rfl, .inl sc.seq, 12, _, rfl, 2, _, rfl, _, rfl, ?_, ?_, ?_⟩
    · rw [List.length_map]
      split <;> split <;> omega
    · rw [List.length_map]
      split <;> split <;> omega
    refine for_range (lo := 0) (fun i σ' G => Scr K G a (ns.map V.int) ∧ ∃ s1 s2 s3 s4 s5 s6 s7 s8, σ' = [some (.ref a), s1, s2, s3, s4, s5, s6, s7, s8]) ⟨sc, _, _, _, _, _, _, _, _, rfl⟩ ?_ (fun σ' G _ => q G)
    rintro i σ' G hi ⟨scG, s1, s2, s3, s4, s5, s6, s7, s8, rfl⟩
    refine ⟨_, rfl, _, rfl, a, ns, _, rfl, scG.seq, (by omega), fun z => ⟨z, rfl, fun p H1 np sG pu => ?_⟩⟩
    refine ⟨_, rfl, p, 0, rfl, pu, by decide, fun t x y a1 b1 a2 b2 li hi H2 bt2 pu2 et fx fy bx bz rg => ?_⟩
    refine ⟨(by show 3 ≤ sizeLine; decide), fun l nl => ?_⟩
    refine ⟨l, rfl, ⟨_, SqL.of upd_same⟩, ?_⟩
    have s3 : Same H2 (upd H2 l (.lst [.str "floor", .str "ceil", .str "near"])) := Same.new nl
    have ml : l ≠ p := pu2.off nl
    refine for_list (K := K) (a := l) (xs := [.str "floor", .str "ceil", .str "near"]) (fun j σ' G' => But p H2 G' ∧ Purse G' p (0 + 20 + 2 * j) ∧ G' l = some (.lst [.str "floor", .str "ceil", .str "near"]) ∧ ∃ s4, σ' = [some (.ref a), some (.int (0 + i)), some (.ref p), some (.ref t), s4, s5, s6, s7, s8])
      ⟨.of s3, pu2.keep s3, upd_same, _, rfl⟩ (fun j σ' G' _ z => SqL.of z.2.2.1) ?_ ?_
    · rintro j u σ' G' hu ⟨bt, puG, eG, s4, rfl⟩
      have hj : j < 3 := (List.getElem?_eq_some_iff.mp hu).1
      have st := pu2.still bt
      have mode : ∃ m : Str, u = .str m ∧ Mode m := by
        match j, hu with
        | 0, hu => exact ⟨_, (Option.some.inj hu).symm, .inl rfl⟩
        | 1, hu => exact ⟨_, (Option.some.inj hu).symm, .inr (.inl rfl)⟩
        | 2, hu => exact ⟨_, (Option.some.inj hu).symm, .inr (.inr rfl)⟩
        | j + 3, hu => cases hu
      obtain ⟨m, rfl, hm⟩ := mode
      refine ⟨_, rfl, _, rfl, _, rfl, p, t, 0 + 20 + 2 * j, m, x, y, a1, b1, a2, b2, li, hi, rfl, hm, puG, by omega, st.seqT (SqT.of' et), fx.keep st, fy.keep st, bx, bz, rg, fun H3 bt3 pu3 => ?_⟩
      exact ⟨_, rfl, iteF ⟨bt.trans bt3, pu3, bt3 _ _ ml eG, _, rfl⟩⟩
    · rintro σ' G' ⟨bt, puG, eG, s4, rfl⟩
      have st := pu2.still bt
      have fx' := fx.keep st
      have fy' := fy.keep st
      have et' := st.seqT (SqT.of' (K := K) et)
      refine ⟨_, rfl, t, _, rfl, et', rfl, ⟨_, _, rfl, ⟨_, _, rfl, ⟨_, _, rfl, ⟨_, _, rfl, rfl, ?_⟩⟩⟩⟩⟩
      refine ⟨_, rfl, _, rfl, _, rfl, _, rfl, x, y, .str "floor", li, hi, rfl, .inl ⟨_, a1, b1, a2, b2, rfl, .inl rfl, fx', fy', bx.sl.1, bx.sl.2, bz.sl.1, bz.sl.2, .inl ⟨rg, fun H3 s3' => ?_⟩⟩⟩
      refine ⟨_, rfl, _, rfl, _, rfl, _, rfl, x, y, .str "floor", li, hi, rfl, .inl ⟨_, a1, b1, a2, b2, rfl, .inl rfl, fx'.keep (.of s3'), fy'.keep (.of s3'), bx.sl.1, bx.sl.2, bz.sl.1, bz.sl.2, .inl ⟨rg, fun H4 s4' => ?_⟩⟩⟩
      refine ⟨optV_scal _, _, rfl, ?_⟩
      rw [decide_eq_true rfl]
      have sE : Same G' H4 := s3'.trans s4'
      refine iteF ⟨_, rfl, _, rfl, p, t, _, x, y, a1, b1, a2, b2, li, hi, rfl, puG.keep sE, (by show 0 + 20 + 2 * 3 ≤ 800; decide), (Still.of sE).seqT et', fx'.keep (.of sE), fy'.keep (.of sE), bx, bz, rg, fun H5 st5 => ?_⟩
      refine ⟨_, rfl, iteF ⟨?_, _, _, _, _, _, _, _, _, rfl⟩⟩
      exact scG.still ((Still.of sG).trans ((pu.still bt2).trans (st.trans ((Still.of sE).trans st5))))
section
open PySem.Spec PyProof.Rows
/-! ### the law, called where nothing runs: no guarded call is on -/
theorem law_callG {mb : Str → Option Value} {k : Nat} {fa a : Addr} {fd : FuncData} {x : Str} {sp : Sp} {s₁ : Shared} {us : List Value} {ns : List Int} (KX : K.In s₁.heap) (gm : s₁.heap.Ns mainGlobals mg) (gb : s₁.heap.Ns builtinsNs mb)
    (bb : ∀ x : Str, x ≠ "__name__" → mb x = bootBuiltins x) (nl : s₁.heap.NoLimit) (ng : s₁.gens = #[]) (ha : s₁.heap.get? a = some { cls := .type "list", data := .seq us.toArray }) (hi : IntsAre us ns) (hl : ns.length ≤ sizeLine) (hr : Room k callerA)
    (F : ∀ base : Heap, K.In base → base.Ns mainGlobals mg → FnG P w K mg base k fa fd [x] sp) (hb : ∀ (s : Shared) (u : Value), BindsTo s fd ⟨[u], []⟩ [(x, u)])
    (hsp : ∀ H : Hp, Scr K H a (ns.map V.int) → sp [.ref a] H (fun v _ => v = .bl true) E0) :
    codeAny (model P w) callerA (.call (.ref fa) ⟨[.ref a], []⟩) (fun r s' => r = .ok (.ret (.bool true)) ∧ OldK s₁.heap s'.heap ∧ s'.os = s₁.os ∧ AllBare s'.gens) s₁ := by
  have rv := vals_ints hi
  obtain ⟨T, hT⟩ : ∃ T : HO, T = .frz { cls := .type "list", data := .seq us.toArray } (.lst (ns.map V.int)) := ⟨_, rfl⟩
  obtain ⟨H, hH⟩ : ∃ H : Hp, ∀ b, H b = if K.lookup a = none ∧ b = a then some T else none := ⟨fun b => if K.lookup a = none ∧ b = a then some T else none, fun _ => rfl⟩
  have at' : ∀ {b : Addr} {u : HO}, H b = some u → K.lookup a = none ∧ b = a ∧ u = T := fun {b u} e => by
    rw [hH] at e
    split at e
    · rename_i c
      exact ⟨c.1, c.2, (Option.some.inj e).symm⟩
    · cases e
  have free : ∀ {b : Addr} {o : Obj}, s₁.heap.get? b = some o → (∀ vs n, o.data ≠ .seq vs n) → H b = none := fun {b o} e d => by
    cases q : H b with
    | none => rfl
    | some u =>
      obtain ⟨_, e', _⟩ := at' q
      rw [e', ha] at e
      cases e
      exact absurd rfl (d _ _)
  have ns' : ∀ {b : Addr} {m : Str → Option Value}, s₁.heap.Ns b m → (hidT s₁.heap H).Ns b m := fun {b m} ⟨o, es, ep, e, d, r⟩ => ⟨o, es, ep, hidT_get e (free e fun vs n z => by rw [d] at z; cases z), d, r⟩
  have KB : K.In (hidT s₁.heap H) := fun b o e => hidT_get (KX b o e) (by
    cases q : H b with
    | none => rfl
    | some u =>
      obtain ⟨n, e', _⟩ := at' q
      rw [e', n] at e
      cases e)
  have hok : HOk P w H s₁.heap := fun b u e => by
    obtain ⟨_, e1, e2⟩ := at' e
    subst e1
    subst e2
    subst hT
    exact ⟨ha, by rw [List.length_map]; exact hl, us, _, rv, ha⟩
  have sc : Scr K H a (ns.map V.int) := by
    cases q : K.lookup a with
    | none => exact .inl ⟨_, by rw [hH, if_pos ⟨q, rfl⟩, hT]⟩
    | some o =>
      have e := KX a o q
      rw [ha] at e
      cases e
      exact .inr fun G => .inr ⟨_, us.toArray, _, q, rfl, rfl, rfl, by rw [List.size_toArray, hi.length]; exact hl, by simpa using rv⟩
  have env : Env0 P w K mg (hidT s₁.heap H) callerA [] s₁ H := ⟨rfl, ⟨KB, ns' gm, ⟨mb, ns' gb, bb⟩, let ⟨mc, h1, h2⟩ := nl; ⟨mc, ns' h1, h2⟩⟩, fun b o e => of_hidT e, Nat.le_of_eq (hidT_size _ _), trivial, fun b hm => (List.not_mem_nil (show b ∈ ([] : List Addr) from hm)).elim, hok, .of_eq ng⟩
  refine codeAny_mono ((F _ KB (ns' gm)).run callerA [] s₁ H ⟨[.ref a], []⟩ [.ref a] [.ref a] _ rfl hr env (hb s₁ (.ref a)) (.cons rfl .nil) (hsp H sc)) fun r s' out => ?_
  match r, out with
  | .ok (.ret u), ⟨v, H', os, bare, un, hok', r', q⟩ =>
    have q' : v = .bl true := q
    subst q'
    obtain rfl : u = Value.bool true := r'
    refine ⟨rfl, OldK.of_keep fun b o e => ?_, os, bare⟩
    cases c : H b with
    | none => exact un.keep b o e c (fun z => List.not_mem_nil (show b ∈ ([] : List Addr) from z)) (fun z => List.not_mem_nil z)
    | some t =>
      obtain ⟨_, _, e2⟩ := at' c
      subst e2
      subst hT
      obtain ⟨h1, _⟩ := hok b _ c
      obtain ⟨h2, _⟩ := hok' b _ (un.frzs b _ _ c)
      rw [e] at h1
      cases h1
      exact h2
theorem law_walk {l : PySem.W.OpenLaw} {q : Program} {loose : List Str} {XP : (Str → Option Value) → Heap → Prop} {YP : World → Heap → Prop} {d : DefRec} {KK : Params → PySem.W.Frag} (hn : l.most = some 63) (hdf : d.params.defaults = [])
    (hY : ∀ (w : World) (h : Heap), YP w h → (KK w.params).In h)
    (F : ∀ (w : World) (mg : Str → Option Value) (fa : Addr) (h : Heap), (KK w.params).In h → h.Ns mainGlobals mg → mg d.name = some (.ref fa) →
      ∃ fd : FuncData, (∀ (s : Shared) (u : Value), BindsTo s fd ⟨[u], []⟩ [("_law_script", u)]) ∧ ∀ base : Heap, (KK w.params).In base → base.Ns mainGlobals mg → FnG l.prog w (KK w.params) mg base 9 fa fd ["_law_script"] (spLaw (KK w.params))) :
    PySem.W.WalkO q loose XP YP l.row.toRowW d [] (fun f vs => PySem.call f vs) := by
  refine Att.attach_call hn hdf fun w s₀ s₁ mg mb fa o pm cd doc a vs ns G Y ho hd hcd hmg hobj hints hlen hg => ?_
  have KX := hY w _ Y
  obtain ⟨fd, hb, hF⟩ := F w mg fa _ KX G.T.g hmg
  exact law_callG KX G.T.g G.T.b G.T.builtins G.T.nolimit hg hobj hints (by rw [sizeLine_eq]; omega) ⟨rfl, by decide, by decide⟩ hF hb fun H sc => ⟨a, ns, rfl, sc, hlen, fun _ => rfl⟩
end
end K26
set_option maxHeartbeats 4000000
namespace K26
open PySem L2
/-- the whole text, from what the written part says of it -/
theorem law_of {P : Program} {w : World} {K : PySem.W.Frag} {mg : Str → Option Value} {h : Heap} {fa C0 C1 C2 C3 M1 M2 M3 : Addr} (Fc : Facts K C0 C1 C2 C3 M1 M2 M3) (KX : K.In h) (G : h.Ns mainGlobals mg) (hmg : mg "law" = some (.ref fa)) :
    ∃ fd : FuncData, (∀ (s : Shared) (u : Value), BindsTo s fd ⟨[u], []⟩ [("_law_script", u)]) ∧ ∀ base : Heap, K.In base → base.Ns mainGlobals mg → FnG P w K mg base 9 fa fd ["_law_script"] (spLaw K) := by
  have M := mgs_mk KX G
  have S : Sup K mg C0 := ⟨M.of Fc.a0, Fc.rd0, Fc.ga0, Fc.fi0⟩
  have c : Cst K mg := by
    refine ⟨?_, ?_, ?_, ?_⟩
    · obtain ⟨t, e⟩ := Fc.fl
      exact ⟨t, M.of e⟩
    · obtain ⟨t, e⟩ := Fc.ce
      exact ⟨t, M.of e⟩
    · obtain ⟨t, e⟩ := Fc.ne
      exact ⟨t, M.of e⟩
    · obtain ⟨a, od, t1, t2, t3, n, sl, e1, e2⟩ := Fc.mn
      refine ⟨a, M.of e1, fun H => .inr ⟨_, _, _, e2, rfl, rfl, ?_, ?_⟩⟩
      · rw [sizeLine_eq]
        exact Nat.le_of_ble_eq_true rfl
      · exact .cons ⟨t1, rfl⟩ (.cons ⟨t2, rfl⟩ (.cons ⟨t3, rfl⟩ .nil))
  have B : Cls3 K C0 C1 C2 C3 := ⟨Fc.x1, Fc.x2, Fc.x3, Fc.m12, Fc.m31, Fc.m32, Fc.ic0, Fc.ty0, Fc.gd, Fc.tk⟩
  obtain ⟨f, fd, hf, F⟩ := Fc.d_law
  have e := M.of hf
  rw [hmg] at e
  cases e
  refine ⟨fd, ?_, fun base _ _ => ?_⟩
  · obtain ⟨oc, od, kV, doc, pm, an, cdv, ct, osl, rfl, lk, hcd⟩ := F.ex
    exact fun s u => .of_eq rfl
  · have cNum := ok_is_number (P := P) (w := w) (base := base) M Fc.d_is_number Fc.b_isi Fc.b_int Fc.b_bool
    have cCom := ok_common (P := P) (w := w) (base := base) M Fc.d_common Fc.b_abs
    have cFr := ok_is_fraction M Fc.d_is_fraction Fc.b_isi Fc.b_tup Fc.b_len cNum cCom
    have cNeed := ok_need_fraction M S Fc.d_need_fraction Fc.x1 cFr
    have cMade := ok_made M Fc.d_made cCom
    have cSign := ok_sign_of M Fc.d_sign_of Fc.b_int cNeed
    have cMan := ok_is_manner (P := P) (w := w) (base := base) M Fc.d_is_manner c Fc.b_isi Fc.b_str
    have cManOf := ok_manner_of M S Fc.d_manner_of c Fc.x2 Fc.k1 Fc.k2 Fc.k3 cMan
    have cWhole := ok_whole_of M c Fc.d_whole_of cNeed cMan
    have cMeet := ok_floors_meet M c Fc.d_floors_meet cWhole cSign
    have cTurn := ok_sign_turned (P := P) (w := w) (base := base) M Fc.d_sign_turned
    have cHalf := ok_half_on M Fc.d_half_on cMade
    have cSet := ok_settled M S c Fc.d_settled Fc.x3 Fc.k1 Fc.k2 Fc.k3 cManOf cNeed cSign cMeet cTurn cHalf
    have cCell := ok_law_cell (P := P) (w := w) (base := base) M Fc.d_law_cell Fc.b_len
    have cPurse := ok_law_purse (P := P) (w := w) (base := base) M Fc.d_law_purse Fc.b_max
    have cTake := ok_law_take (P := P) (w := w) (base := base) M Fc.d_law_take
    have cLCom := ok_law_common (P := P) (w := w) (base := base) M Fc.d_law_common Fc.b_abs
    have cLow := ok_law_lowest M Fc.d_law_lowest Fc.b_int cLCom
    have cTerm := ok_law_term (P := P) (w := w) (base := base) M Fc.d_law_term
    have cEnd := ok_law_end M Fc.d_law_end cTake cLow
    have cBounds := ok_law_bounds M Fc.d_law_bounds Fc.b_int cTake cLow cEnd
    have cBetw := ok_law_between M Fc.d_law_between cLow
    have cInside := ok_law_inside M Fc.d_law_inside Fc.b_int cTake cBetw
    have cRight := ok_law_right M Fc.d_law_right Fc.b_repr cSet cInside cTerm
    have cVery := ok_law_very (P := P) (w := w) (base := base) M Fc.d_law_very Fc.b_isi Fc.b_list Fc.b_dict Fc.b_repr
    have cRef := ok_law_refused M Fc.d_law_refused cVery
    have cAsked := ok_law_asked M S Fc.d_law_asked B Fc.b_isi cSet
    have cOdd := ok_law_odd M Fc.d_law_odd cTake
    have cOddR := ok_law_odd_right M Fc.d_law_odd_right cTake cOdd cFr cAsked cRef
    exact ok_law M F Fc.b_rng Fc.b_max Fc.b_min Fc.b_len cCell cPurse cBounds cRight cSet cOddR
end K26
open PySem PySem.W PyProof.Rows in
set_option maxHeartbeats 0 in
theorem PySem.Challenge.cw_termstream_k26_whole_terms_settled_holds : PySem.Challenge.rw_termstream_k26_whole_terms_settled.Holds := by
  w_on; o_law; k_head; (case hw => w_witness2)
  k_fill
  refine K26.law_walk (l := PySem.Challenge.rw_termstream_k26_whole_terms_settled) rfl rfl (fun w h Y => PySem.W.kIn_of Y) ?F
  case F =>
  intro w mg fa h KX G hmg
  refine' K26.law_of (K26.Facts.mk ?a0 ?rd0 ?ga0 ?fi0 ?ic0 ?ty0 ?gd ?tk ?x1 ?x2 ?x3 ?m12 ?m13 ?m21 ?m23 ?m31 ?m32 ?k1 ?k2 ?k3 ?fl ?ce ?ne ?mn ?b_abs ?b_int ?b_len ?b_isi ?b_bool ?b_str ?b_tup ?b_list ?b_dict ?b_repr ?b_max ?b_min ?b_rng ?d_is_number ?d_common ?d_is_fraction ?d_need_fraction ?d_made ?d_sign_of ?d_is_manner ?d_whole_of ?d_manner_of ?d_floors_meet ?d_sign_turned ?d_half_on ?d_settled ?d_law_cell ?d_law_purse ?d_law_take ?d_law_odd ?d_law_very ?d_law_term ?d_law_common ?d_law_lowest ?d_law_end ?d_law_bounds ?d_law_between ?d_law_inside ?d_law_right ?d_law_asked ?d_law_refused ?d_law_odd_right ?d_law) KX G hmg
  (case a0 => k_is)
  (case rd0 => k_is)
  (case ga0 => k_is)
  (case fi0 => k_is)
  (case ic0 => k_is)
  (case ty0 => k_is)
  (case gd => k_is)
  (case tk => k_is)
  (case x1 => (refine' K26.xc_mk ?x1_aC ?x1_xL ?x1_sa ?x1_ga ?x1_gg ?x1_nf ?x1_a1 ?x1_t1 ?x1_l1 ?x1_c1 ?x1_k1 ?x1_kC ?x1_eC ?x1_tC ?x1_hC ?x1_iC ?x1_cl ?x1_mo ?x1_s0 ?x1_ss; (case x1_aC => k_is); (case x1_xL => k_is); (case x1_sa => k_is); (case x1_ga => k_is); (case x1_gg => k_is); (case x1_nf => k_is); (case x1_a1 => k_is); (case x1_t1 => k_is); (case x1_l1 => k_is); (case x1_c1 => k_is); (case x1_k1 => k_is); (case x1_kC => k_is); (case x1_eC => k_is); (case x1_tC => k_is); (case x1_hC => k_is); (case x1_iC => k_is); (case x1_cl => k_is); (case x1_mo => k_is); (case x1_s0 => k_is); (case x1_ss => k_is)))
  (case x2 => (refine' K26.xc_mk ?x2_aC ?x2_xL ?x2_sa ?x2_ga ?x2_gg ?x2_nf ?x2_a1 ?x2_t1 ?x2_l1 ?x2_c1 ?x2_k1 ?x2_kC ?x2_eC ?x2_tC ?x2_hC ?x2_iC ?x2_cl ?x2_mo ?x2_s0 ?x2_ss; (case x2_aC => k_is); (case x2_xL => k_is); (case x2_sa => k_is); (case x2_ga => k_is); (case x2_gg => k_is); (case x2_nf => k_is); (case x2_a1 => k_is); (case x2_t1 => k_is); (case x2_l1 => k_is); (case x2_c1 => k_is); (case x2_k1 => k_is); (case x2_kC => k_is); (case x2_eC => k_is); (case x2_tC => k_is); (case x2_hC => k_is); (case x2_iC => k_is); (case x2_cl => k_is); (case x2_mo => k_is); (case x2_s0 => k_is); (case x2_ss => k_is)))
  (case x3 => (refine' K26.xc_mk ?x3_aC ?x3_xL ?x3_sa ?x3_ga ?x3_gg ?x3_nf ?x3_a1 ?x3_t1 ?x3_l1 ?x3_c1 ?x3_k1 ?x3_kC ?x3_eC ?x3_tC ?x3_hC ?x3_iC ?x3_cl ?x3_mo ?x3_s0 ?x3_ss; (case x3_aC => k_is); (case x3_xL => k_is); (case x3_sa => k_is); (case x3_ga => k_is); (case x3_gg => k_is); (case x3_nf => k_is); (case x3_a1 => k_is); (case x3_t1 => k_is); (case x3_l1 => k_is); (case x3_c1 => k_is); (case x3_k1 => k_is); (case x3_kC => k_is); (case x3_eC => k_is); (case x3_tC => k_is); (case x3_hC => k_is); (case x3_iC => k_is); (case x3_cl => k_is); (case x3_mo => k_is); (case x3_s0 => k_is); (case x3_ss => k_is)))
  (case m12 => k_is)
  (case m13 => k_is)
  (case m21 => k_is)
  (case m23 => k_is)
  (case m31 => k_is)
  (case m32 => k_is)
  (case k1 => (refine' K26.mc_mk ?k1_aC ?k1_pg ?k1_hd ?k1_po ?k1_sa ?k1_mk ?k1_kc ?k1_ini ?k1_a1 ?k1_i1 ?k1_l1 ?k1_c1 ?k1_k1; (case k1_aC => k_is); (case k1_pg => k_is); (case k1_hd => k_is); (case k1_po => k_is); (case k1_sa => k_is); (case k1_mk => k_is); (case k1_kc => k_is); (case k1_ini => k_is); (case k1_a1 => k_is); (case k1_i1 => k_is); (case k1_l1 => k_is); (case k1_c1 => k_is); (case k1_k1 => k_is)))
  (case k2 => (refine' K26.mc_mk ?k2_aC ?k2_pg ?k2_hd ?k2_po ?k2_sa ?k2_mk ?k2_kc ?k2_ini ?k2_a1 ?k2_i1 ?k2_l1 ?k2_c1 ?k2_k1; (case k2_aC => k_is); (case k2_pg => k_is); (case k2_hd => k_is); (case k2_po => k_is); (case k2_sa => k_is); (case k2_mk => k_is); (case k2_kc => k_is); (case k2_ini => k_is); (case k2_a1 => k_is); (case k2_i1 => k_is); (case k2_l1 => k_is); (case k2_c1 => k_is); (case k2_k1 => k_is)))
  (case k3 => (refine' K26.mc_mk ?k3_aC ?k3_pg ?k3_hd ?k3_po ?k3_sa ?k3_mk ?k3_kc ?k3_ini ?k3_a1 ?k3_i1 ?k3_l1 ?k3_c1 ?k3_k1; (case k3_aC => k_is); (case k3_pg => k_is); (case k3_hd => k_is); (case k3_po => k_is); (case k3_sa => k_is); (case k3_mk => k_is); (case k3_kc => k_is); (case k3_ini => k_is); (case k3_a1 => k_is); (case k3_i1 => k_is); (case k3_l1 => k_is); (case k3_c1 => k_is); (case k3_k1 => k_is)))
  (case fl => (refine' K26.tok_mk ?fl_a; (case fl_a => k_is)))
  (case ce => (refine' K26.tok_mk ?ce_a; (case ce_a => k_is)))
  (case ne => (refine' K26.tok_mk ?ne_a; (case ne_a => k_is)))
  (case mn => (refine' K26.mn_mk ?mn_a ?mn_b; (case mn_a => k_is); (case mn_b => k_is)))
  (case b_abs => k_is)
  (case b_int => k_is)
  (case b_len => k_is)
  (case b_isi => k_is)
  (case b_bool => k_is)
  (case b_str => k_is)
  (case b_tup => k_is)
  (case b_list => k_is)
  (case b_dict => k_is)
  (case b_repr => k_is)
  (case b_max => k_is)
  (case b_min => k_is)
  (case b_rng => k_is)
  (case d_is_number => (refine' K26.df_mk ?d_is_number_a ?d_is_number_l ?d_is_number_c ?d_is_number_k; (case d_is_number_a => k_is); (case d_is_number_l => k_is); (case d_is_number_c => k_is); (case d_is_number_k => k_is)))
  (case d_common => (refine' K26.df_mk ?d_common_a ?d_common_l ?d_common_c ?d_common_k; (case d_common_a => k_is); (case d_common_l => k_is); (case d_common_c => k_is); (case d_common_k => k_is)))
  (case d_is_fraction => (refine' K26.df_mk ?d_is_fraction_a ?d_is_fraction_l ?d_is_fraction_c ?d_is_fraction_k; (case d_is_fraction_a => k_is); (case d_is_fraction_l => k_is); (case d_is_fraction_c => k_is); (case d_is_fraction_k => k_is)))
  (case d_need_fraction => (refine' K26.df_mk ?d_need_fraction_a ?d_need_fraction_l ?d_need_fraction_c ?d_need_fraction_k; (case d_need_fraction_a => k_is); (case d_need_fraction_l => k_is); (case d_need_fraction_c => k_is); (case d_need_fraction_k => k_is)))
  (case d_made => (refine' K26.df_mk ?d_made_a ?d_made_l ?d_made_c ?d_made_k; (case d_made_a => k_is); (case d_made_l => k_is); (case d_made_c => k_is); (case d_made_k => k_is)))
  (case d_sign_of => (refine' K26.df_mk ?d_sign_of_a ?d_sign_of_l ?d_sign_of_c ?d_sign_of_k; (case d_sign_of_a => k_is); (case d_sign_of_l => k_is); (case d_sign_of_c => k_is); (case d_sign_of_k => k_is)))
  (case d_is_manner => (refine' K26.df_mk ?d_is_manner_a ?d_is_manner_l ?d_is_manner_c ?d_is_manner_k; (case d_is_manner_a => k_is); (case d_is_manner_l => k_is); (case d_is_manner_c => k_is); (case d_is_manner_k => k_is)))
  (case d_whole_of => (refine' K26.dd_mk ?d_whole_of_a ?d_whole_of_l ?d_whole_of_t ?d_whole_of_c ?d_whole_of_k; (case d_whole_of_a => k_is); (case d_whole_of_l => k_is); (case d_whole_of_t => k_is); (case d_whole_of_c => k_is); (case d_whole_of_k => k_is)))
  (case d_manner_of => (refine' K26.df_mk ?d_manner_of_a ?d_manner_of_l ?d_manner_of_c ?d_manner_of_k; (case d_manner_of_a => k_is); (case d_manner_of_l => k_is); (case d_manner_of_c => k_is); (case d_manner_of_k => k_is)))
  (case d_floors_meet => (refine' K26.df_mk ?d_floors_meet_a ?d_floors_meet_l ?d_floors_meet_c ?d_floors_meet_k; (case d_floors_meet_a => k_is); (case d_floors_meet_l => k_is); (case d_floors_meet_c => k_is); (case d_floors_meet_k => k_is)))
  (case d_sign_turned => (refine' K26.df_mk ?d_sign_turned_a ?d_sign_turned_l ?d_sign_turned_c ?d_sign_turned_k; (case d_sign_turned_a => k_is); (case d_sign_turned_l => k_is); (case d_sign_turned_c => k_is); (case d_sign_turned_k => k_is)))
  (case d_half_on => (refine' K26.df_mk ?d_half_on_a ?d_half_on_l ?d_half_on_c ?d_half_on_k; (case d_half_on_a => k_is); (case d_half_on_l => k_is); (case d_half_on_c => k_is); (case d_half_on_k => k_is)))
  (case d_settled => (refine' K26.dd_mk ?d_settled_a ?d_settled_l ?d_settled_t ?d_settled_c ?d_settled_k; (case d_settled_a => k_is); (case d_settled_l => k_is); (case d_settled_t => k_is); (case d_settled_c => k_is); (case d_settled_k => k_is)))
  (case d_law_cell => (refine' K26.df_mk ?d_law_cell_a ?d_law_cell_l ?d_law_cell_c ?d_law_cell_k; (case d_law_cell_a => k_is); (case d_law_cell_l => k_is); (case d_law_cell_c => k_is); (case d_law_cell_k => k_is)))
  (case d_law_purse => (refine' K26.df_mk ?d_law_purse_a ?d_law_purse_l ?d_law_purse_c ?d_law_purse_k; (case d_law_purse_a => k_is); (case d_law_purse_l => k_is); (case d_law_purse_c => k_is); (case d_law_purse_k => k_is)))
  (case d_law_take => (refine' K26.df_mk ?d_law_take_a ?d_law_take_l ?d_law_take_c ?d_law_take_k; (case d_law_take_a => k_is); (case d_law_take_l => k_is); (case d_law_take_c => k_is); (case d_law_take_k => k_is)))
  (case d_law_odd => (refine' K26.df_mk ?d_law_odd_a ?d_law_odd_l ?d_law_odd_c ?d_law_odd_k; (case d_law_odd_a => k_is); (case d_law_odd_l => k_is); (case d_law_odd_c => k_is); (case d_law_odd_k => k_is)))
  (case d_law_very => (refine' K26.df_mk ?d_law_very_a ?d_law_very_l ?d_law_very_c ?d_law_very_k; (case d_law_very_a => k_is); (case d_law_very_l => k_is); (case d_law_very_c => k_is); (case d_law_very_k => k_is)))
  (case d_law_term => (refine' K26.df_mk ?d_law_term_a ?d_law_term_l ?d_law_term_c ?d_law_term_k; (case d_law_term_a => k_is); (case d_law_term_l => k_is); (case d_law_term_c => k_is); (case d_law_term_k => k_is)))
  (case d_law_common => (refine' K26.df_mk ?d_law_common_a ?d_law_common_l ?d_law_common_c ?d_law_common_k; (case d_law_common_a => k_is); (case d_law_common_l => k_is); (case d_law_common_c => k_is); (case d_law_common_k => k_is)))
  (case d_law_lowest => (refine' K26.df_mk ?d_law_lowest_a ?d_law_lowest_l ?d_law_lowest_c ?d_law_lowest_k; (case d_law_lowest_a => k_is); (case d_law_lowest_l => k_is); (case d_law_lowest_c => k_is); (case d_law_lowest_k => k_is)))
  (case d_law_end => (refine' K26.df_mk ?d_law_end_a ?d_law_end_l ?d_law_end_c ?d_law_end_k; (case d_law_end_a => k_is); (case d_law_end_l => k_is); (case d_law_end_c => k_is); (case d_law_end_k => k_is)))
  (case d_law_bounds => (refine' K26.df_mk ?d_law_bounds_a ?d_law_bounds_l ?d_law_bounds_c ?d_law_bounds_k; (case d_law_bounds_a => k_is); (case d_law_bounds_l => k_is); (case d_law_bounds_c => k_is); (case d_law_bounds_k => k_is)))
  (case d_law_between => (refine' K26.df_mk ?d_law_between_a ?d_law_between_l ?d_law_between_c ?d_law_between_k; (case d_law_between_a => k_is); (case d_law_between_l => k_is); (case d_law_between_c => k_is); (case d_law_between_k => k_is)))
  (case d_law_inside => (refine' K26.df_mk ?d_law_inside_a ?d_law_inside_l ?d_law_inside_c ?d_law_inside_k; (case d_law_inside_a => k_is); (case d_law_inside_l => k_is); (case d_law_inside_c => k_is); (case d_law_inside_k => k_is)))
  (case d_law_right => (refine' K26.df_mk ?d_law_right_a ?d_law_right_l ?d_law_right_c ?d_law_right_k; (case d_law_right_a => k_is); (case d_law_right_l => k_is); (case d_law_right_c => k_is); (case d_law_right_k => k_is)))
  (case d_law_asked => (refine' K26.df_mk ?d_law_asked_a ?d_law_asked_l ?d_law_asked_c ?d_law_asked_k; (case d_law_asked_a => k_is); (case d_law_asked_l => k_is); (case d_law_asked_c => k_is); (case d_law_asked_k => k_is)))
  (case d_law_refused => (refine' K26.df_mk ?d_law_refused_a ?d_law_refused_l ?d_law_refused_c ?d_law_refused_k; (case d_law_refused_a => k_is); (case d_law_refused_l => k_is); (case d_law_refused_c => k_is); (case d_law_refused_k => k_is)))
  (case d_law_odd_right => (refine' K26.df_mk ?d_law_odd_right_a ?d_law_odd_right_l ?d_law_odd_right_c ?d_law_odd_right_k; (case d_law_odd_right_a => k_is); (case d_law_odd_right_l => k_is); (case d_law_odd_right_c => k_is); (case d_law_odd_right_k => k_is)))
  (case d_law => (refine' K26.df_mk ?d_law_a ?d_law_l ?d_law_c ?d_law_k; (case d_law_a => k_is); (case d_law_l => k_is); (case d_law_c => k_is); (case d_law_k => k_is)))
