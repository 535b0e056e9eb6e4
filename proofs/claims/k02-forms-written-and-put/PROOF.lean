import PyProof.Rows.All
import Wide.All
import OpenK.AllK
import Wide.FinOn
import HandS.ForMost
import HandS.Wide
import HandS.IsInst
import HandS.ExcBuiltin
import HandS.TryOnly
import HandS.Star
import HandS.Defaults
import HandS.WordsExc
import KE.KStateDown
import HandS.More
import HandS.Evl
import HandS.Head0
import HandS.Head1
import HandS.Head2
import HandS.HeadEnd
import HandS.HeadHook1
import HandS.HeadHook2
import HandS.HeadHook4
import HandS.FStr
import HandS.TupAny
import HandS.CallSlots
import HandS.Walk
import HandS.RaiseMore
import PySem.Challenge.RW_metehouse_k02_forms_written_and_put
set_option Elab.async false
set_option linter.all false
set_option maxRecDepth 100000
set_option maxHeartbeats 4000000
namespace K0
open PySem PySem.Spec PyProof.Rows L2
section
variable {X : Cx}
/-- an item of a list that is tracked -/
def rIxLH : R2 := fun x y H Q => ∃ p xs i v, x = .ref p ∧ y = .int i ∧ H p = some (.lst xs) ∧ atI xs i = some v ∧ Q v H
def rIxTH : R2 := fun x y H Q => ∃ p xs i v, x = .ref p ∧ y = .int i ∧ H p = some (.tup xs) ∧ atI xs i = some v ∧ Q v H
theorem ixL : IxR X rIxLH := by
  intro val sl pins s σ H x y v u Q I rx ry h hs
  obtain ⟨p, xs, i, w, e1, e2, h, a, q⟩ := h
  exact ix_list val sl pins s σ H x y v u Q I rx ry ⟨p, xs, i, w, e1, e2, .inl (.inl h), a, q⟩ hs
theorem ixT : IxR X rIxTH := by
  intro val sl pins s σ H x y v u Q I rx ry h hs
  obtain ⟨p, xs, i, w, e1, e2, h, a, q⟩ := h
  exact ix_tup val sl pins s σ H x y v u Q I rx ry ⟨p, xs, i, w, e1, e2, .inl (.inl h), a, q⟩ hs
theorem at_nat {α : Type} {xs : List α} (n : Nat) : atI xs (n : Int) = xs[n]? := by
  unfold atI ixN
  by_cases h : n < xs.length
  · rw [if_pos (by omega), if_pos (by omega)]
    simp
  · rw [if_pos (by omega), if_neg (by omega), List.getElem?_eq_none (by omega)]
    rfl
theorem at0 {α : Type} {xs : List α} : atI xs 0 = xs[0]? := at_nat 0
theorem at1 {α : Type} {xs : List α} : atI xs 1 = xs[1]? := at_nat 1
theorem at2 {α : Type} {xs : List α} : atI xs 2 = xs[2]? := at_nat 2
theorem at3 {α : Type} {xs : List α} : atI xs 3 = xs[3]? := at_nat 3
theorem at4 {α : Type} {xs : List α} : atI xs 4 = xs[4]? := at_nat 4
theorem at5 {α : Type} {xs : List α} : atI xs 5 = xs[5]? := at_nat 5
theorem atM1 {α : Type} {xs : List α} : atI xs (-1) = xs.getLast? := by
  cases h : xs with
  | nil => rfl
  | cons a r =>
    rw [← h, ← List.dropLast_concat_getLast (l := xs) (by rw [h]; exact List.cons_ne_nil _ _)]
    rw [atI_last, List.getLast?_append]
    simp
theorem sg_inj {a b : Nat} : (({ cps := #[a] } : Str) = { cps := #[b] }) = (a = b) := by
  apply propext
  constructor
  · intro h
    have := congrArg (fun z : Str => z.cps.toList) h
    simpa using this
  · rintro rfl; rfl
theorem dot_eq : (Str.ofString "." : Str) = { cps := #[46] } := by decide +kernel
theorem plus_eq : (Str.ofString "+" : Str) = { cps := #[43] } := by decide +kernel
theorem minus_eq : (Str.ofString "-" : Str) = { cps := #[45] } := by decide +kernel
theorem ixN_of {n : Nat} {i : Int} (h0 : 0 ≤ i) (h : i < n) : ixN n i = some i.toNat := by unfold ixN; rw [if_pos h0, if_pos h]
theorem ix0 {n : Nat} : ixN (n + 1) 0 = some 0 := ixN_of (by omega) (by omega)
theorem ix1 {n : Nat} : ixN (n + 1 + 1) 1 = some 1 := ixN_of (by omega) (by omega)
theorem ix2 {n : Nat} : ixN (n + 1 + 1 + 1) 2 = some 2 := ixN_of (by omega) (by omega)
theorem ix3 {n : Nat} : ixN (n + 1 + 1 + 1 + 1) 3 = some 3 := ixN_of (by omega) (by omega)
theorem at_int {xs : List V} {i : Int} {v : V} (h0 : 0 ≤ i) (h : xs[i.toNat]? = some v) : atI xs i = some v := by
  have e : i = ((i.toNat : Nat) : Int) := by omega
  rw [e]; exact atI_nat h
/-- products: one factor small, or both together below a million bits -/
def CMulX (i j : Int) : Prop := CMul i j ∨ CMulW i j
theorem op_mulX : OpR X (binaryOp .Mult) (rI CMulX fun i j => .int (i * j)) := opI fun _ _ _ _ _ _ _ hc q => mul_int q (hc.elim CMul.ok CMulW.ok)
theorem mulx_l {i j : Int} (h : -(2 ^ 64) < i) (h' : i < 2 ^ 64) : CMulX i j := .inl (.inl ⟨h, h'⟩)
theorem mulx_r {i j : Int} (h : -(2 ^ 64) < j) (h' : j < 2 ^ 64) : CMulX i j := .inl (.inr ⟨h, h'⟩)
theorem call_lenL : CallR X (.builtin "len") (fun xs H Q => ∃ p ys, xs = [.ref p] ∧ H p = some (.lst ys) ∧ Q (.int ys.length) H) := by
  intro pins s σ H xs us Q I r h
  obtain ⟨p, ys, e, h1, q⟩ := h
  exact call_len_seq pins s σ H xs us Q I r ⟨p, ys, e, .inl (.inl (.inl h1)), q⟩
theorem call_lenT : CallR X (.builtin "len") (fun xs H Q => ∃ p ys, xs = [.ref p] ∧ H p = some (.tup ys) ∧ Q (.int ys.length) H) := by
  intro pins s σ H xs us Q I r h
  obtain ⟨p, ys, e, h1, q⟩ := h
  exact call_len_seq pins s σ H xs us Q I r ⟨p, ys, e, .inr (.inl (.inl h1)), q⟩
/-- the built-in type of a value -/
def tyO : Option HO → Option String
  | some (.lst _) => some "list"
  | some (.tup _) => some "tuple"
  | some (.dK _) => some "dict"
  | some (.dT _) => some "dict"
  | _ => none
def tyN (H : Hp) : V → Option String
  | .non => some "NoneType"
  | .bl _ => some "bool"
  | .int _ => some "int"
  | .str _ => some "str"
  | .ref a => tyO (H a)
  | _ => none
theorem tyN_ok {K : PySem.W.Frag} {H : Hp} {x : V} {t : String} (h : tyN H x = some t) : TyOf K H x (.type t) := by
  cases x with
  | non => cases h; exact .non
  | bl b => cases h; exact .bl b
  | int b => cases h; exact .int b
  | str b => cases h; exact .str b
  | ref a =>
    have h : tyO (H a) = some t := h
    cases e : H a with
    | none => rw [e] at h; cases h
    | some o =>
      rw [e] at h
      cases o with
      | lst xs => cases h; exact .lst e
      | tup xs => cases h; exact .tup e
      | dK xs => cases h; exact .dK e
      | dT xs => cases h; exact .dT e
      | _ => cases h
  | _ => cases h
theorem tyN_non {H : Hp} : tyN H .non = some "NoneType" := rfl
theorem tyN_bl {H : Hp} {b : Bool} : tyN H (.bl b) = some "bool" := rfl
theorem tyN_int {H : Hp} {b : Int} : tyN H (.int b) = some "int" := rfl
theorem tyN_str {H : Hp} {b : Str} : tyN H (.str b) = some "str" := rfl
theorem tyN_ref {H : Hp} {b : Addr} : tyN H (.ref b) = tyO (H b) := rfl
theorem tyO_lst {xs : List V} : tyO (some (.lst xs)) = some "list" := rfl
theorem tyO_tup {xs : List V} : tyO (some (.tup xs)) = some "tuple" := rfl
theorem tyO_dK {xs : List (Key × V)} : tyO (some (.dK xs)) = some "dict" := rfl
theorem tyO_dT {xs : List (List Key × V)} : tyO (some (.dT xs)) = some "dict" := rfl
def rIsB : List V → Hp → VK → Prop := fun xs H Q => ∃ x T t b, xs = [x, .ty T] ∧ tyN H x = some t ∧ kitB t T = some b ∧ Q (.bl b) H
theorem call_isiB : CallR X (.builtin "isinstance") rIsB := by
  intro pins s σ H xs us Q I r h
  obtain ⟨x, T, t, b, e, h1, h2, q⟩ := h
  exact call_isi pins s σ H xs us Q I r ⟨x, .ty T, .type t, .type T, b, e, .ty T, .base (tyN_ok h1), kit_ty h2, q⟩
theorem kb_int_int : kitB "int" "int" = some true := by decide +kernel
theorem kb_int_bool : kitB "int" "bool" = some false := by decide +kernel
theorem kb_int_str : kitB "int" "str" = some false := by decide +kernel
theorem kb_int_tuple : kitB "int" "tuple" = some false := by decide +kernel
theorem kb_int_list : kitB "int" "list" = some false := by decide +kernel
theorem kb_int_dict : kitB "int" "dict" = some false := by decide +kernel
theorem kb_bool_int : kitB "bool" "int" = some true := by decide +kernel
theorem kb_bool_bool : kitB "bool" "bool" = some true := by decide +kernel
theorem kb_bool_str : kitB "bool" "str" = some false := by decide +kernel
theorem kb_bool_tuple : kitB "bool" "tuple" = some false := by decide +kernel
theorem kb_bool_list : kitB "bool" "list" = some false := by decide +kernel
theorem kb_bool_dict : kitB "bool" "dict" = some false := by decide +kernel
theorem kb_str_int : kitB "str" "int" = some false := by decide +kernel
theorem kb_str_bool : kitB "str" "bool" = some false := by decide +kernel
theorem kb_str_str : kitB "str" "str" = some true := by decide +kernel
theorem kb_str_tuple : kitB "str" "tuple" = some false := by decide +kernel
theorem kb_str_list : kitB "str" "list" = some false := by decide +kernel
theorem kb_str_dict : kitB "str" "dict" = some false := by decide +kernel
theorem kb_NoneType_int : kitB "NoneType" "int" = some false := by decide +kernel
theorem kb_NoneType_bool : kitB "NoneType" "bool" = some false := by decide +kernel
theorem kb_NoneType_str : kitB "NoneType" "str" = some false := by decide +kernel
theorem kb_NoneType_tuple : kitB "NoneType" "tuple" = some false := by decide +kernel
theorem kb_NoneType_list : kitB "NoneType" "list" = some false := by decide +kernel
theorem kb_NoneType_dict : kitB "NoneType" "dict" = some false := by decide +kernel
theorem kb_list_int : kitB "list" "int" = some false := by decide +kernel
theorem kb_list_bool : kitB "list" "bool" = some false := by decide +kernel
theorem kb_list_str : kitB "list" "str" = some false := by decide +kernel
theorem kb_list_tuple : kitB "list" "tuple" = some false := by decide +kernel
theorem kb_list_list : kitB "list" "list" = some true := by decide +kernel
theorem kb_list_dict : kitB "list" "dict" = some false := by decide +kernel
theorem kb_tuple_int : kitB "tuple" "int" = some false := by decide +kernel
theorem kb_tuple_bool : kitB "tuple" "bool" = some false := by decide +kernel
theorem kb_tuple_str : kitB "tuple" "str" = some false := by decide +kernel
theorem kb_tuple_tuple : kitB "tuple" "tuple" = some true := by decide +kernel
theorem kb_tuple_list : kitB "tuple" "list" = some false := by decide +kernel
theorem kb_tuple_dict : kitB "tuple" "dict" = some false := by decide +kernel
theorem kb_dict_int : kitB "dict" "int" = some false := by decide +kernel
theorem kb_dict_bool : kitB "dict" "bool" = some false := by decide +kernel
theorem kb_dict_str : kitB "dict" "str" = some false := by decide +kernel
theorem kb_dict_tuple : kitB "dict" "tuple" = some false := by decide +kernel
theorem kb_dict_list : kitB "dict" "list" = some false := by decide +kernel
theorem kb_dict_dict : kitB "dict" "dict" = some true := by decide +kernel
/-- x(e, ..) by a positional promise -/
def tCallR (sp : Sp) (E : XK) (t : TA) : TE := fun σ H Q => t σ H fun vs H1 => sp vs H1 Q E
theorem pe_callR {CX : CXT} {k : Nat} {f : Addr} {sp : Sp} {E : XK} {x : Str} {p pos : Pos} {e : Expr} {es : List Expr} {t : TA} (F : FnR X.prog X.w X.K X.mg X.base CX k f sp) (hr : Room k X.A) (hg : Gl X x) (hm : X.mg x = some (.ref f)) (hk : PySem.W.keepIn X.K (.ref f) = true) (hx : Passes CX X E)
    (ha : PA X (e :: es) t) (hdb : (x == ("__debug__" : Str)) = false := by decide) (he : starEach (e :: es) X.env = (false, eval e X.env) :: starEach es X.env := by rfl) (hpl : (backTo pos (starEach es X.env)).any (·.1) = false := by rfl) :
    PE X (.Call (.Name x p) (e :: es) [] pos) (tCallR sp E t) := by
  refine ⟨fun pins s σ H Q I h => wpAny_Call_Name_kw (ld_glob I hg hm ?_ hdb)⟩
  refine PySem.W.callWith_K (h₀ := X.base) I.ok.mod.kin hk (thn (ha.run pos pins s σ H _ I h) fun us s1 hh => ?_) he hpl
  obtain ⟨vs, H1, I1, r, q⟩ := hh
  exact ⟨I1.kIn, wpAny_call (run_fnR F hr hx I1 r q)⟩
theorem pe_callR0 {CX : CXT} {k : Nat} {f : Addr} {sp : Sp} {E : XK} {x : Str} {p pos : Pos} (F : FnR X.prog X.w X.K X.mg X.base CX k f sp) (hr : Room k X.A) (hg : Gl X x) (hm : X.mg x = some (.ref f)) (hk : PySem.W.keepIn X.K (.ref f) = true) (hx : Passes CX X E)
    (hdb : (x == ("__debug__" : Str)) = false := by decide) : PE X (.Call (.Name x p) [] [] pos) (tCallR sp E tNil) := by
  refine ⟨fun pins s σ H Q I h => wpAny_Call_Name_kw (ld_glob I hg hm ?_ hdb)⟩
  exact PySem.W.callWith_K0 I.kIn hk (wpAny_call (run_fnR F hr hx I .nil h))
theorem sc_ii {i j : Int} : scal (.int i) (.int j) = true := rfl
theorem sc_ss {i j : Str} : scal (.str i) (.str j) = true := rfl
theorem sc_bb {i j : Bool} : scal (.bl i) (.bl j) = true := rfl
theorem sc_nn : scal .non .non = true := rfl
theorem sc_ni {i : Int} : scal .non (.int i) = true := rfl
theorem sc_in {i : Int} : scal (.int i) .non = true := rfl
theorem sc_ns {i : Str} : scal .non (.str i) = true := rfl
theorem sc_sn {i : Str} : scal (.str i) .non = true := rfl
theorem sc_is {i : Int} {j : Str} : scal (.int i) (.str j) = true := rfl
theorem sc_si {i : Str} {j : Int} : scal (.str i) (.int j) = true := rfl
theorem cxOf_K {CX : CXT} {P : Program} {w : World} {K : PySem.W.Frag} {mg : Str → Option Value} {base : Heap} {N : List Str} {qual : Str} {scope : Scope} {f : Addr} {cd : Value} {A : Around} {outer : List Env} {s : Shared} {H : Hp} {E : XK} :
    (cxOf CX P w K mg base N qual scope f cd A outer s H E).K = K := rfl
/-- floor division by anything but 0 -/
def CDivZ (_ j : Int) : Prop := j ≠ 0 ∧ j.natAbs.log2 < 9000
theorem op_fdivZ : OpR X (binaryOp .FloorDiv) (rI CDivZ fun i j => .int (i.fdiv j)) := opI fun i j _ _ _ _ _ hc q => floordiv_int hc.1 q (.inl (PyProof.noPylong_of_log2 hc.2))
end
/-! operators of own classes, by a positional promise of the method -/
section
variable {X : Cx} {CX : CXT} {k : Nat} {C f : Addr} {sp : Sp} {E : XK} {pins : List (Addr × Obj)} {σ : L2.St} {H : Hp} {s : Shared}
theorem inst_at {a dx : Addr} {fs : List (Str × V)} (I : Inv X pins σ H s) (h : H a = some (.ins C dx fs)) : ∃ ox od, PySem.W.InstAt s.heap a ox C od := by
  obtain ⟨mA, O, _⟩ := ins_get I.hok h
  obtain ⟨od, J, _⟩ := O.look
  exact ⟨_, _, J⟩
theorem not_ni {Q : VK} {v : Value} {s' : Shared} (h : EP X pins σ Q v s') : PySem.W.CmpBack (EP X pins σ Q) v s' := by
  cases v with
  | notImplemented =>
    obtain ⟨x, _, _, r, _⟩ := h
    cases x <;> first | (obtain ⟨_, z⟩ := r; cases z) | cases r
  | _ => exact h
/-- the method runs, below the body X -/
theorem run_in {A : Around} {Q : VK} {us : List Value} {vs : List V} (F : FnR X.prog X.w X.K X.mg X.base CX k f sp) (hr : Room k A) (hA : A.frames = X.A.frames) (hx : Passes CX X E) (I : Inv X pins σ H s) (r : Vals vs us) (h : sp vs H Q E) :
    wpAny (model X.prog X.w) A (call (.ref f) us) (EP X pins σ Q) X.xe s := by
  have e0 : Env0 X.prog X.w X.K X.mg X.base A X.stack s H := by
    have e := I.env0
    exact ⟨by rw [hA]; exact e.frames, e.mod, e.bs, e.bsz, e.funs, e.frf, e.hok, e.bare⟩
  refine wpAny_call (codeAny_mono (F A X.stack s H us vs Q E hr e0 r h) fun r s' hq => ?_)
  cases r with
  | error e => exact hx pins σ H s e s' I hq
  | ok fl =>
    cases fl with
    | ret u => exact I.after hq
    | next => exact False.elim hq
    | brk => exact False.elim hq
    | cont => exact False.elim hq
/-- the class's facts for operators -/
structure OpC (K : PySem.W.Frag) (C : Addr) (nm : Str) (f : Addr) : Prop where
  at_ : PySem.W.findIn K (.ref C) nm = some (some (.ref f))
  fn : PySem.W.isFn K (.ref f) = true
/-- -x -/
theorem un_own (c : OpC X.K C "__neg__" f) (F : FnR X.prog X.w X.K X.mg X.base CX k f sp) (hr : Room k X.A) (hx : Passes CX X E) :
    UnR X (unaryOp .USub) (fun x H Q => ∃ a dx fs, x = .ref a ∧ H a = some (.ins C dx fs) ∧ sp [.ref a] H Q E) := by
  intro pins s σ H x v Q I rx h
  obtain ⟨a, dx, fs, rfl, ha, h⟩ := h
  cases rx
  obtain ⟨ox, od, J⟩ := inst_at I ha
  obtain ⟨m, hF⟩ := I.fr
  exact PySem.W.ksp_neg hF I.ok.mod.kin J c.at_ c.fn (run_in (vs := [.ref a]) F hr rfl hx I (.cons rfl .nil) h)
/-- x op y, both of the class -/
theorem op_ownC {op : Operator} (c : OpC X.K C (PySem.dunder op.info.2) f) (sf : PySem.W.selfFirst X.K C = true) (F : FnR X.prog X.w X.K X.mg X.base CX k f sp) (hr : Room k X.A) (hx : Passes CX X E) :
    OpR X (binaryOp op) (fun x y H Q => ∃ a b dx dy fs gs, x = .ref a ∧ y = .ref b ∧ H a = some (.ins C dx fs) ∧ H b = some (.ins C dy gs) ∧ sp [.ref a, .ref b] H Q E) := by
  intro pins s σ H x y v u Q I rx ry h
  obtain ⟨a, b, dx, dy, fs, gs, rfl, rfl, ha, hb, h⟩ := h
  cases rx
  cases ry
  obtain ⟨ox, od, J⟩ := inst_at I ha
  obtain ⟨oy, oe, J'⟩ := inst_at I hb
  obtain ⟨m, hF⟩ := I.fr
  exact PySem.W.binop_K hF I.ok.mod.kin J J'.type sf c.at_ c.fn (wpAny_mono (run_in (vs := [.ref a, .ref b]) F hr rfl hx I (.cons rfl (.cons rfl .nil)) h) (fun _ _ z => not_ni z) fun _ _ z => z)
/-- x op n, n an int -/
theorem op_ownI {op : Operator} {rc fo ro : Option Value} (c : OpC X.K C (PySem.dunder op.info.2) f) (sf : PySem.W.selfFirst X.K C = true) (hrc : PySem.W.findIn X.K (.ref C) (dunderR op.info.2) = some rc) (hp : rc = none ∨ ∃ g : Addr, rc = some (.ref g))
    (h1 : PySem.W.findIn X.K (.type "int") (PySem.dunder op.info.2) = some fo) (h2 : PySem.W.findIn X.K (.type "int") (dunderR op.info.2) = some ro) (hsub : PySem.W.subIn X.K (.type "int") (.ref C) = some false)
    (F : FnR X.prog X.w X.K X.mg X.base CX k f sp) (hr : Room k X.A) (hx : Passes CX X E) :
    OpR X (binaryOp op) (fun x y H Q => ∃ a n dx fs, x = .ref a ∧ y = .int n ∧ H a = some (.ins C dx fs) ∧ sp [.ref a, .int n] H Q E) := by
  intro pins s σ H x y v u Q I rx ry h
  obtain ⟨a, n, dx, fs, rfl, rfl, ha, h⟩ := h
  cases rx
  obtain ⟨t, rfl⟩ := ry
  obtain ⟨ox, od, J⟩ := inst_at I ha
  obtain ⟨m, hF⟩ := I.fr
  exact PySem.W.ksp_binT (T := "int") hF I.ok.mod.kin J rfl sf c.at_ c.fn hrc hp h1 h2 hsub (wpAny_mono (run_in (vs := [.ref a, .int n]) F hr rfl hx I (.cons rfl (.cons ⟨t, rfl⟩ .nil)) h) (fun _ _ z => not_ni z) fun _ _ z => z)
/-- str(x) -/
theorem call_strO (c : OpC X.K C "__str__" f) (F : FnR X.prog X.w X.K X.mg X.base CX k f sp) (hr : Room (k + 2) X.A) (hx : Passes CX X E) :
    CallR X (.type "str") (fun xs H Q => ∃ a dx fs, xs = [.ref a] ∧ H a = some (.ins C dx fs) ∧ sp [.ref a] H (fun v H' => ∃ z, v = .str z ∧ Q v H') E) := by
  intro pins s σ H xs us Q I r h
  obtain ⟨a, dx, fs, rfl, ha, h⟩ := h
  obtain ⟨u, rfl, ru⟩ := vals1 r
  cases ru
  obtain ⟨ox, od, J⟩ := inst_at I ha
  have hr2 : Room k X.A.in1.in1 := hr.in1.in1
  refine PySem.W.kso_call (by have := hr2.un; omega) I.kIn J c.at_ c.fn (wpAny_mono (run_in (vs := [.ref a]) F hr2 rfl hx I (.cons rfl .nil) h) (fun v s' z => ?_) fun _ _ z => z)
  obtain ⟨x, H', I', rx, y, rfl, q⟩ := z
  obtain ⟨t, rfl⟩ := rx
  exact ⟨.str y, H', I', ⟨t, rfl⟩, q⟩
/-- x[e] by an own __getitem__ -/
theorem pe_ixO {a b : Expr} {ta tb : TE} {pos : Pos} (c : OpC X.K C "__getitem__" f) (hfi : PySem.W.fnIn X.K f = true) (F : FnR X.prog X.w X.K X.mg X.base CX k f sp) (hr : Room (k + 1) X.A) (hx : Passes CX X E) (ha : PE X a ta) (hb : PE X b tb)
    (hsl : ∀ (x : Addr) (i : Value), subscripted b true (.ref x) i = runValue (.builtin "lifetime.subscript" ⟨[.ref x, i], []⟩) := by intros; with_unfolding_all rfl) :
    PE X (.Subscript a b pos) (fun σ H Q => ta σ H fun x H1 => tb σ H1 fun y H2 => ∃ p dx fs, x = .ref p ∧ H2 p = some (.ins C dx fs) ∧ sp [.ref p, y] H2 Q E) := by
  refine ⟨fun pins s σ H Q I h => ?_⟩
  refine Subscript_ (binT ha hb I h fun v u s2 x y H2 I2 rx ry q => ?_)
  obtain ⟨p, dx, fs, rfl, hp, h⟩ := q
  cases rx
  obtain ⟨ox, od, J⟩ := inst_at I2 hp
  obtain ⟨m, hF⟩ := I2.fr
  exact PySem.W.sub_K hF I2.ok.mod.kin J c.at_ hfi c.fn (run_in (vs := [.ref p, y]) F hr.in1 rfl hx I2 (.cons rfl (.cons ry .nil)) h) (hsl p u)
end
/-! isinstance(x, C), C an own class without subclasses at hand -/
structure IsC (K : PySem.W.Frag) (C : Addr) : Prop where
  cl : Cls K C
  ha : PySem.W.findIn K (.ref C) "__class__" = some (some (.builtin "object.__class__"))
  hn : PySem.W.specialIn K (.builtin "object.__class__") "__get__" = some (some (.builtin "getset_descriptor.__get__"))
  htk : PySem.W.takesIn K (.builtin "object.__class__") = some true
  hm : PySem.W.mroIn K C (.type "object") = some true
  kt : PySem.W.kitOne K (.ref C) (.ref C) = some true
  kf : ∀ t ∈ ["int", "bool", "str", "NoneType", "list", "tuple", "dict"], PySem.W.kitOne K (.type t) (.ref C) = some false
def isOO (C : Addr) : Option HO → Option Bool
  | some (.lst _) => some false
  | some (.tup _) => some false
  | some (.dK _) => some false
  | some (.dT _) => some false
  | some (.ins D _ _) => if D = C then some true else none
  | _ => none
def isO (C : Addr) (H : Hp) : V → Option Bool
  | .non => some false
  | .bl _ => some false
  | .int _ => some false
  | .str _ => some false
  | .ref a => isOO C (H a)
  | _ => none
theorem isO_int {C : Addr} {H : Hp} {i : Int} : isO C H (.int i) = some false := rfl
theorem isO_str {C : Addr} {H : Hp} {i : Str} : isO C H (.str i) = some false := rfl
theorem isO_bl {C : Addr} {H : Hp} {i : Bool} : isO C H (.bl i) = some false := rfl
theorem isO_non {C : Addr} {H : Hp} : isO C H .non = some false := rfl
theorem isO_ref {C : Addr} {H : Hp} {a : Addr} : isO C H (.ref a) = isOO C (H a) := rfl
theorem isOO_ins {C dx : Addr} {fs : List (Str × V)} : isOO C (some (.ins C dx fs)) = some true := if_pos rfl
theorem isOO_lst {C : Addr} {xs : List V} : isOO C (some (.lst xs)) = some false := rfl
theorem isOO_tup {C : Addr} {xs : List V} : isOO C (some (.tup xs)) = some false := rfl
theorem isOO_dK {C : Addr} {xs : List (Key × V)} : isOO C (some (.dK xs)) = some false := rfl
def rIsO (C : Addr) : List V → Hp → VK → Prop := fun xs H Q => ∃ x b, xs = [x, .ref C] ∧ isO C H x = some b ∧ Q (.bl b) H
theorem call_isiO {X : Cx} {C : Addr} (c : IsC X.K C) : CallR X (.builtin "isinstance") (rIsO C) := by
  intro pins s σ H xs us Q I r h
  obtain ⟨x, b, e, h1, q⟩ := h
  have fin : ∀ t : Value, TyOf X.K H x t → PySem.W.kitOne X.K t (.ref C) = some b → wpAny (model X.prog X.w) X.A (call (.builtin "isinstance") us) (EP X pins σ Q) X.xe s := fun t ty kt =>
    call_isi pins s σ H xs us Q I r ⟨x, .ref C, t, .ref C, b, e, .own C, .base ty, kt, q⟩
  cases x with
  | non => cases h1; exact fin _ .non (c.kf _ (by simp))
  | bl i => cases h1; exact fin _ (.bl i) (c.kf _ (by simp))
  | int i => cases h1; exact fin _ (.int i) (c.kf _ (by simp))
  | str i => cases h1; exact fin _ (.str i) (c.kf _ (by simp))
  | ref a =>
    have h1 : isOO C (H a) = some b := h1
    cases ea : H a with
    | none => rw [ea] at h1; cases h1
    | some o =>
      rw [ea] at h1
      cases o with
      | lst xs => cases h1; exact fin _ (.lst ea) (c.kf _ (by simp))
      | tup xs => cases h1; exact fin _ (.tup ea) (c.kf _ (by simp))
      | dK xs => cases h1; exact fin _ (.dK ea) (c.kf _ (by simp))
      | dT xs => cases h1; exact fin _ (.dT ea) (c.kf _ (by simp))
      | ins D dx fs =>
        have h1 : (if D = C then some true else none) = some b := h1
        by_cases ed : D = C
        · have e2 : b = true := (Option.some.inj ((if_pos ed).symm.trans h1)).symm
          subst ed
          subst e2
          exact fin _ (.ins ea c.cl c.ha c.hn c.htk c.hm) c.kt
        · rw [if_neg ed] at h1; cases h1
      | _ => cases h1
  | _ => cases h1
def Sm (n : Nat) (x : Int) : Prop := x.natAbs < 2 ^ n
theorem Sm.mono {n m : Nat} {x : Int} (h : Sm n x) (l : n ≤ m) : Sm m x := Nat.lt_of_lt_of_le h (Nat.pow_le_pow_right (by decide) l)
theorem Sm.mul {n m : Nat} {x y : Int} (h : Sm n x) (k : Sm m y) : Sm (n + m) (x * y) := wide_lt h k
theorem Sm.add {n m : Nat} {x y : Int} (h : Sm n x) (k : Sm m y) : Sm (max n m + 1) (x + y) := by
  have h1 : Sm (max n m) x := h.mono (Nat.le_max_left _ _)
  have h2 : Sm (max n m) y := k.mono (Nat.le_max_right _ _)
  unfold Sm at *
  rw [Nat.pow_succ]; omega
theorem Sm.neg {n : Nat} {x : Int} (h : Sm n x) : Sm n (-x) := by unfold Sm at *; omega
theorem Sm.sub {n m : Nat} {x y : Int} (h : Sm n x) (k : Sm m y) : Sm (max n m + 1) (x - y) := by rw [Int.sub_eq_add_neg]; exact h.add k.neg
theorem Sm.le {n : Nat} {x y : Int} (h : Sm n y) (l : x.natAbs ≤ y.natAbs) : Sm n x := Nat.lt_of_le_of_lt l h
theorem Sm.mulok {n m : Nat} {x y : Int} (h : Sm n x) (k : Sm m y) (h0 : 0 < n := by decide) (h1 : 0 < m := by decide) (h2 : n + m ≤ 1000000 := by decide) : CMulX x y := .inr (wide_mul h k h0 h1 h2)
theorem Sm.log {n : Nat} {x : Int} (h : Sm n x) (h0 : 0 < n := by decide) (h9 : n ≤ 9000 := by decide) : x.natAbs.log2 < 9000 := Nat.lt_of_lt_of_le (PySem.Flt.log2_lt_of h0 h) h9
theorem Sm.divok {n : Nat} {x y : Int} (h : Sm n y) (p : 0 < y) (h0 : 0 < n := by decide) (h9 : n ≤ 9000 := by decide) : CDivW x y := ⟨p, h.log h0 h9⟩
theorem Sm.divz {n : Nat} {x y : Int} (h : Sm n y) (p : y ≠ 0) (h0 : 0 < n := by decide) (h9 : n ≤ 9000 := by decide) : CDivZ x y := ⟨p, h.log h0 h9⟩
theorem Sm.of {n : Nat} {x : Int} (h : -(2 ^ n : Nat) < x) (h' : x < (2 ^ n : Nat)) : Sm n x := by unfold Sm; omega
/-- all but p as it was -/
def Off (p : Addr) (H H' : Hp) : Prop := ∀ b o, H b = some o → b ≠ p → H' b = some o
theorem Off.refl {p : Addr} {H : Hp} : Off p H H := fun _ _ h _ => h
theorem Off.trans {p : Addr} {H H1 H2 : Hp} (a : Off p H H1) (b : Off p H1 H2) : Off p H H2 := fun c o h n => b c o (a c o h n) n
theorem Off.put {p : Addr} {H H1 : Hp} {o : HO} (a : Off p H H1) : Off p H (upd H1 p o) := fun c u h n => by rw [upd_ne n]; exact a c u h n
theorem Off.new {p q : Addr} {H H1 : Hp} {o : HO} (a : Off p H H1) (hq : H1 q = none) : Off p H (upd H1 q o) := fun c u h n => by
  have z := a c u h n
  rw [upd_ne (ne_of_none z hq)]; exact z
/-- the pot of a law's draws -/
def PotAt (H : Hp) (p : Addr) : Prop := ∃ (a b c d : Int) (cs : List Int), H p = some (.lst (.int a :: .int b :: .int c :: .int d :: cs.map V.int)) ∧ 4 ≤ a ∧ 0 ≤ b ∧ 0 ≤ d ∧ d < 2147483647 ∧ cs.length ≤ 63
theorem same_upd {H : Hp} {p : Addr} {o : HO} (h : H p = none) : Same H (upd H p o) := fun b x e => by
  rw [upd_ne (ne_of_none e h)]; exact e
theorem new_upd {H : Hp} {p : Addr} {o : HO} (h : H p = none) : ∃ H', H' = upd H p o ∧ Same H H' ∧ H' p = some o := ⟨_, rfl, same_upd h, upd_same⟩
theorem size_le {n : Nat} (h : n ≤ 1000) : n ≤ sizeLine := Nat.le_of_lt (small1000 h)
end K0
set_option maxHeartbeats 0
namespace K0
open PySem PySem.Spec PyProof.Rows L2
def topS (i : Nat) : Stmt := PySem.Challenge.pw_metehouse_k02_forms_written_and_put.main.body.getD i (.Pass ⟨0, 0, 0, 0⟩)
abbrev s__wall : Stmt := topS 0
abbrev s_BadName___init__ : Stmt := inClass (topS 3) 0
abbrev s_NoQuantity___init__ : Stmt := inClass (topS 4) 0
abbrev s_divisor_of : Stmt := topS 6
abbrev s_ratio : Stmt := topS 7
abbrev s_plus : Stmt := topS 8
abbrev s_is_quantity : Stmt := topS 13
abbrev s_size_text : Stmt := topS 14
abbrev s_signed : Stmt := topS 15
abbrev s_Form___init__ : Stmt := inClass (topS 16) 0
abbrev s_Form_one : Stmt := inClass (topS 16) 1
abbrev s_Form_gap : Stmt := inClass (topS 16) 2
abbrev s_Form_names : Stmt := inClass (topS 16) 3
abbrev s_Form_scaled : Stmt := inClass (topS 16) 4
abbrev s_Form_put : Stmt := inClass (topS 16) 5
abbrev s_Form___add__ : Stmt := inClass (topS 16) 6
abbrev s_Form___radd__ : Stmt := inClass (topS 16) 7
abbrev s_Form___sub__ : Stmt := inClass (topS 16) 8
abbrev s_Form___rsub__ : Stmt := inClass (topS 16) 9
abbrev s_Form___neg__ : Stmt := inClass (topS 16) 10
abbrev s_Form___mul__ : Stmt := inClass (topS 16) 11
abbrev s_Form___rmul__ : Stmt := inClass (topS 16) 12
abbrev s_Form___eq__ : Stmt := inClass (topS 16) 13
abbrev s_Form___len__ : Stmt := inClass (topS 16) 14
abbrev s_Form___iter__ : Stmt := inClass (topS 16) 15
abbrev s_Form___contains__ : Stmt := inClass (topS 16) 16
abbrev s_Form___getitem__ : Stmt := inClass (topS 16) 17
abbrev s_Form___call__ : Stmt := inClass (topS 16) 18
abbrev s_Form___str__ : Stmt := inClass (topS 16) 19
abbrev s_l_pot : Stmt := topS 18
abbrev s_l_take : Stmt := topS 19
abbrev s_l_whole : Stmt := topS 20
abbrev s_l_quantity : Stmt := topS 21
abbrev s_l_pool : Stmt := topS 22
abbrev s_l_weight : Stmt := topS 23
abbrev s_l_pairs : Stmt := topS 24
abbrev s_l_tidy : Stmt := topS 25
abbrev s_l_added : Stmt := topS 26
abbrev s_l_form_is : Stmt := topS 27
abbrev s_l_lowest : Stmt := topS 28
abbrev s_l_pair_is : Stmt := topS 29
abbrev s_l_value : Stmt := topS 30
abbrev s_l_part : Stmt := topS 31
abbrev s_l_written : Stmt := topS 32
abbrev s_l_right : Stmt := topS 33
abbrev s_l_put : Stmt := topS 34
abbrev s_l_level : Stmt := topS 35
abbrev s_l_put_right : Stmt := topS 36
abbrev s_law : Stmt := topS 37
def dd_divisor_of : He.DefD := ⟨("divisor_of", none), "divisor_of", "divisor_of", defArgs s_divisor_of, defBody s_divisor_of, defScope s_divisor_of, [], []⟩
def dd_ratio : He.DefD := ⟨("ratio", none), "ratio", "ratio", defArgs s_ratio, defBody s_ratio, defScope s_ratio, [.int 1], []⟩
def dd_plus : He.DefD := ⟨("plus", none), "plus", "plus", defArgs s_plus, defBody s_plus, defScope s_plus, [], []⟩
def dd_is_quantity : He.DefD := ⟨("is_quantity", none), "is_quantity", "is_quantity", defArgs s_is_quantity, defBody s_is_quantity, defScope s_is_quantity, [], []⟩
def dd_size_text : He.DefD := ⟨("size_text", none), "size_text", "size_text", defArgs s_size_text, defBody s_size_text, defScope s_size_text, [], []⟩
def dd_signed : He.DefD := ⟨("signed", none), "signed", "signed", defArgs s_signed, defBody s_signed, defScope s_signed, [], []⟩
def dd_Form___init__ : He.DefD := ⟨("Form", some "__init__"), "__init__", "Form.__init__", defArgs s_Form___init__, defBody s_Form___init__, defScope s_Form___init__, [.adr (He.dflAt ("Form", some "__init__") 0), .int 0], []⟩
def dd_Form_scaled : He.DefD := ⟨("Form", some "scaled"), "scaled", "Form.scaled", defArgs s_Form_scaled, defBody s_Form_scaled, defScope s_Form_scaled, [], []⟩
def dd_Form_put : He.DefD := ⟨("Form", some "put"), "put", "Form.put", defArgs s_Form_put, defBody s_Form_put, defScope s_Form_put, [], []⟩
def dd_Form___add__ : He.DefD := ⟨("Form", some "__add__"), "__add__", "Form.__add__", defArgs s_Form___add__, defBody s_Form___add__, defScope s_Form___add__, [], []⟩
def dd_Form___sub__ : He.DefD := ⟨("Form", some "__sub__"), "__sub__", "Form.__sub__", defArgs s_Form___sub__, defBody s_Form___sub__, defScope s_Form___sub__, [], []⟩
def dd_Form___neg__ : He.DefD := ⟨("Form", some "__neg__"), "__neg__", "Form.__neg__", defArgs s_Form___neg__, defBody s_Form___neg__, defScope s_Form___neg__, [], []⟩
def dd_Form___mul__ : He.DefD := ⟨("Form", some "__mul__"), "__mul__", "Form.__mul__", defArgs s_Form___mul__, defBody s_Form___mul__, defScope s_Form___mul__, [], []⟩
def dd_Form___rmul__ : He.DefD := ⟨("Form", some "__rmul__"), "__rmul__", "Form.__rmul__", defArgs s_Form___rmul__, defBody s_Form___rmul__, defScope s_Form___rmul__, [], []⟩
def dd_Form___eq__ : He.DefD := ⟨("Form", some "__eq__"), "__eq__", "Form.__eq__", defArgs s_Form___eq__, defBody s_Form___eq__, defScope s_Form___eq__, [], []⟩
def dd_Form___getitem__ : He.DefD := ⟨("Form", some "__getitem__"), "__getitem__", "Form.__getitem__", defArgs s_Form___getitem__, defBody s_Form___getitem__, defScope s_Form___getitem__, [], []⟩
def dd_Form___call__ : He.DefD := ⟨("Form", some "__call__"), "__call__", "Form.__call__", defArgs s_Form___call__, defBody s_Form___call__, defScope s_Form___call__, [], []⟩
def dd_Form___str__ : He.DefD := ⟨("Form", some "__str__"), "__str__", "Form.__str__", defArgs s_Form___str__, defBody s_Form___str__, defScope s_Form___str__, [], []⟩
def dd_l_pot : He.DefD := ⟨("_law_pot", none), "_law_pot", "_law_pot", defArgs s_l_pot, defBody s_l_pot, defScope s_l_pot, [], []⟩
def dd_l_take : He.DefD := ⟨("_law_take", none), "_law_take", "_law_take", defArgs s_l_take, defBody s_l_take, defScope s_l_take, [], []⟩
def dd_l_whole : He.DefD := ⟨("_law_whole", none), "_law_whole", "_law_whole", defArgs s_l_whole, defBody s_l_whole, defScope s_l_whole, [], []⟩
def dd_l_quantity : He.DefD := ⟨("_law_quantity", none), "_law_quantity", "_law_quantity", defArgs s_l_quantity, defBody s_l_quantity, defScope s_l_quantity, [], []⟩
def dd_l_pool : He.DefD := ⟨("_law_pool", none), "_law_pool", "_law_pool", defArgs s_l_pool, defBody s_l_pool, defScope s_l_pool, [], []⟩
def dd_l_weight : He.DefD := ⟨("_law_weight", none), "_law_weight", "_law_weight", defArgs s_l_weight, defBody s_l_weight, defScope s_l_weight, [], []⟩
def dd_l_pairs : He.DefD := ⟨("_law_pairs", none), "_law_pairs", "_law_pairs", defArgs s_l_pairs, defBody s_l_pairs, defScope s_l_pairs, [], []⟩
def dd_l_tidy : He.DefD := ⟨("_law_tidy", none), "_law_tidy", "_law_tidy", defArgs s_l_tidy, defBody s_l_tidy, defScope s_l_tidy, [], []⟩
def dd_l_added : He.DefD := ⟨("_law_added", none), "_law_added", "_law_added", defArgs s_l_added, defBody s_l_added, defScope s_l_added, [], []⟩
def dd_l_form_is : He.DefD := ⟨("_law_form_is", none), "_law_form_is", "_law_form_is", defArgs s_l_form_is, defBody s_l_form_is, defScope s_l_form_is, [], []⟩
def dd_l_lowest : He.DefD := ⟨("_law_lowest", none), "_law_lowest", "_law_lowest", defArgs s_l_lowest, defBody s_l_lowest, defScope s_l_lowest, [], []⟩
def dd_l_pair_is : He.DefD := ⟨("_law_pair_is", none), "_law_pair_is", "_law_pair_is", defArgs s_l_pair_is, defBody s_l_pair_is, defScope s_l_pair_is, [], []⟩
def dd_l_value : He.DefD := ⟨("_law_value", none), "_law_value", "_law_value", defArgs s_l_value, defBody s_l_value, defScope s_l_value, [], []⟩
def dd_l_part : He.DefD := ⟨("_law_part", none), "_law_part", "_law_part", defArgs s_l_part, defBody s_l_part, defScope s_l_part, [], []⟩
def dd_l_written : He.DefD := ⟨("_law_written", none), "_law_written", "_law_written", defArgs s_l_written, defBody s_l_written, defScope s_l_written, [], []⟩
def dd_l_right : He.DefD := ⟨("_law_right", none), "_law_right", "_law_right", defArgs s_l_right, defBody s_l_right, defScope s_l_right, [], []⟩
def dd_l_put : He.DefD := ⟨("_law_put", none), "_law_put", "_law_put", defArgs s_l_put, defBody s_l_put, defScope s_l_put, [], []⟩
def dd_l_level : He.DefD := ⟨("_law_level", none), "_law_level", "_law_level", defArgs s_l_level, defBody s_l_level, defScope s_l_level, [], []⟩
def dd_l_put_right : He.DefD := ⟨("_law_put_right", none), "_law_put_right", "_law_put_right", defArgs s_l_put_right, defBody s_l_put_right, defScope s_l_put_right, [], []⟩
def dd_law : He.DefD := ⟨("law", none), "law", "law", defArgs s_law, defBody s_law, defScope s_law, [], []⟩
def fn : List He.DefD := [dd_divisor_of, dd_ratio, dd_plus, dd_is_quantity, dd_size_text, dd_signed, dd_Form___init__, dd_Form_scaled, dd_Form_put, dd_Form___add__, dd_Form___sub__, dd_Form___neg__, dd_Form___mul__, dd_Form___rmul__, dd_Form___eq__, dd_Form___getitem__, dd_Form___call__, dd_Form___str__, dd_l_pot, dd_l_take, dd_l_whole, dd_l_quantity, dd_l_pool, dd_l_weight, dd_l_pairs, dd_l_tidy, dd_l_added, dd_l_form_is, dd_l_lowest, dd_l_pair_is, dd_l_value, dd_l_part, dd_l_written, dd_l_right, dd_l_put, dd_l_level, dd_l_put_right, dd_law]
def fa : List He.Fa := [.glo "divisor_of", .glo "ratio", .glo "plus", .glo "is_quantity", .glo "size_text", .glo "signed", .glo "_law_pot", .glo "_law_take", .glo "_law_whole", .glo "_law_quantity", .glo "_law_pool", .glo "_law_weight", .glo "_law_pairs", .glo "_law_tidy", .glo "_law_added", .glo "_law_form_is", .glo "_law_lowest", .glo "_law_pair_is", .glo "_law_value", .glo "_law_part", .glo "_law_written", .glo "_law_right", .glo "_law_put", .glo "_law_level", .glo "_law_put_right", .glo "law", .free "ValueError", .free "ZeroDivisionError", .free "abs", .free "bool", .free "dict", .free "int", .free "isinstance", .free "iter", .free "len", .free "list", .free "max", .free "range", .free "sorted", .free "str", .free "sum", .free "super", .free "tuple", .str "LETTERS" "abcdefghijklmnopqrstuvwxyz", .str "QUANTITY_CHARACTERS" "abcdefghijklmnopqrstuvwxyz0123456789.", .int "LONGEST_QUANTITY" 12, .glo "MeteError", .glo "BadName", .glo "NoQuantity", .glo "Form", .cls "Form", .noat "Form" "terms", .noat "Form" "constant", .mkr "Form", .meth "Form" "scaled", .meth "Form" "put", .meth "Form" "__add__", .meth "Form" "__sub__", .meth "Form" "__neg__", .meth "Form" "__mul__", .meth "Form" "__rmul__", .meth "Form" "__eq__", .meth "Form" "__getitem__", .meth "Form" "__call__", .meth "Form" "__str__"]
/-- further facts of the top, as Bools -/
def x_selfFirst (K : PySem.W.Frag) : Bool := PySem.W.selfFirst K (He.ga K "Form")
def x_subIF (K : PySem.W.Frag) : Bool := decide (PySem.W.subIn K (.type "int") (.ref (He.ga K "Form")) = some false)
def x_subFI (K : PySem.W.Frag) : Bool := decide (PySem.W.subIn K (.ref (He.ga K "Form")) (.type "int") = some false)
def x_intmul (K : PySem.W.Frag) : Bool := He.eqO (PySem.W.findIn K (.type "int") "__mul__") (some (some (.builtin "int.__mul__")))
def x_intrmul (K : PySem.W.Frag) : Bool := He.eqO (PySem.W.findIn K (.type "int") "__rmul__") (some (some (.builtin "int.__rmul__")))
def x_fnget (K : PySem.W.Frag) : Bool := PySem.W.fnIn K (He.ma K (He.ga K "Form") "__getitem__")
def x_fncall (K : PySem.W.Frag) : Bool := PySem.W.fnIn K (He.ma K (He.ga K "Form") "__call__")
def x_clsF (K : PySem.W.Frag) : Bool := He.eqO (PySem.W.findIn K (.ref (He.ga K "Form")) "__class__") (some (some (.builtin "object.__class__")))
def x_clsG (K : PySem.W.Frag) : Bool := He.eqO (PySem.W.specialIn K (.builtin "object.__class__") "__get__") (some (some (.builtin "getset_descriptor.__get__")))
def x_clsT (K : PySem.W.Frag) : Bool := decide (PySem.W.takesIn K (.builtin "object.__class__") = some true)
def x_mroO (K : PySem.W.Frag) : Bool := decide (PySem.W.mroIn K (He.ga K "Form") (.type "object") = some true)
def x_kitFF (K : PySem.W.Frag) : Bool := decide (PySem.W.kitOne K (.ref (He.ga K "Form")) (.ref (He.ga K "Form")) = some true)
def x_kitF (K : PySem.W.Frag) : Bool := (["int", "bool", "str", "NoneType", "list", "tuple", "dict"].all fun t => decide (PySem.W.kitOne K (.type t) (.ref (He.ga K "Form")) = some false))
def ex (K : PySem.W.Frag) : Bool := x_selfFirst K && (x_subIF K && (x_subFI K && (x_intmul K && (x_intrmul K && (x_fnget K && (x_fncall K && (x_clsF K && (x_clsG K && (x_clsT K && (x_mroO K && (x_kitFF K && (x_kitF K && (true)))))))))))))
def fdOf (K : PySem.W.Frag) (f : Addr) : FuncData := match K.lookup f with
  | some ⟨_, _, .func fd, _⟩ => fd
  | _ => PySem.W.fnOf "" "" (defArgs (.Pass ⟨0, 0, 0, 0⟩)) [] (defScope (.Pass ⟨0, 0, 0, 0⟩)) .none .none .none .none none .none .none
/-- what the top has left -/
structure Txt (K : PySem.W.Frag) (mg : Str → Option Value) : Prop where
  ns : ∃ h : Heap, K.In h ∧ h.Ns mainGlobals mg
  says : He.SaysD fa fn K
  more : ex K = true
section
variable {K : PySem.W.Frag} {mg : Str → Option Value}
theorem fdOf_eq {x qual : Str} {params : Arguments} {body : List Stmt} {scope : Scope} {dvs : List V} {kws : List (Str × V)} {f : Addr} {fd : FuncData} (F : FunD K x qual params body scope dvs kws f fd) : FunD K x qual params body scope dvs kws f (fdOf K f) := by
  obtain ⟨oc, od, dV, kV, doc, pm, an, cdv, ct, osl, e, lk, r⟩ := F.ex
  have z : fdOf K f = fd := by unfold fdOf; rw [lk]
  rw [z]; exact F
theorem Txt.glo (T : Txt K mg) {x : Str} (i : Nat) (h : fa[i]? = some (.glo x) := by rfl) : mg x = some (.ref (He.ga K x)) := by
  obtain ⟨_, X, G⟩ := T.ns
  exact He.glo_ok X G (T.says.fact i h)
theorem Txt.free (T : Txt K mg) {x : Str} (i : Nat) (h : fa[i]? = some (.free x) := by rfl) : mg x = none := by
  obtain ⟨_, X, G⟩ := T.ns
  exact He.free_ok X G (T.says.fact i h)
theorem Txt.g_divisor_of (T : Txt K mg) : mg "divisor_of" = some (.ref (He.ga K "divisor_of")) := T.glo 0
theorem Txt.g_ratio (T : Txt K mg) : mg "ratio" = some (.ref (He.ga K "ratio")) := T.glo 1
theorem Txt.g_plus (T : Txt K mg) : mg "plus" = some (.ref (He.ga K "plus")) := T.glo 2
theorem Txt.g_is_quantity (T : Txt K mg) : mg "is_quantity" = some (.ref (He.ga K "is_quantity")) := T.glo 3
theorem Txt.g_size_text (T : Txt K mg) : mg "size_text" = some (.ref (He.ga K "size_text")) := T.glo 4
theorem Txt.g_signed (T : Txt K mg) : mg "signed" = some (.ref (He.ga K "signed")) := T.glo 5
theorem Txt.g_l_pot (T : Txt K mg) : mg "_law_pot" = some (.ref (He.ga K "_law_pot")) := T.glo 6
theorem Txt.g_l_take (T : Txt K mg) : mg "_law_take" = some (.ref (He.ga K "_law_take")) := T.glo 7
theorem Txt.g_l_whole (T : Txt K mg) : mg "_law_whole" = some (.ref (He.ga K "_law_whole")) := T.glo 8
theorem Txt.g_l_quantity (T : Txt K mg) : mg "_law_quantity" = some (.ref (He.ga K "_law_quantity")) := T.glo 9
theorem Txt.g_l_pool (T : Txt K mg) : mg "_law_pool" = some (.ref (He.ga K "_law_pool")) := T.glo 10
theorem Txt.g_l_weight (T : Txt K mg) : mg "_law_weight" = some (.ref (He.ga K "_law_weight")) := T.glo 11
theorem Txt.g_l_pairs (T : Txt K mg) : mg "_law_pairs" = some (.ref (He.ga K "_law_pairs")) := T.glo 12
theorem Txt.g_l_tidy (T : Txt K mg) : mg "_law_tidy" = some (.ref (He.ga K "_law_tidy")) := T.glo 13
theorem Txt.g_l_added (T : Txt K mg) : mg "_law_added" = some (.ref (He.ga K "_law_added")) := T.glo 14
theorem Txt.g_l_form_is (T : Txt K mg) : mg "_law_form_is" = some (.ref (He.ga K "_law_form_is")) := T.glo 15
theorem Txt.g_l_lowest (T : Txt K mg) : mg "_law_lowest" = some (.ref (He.ga K "_law_lowest")) := T.glo 16
theorem Txt.g_l_pair_is (T : Txt K mg) : mg "_law_pair_is" = some (.ref (He.ga K "_law_pair_is")) := T.glo 17
theorem Txt.g_l_value (T : Txt K mg) : mg "_law_value" = some (.ref (He.ga K "_law_value")) := T.glo 18
theorem Txt.g_l_part (T : Txt K mg) : mg "_law_part" = some (.ref (He.ga K "_law_part")) := T.glo 19
theorem Txt.g_l_written (T : Txt K mg) : mg "_law_written" = some (.ref (He.ga K "_law_written")) := T.glo 20
theorem Txt.g_l_right (T : Txt K mg) : mg "_law_right" = some (.ref (He.ga K "_law_right")) := T.glo 21
theorem Txt.g_l_put (T : Txt K mg) : mg "_law_put" = some (.ref (He.ga K "_law_put")) := T.glo 22
theorem Txt.g_l_level (T : Txt K mg) : mg "_law_level" = some (.ref (He.ga K "_law_level")) := T.glo 23
theorem Txt.g_l_put_right (T : Txt K mg) : mg "_law_put_right" = some (.ref (He.ga K "_law_put_right")) := T.glo 24
theorem Txt.g_law (T : Txt K mg) : mg "law" = some (.ref (He.ga K "law")) := T.glo 25
theorem Txt.z_ValueError (T : Txt K mg) : mg "ValueError" = none := T.free 26
theorem Txt.z_ZeroDivisionError (T : Txt K mg) : mg "ZeroDivisionError" = none := T.free 27
theorem Txt.z_abs (T : Txt K mg) : mg "abs" = none := T.free 28
theorem Txt.z_bool (T : Txt K mg) : mg "bool" = none := T.free 29
theorem Txt.z_dict (T : Txt K mg) : mg "dict" = none := T.free 30
theorem Txt.z_int (T : Txt K mg) : mg "int" = none := T.free 31
theorem Txt.z_isinstance (T : Txt K mg) : mg "isinstance" = none := T.free 32
theorem Txt.z_iter (T : Txt K mg) : mg "iter" = none := T.free 33
theorem Txt.z_len (T : Txt K mg) : mg "len" = none := T.free 34
theorem Txt.z_list (T : Txt K mg) : mg "list" = none := T.free 35
theorem Txt.z_max (T : Txt K mg) : mg "max" = none := T.free 36
theorem Txt.z_range (T : Txt K mg) : mg "range" = none := T.free 37
theorem Txt.z_sorted (T : Txt K mg) : mg "sorted" = none := T.free 38
theorem Txt.z_str (T : Txt K mg) : mg "str" = none := T.free 39
theorem Txt.z_sum (T : Txt K mg) : mg "sum" = none := T.free 40
theorem Txt.z_super (T : Txt K mg) : mg "super" = none := T.free 41
theorem Txt.z_tuple (T : Txt K mg) : mg "tuple" = none := T.free 42
theorem Txt.c_LETTERS (T : Txt K mg) : ∃ t, mg "LETTERS" = some (.str "abcdefghijklmnopqrstuvwxyz" t) := by
  obtain ⟨_, X, G⟩ := T.ns
  exact He.str_ok X G (T.says.fact 43)
theorem Txt.c_QUANTITY_CHARACTERS (T : Txt K mg) : ∃ t, mg "QUANTITY_CHARACTERS" = some (.str "abcdefghijklmnopqrstuvwxyz0123456789." t) := by
  obtain ⟨_, X, G⟩ := T.ns
  exact He.str_ok X G (T.says.fact 44)
theorem Txt.c_LONGEST_QUANTITY (T : Txt K mg) : ∃ t, mg "LONGEST_QUANTITY" = some (.int 12 t) := by
  obtain ⟨_, X, G⟩ := T.ns
  exact He.int_ok X G (T.says.fact 45)
theorem Txt.g_MeteError (T : Txt K mg) : mg "MeteError" = some (.ref (He.ga K "MeteError")) := T.glo 46
theorem Txt.g_BadName (T : Txt K mg) : mg "BadName" = some (.ref (He.ga K "BadName")) := T.glo 47
theorem Txt.g_NoQuantity (T : Txt K mg) : mg "NoQuantity" = some (.ref (He.ga K "NoQuantity")) := T.glo 48
theorem Txt.g_Form (T : Txt K mg) : mg "Form" = some (.ref (He.ga K "Form")) := T.glo 49
theorem Txt.f_cls_Form (T : Txt K mg) : He.Fa.ok K (.cls "Form") = true := T.says.fact 50
theorem Txt.f_noat_Form_terms (T : Txt K mg) : He.Fa.ok K (.noat "Form" "terms") = true := T.says.fact 51
theorem Txt.f_noat_Form_constant (T : Txt K mg) : He.Fa.ok K (.noat "Form" "constant") = true := T.says.fact 52
theorem Txt.f_mkr_Form (T : Txt K mg) : He.Fa.ok K (.mkr "Form") = true := T.says.fact 53
theorem Txt.f_meth_Form_scaled (T : Txt K mg) : He.Fa.ok K (.meth "Form" "scaled") = true := T.says.fact 54
theorem Txt.f_meth_Form_put (T : Txt K mg) : He.Fa.ok K (.meth "Form" "put") = true := T.says.fact 55
theorem Txt.f_meth_Form_add (T : Txt K mg) : He.Fa.ok K (.meth "Form" "__add__") = true := T.says.fact 56
theorem Txt.f_meth_Form_sub (T : Txt K mg) : He.Fa.ok K (.meth "Form" "__sub__") = true := T.says.fact 57
theorem Txt.f_meth_Form_neg (T : Txt K mg) : He.Fa.ok K (.meth "Form" "__neg__") = true := T.says.fact 58
theorem Txt.f_meth_Form_mul (T : Txt K mg) : He.Fa.ok K (.meth "Form" "__mul__") = true := T.says.fact 59
theorem Txt.f_meth_Form_rmul (T : Txt K mg) : He.Fa.ok K (.meth "Form" "__rmul__") = true := T.says.fact 60
theorem Txt.f_meth_Form_eq (T : Txt K mg) : He.Fa.ok K (.meth "Form" "__eq__") = true := T.says.fact 61
theorem Txt.f_meth_Form_getitem (T : Txt K mg) : He.Fa.ok K (.meth "Form" "__getitem__") = true := T.says.fact 62
theorem Txt.f_meth_Form_call (T : Txt K mg) : He.Fa.ok K (.meth "Form" "__call__") = true := T.says.fact 63
theorem Txt.f_meth_Form_str (T : Txt K mg) : He.Fa.ok K (.meth "Form" "__str__") = true := T.says.fact 64
theorem Txt.x_selfFirst (T : Txt K mg) : x_selfFirst K = true := (He.ba T.more).1
theorem Txt.x_subIF (T : Txt K mg) : x_subIF K = true := (He.ba (He.ba T.more).2).1
theorem Txt.x_subFI (T : Txt K mg) : x_subFI K = true := (He.ba (He.ba (He.ba T.more).2).2).1
theorem Txt.x_intmul (T : Txt K mg) : x_intmul K = true := (He.ba (He.ba (He.ba (He.ba T.more).2).2).2).1
theorem Txt.x_intrmul (T : Txt K mg) : x_intrmul K = true := (He.ba (He.ba (He.ba (He.ba (He.ba T.more).2).2).2).2).1
theorem Txt.x_fnget (T : Txt K mg) : x_fnget K = true := (He.ba (He.ba (He.ba (He.ba (He.ba (He.ba T.more).2).2).2).2).2).1
theorem Txt.x_fncall (T : Txt K mg) : x_fncall K = true := (He.ba (He.ba (He.ba (He.ba (He.ba (He.ba (He.ba T.more).2).2).2).2).2).2).1
theorem Txt.x_clsF (T : Txt K mg) : x_clsF K = true := (He.ba (He.ba (He.ba (He.ba (He.ba (He.ba (He.ba (He.ba T.more).2).2).2).2).2).2).2).1
theorem Txt.x_clsG (T : Txt K mg) : x_clsG K = true := (He.ba (He.ba (He.ba (He.ba (He.ba (He.ba (He.ba (He.ba (He.ba T.more).2).2).2).2).2).2).2).2).1
theorem Txt.x_clsT (T : Txt K mg) : x_clsT K = true := (He.ba (He.ba (He.ba (He.ba (He.ba (He.ba (He.ba (He.ba (He.ba (He.ba T.more).2).2).2).2).2).2).2).2).2).1
theorem Txt.x_mroO (T : Txt K mg) : x_mroO K = true := (He.ba (He.ba (He.ba (He.ba (He.ba (He.ba (He.ba (He.ba (He.ba (He.ba (He.ba T.more).2).2).2).2).2).2).2).2).2).2).1
theorem Txt.x_kitFF (T : Txt K mg) : x_kitFF K = true := (He.ba (He.ba (He.ba (He.ba (He.ba (He.ba (He.ba (He.ba (He.ba (He.ba (He.ba (He.ba T.more).2).2).2).2).2).2).2).2).2).2).2).1
theorem Txt.x_kitF (T : Txt K mg) : x_kitF K = true := (He.ba (He.ba (He.ba (He.ba (He.ba (He.ba (He.ba (He.ba (He.ba (He.ba (He.ba (He.ba (He.ba T.more).2).2).2).2).2).2).2).2).2).2).2).2).1
theorem Txt.F_divisor_of (T : Txt K mg) : FunD K "divisor_of" "divisor_of" (defArgs s_divisor_of) (defBody s_divisor_of) (defScope s_divisor_of) [] [] (He.ga K "divisor_of") (fdOf K (He.ga K "divisor_of")) := by
  obtain ⟨fd, F⟩ := T.says.def_ 0 (d := dd_divisor_of) rfl
  exact fdOf_eq F
theorem Txt.k_divisor_of (T : Txt K mg) : PySem.W.keepIn K (.ref (He.ga K "divisor_of")) = true := T.F_divisor_of.kp
theorem Txt.b_divisor_of (T : Txt K mg) : Binds K (fdOf K (He.ga K "divisor_of")) ["first", "second"] [] := T.F_divisor_of.bindsN fun _ _ _ _ _ _ us hl => match us, hl with | [_, _], _ => rfl
theorem Txt.F_ratio (T : Txt K mg) : FunD K "ratio" "ratio" (defArgs s_ratio) (defBody s_ratio) (defScope s_ratio) (dd_ratio.dvs K) [] (He.ga K "ratio") (fdOf K (He.ga K "ratio")) := by
  obtain ⟨fd, F⟩ := T.says.def_ 1 (d := dd_ratio) rfl
  exact fdOf_eq F
theorem Txt.k_ratio (T : Txt K mg) : PySem.W.keepIn K (.ref (He.ga K "ratio")) = true := T.F_ratio.kp
theorem Txt.F_plus (T : Txt K mg) : FunD K "plus" "plus" (defArgs s_plus) (defBody s_plus) (defScope s_plus) [] [] (He.ga K "plus") (fdOf K (He.ga K "plus")) := by
  obtain ⟨fd, F⟩ := T.says.def_ 2 (d := dd_plus) rfl
  exact fdOf_eq F
theorem Txt.k_plus (T : Txt K mg) : PySem.W.keepIn K (.ref (He.ga K "plus")) = true := T.F_plus.kp
theorem Txt.b_plus (T : Txt K mg) : Binds K (fdOf K (He.ga K "plus")) ["first", "second"] [] := T.F_plus.bindsN fun _ _ _ _ _ _ us hl => match us, hl with | [_, _], _ => rfl
theorem Txt.F_is_quantity (T : Txt K mg) : FunD K "is_quantity" "is_quantity" (defArgs s_is_quantity) (defBody s_is_quantity) (defScope s_is_quantity) [] [] (He.ga K "is_quantity") (fdOf K (He.ga K "is_quantity")) := by
  obtain ⟨fd, F⟩ := T.says.def_ 3 (d := dd_is_quantity) rfl
  exact fdOf_eq F
theorem Txt.k_is_quantity (T : Txt K mg) : PySem.W.keepIn K (.ref (He.ga K "is_quantity")) = true := T.F_is_quantity.kp
theorem Txt.b_is_quantity (T : Txt K mg) : Binds K (fdOf K (He.ga K "is_quantity")) ["text"] [] := T.F_is_quantity.bindsN fun _ _ _ _ _ _ us hl => match us, hl with | [_], _ => rfl
theorem Txt.F_size_text (T : Txt K mg) : FunD K "size_text" "size_text" (defArgs s_size_text) (defBody s_size_text) (defScope s_size_text) [] [] (He.ga K "size_text") (fdOf K (He.ga K "size_text")) := by
  obtain ⟨fd, F⟩ := T.says.def_ 4 (d := dd_size_text) rfl
  exact fdOf_eq F
theorem Txt.k_size_text (T : Txt K mg) : PySem.W.keepIn K (.ref (He.ga K "size_text")) = true := T.F_size_text.kp
theorem Txt.b_size_text (T : Txt K mg) : Binds K (fdOf K (He.ga K "size_text")) ["weight", "name"] [] := T.F_size_text.bindsN fun _ _ _ _ _ _ us hl => match us, hl with | [_, _], _ => rfl
theorem Txt.F_signed (T : Txt K mg) : FunD K "signed" "signed" (defArgs s_signed) (defBody s_signed) (defScope s_signed) [] [] (He.ga K "signed") (fdOf K (He.ga K "signed")) := by
  obtain ⟨fd, F⟩ := T.says.def_ 5 (d := dd_signed) rfl
  exact fdOf_eq F
theorem Txt.k_signed (T : Txt K mg) : PySem.W.keepIn K (.ref (He.ga K "signed")) = true := T.F_signed.kp
theorem Txt.b_signed (T : Txt K mg) : Binds K (fdOf K (He.ga K "signed")) ["number", "text"] [] := T.F_signed.bindsN fun _ _ _ _ _ _ us hl => match us, hl with | [_, _], _ => rfl
theorem Txt.F_Form___init__ (T : Txt K mg) : FunD K "__init__" "Form.__init__" (defArgs s_Form___init__) (defBody s_Form___init__) (defScope s_Form___init__) (dd_Form___init__.dvs K) [] (He.ma K (He.ga K "Form") "__init__") (fdOf K (He.ma K (He.ga K "Form") "__init__")) := by
  obtain ⟨fd, F⟩ := T.says.def_ 6 (d := dd_Form___init__) rfl
  exact fdOf_eq F
theorem Txt.k_Form___init__ (T : Txt K mg) : PySem.W.keepIn K (.ref (He.ma K (He.ga K "Form") "__init__")) = true := T.F_Form___init__.kp
theorem Txt.F_Form_scaled (T : Txt K mg) : FunD K "scaled" "Form.scaled" (defArgs s_Form_scaled) (defBody s_Form_scaled) (defScope s_Form_scaled) [] [] (He.ma K (He.ga K "Form") "scaled") (fdOf K (He.ma K (He.ga K "Form") "scaled")) := by
  obtain ⟨fd, F⟩ := T.says.def_ 7 (d := dd_Form_scaled) rfl
  exact fdOf_eq F
theorem Txt.k_Form_scaled (T : Txt K mg) : PySem.W.keepIn K (.ref (He.ma K (He.ga K "Form") "scaled")) = true := T.F_Form_scaled.kp
theorem Txt.b_Form_scaled (T : Txt K mg) : Binds K (fdOf K (He.ma K (He.ga K "Form") "scaled")) ["self", "number"] [] := T.F_Form_scaled.bindsN fun _ _ _ _ _ _ us hl => match us, hl with | [_, _], _ => rfl
theorem Txt.F_Form_put (T : Txt K mg) : FunD K "put" "Form.put" (defArgs s_Form_put) (defBody s_Form_put) (defScope s_Form_put) [] [] (He.ma K (He.ga K "Form") "put") (fdOf K (He.ma K (He.ga K "Form") "put")) := by
  obtain ⟨fd, F⟩ := T.says.def_ 8 (d := dd_Form_put) rfl
  exact fdOf_eq F
theorem Txt.k_Form_put (T : Txt K mg) : PySem.W.keepIn K (.ref (He.ma K (He.ga K "Form") "put")) = true := T.F_Form_put.kp
theorem Txt.b_Form_put (T : Txt K mg) : Binds K (fdOf K (He.ma K (He.ga K "Form") "put")) ["self", "name", "form"] [] := T.F_Form_put.bindsN fun _ _ _ _ _ _ us hl => match us, hl with | [_, _, _], _ => rfl
theorem Txt.F_Form___add__ (T : Txt K mg) : FunD K "__add__" "Form.__add__" (defArgs s_Form___add__) (defBody s_Form___add__) (defScope s_Form___add__) [] [] (He.ma K (He.ga K "Form") "__add__") (fdOf K (He.ma K (He.ga K "Form") "__add__")) := by
  obtain ⟨fd, F⟩ := T.says.def_ 9 (d := dd_Form___add__) rfl
  exact fdOf_eq F
theorem Txt.k_Form___add__ (T : Txt K mg) : PySem.W.keepIn K (.ref (He.ma K (He.ga K "Form") "__add__")) = true := T.F_Form___add__.kp
theorem Txt.b_Form___add__ (T : Txt K mg) : Binds K (fdOf K (He.ma K (He.ga K "Form") "__add__")) ["self", "other"] [] := T.F_Form___add__.bindsN fun _ _ _ _ _ _ us hl => match us, hl with | [_, _], _ => rfl
theorem Txt.F_Form___sub__ (T : Txt K mg) : FunD K "__sub__" "Form.__sub__" (defArgs s_Form___sub__) (defBody s_Form___sub__) (defScope s_Form___sub__) [] [] (He.ma K (He.ga K "Form") "__sub__") (fdOf K (He.ma K (He.ga K "Form") "__sub__")) := by
  obtain ⟨fd, F⟩ := T.says.def_ 10 (d := dd_Form___sub__) rfl
  exact fdOf_eq F
theorem Txt.k_Form___sub__ (T : Txt K mg) : PySem.W.keepIn K (.ref (He.ma K (He.ga K "Form") "__sub__")) = true := T.F_Form___sub__.kp
theorem Txt.b_Form___sub__ (T : Txt K mg) : Binds K (fdOf K (He.ma K (He.ga K "Form") "__sub__")) ["self", "other"] [] := T.F_Form___sub__.bindsN fun _ _ _ _ _ _ us hl => match us, hl with | [_, _], _ => rfl
theorem Txt.F_Form___neg__ (T : Txt K mg) : FunD K "__neg__" "Form.__neg__" (defArgs s_Form___neg__) (defBody s_Form___neg__) (defScope s_Form___neg__) [] [] (He.ma K (He.ga K "Form") "__neg__") (fdOf K (He.ma K (He.ga K "Form") "__neg__")) := by
  obtain ⟨fd, F⟩ := T.says.def_ 11 (d := dd_Form___neg__) rfl
  exact fdOf_eq F
theorem Txt.k_Form___neg__ (T : Txt K mg) : PySem.W.keepIn K (.ref (He.ma K (He.ga K "Form") "__neg__")) = true := T.F_Form___neg__.kp
theorem Txt.b_Form___neg__ (T : Txt K mg) : Binds K (fdOf K (He.ma K (He.ga K "Form") "__neg__")) ["self"] [] := T.F_Form___neg__.bindsN fun _ _ _ _ _ _ us hl => match us, hl with | [_], _ => rfl
theorem Txt.F_Form___mul__ (T : Txt K mg) : FunD K "__mul__" "Form.__mul__" (defArgs s_Form___mul__) (defBody s_Form___mul__) (defScope s_Form___mul__) [] [] (He.ma K (He.ga K "Form") "__mul__") (fdOf K (He.ma K (He.ga K "Form") "__mul__")) := by
  obtain ⟨fd, F⟩ := T.says.def_ 12 (d := dd_Form___mul__) rfl
  exact fdOf_eq F
theorem Txt.k_Form___mul__ (T : Txt K mg) : PySem.W.keepIn K (.ref (He.ma K (He.ga K "Form") "__mul__")) = true := T.F_Form___mul__.kp
theorem Txt.b_Form___mul__ (T : Txt K mg) : Binds K (fdOf K (He.ma K (He.ga K "Form") "__mul__")) ["self", "number"] [] := T.F_Form___mul__.bindsN fun _ _ _ _ _ _ us hl => match us, hl with | [_, _], _ => rfl
theorem Txt.F_Form___rmul__ (T : Txt K mg) : FunD K "__rmul__" "Form.__rmul__" (defArgs s_Form___rmul__) (defBody s_Form___rmul__) (defScope s_Form___rmul__) [] [] (He.ma K (He.ga K "Form") "__rmul__") (fdOf K (He.ma K (He.ga K "Form") "__rmul__")) := by
  obtain ⟨fd, F⟩ := T.says.def_ 13 (d := dd_Form___rmul__) rfl
  exact fdOf_eq F
theorem Txt.k_Form___rmul__ (T : Txt K mg) : PySem.W.keepIn K (.ref (He.ma K (He.ga K "Form") "__rmul__")) = true := T.F_Form___rmul__.kp
theorem Txt.b_Form___rmul__ (T : Txt K mg) : Binds K (fdOf K (He.ma K (He.ga K "Form") "__rmul__")) ["self", "number"] [] := T.F_Form___rmul__.bindsN fun _ _ _ _ _ _ us hl => match us, hl with | [_, _], _ => rfl
theorem Txt.F_Form___eq__ (T : Txt K mg) : FunD K "__eq__" "Form.__eq__" (defArgs s_Form___eq__) (defBody s_Form___eq__) (defScope s_Form___eq__) [] [] (He.ma K (He.ga K "Form") "__eq__") (fdOf K (He.ma K (He.ga K "Form") "__eq__")) := by
  obtain ⟨fd, F⟩ := T.says.def_ 14 (d := dd_Form___eq__) rfl
  exact fdOf_eq F
theorem Txt.k_Form___eq__ (T : Txt K mg) : PySem.W.keepIn K (.ref (He.ma K (He.ga K "Form") "__eq__")) = true := T.F_Form___eq__.kp
theorem Txt.b_Form___eq__ (T : Txt K mg) : Binds K (fdOf K (He.ma K (He.ga K "Form") "__eq__")) ["self", "other"] [] := T.F_Form___eq__.bindsN fun _ _ _ _ _ _ us hl => match us, hl with | [_, _], _ => rfl
theorem Txt.F_Form___getitem__ (T : Txt K mg) : FunD K "__getitem__" "Form.__getitem__" (defArgs s_Form___getitem__) (defBody s_Form___getitem__) (defScope s_Form___getitem__) [] [] (He.ma K (He.ga K "Form") "__getitem__") (fdOf K (He.ma K (He.ga K "Form") "__getitem__")) := by
  obtain ⟨fd, F⟩ := T.says.def_ 15 (d := dd_Form___getitem__) rfl
  exact fdOf_eq F
theorem Txt.k_Form___getitem__ (T : Txt K mg) : PySem.W.keepIn K (.ref (He.ma K (He.ga K "Form") "__getitem__")) = true := T.F_Form___getitem__.kp
theorem Txt.b_Form___getitem__ (T : Txt K mg) : Binds K (fdOf K (He.ma K (He.ga K "Form") "__getitem__")) ["self", "name"] [] := T.F_Form___getitem__.bindsN fun _ _ _ _ _ _ us hl => match us, hl with | [_, _], _ => rfl
theorem Txt.F_Form___call__ (T : Txt K mg) : FunD K "__call__" "Form.__call__" (defArgs s_Form___call__) (defBody s_Form___call__) (defScope s_Form___call__) [] [] (He.ma K (He.ga K "Form") "__call__") (fdOf K (He.ma K (He.ga K "Form") "__call__")) := by
  obtain ⟨fd, F⟩ := T.says.def_ 16 (d := dd_Form___call__) rfl
  exact fdOf_eq F
theorem Txt.k_Form___call__ (T : Txt K mg) : PySem.W.keepIn K (.ref (He.ma K (He.ga K "Form") "__call__")) = true := T.F_Form___call__.kp
theorem Txt.b_Form___call__ (T : Txt K mg) : Binds K (fdOf K (He.ma K (He.ga K "Form") "__call__")) ["self", "world"] [] := T.F_Form___call__.bindsN fun _ _ _ _ _ _ us hl => match us, hl with | [_, _], _ => rfl
theorem Txt.F_Form___str__ (T : Txt K mg) : FunD K "__str__" "Form.__str__" (defArgs s_Form___str__) (defBody s_Form___str__) (defScope s_Form___str__) [] [] (He.ma K (He.ga K "Form") "__str__") (fdOf K (He.ma K (He.ga K "Form") "__str__")) := by
  obtain ⟨fd, F⟩ := T.says.def_ 17 (d := dd_Form___str__) rfl
  exact fdOf_eq F
theorem Txt.k_Form___str__ (T : Txt K mg) : PySem.W.keepIn K (.ref (He.ma K (He.ga K "Form") "__str__")) = true := T.F_Form___str__.kp
theorem Txt.b_Form___str__ (T : Txt K mg) : Binds K (fdOf K (He.ma K (He.ga K "Form") "__str__")) ["self"] [] := T.F_Form___str__.bindsN fun _ _ _ _ _ _ us hl => match us, hl with | [_], _ => rfl
theorem Txt.F_l_pot (T : Txt K mg) : FunD K "_law_pot" "_law_pot" (defArgs s_l_pot) (defBody s_l_pot) (defScope s_l_pot) [] [] (He.ga K "_law_pot") (fdOf K (He.ga K "_law_pot")) := by
  obtain ⟨fd, F⟩ := T.says.def_ 18 (d := dd_l_pot) rfl
  exact fdOf_eq F
theorem Txt.k_l_pot (T : Txt K mg) : PySem.W.keepIn K (.ref (He.ga K "_law_pot")) = true := T.F_l_pot.kp
theorem Txt.b_l_pot (T : Txt K mg) : Binds K (fdOf K (He.ga K "_law_pot")) ["_law_script"] [] := T.F_l_pot.bindsN fun _ _ _ _ _ _ us hl => match us, hl with | [_], _ => rfl
theorem Txt.F_l_take (T : Txt K mg) : FunD K "_law_take" "_law_take" (defArgs s_l_take) (defBody s_l_take) (defScope s_l_take) [] [] (He.ga K "_law_take") (fdOf K (He.ga K "_law_take")) := by
  obtain ⟨fd, F⟩ := T.says.def_ 19 (d := dd_l_take) rfl
  exact fdOf_eq F
theorem Txt.k_l_take (T : Txt K mg) : PySem.W.keepIn K (.ref (He.ga K "_law_take")) = true := T.F_l_take.kp
theorem Txt.b_l_take (T : Txt K mg) : Binds K (fdOf K (He.ga K "_law_take")) ["_law_pot_here", "_law_size"] [] := T.F_l_take.bindsN fun _ _ _ _ _ _ us hl => match us, hl with | [_, _], _ => rfl
theorem Txt.F_l_whole (T : Txt K mg) : FunD K "_law_whole" "_law_whole" (defArgs s_l_whole) (defBody s_l_whole) (defScope s_l_whole) [] [] (He.ga K "_law_whole") (fdOf K (He.ga K "_law_whole")) := by
  obtain ⟨fd, F⟩ := T.says.def_ 20 (d := dd_l_whole) rfl
  exact fdOf_eq F
theorem Txt.k_l_whole (T : Txt K mg) : PySem.W.keepIn K (.ref (He.ga K "_law_whole")) = true := T.F_l_whole.kp
theorem Txt.b_l_whole (T : Txt K mg) : Binds K (fdOf K (He.ga K "_law_whole")) ["_law_found"] [] := T.F_l_whole.bindsN fun _ _ _ _ _ _ us hl => match us, hl with | [_], _ => rfl
theorem Txt.F_l_quantity (T : Txt K mg) : FunD K "_law_quantity" "_law_quantity" (defArgs s_l_quantity) (defBody s_l_quantity) (defScope s_l_quantity) [] [] (He.ga K "_law_quantity") (fdOf K (He.ga K "_law_quantity")) := by
  obtain ⟨fd, F⟩ := T.says.def_ 21 (d := dd_l_quantity) rfl
  exact fdOf_eq F
theorem Txt.k_l_quantity (T : Txt K mg) : PySem.W.keepIn K (.ref (He.ga K "_law_quantity")) = true := T.F_l_quantity.kp
theorem Txt.b_l_quantity (T : Txt K mg) : Binds K (fdOf K (He.ga K "_law_quantity")) ["_law_pot_here", "_law_shift"] [] := T.F_l_quantity.bindsN fun _ _ _ _ _ _ us hl => match us, hl with | [_, _], _ => rfl
theorem Txt.F_l_pool (T : Txt K mg) : FunD K "_law_pool" "_law_pool" (defArgs s_l_pool) (defBody s_l_pool) (defScope s_l_pool) [] [] (He.ga K "_law_pool") (fdOf K (He.ga K "_law_pool")) := by
  obtain ⟨fd, F⟩ := T.says.def_ 22 (d := dd_l_pool) rfl
  exact fdOf_eq F
theorem Txt.k_l_pool (T : Txt K mg) : PySem.W.keepIn K (.ref (He.ga K "_law_pool")) = true := T.F_l_pool.kp
theorem Txt.b_l_pool (T : Txt K mg) : Binds K (fdOf K (He.ga K "_law_pool")) ["_law_pot_here", "_law_most"] [] := T.F_l_pool.bindsN fun _ _ _ _ _ _ us hl => match us, hl with | [_, _], _ => rfl
theorem Txt.F_l_weight (T : Txt K mg) : FunD K "_law_weight" "_law_weight" (defArgs s_l_weight) (defBody s_l_weight) (defScope s_l_weight) [] [] (He.ga K "_law_weight") (fdOf K (He.ga K "_law_weight")) := by
  obtain ⟨fd, F⟩ := T.says.def_ 23 (d := dd_l_weight) rfl
  exact fdOf_eq F
theorem Txt.k_l_weight (T : Txt K mg) : PySem.W.keepIn K (.ref (He.ga K "_law_weight")) = true := T.F_l_weight.kp
theorem Txt.b_l_weight (T : Txt K mg) : Binds K (fdOf K (He.ga K "_law_weight")) ["_law_pot_here"] [] := T.F_l_weight.bindsN fun _ _ _ _ _ _ us hl => match us, hl with | [_], _ => rfl
theorem Txt.F_l_pairs (T : Txt K mg) : FunD K "_law_pairs" "_law_pairs" (defArgs s_l_pairs) (defBody s_l_pairs) (defScope s_l_pairs) [] [] (He.ga K "_law_pairs") (fdOf K (He.ga K "_law_pairs")) := by
  obtain ⟨fd, F⟩ := T.says.def_ 24 (d := dd_l_pairs) rfl
  exact fdOf_eq F
theorem Txt.k_l_pairs (T : Txt K mg) : PySem.W.keepIn K (.ref (He.ga K "_law_pairs")) = true := T.F_l_pairs.kp
theorem Txt.b_l_pairs (T : Txt K mg) : Binds K (fdOf K (He.ga K "_law_pairs")) ["_law_pot_here", "_law_pool_here"] [] := T.F_l_pairs.bindsN fun _ _ _ _ _ _ us hl => match us, hl with | [_, _], _ => rfl
theorem Txt.F_l_tidy (T : Txt K mg) : FunD K "_law_tidy" "_law_tidy" (defArgs s_l_tidy) (defBody s_l_tidy) (defScope s_l_tidy) [] [] (He.ga K "_law_tidy") (fdOf K (He.ga K "_law_tidy")) := by
  obtain ⟨fd, F⟩ := T.says.def_ 25 (d := dd_l_tidy) rfl
  exact fdOf_eq F
theorem Txt.k_l_tidy (T : Txt K mg) : PySem.W.keepIn K (.ref (He.ga K "_law_tidy")) = true := T.F_l_tidy.kp
theorem Txt.b_l_tidy (T : Txt K mg) : Binds K (fdOf K (He.ga K "_law_tidy")) ["_law_pairs_here", "_law_constant"] [] := T.F_l_tidy.bindsN fun _ _ _ _ _ _ us hl => match us, hl with | [_, _], _ => rfl
theorem Txt.F_l_added (T : Txt K mg) : FunD K "_law_added" "_law_added" (defArgs s_l_added) (defBody s_l_added) (defScope s_l_added) [] [] (He.ga K "_law_added") (fdOf K (He.ga K "_law_added")) := by
  obtain ⟨fd, F⟩ := T.says.def_ 26 (d := dd_l_added) rfl
  exact fdOf_eq F
theorem Txt.k_l_added (T : Txt K mg) : PySem.W.keepIn K (.ref (He.ga K "_law_added")) = true := T.F_l_added.kp
theorem Txt.b_l_added (T : Txt K mg) : Binds K (fdOf K (He.ga K "_law_added")) ["_law_one", "_law_two", "_law_factor"] [] := T.F_l_added.bindsN fun _ _ _ _ _ _ us hl => match us, hl with | [_, _, _], _ => rfl
theorem Txt.F_l_form_is (T : Txt K mg) : FunD K "_law_form_is" "_law_form_is" (defArgs s_l_form_is) (defBody s_l_form_is) (defScope s_l_form_is) [] [] (He.ga K "_law_form_is") (fdOf K (He.ga K "_law_form_is")) := by
  obtain ⟨fd, F⟩ := T.says.def_ 27 (d := dd_l_form_is) rfl
  exact fdOf_eq F
theorem Txt.k_l_form_is (T : Txt K mg) : PySem.W.keepIn K (.ref (He.ga K "_law_form_is")) = true := T.F_l_form_is.kp
theorem Txt.b_l_form_is (T : Txt K mg) : Binds K (fdOf K (He.ga K "_law_form_is")) ["_law_found", "_law_due"] [] := T.F_l_form_is.bindsN fun _ _ _ _ _ _ us hl => match us, hl with | [_, _], _ => rfl
theorem Txt.F_l_lowest (T : Txt K mg) : FunD K "_law_lowest" "_law_lowest" (defArgs s_l_lowest) (defBody s_l_lowest) (defScope s_l_lowest) [] [] (He.ga K "_law_lowest") (fdOf K (He.ga K "_law_lowest")) := by
  obtain ⟨fd, F⟩ := T.says.def_ 28 (d := dd_l_lowest) rfl
  exact fdOf_eq F
theorem Txt.k_l_lowest (T : Txt K mg) : PySem.W.keepIn K (.ref (He.ga K "_law_lowest")) = true := T.F_l_lowest.kp
theorem Txt.b_l_lowest (T : Txt K mg) : Binds K (fdOf K (He.ga K "_law_lowest")) ["_law_top", "_law_bottom"] [] := T.F_l_lowest.bindsN fun _ _ _ _ _ _ us hl => match us, hl with | [_, _], _ => rfl
theorem Txt.F_l_pair_is (T : Txt K mg) : FunD K "_law_pair_is" "_law_pair_is" (defArgs s_l_pair_is) (defBody s_l_pair_is) (defScope s_l_pair_is) [] [] (He.ga K "_law_pair_is") (fdOf K (He.ga K "_law_pair_is")) := by
  obtain ⟨fd, F⟩ := T.says.def_ 29 (d := dd_l_pair_is) rfl
  exact fdOf_eq F
theorem Txt.k_l_pair_is (T : Txt K mg) : PySem.W.keepIn K (.ref (He.ga K "_law_pair_is")) = true := T.F_l_pair_is.kp
theorem Txt.b_l_pair_is (T : Txt K mg) : Binds K (fdOf K (He.ga K "_law_pair_is")) ["_law_found", "_law_pair"] [] := T.F_l_pair_is.bindsN fun _ _ _ _ _ _ us hl => match us, hl with | [_, _], _ => rfl
theorem Txt.F_l_value (T : Txt K mg) : FunD K "_law_value" "_law_value" (defArgs s_l_value) (defBody s_l_value) (defScope s_l_value) [] [] (He.ga K "_law_value") (fdOf K (He.ga K "_law_value")) := by
  obtain ⟨fd, F⟩ := T.says.def_ 30 (d := dd_l_value) rfl
  exact fdOf_eq F
theorem Txt.k_l_value (T : Txt K mg) : PySem.W.keepIn K (.ref (He.ga K "_law_value")) = true := T.F_l_value.kp
theorem Txt.b_l_value (T : Txt K mg) : Binds K (fdOf K (He.ga K "_law_value")) ["_law_due", "_law_world"] [] := T.F_l_value.bindsN fun _ _ _ _ _ _ us hl => match us, hl with | [_, _], _ => rfl
theorem Txt.F_l_part (T : Txt K mg) : FunD K "_law_part" "_law_part" (defArgs s_l_part) (defBody s_l_part) (defScope s_l_part) [] [] (He.ga K "_law_part") (fdOf K (He.ga K "_law_part")) := by
  obtain ⟨fd, F⟩ := T.says.def_ 31 (d := dd_l_part) rfl
  exact fdOf_eq F
theorem Txt.k_l_part (T : Txt K mg) : PySem.W.keepIn K (.ref (He.ga K "_law_part")) = true := T.F_l_part.kp
theorem Txt.b_l_part (T : Txt K mg) : Binds K (fdOf K (He.ga K "_law_part")) ["_law_weight_here", "_law_text"] [] := T.F_l_part.bindsN fun _ _ _ _ _ _ us hl => match us, hl with | [_, _], _ => rfl
theorem Txt.F_l_written (T : Txt K mg) : FunD K "_law_written" "_law_written" (defArgs s_l_written) (defBody s_l_written) (defScope s_l_written) [] [] (He.ga K "_law_written") (fdOf K (He.ga K "_law_written")) := by
  obtain ⟨fd, F⟩ := T.says.def_ 32 (d := dd_l_written) rfl
  exact fdOf_eq F
theorem Txt.k_l_written (T : Txt K mg) : PySem.W.keepIn K (.ref (He.ga K "_law_written")) = true := T.F_l_written.kp
theorem Txt.b_l_written (T : Txt K mg) : Binds K (fdOf K (He.ga K "_law_written")) ["_law_due"] [] := T.F_l_written.bindsN fun _ _ _ _ _ _ us hl => match us, hl with | [_], _ => rfl
theorem Txt.F_l_right (T : Txt K mg) : FunD K "_law_right" "_law_right" (defArgs s_l_right) (defBody s_l_right) (defScope s_l_right) [] [] (He.ga K "_law_right") (fdOf K (He.ga K "_law_right")) := by
  obtain ⟨fd, F⟩ := T.says.def_ 33 (d := dd_l_right) rfl
  exact fdOf_eq F
theorem Txt.k_l_right (T : Txt K mg) : PySem.W.keepIn K (.ref (He.ga K "_law_right")) = true := T.F_l_right.kp
theorem Txt.b_l_right (T : Txt K mg) : Binds K (fdOf K (He.ga K "_law_right")) ["_law_found", "_law_due"] [] := T.F_l_right.bindsN fun _ _ _ _ _ _ us hl => match us, hl with | [_, _], _ => rfl
theorem Txt.F_l_put (T : Txt K mg) : FunD K "_law_put" "_law_put" (defArgs s_l_put) (defBody s_l_put) (defScope s_l_put) [] [] (He.ga K "_law_put") (fdOf K (He.ga K "_law_put")) := by
  obtain ⟨fd, F⟩ := T.says.def_ 34 (d := dd_l_put) rfl
  exact fdOf_eq F
theorem Txt.k_l_put (T : Txt K mg) : PySem.W.keepIn K (.ref (He.ga K "_law_put")) = true := T.F_l_put.kp
theorem Txt.b_l_put (T : Txt K mg) : Binds K (fdOf K (He.ga K "_law_put")) ["_law_one", "_law_text", "_law_other"] [] := T.F_l_put.bindsN fun _ _ _ _ _ _ us hl => match us, hl with | [_, _, _], _ => rfl
theorem Txt.F_l_level (T : Txt K mg) : FunD K "_law_level" "_law_level" (defArgs s_l_level) (defBody s_l_level) (defScope s_l_level) [] [] (He.ga K "_law_level") (fdOf K (He.ga K "_law_level")) := by
  obtain ⟨fd, F⟩ := T.says.def_ 35 (d := dd_l_level) rfl
  exact fdOf_eq F
theorem Txt.k_l_level (T : Txt K mg) : PySem.W.keepIn K (.ref (He.ga K "_law_level")) = true := T.F_l_level.kp
theorem Txt.b_l_level (T : Txt K mg) : Binds K (fdOf K (He.ga K "_law_level")) ["_law_pot_here"] [] := T.F_l_level.bindsN fun _ _ _ _ _ _ us hl => match us, hl with | [_], _ => rfl
theorem Txt.F_l_put_right (T : Txt K mg) : FunD K "_law_put_right" "_law_put_right" (defArgs s_l_put_right) (defBody s_l_put_right) (defScope s_l_put_right) [] [] (He.ga K "_law_put_right") (fdOf K (He.ga K "_law_put_right")) := by
  obtain ⟨fd, F⟩ := T.says.def_ 36 (d := dd_l_put_right) rfl
  exact fdOf_eq F
theorem Txt.k_l_put_right (T : Txt K mg) : PySem.W.keepIn K (.ref (He.ga K "_law_put_right")) = true := T.F_l_put_right.kp
theorem Txt.b_l_put_right (T : Txt K mg) : Binds K (fdOf K (He.ga K "_law_put_right")) ["_law_first", "_law_one", "_law_text", "_law_other", "_law_due_other", "_law_world"] [] := T.F_l_put_right.bindsN fun _ _ _ _ _ _ us hl => match us, hl with | [_, _, _, _, _, _], _ => rfl
theorem Txt.F_law (T : Txt K mg) : FunD K "law" "law" (defArgs s_law) (defBody s_law) (defScope s_law) [] [] (He.ga K "law") (fdOf K (He.ga K "law")) := by
  obtain ⟨fd, F⟩ := T.says.def_ 37 (d := dd_law) rfl
  exact fdOf_eq F
theorem Txt.k_law (T : Txt K mg) : PySem.W.keepIn K (.ref (He.ga K "law")) = true := T.F_law.kp
theorem Txt.b_law (T : Txt K mg) : Binds K (fdOf K (He.ga K "law")) ["_law_script"] [] := T.F_law.bindsN fun _ _ _ _ _ _ us hl => match us, hl with | [_], _ => rfl
end
theorem cp_2_53 : CPow 2 53 = True := eq_true ⟨by decide, by decide, by decide⟩
theorem pw_2_53 : ((2 : Int) ^ Int.toNat 53) = 9007199254740992 := by decide
theorem cp_10_9 : CPow 10 9 = True := eq_true ⟨by decide, by decide, by decide⟩
theorem pw_10_9 : ((10 : Int) ^ Int.toNat 9) = 1000000000 := by decide
theorem cp_10_10 : CPow 10 10 = True := eq_true ⟨by decide, by decide, by decide⟩
theorem pw_10_10 : ((10 : Int) ^ Int.toNat 10) = 10000000000 := by decide
theorem cp_10_18 : CPow 10 18 = True := eq_true ⟨by decide, by decide, by decide⟩
theorem pw_10_18 : ((10 : Int) ^ Int.toNat 18) = 1000000000000000000 := by decide
theorem cp_10_20 : CPow 10 20 = True := eq_true ⟨by decide, by decide, by decide⟩
theorem pw_10_20 : ((10 : Int) ^ Int.toNat 20) = 100000000000000000000 := by decide
theorem cp_10_29 : CPow 10 29 = True := eq_true ⟨by decide, by decide, by decide⟩
theorem pw_10_29 : ((10 : Int) ^ Int.toNat 29) = 100000000000000000000000000000 := by decide
theorem cp_10_30 : CPow 10 30 = True := eq_true ⟨by decide, by decide, by decide⟩
theorem pw_10_30 : ((10 : Int) ^ Int.toNat 30) = 1000000000000000000000000000000 := by decide
end K0
namespace K0
open PySem PySem.Spec PyProof.Rows L2
/-! forms as sums of weights: the mathematics -/
def SLt (a b : Str) : Prop := ltCps a.cps.toList b.cps.toList = true
theorem lt_irr : ∀ a : List Nat, ltCps a a = false
  | [] => rfl
  | x :: r => by simp [ltCps, lt_irr r]
theorem lt_tr : ∀ a b c : List Nat, ltCps a b = true → ltCps b c = true → ltCps a c = true
  | [], _, [], h1, h2 => by cases ‹List Nat› <;> simp [ltCps] at h1 h2
  | [], _, _ :: _, _, _ => rfl
  | _ :: _, [], _, h1, _ => by simp [ltCps] at h1
  | _ :: _, _ :: _, [], _, h2 => by simp [ltCps] at h2
  | x :: r, y :: t, z :: u, h1, h2 => by
    simp only [ltCps, Bool.or_eq_true, decide_eq_true_eq, Bool.and_eq_true, beq_iff_eq] at h1 h2 ⊢
    rcases h1 with h1 | ⟨rfl, h1⟩
    · rcases h2 with h2 | ⟨rfl, _⟩
      · exact .inl (Nat.lt_trans h1 h2)
      · exact .inl h1
    · rcases h2 with h2 | ⟨rfl, h2⟩
      · exact .inl h2
      · exact .inr ⟨rfl, lt_tr r t u h1 h2⟩
theorem lt_con : ∀ a b : List Nat, ltCps a b = false → ltCps b a = false → a = b
  | [], [], _, _ => rfl
  | [], _ :: _, h, _ => by simp [ltCps] at h
  | _ :: _, [], _, h => by simp [ltCps] at h
  | x :: r, y :: t, h1, h2 => by
    simp only [ltCps, Bool.or_eq_false_iff, decide_eq_false_iff_not, Bool.and_eq_false_iff, beq_eq_false_iff_ne] at h1 h2
    have e : x = y := by omega
    subst e
    rw [lt_con r t (by simpa using h1.2) (by simpa using h2.2)]
theorem str_ext {a b : Str} (h : a.cps.toList = b.cps.toList) : a = b := by
  cases a; cases b
  simp only [Str.mk.injEq]
  exact Array.toList_inj.mp h
theorem SLt.irr {a : Str} : ¬ SLt a a := by unfold SLt; rw [lt_irr]; decide
theorem SLt.tr {a b c : Str} (h : SLt a b) (h' : SLt b c) : SLt a c := lt_tr _ _ _ h h'
theorem SLt.ne {a b : Str} (h : SLt a b) : a ≠ b := by rintro rfl; exact SLt.irr h
theorem SLt.con {a b : Str} (h : ¬ SLt a b) (h' : ¬ SLt b a) : a = b := str_ext (lt_con _ _ (by simpa [SLt] using h) (by simpa [SLt] using h'))
/-- a sorted list of texts that differ rises -/
theorem rises : ∀ {l : List Str}, sortedS l = true → l.Nodup → l.Pairwise SLt := by
  have key : ∀ (l : List Str) (x : Str), risingS x l = true → (x :: l).Nodup → (x :: l).Pairwise SLt := by
    intro l
    induction l with
    | nil => intro x _ _; exact List.pairwise_singleton _ _
    | cons y r ih =>
      intro x h nd
      simp only [risingS, Bool.and_eq_true, Bool.not_eq_true'] at h
      have h2 := ih y h.2 (List.nodup_cons.mp nd).2
      have hxy : SLt x y := by
        rcases Classical.em (SLt x y) with z | z
        · exact z
        · exact absurd (SLt.con z (by unfold SLt; rw [h.1]; decide)) (by rintro rfl; exact (List.nodup_cons.mp nd).1 (List.mem_cons_self ..))
      refine List.pairwise_cons.mpr ⟨fun z hz => ?_, h2⟩
      rcases List.mem_cons.mp hz with rfl | hz
      · exact hxy
      · exact hxy.tr ((List.pairwise_cons.mp h2).1 z hz)
  intro l h nd
  cases l with
  | nil => exact List.Pairwise.nil
  | cons x r => exact key r x h nd
abbrev Trm := Str × Int
/-- the weight of a name -/
def wt : List Trm → Str → Int
  | [], _ => 0
  | p :: r, n => (if p.1 = n then p.2 else 0) + wt r n
theorem wt_append (a b : List Trm) (n : Str) : wt (a ++ b) n = wt a n + wt b n := by
  induction a with
  | nil => simp [wt]
  | cons p r ih => simp only [List.cons_append, wt, ih]; omega
theorem wt_scale (k : Int) (a : List Trm) (n : Str) : wt (a.map fun p => (p.1, p.2 * k)) n = wt a n * k := by
  induction a with
  | nil => simp [wt]
  | cons p r ih =>
    simp only [List.map_cons, wt, ih, Int.add_mul]
    split <;> simp
theorem wt_none {a : List Trm} {n : Str} (h : n ∉ a.map (·.1)) : wt a n = 0 := by
  induction a with
  | nil => rfl
  | cons p r ih =>
    simp only [List.map_cons, List.mem_cons, not_or] at h
    simp only [wt]
    rw [if_neg (fun e => h.1 e.symm), ih h.2]
    rfl
theorem wt_one {a : List Trm} (h : (a.map (·.1)).Nodup) {p : Trm} (hp : p ∈ a) : wt a p.1 = p.2 := by
  induction a with
  | nil => cases hp
  | cons q r ih =>
    obtain ⟨h1, h2⟩ := List.nodup_cons.mp (show (q.1 :: r.map (·.1)).Nodup from h)
    simp only [wt]
    rcases List.mem_cons.mp hp with rfl | hp
    · rw [if_pos rfl, wt_none h1]; omega
    · rw [if_neg, ih h2 hp]
      · omega
      · intro e
        exact h1 (List.mem_map.mpr ⟨p, hp, e.symm⟩)
theorem wt_mem {a : List Trm} {n : Str} (h : wt a n ≠ 0) : n ∈ a.map (·.1) := by
  rcases Classical.em (n ∈ a.map (·.1)) with z | z
  · exact z
  · exact absurd (wt_none z) h
/-- names that rise, weights that are not 0 -/
structure Canon (ts : List Trm) : Prop where
  up : (ts.map (·.1)).Pairwise SLt
  nz : ∀ p ∈ ts, p.2 ≠ 0
theorem Canon.nd {ts : List Trm} (c : Canon ts) : (ts.map (·.1)).Nodup := c.up.imp fun h => h.ne
theorem Canon.nil : Canon [] := ⟨List.Pairwise.nil, fun _ h => (List.not_mem_nil h).elim⟩
theorem Canon.mem {ts : List Trm} (c : Canon ts) (p : Trm) : p ∈ ts ↔ wt ts p.1 = p.2 ∧ p.2 ≠ 0 := by
  constructor
  · intro h
    exact ⟨wt_one c.nd h, c.nz p h⟩
  · rintro ⟨h1, h2⟩
    obtain ⟨q, hq, e⟩ := List.mem_map.mp (wt_mem (by rw [h1]; exact h2))
    have := wt_one c.nd hq
    have e2 : q = p := Prod.ext e (by rw [← this, e, h1])
    exact e2 ▸ hq
theorem Canon.same {ts us : List Trm} (c : Canon ts) (d : Canon us) (h : ∀ n, wt ts n = wt us n) : ts = us := by
  have n1 : ts.Nodup := (List.pairwise_map.mp c.nd).imp fun h e => h (congrArg Prod.fst e)
  have n2 : us.Nodup := (List.pairwise_map.mp d.nd).imp fun h e => h (congrArg Prod.fst e)
  have p : ts.Perm us := (List.perm_ext_iff_of_nodup n1 n2).mpr fun q => by rw [c.mem, d.mem, h]
  refine List.Perm.eq_of_pairwise (le := fun a b => SLt a.1 b.1) (fun a b _ _ h1 h2 => absurd (h1.tr h2) SLt.irr) (List.pairwise_map.mp c.up) (List.pairwise_map.mp d.up) p
/-- a linear sum -/
def lin (f : Str → Rat) : List Trm → Rat
  | [] => 0
  | p :: r => (p.2 : Rat) * f p.1 + lin f r
theorem lin_append (f : Str → Rat) (a b : List Trm) : lin f (a ++ b) = lin f a + lin f b := by
  induction a with
  | nil => simp [lin]; grind
  | cons p r ih => simp only [List.cons_append, lin, ih]; grind
theorem lin_scale (f : Str → Rat) (k : Int) (a : List Trm) : lin f (a.map fun p => (p.1, p.2 * k)) = lin f a * (k : Rat) := by
  induction a with
  | nil => simp [lin]
  | cons p r ih =>
    simp only [List.map_cons, lin, ih, Rat.intCast_mul]
    grind
/-- over the names -/
def lins (f : Str → Rat) (w : Str → Int) : List Str → Rat
  | [] => 0
  | n :: r => (w n : Rat) * f n + lins f w r
theorem lins_add (f : Str → Rat) (w v : Str → Int) (ns : List Str) : lins f (fun n => w n + v n) ns = lins f w ns + lins f v ns := by
  induction ns with
  | nil => simp [lins]; grind
  | cons n r ih => simp only [lins, ih, Rat.intCast_add]; grind
theorem lins_at (f : Str → Rat) (p : Trm) : ∀ (ns : List Str), ns.Nodup → p.1 ∈ ns → lins f (fun n => if p.1 = n then p.2 else 0) ns = (p.2 : Rat) * f p.1
  | [], _, h => by cases h
  | n :: r, nd, h => by
    obtain ⟨h1, h2⟩ := List.nodup_cons.mp nd
    simp only [lins]
    by_cases e : p.1 = n
    · rw [if_pos e, ← e]
      have z : ∀ l : List Str, p.1 ∉ l → lins f (fun n => if p.1 = n then p.2 else 0) l = 0 := by
        intro l
        induction l with
        | nil => intro _; rfl
        | cons m t ih =>
          intro hm
          simp only [List.mem_cons, not_or] at hm
          simp only [lins]
          rw [if_neg hm.1, ih hm.2]
          simp; grind
      rw [z r (e ▸ h1)]
      grind
    · rw [if_neg e, lins_at f p r h2 ((List.mem_cons.mp h).resolve_left e)]
      simp; grind
theorem lin_lins (f : Str → Rat) (ns : List Str) (nd : ns.Nodup) : ∀ ts : List Trm, (∀ p ∈ ts, p.1 ∈ ns) → lin f ts = lins f (wt ts) ns
  | [], _ => by
    have z : ∀ l : List Str, lins f (wt []) l = 0 := by
      intro l
      induction l with
      | nil => rfl
      | cons m t ih =>
        show ((0 : Int) : Rat) * f m + lins f (wt []) t = 0
        rw [ih]; simp; grind
    rw [z]; rfl
  | p :: r, h => by
    have e : (fun n => wt (p :: r) n) = fun n => (if p.1 = n then p.2 else 0) + wt r n := by funext n; rfl
    show _ = lins f (fun n => wt (p :: r) n) ns
    rw [e, lins_add, lins_at f p ns nd (h p (List.mem_cons_self ..)), ← lin_lins f ns nd r fun q hq => h q (List.mem_cons_of_mem _ hq)]
    rfl
theorem once : ∀ l : List Str, ∃ ns : List Str, ns.Nodup ∧ ∀ x ∈ l, x ∈ ns
  | [] => ⟨[], List.nodup_nil, fun _ h => h⟩
  | x :: r => by
    obtain ⟨ns, nd, h⟩ := once r
    by_cases hx : x ∈ ns
    · exact ⟨ns, nd, fun y hy => (List.mem_cons.mp hy).elim (fun e => e ▸ hx) (h y)⟩
    · exact ⟨x :: ns, List.nodup_cons.mpr ⟨hx, nd⟩, fun y hy => (List.mem_cons.mp hy).elim (fun e => e ▸ List.mem_cons_self ..) fun z => List.mem_cons_of_mem _ (h y z)⟩
theorem lin_same (f : Str → Rat) {a b : List Trm} (h : ∀ n, wt a n = wt b n) : lin f a = lin f b := by
  obtain ⟨ns, nd, hn⟩ := once (a.map (·.1) ++ b.map (·.1))
  rw [lin_lins f ns nd a fun p hp => hn _ (List.mem_append.mpr (.inl (List.mem_map.mpr ⟨p, hp, rfl⟩))), lin_lins f ns nd b fun p hp => hn _ (List.mem_append.mpr (.inr (List.mem_map.mpr ⟨p, hp, rfl⟩)))]
  rw [show wt a = wt b from funext h]
end K0
namespace K0
open PySem PySem.Spec PyProof.Rows L2
/-! ratios as Lean's own -/
def den (t b : Int) : Int := if b < 0 then -(Int.gcd t b : Int) else (Int.gcd t b : Int)
theorem gcd_pos {t b : Int} (h : b ≠ 0) : 0 < Int.gcd t b := by
  rcases Nat.eq_zero_or_pos (Int.gcd t b) with e | e
  · exact absurd (Int.gcd_eq_zero_iff.mp e).2 h
  · exact e
theorem den_ne {t b : Int} (h : b ≠ 0) : den t b ≠ 0 := by
  have := gcd_pos (t := t) h
  unfold den; split <;> omega
theorem den_sm {n : Nat} {t b : Int} (h : b ≠ 0) (hb : Sm n b) : Sm n (den t b) := by
  refine hb.le ?_
  have h1 : Int.gcd t b ≤ b.natAbs := Nat.le_of_dvd (by omega) (Int.gcd_dvd_natAbs_right t b)
  unfold den; split <;> omega
def prT (q : Rat) : HO := .tup [.int q.num, .int q.den]
theorem low_rat {t b : Int} (h : b ≠ 0) : t.fdiv (den t b) = (Rat.divInt t b).num ∧ b.fdiv (den t b) = ((Rat.divInt t b).den : Int) := by
  have hg := gcd_pos (t := t) h
  rw [Rat.num_divInt, Rat.den_divInt, if_neg h, Int.gcd_comm b t]
  obtain ⟨q, hq⟩ := Int.gcd_dvd_left t b
  obtain ⟨r, hr⟩ := Int.gcd_dvd_right t b
  have g0 : ((Int.gcd t b : Nat) : Int) ≠ 0 := by omega
  unfold den
  by_cases hb : b < 0
  · rw [if_pos hb, Int.sign_eq_neg_one_of_neg hb]
    have e1 : t = -(Int.gcd t b : Int) * (-q) := by rw [Int.neg_mul_neg]; exact hq
    have e2 : b = -(Int.gcd t b : Int) * (-r) := by rw [Int.neg_mul_neg]; exact hr
    constructor
    · generalize (Int.gcd t b : Int) = g at *
      rw [e1, Int.mul_fdiv_cancel_left _ (by omega)]
      rw [Int.neg_mul_neg, Int.neg_mul, Int.one_mul, ← Int.mul_neg, Int.mul_ediv_cancel_left _ g0]
    · have e3 : b.natAbs = Int.gcd t b * r.natAbs := by
        have := congrArg Int.natAbs hr
        rw [Int.natAbs_mul, Int.natAbs_natCast] at this
        exact this
      rw [e3, Nat.mul_div_cancel_left _ hg]
      generalize (Int.gcd t b) = g at *
      have hr0 : r < 0 := by
        rcases Int.lt_or_le r 0 with z | z
        · exact z
        · have : 0 ≤ (g : Int) * r := Int.mul_nonneg (by omega) z
          omega
      rw [e2, Int.mul_fdiv_cancel_left _ (by omega)]
      omega
  · rw [if_neg hb, Int.sign_eq_one_of_pos (by omega)]
    constructor
    · rw [Int.fdiv_eq_ediv_of_nonneg _ (by omega), Int.one_mul]
    · rw [Int.fdiv_eq_ediv_of_nonneg _ (by omega)]
      have : (b.natAbs : Int) = b := by omega
      rw [Int.natCast_ediv, this]
end K0
namespace K0
open PySem PySem.Spec PyProof.Rows L2
/-! what stands for terms and forms -/
def Imm : HO → Prop
  | .tup _ => True
  | .ins _ _ _ => True
  | .own _ => True
  | _ => False
/-- things that never change are kept -/
def Im (H H' : Hp) : Prop := ∀ b o, H b = some o → Imm o → H' b = some o
theorem Im.refl (H : Hp) : Im H H := fun _ _ h _ => h
theorem Im.trans {H H1 H2 : Hp} (a : Im H H1) (b : Im H1 H2) : Im H H2 := fun c o h i => b c o (a c o h i) i
theorem Im.of {H H' : Hp} (s : Same H H') : Im H H' := fun b o h _ => s b o h
theorem Im.off {H H' : Hp} {p : Addr} (hp : PotAt H p) (o : Off p H H') : Im H H' := fun b u h i => o b u h (by
  rintro rfl
  obtain ⟨_, _, _, _, _, z, _⟩ := hp
  rw [z] at h; cases h; exact i)
theorem Im.lst {H : Hp} {l : Addr} {xs ys : List V} (h : H l = some (.lst xs)) : Im H (upd H l (.lst ys)) := fun b u hb i => by
  rw [upd_ne]; · exact hb
  rintro rfl; rw [h] at hb; cases hb; exact i
theorem Im.dct {H : Hp} {l : Addr} {xs ys : List (Key × V)} (h : H l = some (.dK xs)) : Im H (upd H l (.dK ys)) := fun b u hb i => by
  rw [upd_ne]; · exact hb
  rintro rfl; rw [h] at hb; cases hb; exact i
theorem Im.new {H : Hp} {l : Addr} {o : HO} (h : H l = none) : Im H (upd H l o) := Im.of (same_upd h)
/-- a pair (name, weight) -/
def PR (H : Hp) (v : V) (t : Trm) : Prop := ∃ r, v = .ref r ∧ H r = some (.tup [.str t.1, .int t.2])
def Trms (H : Hp) (vs : List V) (ts : List Trm) : Prop := vs.length = ts.length ∧ ∀ (i : Nat) v t, vs[i]? = some v → ts[i]? = some t → PR H v t
theorem PR.im {H H' : Hp} {v : V} {t : Trm} (h : PR H v t) (i : Im H H') : PR H' v t := by
  obtain ⟨r, rfl, h⟩ := h
  exact ⟨r, rfl, i _ _ h trivial⟩
theorem Trms.im {H H' : Hp} {vs : List V} {ts : List Trm} (h : Trms H vs ts) (i : Im H H') : Trms H' vs ts := ⟨h.1, fun j v t a b => (h.2 j v t a b).im i⟩
theorem Trms.nil {H : Hp} : Trms H [] [] := ⟨rfl, fun i v t h _ => by simp at h⟩
theorem Trms.snoc {H : Hp} {vs : List V} {ts : List Trm} {v : V} {t : Trm} (h : Trms H vs ts) (p : PR H v t) : Trms H (vs ++ [v]) (ts ++ [t]) := by
  refine ⟨by simp [h.1], fun i a b ha hb => ?_⟩
  rcases Nat.lt_trichotomy i vs.length with z | z | z
  · rw [List.getElem?_append_left z] at ha
    rw [List.getElem?_append_left (by rw [← h.1]; exact z)] at hb
    exact h.2 i a b ha hb
  · subst z
    rw [List.getElem?_append_right (Nat.le_refl _), Nat.sub_self] at ha
    rw [h.1, List.getElem?_append_right (Nat.le_refl _), Nat.sub_self] at hb
    cases ha; cases hb; exact p
  · rw [List.getElem?_eq_none (by simp; omega)] at ha; cases ha
theorem Trms.append {H : Hp} {vs ws : List V} {ts us : List Trm} (h : Trms H vs ts) (g : Trms H ws us) : Trms H (vs ++ ws) (ts ++ us) := by
  refine ⟨by simp [h.1, g.1], fun i a b ha hb => ?_⟩
  by_cases z : i < vs.length
  · rw [List.getElem?_append_left z] at ha
    rw [List.getElem?_append_left (by rw [← h.1]; exact z)] at hb
    exact h.2 i a b ha hb
  · rw [List.getElem?_append_right (by omega)] at ha
    rw [List.getElem?_append_right (by rw [← h.1]; omega), ← h.1] at hb
    exact g.2 _ a b ha hb
theorem Trms.at {H : Hp} {vs : List V} {ts : List Trm} {i : Nat} {v : V} (h : Trms H vs ts) (e : vs[i]? = some v) : ∃ t r, ts[i]? = some t ∧ v = .ref r ∧ H r = some (.tup [.str t.1, .int t.2]) := by
  have hi : i < ts.length := by rw [← h.1]; exact (List.getElem?_eq_some_iff.mp e).1
  obtain ⟨r, e1, e2⟩ := h.2 i v ts[i] e (List.getElem?_eq_getElem hi)
  exact ⟨_, r, List.getElem?_eq_getElem hi, e1, e2⟩
/-- a tuple of terms -/
def TmAt (H : Hp) (v : V) (ts : List Trm) : Prop := ∃ r vs, v = .ref r ∧ H r = some (.tup vs) ∧ Trms H vs ts
theorem TmAt.im {H H' : Hp} {v : V} {ts : List Trm} (h : TmAt H v ts) (i : Im H H') : TmAt H' v ts := by
  obtain ⟨r, vs, e, h1, h2⟩ := h
  exact ⟨r, vs, e, i _ _ h1 trivial, h2.im i⟩
/-- a form -/
def FormAt (C : Addr) (H : Hp) (a : Addr) (ts : List Trm) (c : Int) : Prop := ∃ dx r vs, H a = some (.ins C dx [("terms", .ref r), ("constant", .int c)]) ∧ H r = some (.tup vs) ∧ Trms H vs ts
theorem FormAt.im {C : Addr} {H H' : Hp} {a : Addr} {ts : List Trm} {c : Int} (h : FormAt C H a ts c) (i : Im H H') : FormAt C H' a ts c := by
  obtain ⟨dx, r, vs, h1, h2, h3⟩ := h
  exact ⟨dx, r, vs, i _ _ h1 trivial, i _ _ h2 trivial, h3.im i⟩
theorem put1 (v : V) : putF "terms" v [] = ([("terms", v)] : List (Str × V)) := rfl
theorem put2 (v w : V) : putF "constant" w ([("terms", v)] : List (Str × V)) = ([("terms", v), ("constant", w)] : List (Str × V)) := by
  show (if ("terms" : Str) = "constant" then _ else (("terms" : Str), v) :: putF "constant" w []) = _
  rw [if_neg (by decide +kernel)]; rfl
theorem look_t (v w : V) : List.lookup ("terms" : Str) ([("terms", v), ("constant", w)] : List (Str × V)) = some v := by
  rw [List.lookup_cons, show (("terms" : Str) == "terms") = true by decide +kernel]
theorem look_c (v w : V) : List.lookup ("constant" : Str) ([("terms", v), ("constant", w)] : List (Str × V)) = some w := by
  rw [List.lookup_cons, show (("constant" : Str) == "terms") = false by decide +kernel]
  show List.lookup ("constant" : Str) ([("constant", w)] : List (Str × V)) = some w
  rw [List.lookup_cons, show (("constant" : Str) == "constant") = true by decide +kernel]
theorem look_n (m : Str) (v w : V) (h1 : (m == "terms") = false) (h2 : (m == "constant") = false) : List.lookup m ([("terms", v), ("constant", w)] : List (Str × V)) = none := by
  rw [List.lookup_cons, h1]
  show List.lookup m ([("constant", w)] : List (Str × V)) = none
  rw [List.lookup_cons, h2]; rfl
/-- unpacking a pair -/
theorem g_pair {K : PySem.W.Frag} {i j : Nat} {v : V} {t : Trm} {σ : L2.St} {H : Hp} {Q : L2.St → Hp → Prop} (h : PR H v t) (q : Q ((σ.set i (some (.str t.1))).set j (some (.int t.2))) H) : gTup K 2 (gCons (gName i) (gCons (gName j) gNil)) v σ H Q := by
  obtain ⟨r, rfl, h⟩ := h
  exact ⟨r, _, rfl, .inl (.inl h), rfl, _, _, rfl, _, _, rfl, rfl, q⟩
end K0
namespace K0
open PySem PySem.Spec PyProof.Rows L2
/-! a dict of weights -/
def addT : List Trm → Trm → List Trm
  | [], t => [t]
  | p :: r, t => if p.1 = t.1 then (p.1, p.2 + t.2) :: r else p :: addT r t
def kvF (p : Trm) : Key × V := (Sum.inr p.1, V.int p.2)
theorem addT_wt (n : Str) (t : Trm) : ∀ ds : List Trm, wt (addT ds t) n = wt ds n + (if t.1 = n then t.2 else 0)
  | [] => by simp only [addT, wt]; omega
  | p :: r => by
    unfold addT
    split
    · rename_i e
      simp only [wt, e]
      split <;> omega
    · simp only [wt, addT_wt n t r]; omega
theorem addT_mem (t : Trm) (n : Str) : ∀ ds : List Trm, n ∈ (addT ds t).map (·.1) ↔ n ∈ ds.map (·.1) ∨ n = t.1
  | [] => by simp [addT]
  | p :: r => by
    unfold addT
    split
    · rename_i e
      simp only [List.map_cons, List.mem_cons]
      constructor
      · rintro (h | h)
        · exact .inl (.inl h)
        · exact .inl (.inr h)
      · rintro ((h | h) | h)
        · exact .inl h
        · exact .inr h
        · exact .inl (h.trans e.symm)
    · simp only [List.map_cons, List.mem_cons, addT_mem t n r]
      constructor
      · rintro (h | h | h)
        · exact .inl (.inl h)
        · exact .inl (.inr h)
        · exact .inr h
      · rintro ((h | h) | h)
        · exact .inl h
        · exact .inr (.inl h)
        · exact .inr (.inr h)
theorem addT_nd (t : Trm) : ∀ ds : List Trm, (ds.map (·.1)).Nodup → ((addT ds t).map (·.1)).Nodup
  | [], _ => by simp [addT]
  | p :: r, h => by
    obtain ⟨h1, h2⟩ := List.nodup_cons.mp (show (p.1 :: r.map (·.1)).Nodup from h)
    unfold addT
    split
    · exact h
    · rename_i e
      refine List.nodup_cons.mpr ⟨fun z => ?_, addT_nd t r h2⟩
      rcases (addT_mem t p.1 r).mp z with z | z
      · exact h1 z
      · exact e z
theorem addT_len (t : Trm) : ∀ ds : List Trm, (addT ds t).length ≤ ds.length + 1
  | [] => by simp [addT]
  | p :: r => by
    unfold addT
    split
    · simp
    · have := addT_len t r
      simp only [List.length_cons]; omega
theorem valF (n : Str) : ∀ ds : List Trm, (ds.map (·.1)).Nodup → valV (ds.map kvF) (Sum.inr n : Key) = if n ∈ ds.map (·.1) then some (.int (wt ds n)) else none
  | [], _ => by simp [valV]
  | p :: r, h => by
    obtain ⟨h1, h2⟩ := List.nodup_cons.mp (show (p.1 :: r.map (·.1)).Nodup from h)
    by_cases e : p.1 = n
    · rw [List.map_cons, valV_pos (show (kvF p).1 = _ from congrArg Sum.inr e), if_pos (by rw [List.map_cons, e]; exact List.mem_cons_self ..)]
      simp only [wt]
      rw [if_pos e, wt_none (e ▸ h1)]
      show some (V.int p.2) = _
      rw [Int.add_zero]
    · rw [List.map_cons, valV_neg (show ¬ (kvF p).1 = _ from fun z => e (Sum.inr.inj z)), valF n r h2]
      have : n ∈ (p :: r).map (·.1) ↔ n ∈ r.map (·.1) := by
        simp only [List.map_cons, List.mem_cons]
        exact ⟨fun z => z.resolve_left fun w => e w.symm, .inr⟩
      simp only [this, wt, if_neg e, Int.zero_add]
theorem getF (n : Str) (ds : List Trm) (h : (ds.map (·.1)).Nodup) : (valV (ds.map kvF) (Sum.inr n : Key)).getD (.int 0) = .int (wt ds n) := by
  rw [valF n ds h]
  split
  · rfl
  · rename_i z
    rw [wt_none z]; rfl
theorem putF_add (t : Trm) : ∀ ds : List Trm, (ds.map (·.1)).Nodup → putK (ds.map kvF) (Sum.inr t.1 : Key) (.int (wt ds t.1 + t.2)) = (addT ds t).map kvF := by
  intro ds nd
  by_cases hm : t.1 ∈ ds.map (·.1)
  · unfold putK
    rw [if_pos]
    · induction ds with
      | nil => cases hm
      | cons p r ih =>
        obtain ⟨h1, h2⟩ := List.nodup_cons.mp (show (p.1 :: r.map (·.1)).Nodup from nd)
        unfold addT
        by_cases e : p.1 = t.1
        · rw [if_pos e, List.map_cons, List.map_cons, List.map_cons, if_pos (show (kvF p).1 = _ from congrArg Sum.inr e)]
          have z : wt (p :: r) t.1 = p.2 := by
            simp only [wt]; rw [if_pos e, wt_none (e ▸ h1)]; omega
          rw [z]
          congr 1
          have : ∀ l : List Trm, t.1 ∉ l.map (·.1) → (l.map kvF).map (fun kv => if kv.1 = (Sum.inr t.1 : Key) then (kv.1, V.int (p.2 + t.2)) else kv) = l.map kvF := by
            intro l
            induction l with
            | nil => intro _; rfl
            | cons q u iu =>
              intro hq
              simp only [List.map_cons, List.mem_cons, not_or] at hq
              rw [List.map_cons, List.map_cons, iu hq.2, if_neg (show ¬ (kvF q).1 = _ from fun w => hq.1 (Sum.inr.inj w).symm)]
          exact this r (e ▸ h1)
        · rw [if_neg e, List.map_cons, List.map_cons, List.map_cons, if_neg (show ¬ (kvF p).1 = _ from fun w => e (Sum.inr.inj w))]
          have hm' : t.1 ∈ r.map (·.1) := (List.mem_cons.mp (show t.1 ∈ p.1 :: r.map (·.1) from hm)).resolve_left fun w => e w.symm
          have z : wt (p :: r) t.1 = wt r t.1 := by simp only [wt]; rw [if_neg e]; omega
          rw [z, ih h2 hm']
    · rw [valV_any, valF _ _ nd, if_pos hm]; rfl
  · rw [putK_new _ (by rw [valF _ _ nd, if_neg hm]), wt_none hm, Int.zero_add]
    have : ∀ l : List Trm, t.1 ∉ l.map (·.1) → addT l t = l ++ [t] := by
      intro l
      induction l with
      | nil => intro _; rfl
      | cons q u iu =>
        intro hq
        simp only [List.map_cons, List.mem_cons, not_or] at hq
        unfold addT
        rw [if_neg (fun w => hq.1 w.symm), iu hq.2]; rfl
    rw [this ds hm, List.map_append]; rfl
/-- the terms that are left, in the order of the names -/
def xsOf (ds : List Trm) (ys : List Str) : List Trm := (ys.filter fun n => decide (wt ds n ≠ 0)).map fun n => (n, wt ds n)
theorem xsOf_canon {ds : List Trm} {ys : List Str} (h : ys.Pairwise SLt) : Canon (xsOf ds ys) := by
  refine ⟨?_, ?_⟩
  · unfold xsOf
    rw [List.map_map]
    have : ((fun p : Trm => p.1) ∘ fun n => (n, wt ds n)) = id := rfl
    rw [this, List.map_id]
    exact h.filter _
  · intro p hp
    obtain ⟨n, hn, rfl⟩ := List.mem_map.mp hp
    exact of_decide_eq_true (List.mem_filter.mp hn).2
theorem xsOf_wt {ds : List Trm} {ys : List Str} (h : ys.Pairwise SLt) (hm : ∀ n, n ∈ ys ↔ n ∈ ds.map (·.1)) (n : Str) : wt (xsOf ds ys) n = wt ds n := by
  have c := xsOf_canon (ds := ds) h
  by_cases e : wt ds n = 0
  · rw [e]
    refine wt_none fun z => ?_
    obtain ⟨p, hp, rfl⟩ := List.mem_map.mp z
    obtain ⟨m, hm', rfl⟩ := List.mem_map.mp hp
    exact of_decide_eq_true (List.mem_filter.mp hm').2 e
  · have : ((n, wt ds n) : Trm) ∈ xsOf ds ys := List.mem_map.mpr ⟨n, List.mem_filter.mpr ⟨(hm n).mpr (wt_mem e), decide_eq_true e⟩, rfl⟩
    exact wt_one c.nd this
def dsOf (ts : List Trm) : List Trm := ts.foldl addT []
theorem dsOf_nd (ts : List Trm) : ((dsOf ts).map (·.1)).Nodup := by
  have : ∀ (l a : List Trm), (a.map (·.1)).Nodup → ((l.foldl addT a).map (·.1)).Nodup := by
    intro l
    induction l with
    | nil => exact fun a h => h
    | cons t r ih => exact fun a h => ih _ (addT_nd t a h)
  exact this ts [] List.nodup_nil
theorem dsOf_wt (ts : List Trm) (n : Str) : wt (dsOf ts) n = wt ts n := by
  have : ∀ (l a : List Trm), wt (l.foldl addT a) n = wt a n + wt l n := by
    intro l
    induction l with
    | nil => intro a; simp [wt]
    | cons t r ih =>
      intro a
      rw [List.foldl_cons, ih, addT_wt]
      simp only [wt]; omega
  rw [dsOf, this]; simp [wt]
theorem dsOf_len (ts : List Trm) : (dsOf ts).length ≤ ts.length := by
  have : ∀ (l a : List Trm), (l.foldl addT a).length ≤ a.length + l.length := by
    intro l
    induction l with
    | nil => intro a; simp
    | cons t r ih =>
      intro a
      have h1 := ih (addT a t)
      have h2 := addT_len t a
      rw [List.foldl_cons]
      simp only [List.length_cons]; omega
  have h := this ts []
  rw [List.length_nil, Nat.zero_add] at h
  exact h
theorem dsOf_take {ts : List Trm} {i : Nat} {t : Trm} (h : ts[i]? = some t) : dsOf (ts.take (i + 1)) = addT (dsOf (ts.take i)) t := by
  unfold dsOf
  rw [List.take_add_one, h, List.foldl_append]; rfl
theorem xsOf_take {ds : List Trm} {ys : List Str} {i : Nat} {n : Str} (h : ys[i]? = some n) : xsOf ds (ys.take (i + 1)) = xsOf ds (ys.take i) ++ (if wt ds n = 0 then [] else [(n, wt ds n)]) := by
  unfold xsOf
  rw [List.take_add_one, h, List.filter_append, List.map_append]
  congr 1
  by_cases e : wt ds n = 0
  · simp [e]
  · simp [e]
end K0
namespace K0
open PySem PySem.Spec PyProof.Rows L2
theorem rawN {P : Program} {w : World} {K : PySem.W.Frag} {mg : Str → Option Value} {base : Heap} {CX : CXT} {k : Nat} {f : Addr} {sp : Sp} {fd : FuncData} {ps : List Str} (F : FnOk P w K mg base CX k f fd ps sp) (hb : L2.Binds K fd ps []) : FnR P w K mg base CX k f sp :=
  (FnOk.raw F hb .nil).imp fun vs H Q E h => by
    show sp (vs ++ []) H Q E
    rw [List.append_nil]; exact h
section
variable {K : PySem.W.Frag} {mg : Str → Option Value}
theorem Txt.cl_Form (T : Txt K mg) : Cls K (He.ga K "Form") := He.cls_ok T.f_cls_Form
theorem Txt.nt_Form (T : Txt K mg) : NoAttr K (He.ga K "Form") "terms" := He.noat_ok T.f_noat_Form_terms
theorem Txt.nc_Form (T : Txt K mg) : NoAttr K (He.ga K "Form") "constant" := He.noat_ok T.f_noat_Form_constant
theorem Txt.M_Form (T : Txt K mg) : Mk K (He.ga K "Form") (He.ma K (He.ga K "Form") "__init__") := He.mkr_ok T.f_mkr_Form
end
section
variable {P : Program} {w : World} {K : PySem.W.Frag} {mg : Str → Option Value} {base : Heap}
def QC : List Nat := ("abcdefghijklmnopqrstuvwxyz0123456789." : Str).cps.toList
def LC : List Nat := ("abcdefghijklmnopqrstuvwxyz" : Str).cps.toList
/-- a quantity's name -/
def isQ (z : Str) : Bool := (decide (1 ≤ z.length ∧ z.length ≤ 12) && z.cps.toList.all fun c => decide (c ∈ QC)) && ((match z.cps.toList.head? with | some c => decide (c ∈ LC) | none => false) && (match z.cps.toList.getLast? with | some c => !decide (c = 46) | none => false))
theorem isQ_len {z : Str} (h : ¬ (1 ≤ z.length ∧ z.length ≤ 12)) : isQ z = false := by unfold isQ; rw [decide_eq_false h]; rfl
theorem isQ_ch {z : Str} {c : Nat} (hc : c ∈ z.cps.toList) (h : c ∉ QC) : isQ z = false := by
  unfold isQ
  have e : (z.cps.toList.all fun c => decide (c ∈ QC)) = false := by
    rw [List.all_eq_false]
    exact ⟨c, hc, by simp [h]⟩
  rw [e]; simp
theorem isQ_end {z : Str} {a b : Nat} (h : 1 ≤ z.length ∧ z.length ≤ 12) (hc : ∀ c ∈ z.cps.toList, c ∈ QC) (ha : z.cps.toList.head? = some a) (hb : z.cps.toList.getLast? = some b) : isQ z = (decide (a ∈ LC) && !decide (b = 46)) := by
  unfold isQ
  have e : (z.cps.toList.all fun c => decide (c ∈ QC)) = true := by
    rw [List.all_eq_true]
    exact fun c hm => decide_eq_true (hc c hm)
  rw [e, ha, hb, decide_eq_true h]; rfl
theorem isQ_12 {z : Str} (h : isQ z = true) : 1 ≤ z.length ∧ z.length ≤ 12 := by
  rcases Classical.em (1 ≤ z.length ∧ z.length ≤ 12) with y | y
  · exact y
  · rw [isQ_len y] at h; cases h
def spIsQ : Sp := fun vs H Q _ => ∃ z : Str, vs = [.str z] ∧ z.length ≤ 100 ∧ Q (.bl (isQ z)) H
theorem sc_is_quantity : FnScope ["text", "character"] ["text"] (defScope s_is_quantity) := ⟨rfl, rfl, rfl, by decide +kernel, rfl, by decide +kernel, by decide +kernel⟩
theorem ok_is_quantity (T : Txt K mg) : FnOk P w K mg base CX0 1 (He.ga K "is_quantity") (fdOf K (He.ga K "is_quantity")) ["text"] (spIsQ) := by
  refine T.F_is_quantity.ok sc_is_quantity (fun vs H Q E h => ?_) (fun cdv A outer s H vs Q E hr h => ?_)
  · obtain ⟨z, rfl, _⟩ := h
    rfl
  · obtain ⟨z, rfl, hz, k⟩ := h
    obtain ⟨tL, g_LETTERS⟩ := T.c_LETTERS
    obtain ⟨tQ, g_QUANTITY_CHARACTERS⟩ := T.c_QUANTITY_CHARACTERS
    obtain ⟨tN, g_LONGEST_QUANTITY⟩ := T.c_LONGEST_QUANTITY
    refine ⟨_, PSs.nox (pss_cons (ps_if (pt_not (pt_chain op_le op_le pe_int (pe_callB call_len_str (by rfl) T.z_len PySem.boot_len (pa_cons (pv 0) pa_nil)) (pe_glob (v := .int 12) (by rfl) g_LONGEST_QUANTITY ⟨_, rfl⟩))) (pss_one (ps_ret pe_bl)) pss_nil)
      (pss_cons (ps_for PassesOwn.never rfl (pi_str (pv 0)) (pg_name (i := 1) sc_is_quantity.nd rfl (Or.inl rfl)) (pss_one (ps_if (pt_cmpR (op_notIn_sign) (pv 1) (pe_glob (v := .str "abcdefghijklmnopqrstuvwxyz0123456789.") (by rfl) g_QUANTITY_CHARACTERS ⟨_, rfl⟩) (by rfl)) (pss_one (ps_ret pe_bl)) pss_nil)))
      (pss_one (ps_ret (pe_and (pe_cmpR (op_in_sign) (pe_ix ix_str (pv 0) pe_int (fun _ _ => rfl)) (pe_glob (v := .str "abcdefghijklmnopqrstuvwxyz") (by rfl) g_LETTERS ⟨_, rfl⟩) (by rfl)) (pe_one (pe_cmpR op_ne (pe_ix ix_str (pv 0) (pe_un un_neg pe_int) (fun _ _ => rfl)) pe_str (nomark _)))))))), ?_⟩
    simp only [rIsO, isO_int, isO_str, isO_bl, isO_non, isO_ref, isOO_ins, isOO_lst, isOO_tup, isOO_dK, tMethR, StX.tMakeR, cxOf_K, tDNewK, tCallR, tNever, tSeq, tAsg, gName, tPar, tVar, tC, tOp, rI0, rI, rU, tUn, rEq, rNe, tTest, tB, tAnd, tOr, tNot, tAndV, tOrV, tNotV, tIf, tIfS, tRet, tRetN, tNext, tDrop, tCons, tNil, tCB, tCall, tTup, tLst, rIxLH, rIxTH, gSub, rSetL, tPart, tNoPart, tSl, tBM, tBM0, L2.start, sc_ii, sc_ss, sc_bb, sc_nn, sc_ni, sc_in, sc_ns, sc_sn, sc_is, sc_si, eq_self, tChain, List.map_cons, List.map_nil, List.replicate_succ, List.replicate_zero, List.length_cons, List.length_nil, Nat.reduceAdd, Nat.reduceSub, Nat.zero_add, Nat.sub_self, Nat.add_sub_cancel, List.cons_append, List.nil_append, List.append_nil, List.getElem?_cons_zero, List.getElem?_cons_succ, List.set_cons_zero, List.set_cons_succ, Option.some.injEq, V.int.injEq, V.ref.injEq, V.bl.injEq, V.str.injEq, List.cons.injEq, HO.lst.injEq, HO.tup.injEq, and_true, true_and, exists_eq_left', exists_eq_left, exists_eq', exists_eq, exists_eq_right, exists_eq_right', exists_and_left, exists_and_right, and_assoc, upd_same, reduceCtorEq, false_and, and_false, exists_false, or_false, false_or, at0, at1, atM1, sg_inj, dot_eq, plus_eq, minus_eq, rIxS, at2, at3, at4, at5, ix0, ix1, ix2, ix3, upd_upd, decide_eq_true_eq, Int.reduceLT, Int.reduceLE, Int.reduceAdd, Int.reduceSub, Int.reduceNeg, Int.reduceMul, Int.reducePow, Int.reduceEq, decide_true, decide_false, Int.cast_ofNat_Int, Int.natCast_zero, Int.natCast_one, Nat.reduceEqDiff, Nat.reduceLeDiff, rIsB, tyN_non, tyN_bl, tyN_int, tyN_str, tyN_ref, tyO_lst, tyO_tup, tyO_dK, tyO_dT, V.ty.injEq, ite_true, ite_false, if_true, if_false, Bool.not_true, Bool.not_false, Bool.false_eq_true, kb_int_int, kb_int_bool, kb_int_str, kb_int_tuple, kb_int_list, kb_int_dict, kb_bool_int, kb_bool_bool, kb_bool_str, kb_bool_tuple, kb_bool_list, kb_bool_dict, kb_str_int, kb_str_bool, kb_str_str, kb_str_tuple, kb_str_list, kb_str_dict, kb_NoneType_int, kb_NoneType_bool, kb_NoneType_str, kb_NoneType_tuple, kb_NoneType_list, kb_NoneType_dict, kb_list_int, kb_list_bool, kb_list_str, kb_list_tuple, kb_list_list, kb_list_dict, kb_tuple_int, kb_tuple_bool, kb_tuple_str, kb_tuple_tuple, kb_tuple_list, kb_tuple_dict, kb_dict_int, kb_dict_bool, kb_dict_str, kb_dict_tuple, kb_dict_list, kb_dict_dict, cp_2_53, pw_2_53, cp_10_9, pw_10_9, cp_10_10, pw_10_10, cp_10_18, pw_10_18, cp_10_20, pw_10_20, cp_10_29, pw_10_29, cp_10_30, pw_10_30]
    refine ⟨size_le (by omega), ite2 (fun e1 => ite2 (fun e2 => ?_) fun e2 => ?_) fun e1 => ?_⟩
    · rw [isQ_len (by simp only [Bool.not_eq_true', decide_eq_false_iff_not] at e2; omega)] at k; exact k
    · have hl : 1 ≤ z.length ∧ z.length ≤ 12 := by simp only [Bool.not_eq_true', decide_eq_false_iff_not] at e2; omega
      have hsz : z.cps.toList.length = z.length := rfl
      refine ⟨_, rfl, z, rfl, for_it walk_str (fun i σ' H' => ∃ y, σ' = [some (.str z), y] ∧ H' = H ∧ ∀ c ∈ z.cps.toList.take i, c ∈ QC) ⟨none, rfl, rfl, fun c hc => by simp at hc⟩ (fun _ _ _ _ _ => trivial) ?_ ?_⟩
      · rintro i x σ' H1 H2 hi ⟨y, rfl, rfl, hq⟩ ⟨rfl, c, hc, rfl⟩
        simp only [rIsO, isO_int, isO_str, isO_bl, isO_non, isO_ref, isOO_ins, isOO_lst, isOO_tup, isOO_dK, tMethR, StX.tMakeR, cxOf_K, tDNewK, tCallR, tNever, tSeq, tAsg, gName, tPar, tVar, tC, tOp, rI0, rI, rU, tUn, rEq, rNe, tTest, tB, tAnd, tOr, tNot, tAndV, tOrV, tNotV, tIf, tIfS, tRet, tRetN, tNext, tDrop, tCons, tNil, tCB, tCall, tTup, tLst, rIxLH, rIxTH, gSub, rSetL, tPart, tNoPart, tSl, tBM, tBM0, L2.start, sc_ii, sc_ss, sc_bb, sc_nn, sc_ni, sc_in, sc_ns, sc_sn, sc_is, sc_si, eq_self, tChain, List.map_cons, List.map_nil, List.replicate_succ, List.replicate_zero, List.length_cons, List.length_nil, Nat.reduceAdd, Nat.reduceSub, Nat.zero_add, Nat.sub_self, Nat.add_sub_cancel, List.cons_append, List.nil_append, List.append_nil, List.getElem?_cons_zero, List.getElem?_cons_succ, List.set_cons_zero, List.set_cons_succ, Option.some.injEq, V.int.injEq, V.ref.injEq, V.bl.injEq, V.str.injEq, List.cons.injEq, HO.lst.injEq, HO.tup.injEq, and_true, true_and, exists_eq_left', exists_eq_left, exists_eq', exists_eq, exists_eq_right, exists_eq_right', exists_and_left, exists_and_right, and_assoc, upd_same, reduceCtorEq, false_and, and_false, exists_false, or_false, false_or, at0, at1, atM1, sg_inj, dot_eq, plus_eq, minus_eq, rIxS, at2, at3, at4, at5, ix0, ix1, ix2, ix3, upd_upd, decide_eq_true_eq, Int.reduceLT, Int.reduceLE, Int.reduceAdd, Int.reduceSub, Int.reduceNeg, Int.reduceMul, Int.reducePow, Int.reduceEq, decide_true, decide_false, Int.cast_ofNat_Int, Int.natCast_zero, Int.natCast_one, Nat.reduceEqDiff, Nat.reduceLeDiff, rIsB, tyN_non, tyN_bl, tyN_int, tyN_str, tyN_ref, tyO_lst, tyO_tup, tyO_dK, tyO_dT, V.ty.injEq, ite_true, ite_false, if_true, if_false, Bool.not_true, Bool.not_false, Bool.false_eq_true, kb_int_int, kb_int_bool, kb_int_str, kb_int_tuple, kb_int_list, kb_int_dict, kb_bool_int, kb_bool_bool, kb_bool_str, kb_bool_tuple, kb_bool_list, kb_bool_dict, kb_str_int, kb_str_bool, kb_str_str, kb_str_tuple, kb_str_list, kb_str_dict, kb_NoneType_int, kb_NoneType_bool, kb_NoneType_str, kb_NoneType_tuple, kb_NoneType_list, kb_NoneType_dict, kb_list_int, kb_list_bool, kb_list_str, kb_list_tuple, kb_list_list, kb_list_dict, kb_tuple_int, kb_tuple_bool, kb_tuple_str, kb_tuple_tuple, kb_tuple_list, kb_tuple_dict, kb_dict_int, kb_dict_bool, kb_dict_str, kb_dict_tuple, kb_dict_list, kb_dict_dict, cp_2_53, pw_2_53, cp_10_9, pw_10_9, cp_10_10, pw_10_10, cp_10_18, pw_10_18, cp_10_20, pw_10_20, cp_10_29, pw_10_29, cp_10_30, pw_10_30]
        have hc' : z.cps.toList[i]? = some c := by rw [Array.getElem?_toList]; exact hc
        refine ite2 (fun e => ?_) fun e => ?_
        · have hn : c ∉ QC := by simpa [QC] using e
          rw [isQ_ch (List.mem_of_getElem? hc') hn] at k; exact k
        · intro d hd
          rw [List.take_add_one, hc'] at hd
          rcases List.mem_append.mp hd with w | w
          · exact hq d w
          · have : d = c := by simpa using w
            subst this
            simpa [QC] using e
      · rintro σ' H1 ⟨y, rfl, rfl, hq⟩
        rw [show z.cps.size = z.cps.toList.length from rfl, List.take_length] at hq
        have hne : z.cps.toList ≠ [] := by intro e; rw [e] at hsz; simp at hsz; omega
        obtain ⟨a, r, hz2⟩ := List.exists_cons_of_ne_nil hne
        have ha : z.cps.toList.head? = some a := by rw [hz2]; rfl
        obtain ⟨b, hb⟩ : ∃ b, z.cps.toList.getLast? = some b := ⟨_, List.getLast?_eq_getLast hne⟩
        rw [isQ_end hl hq ha hb] at k
        simp only [rIsO, isO_int, isO_str, isO_bl, isO_non, isO_ref, isOO_ins, isOO_lst, isOO_tup, isOO_dK, tMethR, StX.tMakeR, cxOf_K, tDNewK, tCallR, tNever, tSeq, tAsg, gName, tPar, tVar, tC, tOp, rI0, rI, rU, tUn, rEq, rNe, tTest, tB, tAnd, tOr, tNot, tAndV, tOrV, tNotV, tIf, tIfS, tRet, tRetN, tNext, tDrop, tCons, tNil, tCB, tCall, tTup, tLst, rIxLH, rIxTH, gSub, rSetL, tPart, tNoPart, tSl, tBM, tBM0, L2.start, sc_ii, sc_ss, sc_bb, sc_nn, sc_ni, sc_in, sc_ns, sc_sn, sc_is, sc_si, eq_self, tChain, List.map_cons, List.map_nil, List.replicate_succ, List.replicate_zero, List.length_cons, List.length_nil, Nat.reduceAdd, Nat.reduceSub, Nat.zero_add, Nat.sub_self, Nat.add_sub_cancel, List.cons_append, List.nil_append, List.append_nil, List.getElem?_cons_zero, List.getElem?_cons_succ, List.set_cons_zero, List.set_cons_succ, Option.some.injEq, V.int.injEq, V.ref.injEq, V.bl.injEq, V.str.injEq, List.cons.injEq, HO.lst.injEq, HO.tup.injEq, and_true, true_and, exists_eq_left', exists_eq_left, exists_eq', exists_eq, exists_eq_right, exists_eq_right', exists_and_left, exists_and_right, and_assoc, upd_same, reduceCtorEq, false_and, and_false, exists_false, or_false, false_or, at0, at1, atM1, sg_inj, dot_eq, plus_eq, minus_eq, rIxS, at2, at3, at4, at5, ix0, ix1, ix2, ix3, upd_upd, decide_eq_true_eq, Int.reduceLT, Int.reduceLE, Int.reduceAdd, Int.reduceSub, Int.reduceNeg, Int.reduceMul, Int.reducePow, Int.reduceEq, decide_true, decide_false, Int.cast_ofNat_Int, Int.natCast_zero, Int.natCast_one, Nat.reduceEqDiff, Nat.reduceLeDiff, rIsB, tyN_non, tyN_bl, tyN_int, tyN_str, tyN_ref, tyO_lst, tyO_tup, tyO_dK, tyO_dT, V.ty.injEq, ite_true, ite_false, if_true, if_false, Bool.not_true, Bool.not_false, Bool.false_eq_true, kb_int_int, kb_int_bool, kb_int_str, kb_int_tuple, kb_int_list, kb_int_dict, kb_bool_int, kb_bool_bool, kb_bool_str, kb_bool_tuple, kb_bool_list, kb_bool_dict, kb_str_int, kb_str_bool, kb_str_str, kb_str_tuple, kb_str_list, kb_str_dict, kb_NoneType_int, kb_NoneType_bool, kb_NoneType_str, kb_NoneType_tuple, kb_NoneType_list, kb_NoneType_dict, kb_list_int, kb_list_bool, kb_list_str, kb_list_tuple, kb_list_list, kb_list_dict, kb_tuple_int, kb_tuple_bool, kb_tuple_str, kb_tuple_tuple, kb_tuple_list, kb_tuple_dict, kb_dict_int, kb_dict_bool, kb_dict_str, kb_dict_tuple, kb_dict_list, kb_dict_dict, cp_2_53, pw_2_53, cp_10_9, pw_10_9, cp_10_10, pw_10_10, cp_10_18, pw_10_18, cp_10_20, pw_10_20, cp_10_29, pw_10_29, cp_10_30, pw_10_30]
        have h0 : z.cps.toList[0]? = some a := by rw [hz2]; rfl
        refine ⟨size_le (by omega), a, h0, ite2 (fun e => ⟨size_le (by omega), b, hb, ?_⟩) fun e => ?_⟩
        · rw [decide_eq_true (show a ∈ LC from e)] at k; exact k
        · rw [decide_eq_false (show ¬ a ∈ LC from e)] at k; exact k
    · rw [isQ_len (by omega)] at k; exact k
/-! making a form -/
def spInit (C : Addr) : Sp := fun vs H Q _ => ∃ (p dx l : Addr) (us : List V) (ts : List Trm) (c : Int), vs = [.ref p, .ref l, .int c] ∧ H p = some (.ins C dx []) ∧ H l = some (.lst us) ∧ Trms H us ts ∧ ts.length ≤ 60 ∧ (∀ t ∈ ts, isQ t.1 = true) ∧
  ∀ (H' : Hp) (xs : List Trm), Canon xs → (∀ n, wt xs n = wt ts n) → FormAt C H' p xs c → (∀ b o, H b = some o → b ≠ p → H' b = some o) → Q .non H'
theorem sc_Form___init__ : FnScope ["self", "terms", "constant", "total", "name", "weight"] ["self", "terms", "constant"] (defScope s_Form___init__) := ⟨rfl, rfl, rfl, by decide +kernel, rfl, by decide +kernel, by decide +kernel⟩
theorem ok_Form___init__ (T : Txt K mg) : FnOk P w K mg base CX0 2 (He.ma K (He.ga K "Form") "__init__") (fdOf K (He.ma K (He.ga K "Form") "__init__")) ["self", "terms", "constant"] (spInit (He.ga K "Form")) := by
  refine T.F_Form___init__.ok sc_Form___init__ (fun vs H Q E h => ?_) (fun cdv A outer s H vs Q E hr h => ?_)
  · obtain ⟨_, _, _, _, _, _, rfl, _⟩ := h
    rfl
  · obtain ⟨p, dx, l, us, ts, c, rfl, hp, hl, ht, hn, hq, k⟩ := h
    have hu := hu_of hr
    refine ⟨_, PSs.nox (pss_cons (ps_set (i := 3) sc_Form___init__.nd rfl (Or.inr rfl) pe_dnewK)
      (pss_cons (ps_for PassesOwn.never rfl (pi_list (pv 1)) (pg_tup (by rfl) (pgs_cons (pg_name (i := 4) sc_Form___init__.nd rfl (Or.inl rfl)) (pgs_cons (pg_name (i := 5) sc_Form___init__.nd rfl (Or.inl rfl)) pgs_nil))) (pss_cons (ps_if (pt_not (pt_val (pe_call (ok_is_quantity T) (hr.mono (by decide)) (by rfl) T.g_is_quantity T.k_is_quantity T.b_is_quantity .nil pass0 (pa_cons (pv 4) pa_nil)))) (pss_one ps_never) pss_nil)
      (pss_one (ps_dput hu (pv 3) (pv 4) (pe_op op_add (pe_dget2 hu (pv 3) (pv 4) pe_int ⟨rfl, rfl, rfl, rfl⟩) (pv 5)) rfl))))
      (pss_cons (ps_fld (pv 0) (pe_callTy call_tuple_of (by rfl) T.z_tuple (by decide +kernel) (pa_cons (pe_lc (own := [("name", 4)]) (g := gName 4) (by rfl) sc_Form___init__.nd (pi_list (pe_callB cr_sortedS (by rfl) T.z_sorted (by decide +kernel) (pa_cons (pe_callTy (call_listD rfl) (by rfl) T.z_list (by decide +kernel) (pa_cons (pv 3) pa_nil)) pa_nil))) (blkOk_by (own := [("name", 4)]) (N := ["self", "terms", "constant", "total", "name", "weight"]) (sc := defScope s_Form___init__) (by decide +kernel)) (fun _ _ _ _ _ => pg_name (i := 4) sc_Form___init__.nd rfl (Or.inl rfl)) (fun _ _ _ _ _ => pts_one (pt_cmpR op_ne (pe_dget hu (pv 3) (pv 4) (fun _ _ => rfl)) pe_int (nomark _))) (fun _ _ _ _ _ => (pe_tup (pa_cons (pv 4) (pa_cons (pe_dget hu (pv 3) (pv 4) (fun _ _ => rfl)) pa_nil))))) pa_nil)) rfl)
      (pss_one (ps_fld (pv 0) (pv 2) rfl))))), ?_⟩
    simp only [rIsO, isO_int, isO_str, isO_bl, isO_non, isO_ref, isOO_ins, isOO_lst, isOO_tup, isOO_dK, tMethR, StX.tMakeR, cxOf_K, tDNewK, tCallR, tNever, tSeq, tAsg, gName, tPar, tVar, tC, tOp, rI0, rI, rU, tUn, rEq, rNe, tTest, tB, tAnd, tOr, tNot, tAndV, tOrV, tNotV, tIf, tIfS, tRet, tRetN, tNext, tDrop, tCons, tNil, tCB, tCall, tTup, tLst, rIxLH, rIxTH, gSub, rSetL, tPart, tNoPart, tSl, tBM, tBM0, L2.start, sc_ii, sc_ss, sc_bb, sc_nn, sc_ni, sc_in, sc_ns, sc_sn, sc_is, sc_si, eq_self, tChain, List.map_cons, List.map_nil, List.replicate_succ, List.replicate_zero, List.length_cons, List.length_nil, Nat.reduceAdd, Nat.reduceSub, Nat.zero_add, Nat.sub_self, Nat.add_sub_cancel, List.cons_append, List.nil_append, List.append_nil, List.getElem?_cons_zero, List.getElem?_cons_succ, List.set_cons_zero, List.set_cons_succ, Option.some.injEq, V.int.injEq, V.ref.injEq, V.bl.injEq, V.str.injEq, List.cons.injEq, HO.lst.injEq, HO.tup.injEq, and_true, true_and, exists_eq_left', exists_eq_left, exists_eq', exists_eq, exists_eq_right, exists_eq_right', exists_and_left, exists_and_right, and_assoc, upd_same, reduceCtorEq, false_and, and_false, exists_false, or_false, false_or, at0, at1, atM1, sg_inj, dot_eq, plus_eq, minus_eq, rIxS, at2, at3, at4, at5, ix0, ix1, ix2, ix3, upd_upd, decide_eq_true_eq, Int.reduceLT, Int.reduceLE, Int.reduceAdd, Int.reduceSub, Int.reduceNeg, Int.reduceMul, Int.reducePow, Int.reduceEq, decide_true, decide_false, Int.cast_ofNat_Int, Int.natCast_zero, Int.natCast_one, Nat.reduceEqDiff, Nat.reduceLeDiff, rIsB, tyN_non, tyN_bl, tyN_int, tyN_str, tyN_ref, tyO_lst, tyO_tup, tyO_dK, tyO_dT, V.ty.injEq, ite_true, ite_false, if_true, if_false, Bool.not_true, Bool.not_false, Bool.false_eq_true, kb_int_int, kb_int_bool, kb_int_str, kb_int_tuple, kb_int_list, kb_int_dict, kb_bool_int, kb_bool_bool, kb_bool_str, kb_bool_tuple, kb_bool_list, kb_bool_dict, kb_str_int, kb_str_bool, kb_str_str, kb_str_tuple, kb_str_list, kb_str_dict, kb_NoneType_int, kb_NoneType_bool, kb_NoneType_str, kb_NoneType_tuple, kb_NoneType_list, kb_NoneType_dict, kb_list_int, kb_list_bool, kb_list_str, kb_list_tuple, kb_list_list, kb_list_dict, kb_tuple_int, kb_tuple_bool, kb_tuple_str, kb_tuple_tuple, kb_tuple_list, kb_tuple_dict, kb_dict_int, kb_dict_bool, kb_dict_str, kb_dict_tuple, kb_dict_list, kb_dict_dict, cp_2_53, pw_2_53, cp_10_9, pw_10_9, cp_10_10, pw_10_10, cp_10_18, pw_10_18, cp_10_20, pw_10_20, cp_10_29, pw_10_29, cp_10_30, pw_10_30]
    intro d nd
    have npd : p ≠ d := ne_of_none hp nd
    have nld : l ≠ d := ne_of_none hl nd
    refine ⟨_, rfl, l, rfl, ⟨us, .inl (.inl (by rw [upd_ne nld]; exact hl))⟩, for_it (walk_list (xs := us)) (fun i σ' H' => ∃ y z, σ' = [some (.ref p), some (.ref l), some (.int c), some (.ref d), y, z] ∧ H' = upd H d (.dK ((dsOf (ts.take i)).map kvF))) ⟨none, none, rfl, rfl⟩ ?_ ?_ ?_⟩
    · rintro i σ' H' _ ⟨y, z, rfl, rfl⟩
      exact .inl (.inl (by rw [upd_ne nld]; exact hl))
    · rintro i x σ' H1 H2 hi ⟨y, z, rfl, rfl⟩ ⟨rfl, hx⟩
      obtain ⟨t, r, ht', rfl, hr'⟩ := ht.at hx
      have hm : t ∈ ts := List.mem_of_getElem? ht'
      refine g_pair (t := t) ⟨r, rfl, by rw [upd_ne (ne_of_none hr' nd)]; exact hr'⟩ ?_
      simp only [rIsO, isO_int, isO_str, isO_bl, isO_non, isO_ref, isOO_ins, isOO_lst, isOO_tup, isOO_dK, tMethR, StX.tMakeR, cxOf_K, tDNewK, tCallR, tNever, tSeq, tAsg, gName, tPar, tVar, tC, tOp, rI0, rI, rU, tUn, rEq, rNe, tTest, tB, tAnd, tOr, tNot, tAndV, tOrV, tNotV, tIf, tIfS, tRet, tRetN, tNext, tDrop, tCons, tNil, tCB, tCall, tTup, tLst, rIxLH, rIxTH, gSub, rSetL, tPart, tNoPart, tSl, tBM, tBM0, L2.start, sc_ii, sc_ss, sc_bb, sc_nn, sc_ni, sc_in, sc_ns, sc_sn, sc_is, sc_si, eq_self, tChain, List.map_cons, List.map_nil, List.replicate_succ, List.replicate_zero, List.length_cons, List.length_nil, Nat.reduceAdd, Nat.reduceSub, Nat.zero_add, Nat.sub_self, Nat.add_sub_cancel, List.cons_append, List.nil_append, List.append_nil, List.getElem?_cons_zero, List.getElem?_cons_succ, List.set_cons_zero, List.set_cons_succ, Option.some.injEq, V.int.injEq, V.ref.injEq, V.bl.injEq, V.str.injEq, List.cons.injEq, HO.lst.injEq, HO.tup.injEq, and_true, true_and, exists_eq_left', exists_eq_left, exists_eq', exists_eq, exists_eq_right, exists_eq_right', exists_and_left, exists_and_right, and_assoc, upd_same, reduceCtorEq, false_and, and_false, exists_false, or_false, false_or, at0, at1, atM1, sg_inj, dot_eq, plus_eq, minus_eq, rIxS, at2, at3, at4, at5, ix0, ix1, ix2, ix3, upd_upd, decide_eq_true_eq, Int.reduceLT, Int.reduceLE, Int.reduceAdd, Int.reduceSub, Int.reduceNeg, Int.reduceMul, Int.reducePow, Int.reduceEq, decide_true, decide_false, Int.cast_ofNat_Int, Int.natCast_zero, Int.natCast_one, Nat.reduceEqDiff, Nat.reduceLeDiff, rIsB, tyN_non, tyN_bl, tyN_int, tyN_str, tyN_ref, tyO_lst, tyO_tup, tyO_dK, tyO_dT, V.ty.injEq, ite_true, ite_false, if_true, if_false, Bool.not_true, Bool.not_false, Bool.false_eq_true, kb_int_int, kb_int_bool, kb_int_str, kb_int_tuple, kb_int_list, kb_int_dict, kb_bool_int, kb_bool_bool, kb_bool_str, kb_bool_tuple, kb_bool_list, kb_bool_dict, kb_str_int, kb_str_bool, kb_str_str, kb_str_tuple, kb_str_list, kb_str_dict, kb_NoneType_int, kb_NoneType_bool, kb_NoneType_str, kb_NoneType_tuple, kb_NoneType_list, kb_NoneType_dict, kb_list_int, kb_list_bool, kb_list_str, kb_list_tuple, kb_list_list, kb_list_dict, kb_tuple_int, kb_tuple_bool, kb_tuple_str, kb_tuple_tuple, kb_tuple_list, kb_tuple_dict, kb_dict_int, kb_dict_bool, kb_dict_str, kb_dict_tuple, kb_dict_list, kb_dict_dict, cp_2_53, pw_2_53, cp_10_9, pw_10_9, cp_10_10, pw_10_10, cp_10_18, pw_10_18, cp_10_20, pw_10_20, cp_10_29, pw_10_29, cp_10_30, pw_10_30, spIsQ]
      have hlen : (dsOf (ts.take i)).length ≤ 60 := Nat.le_trans (dsOf_len _) (by rw [List.length_take]; omega)
      rw [hq t hm]
      refine ⟨by have := isQ_12 (hq t hm); omega, ?_⟩
      simp only [Bool.not_true, Bool.false_eq_true, if_false]
      refine ⟨_, rfl, d, rfl, .inl ⟨_, .inl upd_same⟩, _, rfl, _, DGet.k (k := Sum.inr t.1) upd_same, _, rfl, wt (dsOf (ts.take i)) t.1, t.2, getF _ _ (dsOf_nd _), rfl, _, rfl, _, rfl, d, _, rfl, DPut.k (k := Sum.inr t.1) upd_same (by rw [List.length_map]; exact small1000 (by omega)), ?_⟩
      rw [upd_upd, putF_add _ _ (dsOf_nd _), dsOf_take ht']
      exact ⟨⟨_, _, rfl⟩, rfl⟩
    · rintro σ' H1 ⟨y, z, rfl, rfl⟩
      have e : ts.take us.length = ts := by rw [ht.1, List.take_length]
      rw [e]
      simp only [rIsO, isO_int, isO_str, isO_bl, isO_non, isO_ref, isOO_ins, isOO_lst, isOO_tup, isOO_dK, tMethR, StX.tMakeR, cxOf_K, tDNewK, tCallR, tNever, tSeq, tAsg, gName, tPar, tVar, tC, tOp, rI0, rI, rU, tUn, rEq, rNe, tTest, tB, tAnd, tOr, tNot, tAndV, tOrV, tNotV, tIf, tIfS, tRet, tRetN, tNext, tDrop, tCons, tNil, tCB, tCall, tTup, tLst, rIxLH, rIxTH, gSub, rSetL, tPart, tNoPart, tSl, tBM, tBM0, L2.start, sc_ii, sc_ss, sc_bb, sc_nn, sc_ni, sc_in, sc_ns, sc_sn, sc_is, sc_si, eq_self, tChain, List.map_cons, List.map_nil, List.replicate_succ, List.replicate_zero, List.length_cons, List.length_nil, Nat.reduceAdd, Nat.reduceSub, Nat.zero_add, Nat.sub_self, Nat.add_sub_cancel, List.cons_append, List.nil_append, List.append_nil, List.getElem?_cons_zero, List.getElem?_cons_succ, List.set_cons_zero, List.set_cons_succ, Option.some.injEq, V.int.injEq, V.ref.injEq, V.bl.injEq, V.str.injEq, List.cons.injEq, HO.lst.injEq, HO.tup.injEq, and_true, true_and, exists_eq_left', exists_eq_left, exists_eq', exists_eq, exists_eq_right, exists_eq_right', exists_and_left, exists_and_right, and_assoc, upd_same, reduceCtorEq, false_and, and_false, exists_false, or_false, false_or, at0, at1, atM1, sg_inj, dot_eq, plus_eq, minus_eq, rIxS, at2, at3, at4, at5, ix0, ix1, ix2, ix3, upd_upd, decide_eq_true_eq, Int.reduceLT, Int.reduceLE, Int.reduceAdd, Int.reduceSub, Int.reduceNeg, Int.reduceMul, Int.reducePow, Int.reduceEq, decide_true, decide_false, Int.cast_ofNat_Int, Int.natCast_zero, Int.natCast_one, Nat.reduceEqDiff, Nat.reduceLeDiff, rIsB, tyN_non, tyN_bl, tyN_int, tyN_str, tyN_ref, tyO_lst, tyO_tup, tyO_dK, tyO_dT, V.ty.injEq, ite_true, ite_false, if_true, if_false, Bool.not_true, Bool.not_false, Bool.false_eq_true, kb_int_int, kb_int_bool, kb_int_str, kb_int_tuple, kb_int_list, kb_int_dict, kb_bool_int, kb_bool_bool, kb_bool_str, kb_bool_tuple, kb_bool_list, kb_bool_dict, kb_str_int, kb_str_bool, kb_str_str, kb_str_tuple, kb_str_list, kb_str_dict, kb_NoneType_int, kb_NoneType_bool, kb_NoneType_str, kb_NoneType_tuple, kb_NoneType_list, kb_NoneType_dict, kb_list_int, kb_list_bool, kb_list_str, kb_list_tuple, kb_list_list, kb_list_dict, kb_tuple_int, kb_tuple_bool, kb_tuple_str, kb_tuple_tuple, kb_tuple_list, kb_tuple_dict, kb_dict_int, kb_dict_bool, kb_dict_str, kb_dict_tuple, kb_dict_list, kb_dict_dict, cp_2_53, pw_2_53, cp_10_9, pw_10_9, cp_10_10, pw_10_10, cp_10_18, pw_10_18, cp_10_20, pw_10_20, cp_10_29, pw_10_29, cp_10_30, pw_10_30]
      have hlen : (dsOf ts).length ≤ 60 := Nat.le_trans (dsOf_len _) hn
      have hd0 : (upd H d (.dK ((dsOf ts).map kvF))) d = some (.dK ((dsOf ts).map kvF)) := upd_same
      have s0 : Same H (upd H d (.dK ((dsOf ts).map kvF))) := same_upd nd
      generalize upd H d (.dK ((dsOf ts).map kvF)) = G0 at hd0 s0
      have en : ((dsOf ts).map kvF).map (fun kv => kV kv.1) = ((dsOf ts).map (·.1)).map V.str := by
        rw [List.map_map, List.map_map]; rfl
      refine ⟨_, rfl, d, rfl, _, .inl hd0, ?_⟩
      rw [en]
      (intro p1 n1; (obtain ⟨G1, eqH, s1, e1⟩ := new_upd (o := .lst (((dsOf ts).map (·.1)).map V.str)) n1); rw [← eqH]; clear eqH)
      refine ⟨p1, _, rfl, .inl (.inl e1), by rw [List.length_map]; omega, fun ys p2 perm srt n2 => ?_⟩
      obtain ⟨G2, eqH, s2, e2⟩ := new_upd (o := .lst (ys.map V.str)) n2
      rw [← eqH]; clear eqH
      have up : ys.Pairwise SLt := rises srt (perm.symm.nodup (dsOf_nd ts))
      have hm : ∀ n, n ∈ ys ↔ n ∈ (dsOf ts).map (·.1) := fun n => perm.mem_iff
      have yl : ys.length ≤ 60 := by rw [perm.length_eq, List.length_map]; exact hlen
      have s02 := s1.trans s2
      have hd2 := s02 _ _ hd0
      refine ⟨p2, rfl, ⟨_, .inl (.inl e2)⟩, fun D nD => lc_it (walk_list (xs := ys.map V.str)) (fun i H' => Same G2 H' ∧ ∃ vs, H' D = some (.lst vs) ∧ Trms H' vs (xsOf (dsOf ts) (ys.take i))) ?_ ?_ ?_ ?_⟩
      · exact ⟨same_upd nD, [], upd_same, Trms.nil⟩
      · rintro i H' _ ⟨sm, _⟩
        exact .inl (.inl (sm _ _ e2))
      · rintro i x H1 H2 hi ⟨sm, vs, hD, hv⟩ ⟨rfl, hx⟩
        rw [List.getElem?_map] at hx
        obtain ⟨n, hn', rfl⟩ := Option.map_eq_some_iff.mp hx
        have hd3 := sm _ _ hd2
        have hin : n ∈ (dsOf ts).map (·.1) := (hm n).mp (List.mem_of_getElem? hn')
        have hv2 : valV ((dsOf ts).map kvF) (Sum.inr n : Key) = some (.int (wt (dsOf ts) n)) := by rw [valF n _ (dsOf_nd ts), if_pos hin]
        have g : DGet H2 d (.str n) (some (.int (wt (dsOf ts) n))) := by
          have := DGet.k (k := Sum.inr n) hd3
          rw [hv2] at this; exact this
        have ndD : D ≠ d := fun z => by subst z; rw [hd2] at nD; cases nD
        refine ⟨rfl, _, rfl, _, rfl, d, _, rfl, g, rfl, _, rfl, ?_⟩
        by_cases e0 : wt (dsOf ts) n = 0
        · rw [e0]
          refine iteF ⟨sm, vs, hD, ?_⟩
          rw [xsOf_take hn', if_pos e0, List.append_nil]; exact hv
        · rw [decide_eq_false (show ¬ V.int (wt (dsOf ts) n) = V.int 0 from fun z => e0 (V.int.inj z))]
          refine iteT ⟨_, rfl, _, rfl, _, rfl, d, _, rfl, g, size_le (by simp), fun q nq => ?_⟩
          obtain ⟨H3, eqH, s3, e3⟩ := new_upd (o := .tup [V.str n, V.int (wt (dsOf ts) n)]) nq
          show ∃ acc, (upd H2 q (.tup [V.str n, V.int (wt (dsOf ts) n)])) D = some (.lst acc) ∧ acc.length < sizeLine ∧ _
          rw [← eqH]; clear eqH
          have hD3 := s3 _ _ hD
          refine ⟨vs, hD3, ?_, ?_, vs ++ [.ref q], upd_same, ?_⟩
          · rw [hv.1]
            refine small1000 (Nat.le_trans (m := 60) ?_ (by decide))
            unfold xsOf
            rw [List.length_map]
            exact Nat.le_trans (List.length_filter_le _ _) (by rw [List.length_take]; omega)
          · intro b o hb
            have h2 := s3 _ _ (sm _ _ hb)
            rw [upd_ne]
            · exact h2
            · rintro rfl; rw [nD] at hb; cases hb
          · rw [xsOf_take hn', if_neg e0]
            have im : Im H3 (upd H3 D (.lst (vs ++ [.ref q]))) := Im.lst hD3
            exact ((hv.im (Im.of s3)).snoc (t := (n, wt (dsOf ts) n)) ⟨q, rfl, e3⟩).im im
      · rintro H1 ⟨sm, vs, hD, hv⟩
        rw [List.length_map, List.take_length] at hv
        refine ⟨D, rfl, vs, .inl ⟨.inl (.inl hD), ?_⟩⟩
        (intro q nq; (obtain ⟨H3, eqH, s3, e3⟩ := new_upd (o := .tup vs) nq); rw [← eqH]; clear eqH)
        have s13 := sm.trans s3
        have hp3 := s13 _ _ (s02 _ _ (s0 _ _ hp))
        refine ⟨_, rfl, p, _, dx, _, rfl, hp3, T.cl_Form, T.nt_Form, by decide, ?_⟩
        refine ⟨_, rfl, _, rfl, p, _, dx, _, rfl, upd_same, T.cl_Form, T.nc_Form, (by rw [put1]; show 1 < 1000; decide), ?_⟩
        have nqp : q ≠ p := fun z => by subst z; rw [hp3] at e3; cases e3
        rw [upd_upd, put1, put2]
        have im : ∀ b o, H b = some o → b ≠ p → (upd H3 p (.ins (He.ga K "Form") dx [("terms", .ref q), ("constant", .int c)])) b = some o := fun b o hb hne => by
          rw [upd_ne hne]; exact s13 _ _ (s02 _ _ (s0 _ _ hb))
        have hv3 : Trms (upd H3 p (.ins (He.ga K "Form") dx [("terms", .ref q), ("constant", .int c)])) vs (xsOf (dsOf ts) ys) := by
          refine ⟨hv.1, fun i v t a b => ?_⟩
          obtain ⟨r, rfl, hr⟩ := hv.2 i v t a b
          refine ⟨r, rfl, ?_⟩
          have hr3 := s3 _ _ hr
          rw [upd_ne]; · exact hr3
          rintro rfl; rw [hp3] at hr3; cases hr3
        exact k _ (xsOf (dsOf ts) ys) (xsOf_canon up) (fun n => by rw [xsOf_wt up hm, dsOf_wt]) ⟨dx, q, vs, upd_same, by rw [upd_ne nqp]; exact e3, hv3⟩ im
/-! .. of a tuple -/
def spInitT (C : Addr) : Sp := fun vs H Q _ => ∃ (p dx l : Addr) (us : List V) (ts : List Trm) (c : Int), vs = [.ref p, .ref l, .int c] ∧ H p = some (.ins C dx []) ∧ H l = some (.tup us) ∧ Trms H us ts ∧ ts.length ≤ 60 ∧ (∀ t ∈ ts, isQ t.1 = true) ∧
  ∀ (H' : Hp) (xs : List Trm), Canon xs → (∀ n, wt xs n = wt ts n) → FormAt C H' p xs c → (∀ b o, H b = some o → b ≠ p → H' b = some o) → Q .non H'

theorem ok_Form___init__T (T : Txt K mg) : FnOk P w K mg base CX0 2 (He.ma K (He.ga K "Form") "__init__") (fdOf K (He.ma K (He.ga K "Form") "__init__")) ["self", "terms", "constant"] (spInitT (He.ga K "Form")) := by
  refine T.F_Form___init__.ok sc_Form___init__ (fun vs H Q E h => ?_) (fun cdv A outer s H vs Q E hr h => ?_)
  · obtain ⟨_, _, _, _, _, _, rfl, _⟩ := h
    rfl
  · obtain ⟨p, dx, l, us, ts, c, rfl, hp, hl, ht, hn, hq, k⟩ := h
    have hu := hu_of hr
    refine ⟨_, PSs.nox (pss_cons (ps_set (i := 3) sc_Form___init__.nd rfl (Or.inr rfl) pe_dnewK)
      (pss_cons (ps_for PassesOwn.never rfl (pi_tup (pv 1)) (pg_tup (by rfl) (pgs_cons (pg_name (i := 4) sc_Form___init__.nd rfl (Or.inl rfl)) (pgs_cons (pg_name (i := 5) sc_Form___init__.nd rfl (Or.inl rfl)) pgs_nil))) (pss_cons (ps_if (pt_not (pt_val (pe_call (ok_is_quantity T) (hr.mono (by decide)) (by rfl) T.g_is_quantity T.k_is_quantity T.b_is_quantity .nil pass0 (pa_cons (pv 4) pa_nil)))) (pss_one ps_never) pss_nil)
      (pss_one (ps_dput hu (pv 3) (pv 4) (pe_op op_add (pe_dget2 hu (pv 3) (pv 4) pe_int ⟨rfl, rfl, rfl, rfl⟩) (pv 5)) rfl))))
      (pss_cons (ps_fld (pv 0) (pe_callTy call_tuple_of (by rfl) T.z_tuple (by decide +kernel) (pa_cons (pe_lc (own := [("name", 4)]) (g := gName 4) (by rfl) sc_Form___init__.nd (pi_list (pe_callB cr_sortedS (by rfl) T.z_sorted (by decide +kernel) (pa_cons (pe_callTy (call_listD rfl) (by rfl) T.z_list (by decide +kernel) (pa_cons (pv 3) pa_nil)) pa_nil))) (blkOk_by (own := [("name", 4)]) (N := ["self", "terms", "constant", "total", "name", "weight"]) (sc := defScope s_Form___init__) (by decide +kernel)) (fun _ _ _ _ _ => pg_name (i := 4) sc_Form___init__.nd rfl (Or.inl rfl)) (fun _ _ _ _ _ => pts_one (pt_cmpR op_ne (pe_dget hu (pv 3) (pv 4) (fun _ _ => rfl)) pe_int (nomark _))) (fun _ _ _ _ _ => (pe_tup (pa_cons (pv 4) (pa_cons (pe_dget hu (pv 3) (pv 4) (fun _ _ => rfl)) pa_nil))))) pa_nil)) rfl)
      (pss_one (ps_fld (pv 0) (pv 2) rfl))))), ?_⟩
    simp only [rIsO, isO_int, isO_str, isO_bl, isO_non, isO_ref, isOO_ins, isOO_lst, isOO_tup, isOO_dK, tMethR, StX.tMakeR, cxOf_K, tDNewK, tCallR, tNever, tSeq, tAsg, gName, tPar, tVar, tC, tOp, rI0, rI, rU, tUn, rEq, rNe, tTest, tB, tAnd, tOr, tNot, tAndV, tOrV, tNotV, tIf, tIfS, tRet, tRetN, tNext, tDrop, tCons, tNil, tCB, tCall, tTup, tLst, rIxLH, rIxTH, gSub, rSetL, tPart, tNoPart, tSl, tBM, tBM0, L2.start, sc_ii, sc_ss, sc_bb, sc_nn, sc_ni, sc_in, sc_ns, sc_sn, sc_is, sc_si, eq_self, tChain, List.map_cons, List.map_nil, List.replicate_succ, List.replicate_zero, List.length_cons, List.length_nil, Nat.reduceAdd, Nat.reduceSub, Nat.zero_add, Nat.sub_self, Nat.add_sub_cancel, List.cons_append, List.nil_append, List.append_nil, List.getElem?_cons_zero, List.getElem?_cons_succ, List.set_cons_zero, List.set_cons_succ, Option.some.injEq, V.int.injEq, V.ref.injEq, V.bl.injEq, V.str.injEq, List.cons.injEq, HO.lst.injEq, HO.tup.injEq, and_true, true_and, exists_eq_left', exists_eq_left, exists_eq', exists_eq, exists_eq_right, exists_eq_right', exists_and_left, exists_and_right, and_assoc, upd_same, reduceCtorEq, false_and, and_false, exists_false, or_false, false_or, at0, at1, atM1, sg_inj, dot_eq, plus_eq, minus_eq, rIxS, at2, at3, at4, at5, ix0, ix1, ix2, ix3, upd_upd, decide_eq_true_eq, Int.reduceLT, Int.reduceLE, Int.reduceAdd, Int.reduceSub, Int.reduceNeg, Int.reduceMul, Int.reducePow, Int.reduceEq, decide_true, decide_false, Int.cast_ofNat_Int, Int.natCast_zero, Int.natCast_one, Nat.reduceEqDiff, Nat.reduceLeDiff, rIsB, tyN_non, tyN_bl, tyN_int, tyN_str, tyN_ref, tyO_lst, tyO_tup, tyO_dK, tyO_dT, V.ty.injEq, ite_true, ite_false, if_true, if_false, Bool.not_true, Bool.not_false, Bool.false_eq_true, kb_int_int, kb_int_bool, kb_int_str, kb_int_tuple, kb_int_list, kb_int_dict, kb_bool_int, kb_bool_bool, kb_bool_str, kb_bool_tuple, kb_bool_list, kb_bool_dict, kb_str_int, kb_str_bool, kb_str_str, kb_str_tuple, kb_str_list, kb_str_dict, kb_NoneType_int, kb_NoneType_bool, kb_NoneType_str, kb_NoneType_tuple, kb_NoneType_list, kb_NoneType_dict, kb_list_int, kb_list_bool, kb_list_str, kb_list_tuple, kb_list_list, kb_list_dict, kb_tuple_int, kb_tuple_bool, kb_tuple_str, kb_tuple_tuple, kb_tuple_list, kb_tuple_dict, kb_dict_int, kb_dict_bool, kb_dict_str, kb_dict_tuple, kb_dict_list, kb_dict_dict, cp_2_53, pw_2_53, cp_10_9, pw_10_9, cp_10_10, pw_10_10, cp_10_18, pw_10_18, cp_10_20, pw_10_20, cp_10_29, pw_10_29, cp_10_30, pw_10_30]
    intro d nd
    have npd : p ≠ d := ne_of_none hp nd
    have nld : l ≠ d := ne_of_none hl nd
    refine ⟨_, rfl, l, rfl, ⟨us, .inl (.inl (by rw [upd_ne nld]; exact hl))⟩, for_it (walk_tup (xs := us)) (fun i σ' H' => ∃ y z, σ' = [some (.ref p), some (.ref l), some (.int c), some (.ref d), y, z] ∧ H' = upd H d (.dK ((dsOf (ts.take i)).map kvF))) ⟨none, none, rfl, rfl⟩ ?_ ?_ ?_⟩
    · rintro i σ' H' _ ⟨y, z, rfl, rfl⟩
      exact .inl (.inl (by rw [upd_ne nld]; exact hl))
    · rintro i x σ' H1 H2 hi ⟨y, z, rfl, rfl⟩ ⟨rfl, hx⟩
      obtain ⟨t, r, ht', rfl, hr'⟩ := ht.at hx
      have hm : t ∈ ts := List.mem_of_getElem? ht'
      refine g_pair (t := t) ⟨r, rfl, by rw [upd_ne (ne_of_none hr' nd)]; exact hr'⟩ ?_
      simp only [rIsO, isO_int, isO_str, isO_bl, isO_non, isO_ref, isOO_ins, isOO_lst, isOO_tup, isOO_dK, tMethR, StX.tMakeR, cxOf_K, tDNewK, tCallR, tNever, tSeq, tAsg, gName, tPar, tVar, tC, tOp, rI0, rI, rU, tUn, rEq, rNe, tTest, tB, tAnd, tOr, tNot, tAndV, tOrV, tNotV, tIf, tIfS, tRet, tRetN, tNext, tDrop, tCons, tNil, tCB, tCall, tTup, tLst, rIxLH, rIxTH, gSub, rSetL, tPart, tNoPart, tSl, tBM, tBM0, L2.start, sc_ii, sc_ss, sc_bb, sc_nn, sc_ni, sc_in, sc_ns, sc_sn, sc_is, sc_si, eq_self, tChain, List.map_cons, List.map_nil, List.replicate_succ, List.replicate_zero, List.length_cons, List.length_nil, Nat.reduceAdd, Nat.reduceSub, Nat.zero_add, Nat.sub_self, Nat.add_sub_cancel, List.cons_append, List.nil_append, List.append_nil, List.getElem?_cons_zero, List.getElem?_cons_succ, List.set_cons_zero, List.set_cons_succ, Option.some.injEq, V.int.injEq, V.ref.injEq, V.bl.injEq, V.str.injEq, List.cons.injEq, HO.lst.injEq, HO.tup.injEq, and_true, true_and, exists_eq_left', exists_eq_left, exists_eq', exists_eq, exists_eq_right, exists_eq_right', exists_and_left, exists_and_right, and_assoc, upd_same, reduceCtorEq, false_and, and_false, exists_false, or_false, false_or, at0, at1, atM1, sg_inj, dot_eq, plus_eq, minus_eq, rIxS, at2, at3, at4, at5, ix0, ix1, ix2, ix3, upd_upd, decide_eq_true_eq, Int.reduceLT, Int.reduceLE, Int.reduceAdd, Int.reduceSub, Int.reduceNeg, Int.reduceMul, Int.reducePow, Int.reduceEq, decide_true, decide_false, Int.cast_ofNat_Int, Int.natCast_zero, Int.natCast_one, Nat.reduceEqDiff, Nat.reduceLeDiff, rIsB, tyN_non, tyN_bl, tyN_int, tyN_str, tyN_ref, tyO_lst, tyO_tup, tyO_dK, tyO_dT, V.ty.injEq, ite_true, ite_false, if_true, if_false, Bool.not_true, Bool.not_false, Bool.false_eq_true, kb_int_int, kb_int_bool, kb_int_str, kb_int_tuple, kb_int_list, kb_int_dict, kb_bool_int, kb_bool_bool, kb_bool_str, kb_bool_tuple, kb_bool_list, kb_bool_dict, kb_str_int, kb_str_bool, kb_str_str, kb_str_tuple, kb_str_list, kb_str_dict, kb_NoneType_int, kb_NoneType_bool, kb_NoneType_str, kb_NoneType_tuple, kb_NoneType_list, kb_NoneType_dict, kb_list_int, kb_list_bool, kb_list_str, kb_list_tuple, kb_list_list, kb_list_dict, kb_tuple_int, kb_tuple_bool, kb_tuple_str, kb_tuple_tuple, kb_tuple_list, kb_tuple_dict, kb_dict_int, kb_dict_bool, kb_dict_str, kb_dict_tuple, kb_dict_list, kb_dict_dict, cp_2_53, pw_2_53, cp_10_9, pw_10_9, cp_10_10, pw_10_10, cp_10_18, pw_10_18, cp_10_20, pw_10_20, cp_10_29, pw_10_29, cp_10_30, pw_10_30, spIsQ]
      have hlen : (dsOf (ts.take i)).length ≤ 60 := Nat.le_trans (dsOf_len _) (by rw [List.length_take]; omega)
      rw [hq t hm]
      refine ⟨by have := isQ_12 (hq t hm); omega, ?_⟩
      simp only [Bool.not_true, Bool.false_eq_true, if_false]
      refine ⟨_, rfl, d, rfl, .inl ⟨_, .inl upd_same⟩, _, rfl, _, DGet.k (k := Sum.inr t.1) upd_same, _, rfl, wt (dsOf (ts.take i)) t.1, t.2, getF _ _ (dsOf_nd _), rfl, _, rfl, _, rfl, d, _, rfl, DPut.k (k := Sum.inr t.1) upd_same (by rw [List.length_map]; exact small1000 (by omega)), ?_⟩
      rw [upd_upd, putF_add _ _ (dsOf_nd _), dsOf_take ht']
      exact ⟨⟨_, _, rfl⟩, rfl⟩
    · rintro σ' H1 ⟨y, z, rfl, rfl⟩
      have e : ts.take us.length = ts := by rw [ht.1, List.take_length]
      rw [e]
      simp only [rIsO, isO_int, isO_str, isO_bl, isO_non, isO_ref, isOO_ins, isOO_lst, isOO_tup, isOO_dK, tMethR, StX.tMakeR, cxOf_K, tDNewK, tCallR, tNever, tSeq, tAsg, gName, tPar, tVar, tC, tOp, rI0, rI, rU, tUn, rEq, rNe, tTest, tB, tAnd, tOr, tNot, tAndV, tOrV, tNotV, tIf, tIfS, tRet, tRetN, tNext, tDrop, tCons, tNil, tCB, tCall, tTup, tLst, rIxLH, rIxTH, gSub, rSetL, tPart, tNoPart, tSl, tBM, tBM0, L2.start, sc_ii, sc_ss, sc_bb, sc_nn, sc_ni, sc_in, sc_ns, sc_sn, sc_is, sc_si, eq_self, tChain, List.map_cons, List.map_nil, List.replicate_succ, List.replicate_zero, List.length_cons, List.length_nil, Nat.reduceAdd, Nat.reduceSub, Nat.zero_add, Nat.sub_self, Nat.add_sub_cancel, List.cons_append, List.nil_append, List.append_nil, List.getElem?_cons_zero, List.getElem?_cons_succ, List.set_cons_zero, List.set_cons_succ, Option.some.injEq, V.int.injEq, V.ref.injEq, V.bl.injEq, V.str.injEq, List.cons.injEq, HO.lst.injEq, HO.tup.injEq, and_true, true_and, exists_eq_left', exists_eq_left, exists_eq', exists_eq, exists_eq_right, exists_eq_right', exists_and_left, exists_and_right, and_assoc, upd_same, reduceCtorEq, false_and, and_false, exists_false, or_false, false_or, at0, at1, atM1, sg_inj, dot_eq, plus_eq, minus_eq, rIxS, at2, at3, at4, at5, ix0, ix1, ix2, ix3, upd_upd, decide_eq_true_eq, Int.reduceLT, Int.reduceLE, Int.reduceAdd, Int.reduceSub, Int.reduceNeg, Int.reduceMul, Int.reducePow, Int.reduceEq, decide_true, decide_false, Int.cast_ofNat_Int, Int.natCast_zero, Int.natCast_one, Nat.reduceEqDiff, Nat.reduceLeDiff, rIsB, tyN_non, tyN_bl, tyN_int, tyN_str, tyN_ref, tyO_lst, tyO_tup, tyO_dK, tyO_dT, V.ty.injEq, ite_true, ite_false, if_true, if_false, Bool.not_true, Bool.not_false, Bool.false_eq_true, kb_int_int, kb_int_bool, kb_int_str, kb_int_tuple, kb_int_list, kb_int_dict, kb_bool_int, kb_bool_bool, kb_bool_str, kb_bool_tuple, kb_bool_list, kb_bool_dict, kb_str_int, kb_str_bool, kb_str_str, kb_str_tuple, kb_str_list, kb_str_dict, kb_NoneType_int, kb_NoneType_bool, kb_NoneType_str, kb_NoneType_tuple, kb_NoneType_list, kb_NoneType_dict, kb_list_int, kb_list_bool, kb_list_str, kb_list_tuple, kb_list_list, kb_list_dict, kb_tuple_int, kb_tuple_bool, kb_tuple_str, kb_tuple_tuple, kb_tuple_list, kb_tuple_dict, kb_dict_int, kb_dict_bool, kb_dict_str, kb_dict_tuple, kb_dict_list, kb_dict_dict, cp_2_53, pw_2_53, cp_10_9, pw_10_9, cp_10_10, pw_10_10, cp_10_18, pw_10_18, cp_10_20, pw_10_20, cp_10_29, pw_10_29, cp_10_30, pw_10_30]
      have hlen : (dsOf ts).length ≤ 60 := Nat.le_trans (dsOf_len _) hn
      have hd0 : (upd H d (.dK ((dsOf ts).map kvF))) d = some (.dK ((dsOf ts).map kvF)) := upd_same
      have s0 : Same H (upd H d (.dK ((dsOf ts).map kvF))) := same_upd nd
      generalize upd H d (.dK ((dsOf ts).map kvF)) = G0 at hd0 s0
      have en : ((dsOf ts).map kvF).map (fun kv => kV kv.1) = ((dsOf ts).map (·.1)).map V.str := by
        rw [List.map_map, List.map_map]; rfl
      refine ⟨_, rfl, d, rfl, _, .inl hd0, ?_⟩
      rw [en]
      (intro p1 n1; (obtain ⟨G1, eqH, s1, e1⟩ := new_upd (o := .lst (((dsOf ts).map (·.1)).map V.str)) n1); rw [← eqH]; clear eqH)
      refine ⟨p1, _, rfl, .inl (.inl e1), by rw [List.length_map]; omega, fun ys p2 perm srt n2 => ?_⟩
      obtain ⟨G2, eqH, s2, e2⟩ := new_upd (o := .lst (ys.map V.str)) n2
      rw [← eqH]; clear eqH
      have up : ys.Pairwise SLt := rises srt (perm.symm.nodup (dsOf_nd ts))
      have hm : ∀ n, n ∈ ys ↔ n ∈ (dsOf ts).map (·.1) := fun n => perm.mem_iff
      have yl : ys.length ≤ 60 := by rw [perm.length_eq, List.length_map]; exact hlen
      have s02 := s1.trans s2
      have hd2 := s02 _ _ hd0
      refine ⟨p2, rfl, ⟨_, .inl (.inl e2)⟩, fun D nD => lc_it (walk_list (xs := ys.map V.str)) (fun i H' => Same G2 H' ∧ ∃ vs, H' D = some (.lst vs) ∧ Trms H' vs (xsOf (dsOf ts) (ys.take i))) ?_ ?_ ?_ ?_⟩
      · exact ⟨same_upd nD, [], upd_same, Trms.nil⟩
      · rintro i H' _ ⟨sm, _⟩
        exact .inl (.inl (sm _ _ e2))
      · rintro i x H1 H2 hi ⟨sm, vs, hD, hv⟩ ⟨rfl, hx⟩
        rw [List.getElem?_map] at hx
        obtain ⟨n, hn', rfl⟩ := Option.map_eq_some_iff.mp hx
        have hd3 := sm _ _ hd2
        have hin : n ∈ (dsOf ts).map (·.1) := (hm n).mp (List.mem_of_getElem? hn')
        have hv2 : valV ((dsOf ts).map kvF) (Sum.inr n : Key) = some (.int (wt (dsOf ts) n)) := by rw [valF n _ (dsOf_nd ts), if_pos hin]
        have g : DGet H2 d (.str n) (some (.int (wt (dsOf ts) n))) := by
          have := DGet.k (k := Sum.inr n) hd3
          rw [hv2] at this; exact this
        have ndD : D ≠ d := fun z => by subst z; rw [hd2] at nD; cases nD
        refine ⟨rfl, _, rfl, _, rfl, d, _, rfl, g, rfl, _, rfl, ?_⟩
        by_cases e0 : wt (dsOf ts) n = 0
        · rw [e0]
          refine iteF ⟨sm, vs, hD, ?_⟩
          rw [xsOf_take hn', if_pos e0, List.append_nil]; exact hv
        · rw [decide_eq_false (show ¬ V.int (wt (dsOf ts) n) = V.int 0 from fun z => e0 (V.int.inj z))]
          refine iteT ⟨_, rfl, _, rfl, _, rfl, d, _, rfl, g, size_le (by simp), fun q nq => ?_⟩
          obtain ⟨H3, eqH, s3, e3⟩ := new_upd (o := .tup [V.str n, V.int (wt (dsOf ts) n)]) nq
          show ∃ acc, (upd H2 q (.tup [V.str n, V.int (wt (dsOf ts) n)])) D = some (.lst acc) ∧ acc.length < sizeLine ∧ _
          rw [← eqH]; clear eqH
          have hD3 := s3 _ _ hD
          refine ⟨vs, hD3, ?_, ?_, vs ++ [.ref q], upd_same, ?_⟩
          · rw [hv.1]
            refine small1000 (Nat.le_trans (m := 60) ?_ (by decide))
            unfold xsOf
            rw [List.length_map]
            exact Nat.le_trans (List.length_filter_le _ _) (by rw [List.length_take]; omega)
          · intro b o hb
            have h2 := s3 _ _ (sm _ _ hb)
            rw [upd_ne]
            · exact h2
            · rintro rfl; rw [nD] at hb; cases hb
          · rw [xsOf_take hn', if_neg e0]
            have im : Im H3 (upd H3 D (.lst (vs ++ [.ref q]))) := Im.lst hD3
            exact ((hv.im (Im.of s3)).snoc (t := (n, wt (dsOf ts) n)) ⟨q, rfl, e3⟩).im im
      · rintro H1 ⟨sm, vs, hD, hv⟩
        rw [List.length_map, List.take_length] at hv
        refine ⟨D, rfl, vs, .inl ⟨.inl (.inl hD), ?_⟩⟩
        (intro q nq; (obtain ⟨H3, eqH, s3, e3⟩ := new_upd (o := .tup vs) nq); rw [← eqH]; clear eqH)
        have s13 := sm.trans s3
        have hp3 := s13 _ _ (s02 _ _ (s0 _ _ hp))
        refine ⟨_, rfl, p, _, dx, _, rfl, hp3, T.cl_Form, T.nt_Form, by decide, ?_⟩
        refine ⟨_, rfl, _, rfl, p, _, dx, _, rfl, upd_same, T.cl_Form, T.nc_Form, (by rw [put1]; show 1 < 1000; decide), ?_⟩
        have nqp : q ≠ p := fun z => by subst z; rw [hp3] at e3; cases e3
        rw [upd_upd, put1, put2]
        have im : ∀ b o, H b = some o → b ≠ p → (upd H3 p (.ins (He.ga K "Form") dx [("terms", .ref q), ("constant", .int c)])) b = some o := fun b o hb hne => by
          rw [upd_ne hne]; exact s13 _ _ (s02 _ _ (s0 _ _ hb))
        have hv3 : Trms (upd H3 p (.ins (He.ga K "Form") dx [("terms", .ref q), ("constant", .int c)])) vs (xsOf (dsOf ts) ys) := by
          refine ⟨hv.1, fun i v t a b => ?_⟩
          obtain ⟨r, rfl, hr⟩ := hv.2 i v t a b
          refine ⟨r, rfl, ?_⟩
          have hr3 := s3 _ _ hr
          rw [upd_ne]; · exact hr3
          rintro rfl; rw [hp3] at hr3; cases hr3
        exact k _ (xsOf (dsOf ts) ys) (xsOf_canon up) (fun n => by rw [xsOf_wt up hm, dsOf_wt]) ⟨dx, q, vs, upd_same, by rw [upd_ne nqp]; exact e3, hv3⟩ im
end
end K0
namespace K0
open PySem PySem.Spec PyProof.Rows L2
theorem nodup_sub {l m : List Str} (nd : l.Nodup) (h : ∀ x ∈ l, x ∈ m) : l.length ≤ m.length := List.Nodup.length_le_of_subset nd h
/-- a comprehension over terms that gives terms -/
theorem lc_map {K : PySem.W.Frag} {r D : Addr} {vs : List V} {ts : List Trm} {H1 : Hp} {σ : L2.St} {i j : Nat} {ws : List Nat} {te : TE} {Qd : Hp → Prop} (f : Trm → Trm) (hr : H1 r = some (.tup vs)) (ht : Trms H1 vs ts) (hl : ts.length ≤ 60) (nD : H1 D = none)
    (hw : ∀ x y, wipe (((wipe σ ws).set i (some x)).set j (some y)) ws = wipe σ ws)
    (he : ∀ t ∈ ts, ∀ H2, Same H1 H2 → ∀ Q : VK, (∀ q H3, Same H2 H3 → H3 q = some (.tup [.str (f t).1, .int (f t).2]) → Q (.ref q) H3) → te (((wipe σ ws).set i (some (.str t.1))).set j (some (.int t.2))) H2 Q)
    (hd : ∀ us H2, Same H1 H2 → H2 D = some (.lst us) → Trms H2 us (ts.map f) → Qd H2) :
    ∃ W : Nat → Nat → Hp → Prop, (∃ m, W 0 m (upd H1 D (.lst []))) ∧ ∀ n m H, W n m H →
      ((Itt K r).stop n H ∧ Qd H) ∨ ((Itt K r).go n H ∧ ∃ Nx : Hp → Prop, (∀ H', Nx H' → ∃ m', m' < m ∧ W (n + 1) m' H') ∧ ∀ x H', (Itt K r).yld n H x H' → gTup K 2 (gCons (gName i) (gCons (gName j) gNil)) x (wipe σ ws) H' fun σ2 H2 => wipe σ2 ws = wipe σ ws ∧ tYes σ2 H2 fun b H3 =>
        if b = true then te σ2 H3 fun y H4 => ∃ acc, H4 D = some (.lst acc) ∧ acc.length < sizeLine ∧ Nx (upd H4 D (.lst (acc ++ [y]))) else Nx H3) := by
  refine lc_it (walk_tup (xs := vs)) (fun n H' => Same H1 H' ∧ ∃ us, H' D = some (.lst us) ∧ Trms H' us ((ts.take n).map f)) ⟨same_upd nD, [], upd_same, Trms.nil⟩ ?_ ?_ ?_
  · rintro n H' _ ⟨sm, _⟩
    exact .inl (.inl (sm _ _ hr))
  · rintro n x H2 H3 hn ⟨sm, us, hD, hv⟩ ⟨rfl, hx⟩
    obtain ⟨t, q, ht', rfl, hq⟩ := ht.at hx
    refine g_pair (t := t) ⟨q, rfl, sm _ _ hq⟩ ⟨hw _ _, ?_⟩
    simp only [tYes, if_true]
    refine he t (List.mem_of_getElem? ht') H3 sm _ fun p H4 s4 e4 => ?_
    have hD4 := s4 _ _ hD
    refine ⟨us, hD4, ?_, fun b o hb => ?_, us ++ [.ref p], upd_same, ?_⟩
    · rw [hv.1, List.length_map, List.length_take]; exact small1000 (by omega)
    · have h2 := s4 _ _ (sm _ _ hb)
      rw [upd_ne]; · exact h2
      rintro rfl; rw [nD] at hb; cases hb
    · rw [List.take_add_one, ht', List.map_append]
      exact ((hv.im (Im.of s4)).snoc (t := f t) ⟨p, rfl, e4⟩).im (Im.lst hD4)
  · rintro H2 ⟨sm, us, hD, hv⟩
    rw [ht.1, List.take_length] at hv
    exact hd us H2 sm hD hv
/-- a form's terms: in order, names out of the pool N, weights and constant below 2 ^ B -/
structure FB (N : List Str) (B : Nat) (ts : List Trm) (c : Int) : Prop where
  cn : Canon ts
  nm : ∀ t ∈ ts, t.1 ∈ N
  bw : ∀ t ∈ ts, Sm B t.2
  bc : Sm B c
structure Pool (N : List Str) : Prop where
  q : ∀ n ∈ N, isQ n = true
  l : N.length ≤ 12
theorem FB.len {N : List Str} {B : Nat} {ts : List Trm} {c : Int} (f : FB N B ts c) : ts.length ≤ N.length := by
  have := nodup_sub f.cn.nd (m := N) fun x hx => by
    obtain ⟨t, ht, rfl⟩ := List.mem_map.mp hx
    exact f.nm t ht
  rw [List.length_map] at this; exact this
theorem FB.isq {N : List Str} {B : Nat} {ts : List Trm} {c : Int} (f : FB N B ts c) (p : Pool N) : ∀ t ∈ ts, isQ t.1 = true := fun t h => p.q _ (f.nm t h)
theorem FB.mono {N : List Str} {B B' : Nat} {ts : List Trm} {c : Int} (f : FB N B ts c) (h : B ≤ B') : FB N B' ts c := ⟨f.cn, f.nm, fun t ht => (f.bw t ht).mono h, f.bc.mono h⟩
theorem FB.of {N : List Str} {B : Nat} {xs : List Trm} {c : Int} {g : Str → Int} (cn : Canon xs) (h : ∀ n, wt xs n = g n) (hn : ∀ n, g n ≠ 0 → n ∈ N) (hb : ∀ n, Sm B (g n)) (hc : Sm B c) : FB N B xs c := by
  refine ⟨cn, fun t ht => ?_, fun t ht => ?_, hc⟩
  · have := wt_one cn.nd ht
    exact hn _ (by rw [← h, this]; exact cn.nz t ht)
  · have := wt_one cn.nd ht
    rw [← this, h]; exact hb _
theorem FB.wn {N : List Str} {B : Nat} {ts : List Trm} {c : Int} (f : FB N B ts c) {n : Str} (h : wt ts n ≠ 0) : n ∈ N := by
  obtain ⟨t, ht, rfl⟩ := List.mem_map.mp (wt_mem h)
  exact f.nm t ht
theorem Sm.zero {B : Nat} : Sm B 0 := by unfold Sm; exact Nat.two_pow_pos B
theorem FB.wb {N : List Str} {B : Nat} {ts : List Trm} {c : Int} (f : FB N B ts c) (n : Str) : Sm B (wt ts n) := by
  by_cases h : wt ts n = 0
  · rw [h]; exact Sm.zero
  · obtain ⟨t, ht, rfl⟩ := List.mem_map.mp (wt_mem h)
    rw [wt_one f.cn.nd ht]; exact f.bw t ht
section
variable {P : Program} {w : World} {K : PySem.W.Frag} {mg : Str → Option Value} {base : Heap}
theorem ok_Form_mkL (T : Txt K mg) : FnR P w K mg base CX0 2 (He.ma K (He.ga K "Form") "__init__") (spInit (He.ga K "Form")) := by
  obtain ⟨ds, v, b⟩ := FunD.binds1 (ps := ["self", "terms", "constant"]) T.F_Form___init__ 3 2 (by intro z; cases z) rfl fun _ _ _ _ _ _ _ us its h1 h2 => match us, h1, its, h2 with | [_, _, _], _, [_, _], _ => ⟨_, rfl, rfl⟩
  refine (FnOk.raw (ok_Form___init__ T) b v).imp fun vs H Q E h => ?_
  show spInit _ (vs ++ []) H Q E
  rw [List.append_nil]; exact h
theorem ok_Form_mkT (T : Txt K mg) : FnR P w K mg base CX0 2 (He.ma K (He.ga K "Form") "__init__") (spInitT (He.ga K "Form")) := by
  obtain ⟨ds, v, b⟩ := FunD.binds1 (ps := ["self", "terms", "constant"]) T.F_Form___init__ 3 2 (by intro z; cases z) rfl fun _ _ _ _ _ _ _ us its h1 h2 => match us, h1, its, h2 with | [_, _, _], _, [_, _], _ => ⟨_, rfl, rfl⟩
  refine (FnOk.raw (ok_Form___init__T T) b v).imp fun vs H Q E h => ?_
  show spInitT _ (vs ++ []) H Q E
  rw [List.append_nil]; exact h
theorem mk_L {C : Addr} {H : Hp} {l : Addr} {us : List V} {ts : List Trm} {c : Int} {Q : Addr → Hp → Prop} {E : XK} (hl : H l = some (.lst us)) (ht : Trms H us ts) (hn : ts.length ≤ 60) (hq : ∀ t ∈ ts, isQ t.1 = true)
    (k : ∀ x H' xs, H x = none → Same H H' → Canon xs → (∀ n, wt xs n = wt ts n) → FormAt C H' x xs c → Q x H') :
    ∀ x dx, H x = none → H dx = none → dx ≠ x → spInit C [.ref x, .ref l, .int c] (upd (upd H dx (.own x)) x (.ins C dx [])) (fun v H2 => v = .non ∧ Q x H2) E := by
  intro x dx nx ndx ne
  have s0 : Same H (upd (upd H dx (.own x)) x (.ins C dx [])) := fun b o h => by
    rw [upd_ne (ne_of_none h nx), upd_ne (ne_of_none h ndx)]; exact h
  exact ⟨x, dx, l, us, ts, c, rfl, upd_same, s0 _ _ hl, ht.im (Im.of s0), hn, hq, fun H' xs cn hw hf hk => ⟨rfl, k x H' xs nx (fun b o h => hk b o (s0 _ _ h) (ne_of_none h nx)) cn hw hf⟩⟩
theorem mk_T {C : Addr} {H : Hp} {l : Addr} {us : List V} {ts : List Trm} {c : Int} {Q : Addr → Hp → Prop} {E : XK} (hl : H l = some (.tup us)) (ht : Trms H us ts) (hn : ts.length ≤ 60) (hq : ∀ t ∈ ts, isQ t.1 = true)
    (k : ∀ x H' xs, H x = none → Same H H' → Canon xs → (∀ n, wt xs n = wt ts n) → FormAt C H' x xs c → Q x H') :
    ∀ x dx, H x = none → H dx = none → dx ≠ x → spInitT C [.ref x, .ref l, .int c] (upd (upd H dx (.own x)) x (.ins C dx [])) (fun v H2 => v = .non ∧ Q x H2) E := by
  intro x dx nx ndx ne
  have s0 : Same H (upd (upd H dx (.own x)) x (.ins C dx [])) := fun b o h => by
    rw [upd_ne (ne_of_none h nx), upd_ne (ne_of_none h ndx)]; exact h
  exact ⟨x, dx, l, us, ts, c, rfl, upd_same, s0 _ _ hl, ht.im (Im.of s0), hn, hq, fun H' xs cn hw hf hk => ⟨rfl, k x H' xs nx (fun b o h => hk b o (s0 _ _ h) (ne_of_none h nx)) cn hw hf⟩⟩
/-! scaled -/
def spScaled (C : Addr) : Sp := fun vs H Q _ => ∃ (a : Addr) (N : List Str) (ts : List Trm) (c n : Int), vs = [.ref a, .int n] ∧ FormAt C H a ts c ∧ Pool N ∧ FB N 3000 ts c ∧ Sm 3000 n ∧
  ∀ x H' xs, H x = none → Same H H' → Canon xs → (∀ m, wt xs m = wt ts m * n) → FormAt C H' x xs (c * n) → Q (.ref x) H'
theorem sc_Form_scaled : FnScope ["self", "number", "name", "weight"] ["self", "number"] (defScope s_Form_scaled) := ⟨rfl, rfl, rfl, by decide +kernel, rfl, by decide +kernel, by decide +kernel⟩
theorem ok_Form_scaled (T : Txt K mg) : FnOk P w K mg base CX0 4 (He.ma K (He.ga K "Form") "scaled") (fdOf K (He.ma K (He.ga K "Form") "scaled")) ["self", "number"] (spScaled (He.ga K "Form")) := by
  refine T.F_Form_scaled.ok sc_Form_scaled (fun vs H Q E h => ?_) (fun cdv A outer s H vs Q E hr h => ?_)
  · obtain ⟨_, _, _, _, _, rfl, _⟩ := h
    rfl
  · obtain ⟨a, N, ts, c, n, rfl, ⟨dx, r, vs, ha, hr1, ht⟩, pl, fb, sn, k⟩ := h
    refine ⟨_, PSs.nox (pss_one (ps_ret (StX.pe_makeR T.M_Form (ok_Form_mkL T) (hr.mono (by decide)) (by rfl) T.g_Form pass0 (pa_cons (pe_lc (own := [("name", 2), ("weight", 3)]) (g := gTup K 2 (gCons (gName 2) (gCons (gName 3) gNil))) (tt := tYes) (by rfl) sc_Form_scaled.nd (pi_tup (pe_fld (pv 0) rfl)) (blkOk_by (own := [("name", 2), ("weight", 3)]) (N := ["self", "number", "name", "weight"]) (sc := defScope s_Form_scaled) (by decide +kernel)) (fun _ _ _ _ _ => (pg_tup (by rfl) (pgs_cons (pg_name (i := 2) sc_Form_scaled.nd rfl (Or.inl rfl)) (pgs_cons (pg_name (i := 3) sc_Form_scaled.nd rfl (Or.inl rfl)) pgs_nil)))) (fun _ _ _ _ _ => pts_nil) (fun _ _ _ _ _ => (pe_tup (pa_cons (pv 2) (pa_cons (pe_op op_mulX (pv 3) (pv 1)) pa_nil))))) (pa_cons (pe_op op_mulX (pe_fld (pv 0) rfl) (pv 1)) pa_nil))))), ?_⟩
    simp only [rIsO, isO_int, isO_str, isO_bl, isO_non, isO_ref, isOO_ins, isOO_lst, isOO_tup, isOO_dK, tMethR, StX.tMakeR, cxOf_K, tDNewK, tCallR, tNever, tSeq, tAsg, gName, tPar, tVar, tC, tOp, rI0, rI, rU, tUn, rEq, rNe, tTest, tB, tAnd, tOr, tNot, tAndV, tOrV, tNotV, tIf, tIfS, tRet, tRetN, tNext, tDrop, tCons, tNil, tCB, tCall, tTup, tLst, rIxLH, rIxTH, gSub, rSetL, tPart, tNoPart, tSl, tBM, tBM0, L2.start, sc_ii, sc_ss, sc_bb, sc_nn, sc_ni, sc_in, sc_ns, sc_sn, sc_is, sc_si, eq_self, tChain, List.map_cons, List.map_nil, List.replicate_succ, List.replicate_zero, List.length_cons, List.length_nil, Nat.reduceAdd, Nat.reduceSub, Nat.zero_add, Nat.sub_self, Nat.add_sub_cancel, List.cons_append, List.nil_append, List.append_nil, List.getElem?_cons_zero, List.getElem?_cons_succ, List.set_cons_zero, List.set_cons_succ, Option.some.injEq, V.int.injEq, V.ref.injEq, V.bl.injEq, V.str.injEq, List.cons.injEq, HO.lst.injEq, HO.tup.injEq, and_true, true_and, exists_eq_left', exists_eq_left, exists_eq', exists_eq, exists_eq_right, exists_eq_right', exists_and_left, exists_and_right, and_assoc, upd_same, reduceCtorEq, false_and, and_false, exists_false, or_false, false_or, at0, at1, atM1, sg_inj, dot_eq, plus_eq, minus_eq, rIxS, at2, at3, at4, at5, ix0, ix1, ix2, ix3, upd_upd, decide_eq_true_eq, Int.reduceLT, Int.reduceLE, Int.reduceAdd, Int.reduceSub, Int.reduceNeg, Int.reduceMul, Int.reducePow, Int.reduceEq, decide_true, decide_false, Int.cast_ofNat_Int, Int.natCast_zero, Int.natCast_one, Nat.reduceEqDiff, Nat.reduceLeDiff, rIsB, tyN_non, tyN_bl, tyN_int, tyN_str, tyN_ref, tyO_lst, tyO_tup, tyO_dK, tyO_dT, V.ty.injEq, ite_true, ite_false, if_true, if_false, Bool.not_true, Bool.not_false, Bool.false_eq_true, kb_int_int, kb_int_bool, kb_int_str, kb_int_tuple, kb_int_list, kb_int_dict, kb_bool_int, kb_bool_bool, kb_bool_str, kb_bool_tuple, kb_bool_list, kb_bool_dict, kb_str_int, kb_str_bool, kb_str_str, kb_str_tuple, kb_str_list, kb_str_dict, kb_NoneType_int, kb_NoneType_bool, kb_NoneType_str, kb_NoneType_tuple, kb_NoneType_list, kb_NoneType_dict, kb_list_int, kb_list_bool, kb_list_str, kb_list_tuple, kb_list_list, kb_list_dict, kb_tuple_int, kb_tuple_bool, kb_tuple_str, kb_tuple_tuple, kb_tuple_list, kb_tuple_dict, kb_dict_int, kb_dict_bool, kb_dict_str, kb_dict_tuple, kb_dict_list, kb_dict_dict, cp_2_53, pw_2_53, cp_10_9, pw_10_9, cp_10_10, pw_10_10, cp_10_18, pw_10_18, cp_10_20, pw_10_20, cp_10_29, pw_10_29, cp_10_30, pw_10_30]
    have hl : ts.length ≤ 60 := by have := fb.len; have := pl.l; omega
    refine ⟨_, rfl, a, _, _, _, _, rfl, ha, T.cl_Form, T.nt_Form, look_t _ _, r, rfl, ⟨_, .inl (.inl hr1)⟩, fun D nD => lc_map (fun t => (t.1, t.2 * n)) hr1 ht hl nD (fun _ _ => rfl) (fun t hm H2 s2 Q' q => ?_) fun us H2 s2 hD hv => ?_⟩
    · simp only [rIsO, isO_int, isO_str, isO_bl, isO_non, isO_ref, isOO_ins, isOO_lst, isOO_tup, isOO_dK, tMethR, StX.tMakeR, cxOf_K, tDNewK, tCallR, tNever, tSeq, tAsg, gName, tPar, tVar, tC, tOp, rI0, rI, rU, tUn, rEq, rNe, tTest, tB, tAnd, tOr, tNot, tAndV, tOrV, tNotV, tIf, tIfS, tRet, tRetN, tNext, tDrop, tCons, tNil, tCB, tCall, tTup, tLst, rIxLH, rIxTH, gSub, rSetL, tPart, tNoPart, tSl, tBM, tBM0, L2.start, sc_ii, sc_ss, sc_bb, sc_nn, sc_ni, sc_in, sc_ns, sc_sn, sc_is, sc_si, eq_self, tChain, List.map_cons, List.map_nil, List.replicate_succ, List.replicate_zero, List.length_cons, List.length_nil, Nat.reduceAdd, Nat.reduceSub, Nat.zero_add, Nat.sub_self, Nat.add_sub_cancel, List.cons_append, List.nil_append, List.append_nil, List.getElem?_cons_zero, List.getElem?_cons_succ, List.set_cons_zero, List.set_cons_succ, Option.some.injEq, V.int.injEq, V.ref.injEq, V.bl.injEq, V.str.injEq, List.cons.injEq, HO.lst.injEq, HO.tup.injEq, and_true, true_and, exists_eq_left', exists_eq_left, exists_eq', exists_eq, exists_eq_right, exists_eq_right', exists_and_left, exists_and_right, and_assoc, upd_same, reduceCtorEq, false_and, and_false, exists_false, or_false, false_or, at0, at1, atM1, sg_inj, dot_eq, plus_eq, minus_eq, rIxS, at2, at3, at4, at5, ix0, ix1, ix2, ix3, upd_upd, decide_eq_true_eq, Int.reduceLT, Int.reduceLE, Int.reduceAdd, Int.reduceSub, Int.reduceNeg, Int.reduceMul, Int.reducePow, Int.reduceEq, decide_true, decide_false, Int.cast_ofNat_Int, Int.natCast_zero, Int.natCast_one, Nat.reduceEqDiff, Nat.reduceLeDiff, rIsB, tyN_non, tyN_bl, tyN_int, tyN_str, tyN_ref, tyO_lst, tyO_tup, tyO_dK, tyO_dT, V.ty.injEq, ite_true, ite_false, if_true, if_false, Bool.not_true, Bool.not_false, Bool.false_eq_true, kb_int_int, kb_int_bool, kb_int_str, kb_int_tuple, kb_int_list, kb_int_dict, kb_bool_int, kb_bool_bool, kb_bool_str, kb_bool_tuple, kb_bool_list, kb_bool_dict, kb_str_int, kb_str_bool, kb_str_str, kb_str_tuple, kb_str_list, kb_str_dict, kb_NoneType_int, kb_NoneType_bool, kb_NoneType_str, kb_NoneType_tuple, kb_NoneType_list, kb_NoneType_dict, kb_list_int, kb_list_bool, kb_list_str, kb_list_tuple, kb_list_list, kb_list_dict, kb_tuple_int, kb_tuple_bool, kb_tuple_str, kb_tuple_tuple, kb_tuple_list, kb_tuple_dict, kb_dict_int, kb_dict_bool, kb_dict_str, kb_dict_tuple, kb_dict_list, kb_dict_dict, cp_2_53, pw_2_53, cp_10_9, pw_10_9, cp_10_10, pw_10_10, cp_10_18, pw_10_18, cp_10_20, pw_10_20, cp_10_29, pw_10_29, cp_10_30, pw_10_30, wipe]
      refine ⟨(fb.bw t hm).mulok sn, size_le (by simp), fun p hp => ?_⟩
      exact q p _ (same_upd hp) upd_same
    · have ha2 := s2 _ _ ha
      refine ⟨_, rfl, a, _, _, _, _, rfl, ha2, T.cl_Form, T.nc_Form, look_c _ _, c, rfl, fb.bc.mulok sn, ?_⟩
      refine mk_L hD hv (by rw [List.length_map]; exact hl) (fun t ht' => ?_) fun x H3 xs nx s3 cn hw hf => k x H3 xs ?_ (s2.trans s3) cn (fun m => by rw [hw, wt_scale]) hf
      · obtain ⟨u, hu, rfl⟩ := List.mem_map.mp ht'
        exact fb.isq pl u hu
      · exact s2.free nx
theorem Txt.is_Form (T : Txt K mg) : IsC K (He.ga K "Form") := ⟨T.cl_Form, He.eqO_ok T.x_clsF, He.eqO_ok T.x_clsG, of_decide_eq_true T.x_clsT, of_decide_eq_true T.x_mroO, of_decide_eq_true T.x_kitFF, fun t ht => of_decide_eq_true (List.all_eq_true.mp T.x_kitF t ht)⟩
theorem Txt.m_Form_scaled (T : Txt K mg) : Meth K (He.ga K "Form") "scaled" (He.ma K (He.ga K "Form") "scaled") := He.meth_ok T.f_meth_Form_scaled
theorem Txt.m_Form_put (T : Txt K mg) : Meth K (He.ga K "Form") "put" (He.ma K (He.ga K "Form") "put") := He.meth_ok T.f_meth_Form_put
theorem opC {C f : Addr} {m : Str} (h : Meth K C m f) : OpC K C m f := ⟨h.at_, h.fn⟩
theorem Txt.o_add (T : Txt K mg) : OpC K (He.ga K "Form") "__add__" (He.ma K (He.ga K "Form") "__add__") := opC (He.meth_ok T.f_meth_Form_add)
theorem Txt.o_sub (T : Txt K mg) : OpC K (He.ga K "Form") "__sub__" (He.ma K (He.ga K "Form") "__sub__") := opC (He.meth_ok T.f_meth_Form_sub)
theorem Txt.o_neg (T : Txt K mg) : OpC K (He.ga K "Form") "__neg__" (He.ma K (He.ga K "Form") "__neg__") := opC (He.meth_ok T.f_meth_Form_neg)
theorem Txt.o_mul (T : Txt K mg) : OpC K (He.ga K "Form") "__mul__" (He.ma K (He.ga K "Form") "__mul__") := opC (He.meth_ok T.f_meth_Form_mul)
theorem Txt.o_rmul (T : Txt K mg) : OpC K (He.ga K "Form") "__rmul__" (He.ma K (He.ga K "Form") "__rmul__") := opC (He.meth_ok T.f_meth_Form_rmul)
theorem Txt.o_get (T : Txt K mg) : OpC K (He.ga K "Form") "__getitem__" (He.ma K (He.ga K "Form") "__getitem__") := opC (He.meth_ok T.f_meth_Form_getitem)
theorem Txt.o_str (T : Txt K mg) : OpC K (He.ga K "Form") "__str__" (He.ma K (He.ga K "Form") "__str__") := opC (He.meth_ok T.f_meth_Form_str)
/-! -x, x * n, n * x -/
def spNeg (C : Addr) : Sp := fun vs H Q E => ∃ a, vs = [.ref a] ∧ spScaled C [.ref a, .int (-1)] H Q E
theorem sc_Form___neg__ : FnScope ["self"] ["self"] (defScope s_Form___neg__) := ⟨rfl, rfl, rfl, by decide +kernel, rfl, by decide +kernel, by decide +kernel⟩
theorem ok_Form___neg__ (T : Txt K mg) : FnOk P w K mg base CX0 5 (He.ma K (He.ga K "Form") "__neg__") (fdOf K (He.ma K (He.ga K "Form") "__neg__")) ["self"] (spNeg (He.ga K "Form")) := by
  refine T.F_Form___neg__.ok sc_Form___neg__ (fun vs H Q E h => ?_) (fun cdv A outer s H vs Q E hr h => ?_)
  · obtain ⟨_, rfl, _⟩ := h
    rfl
  · obtain ⟨a, rfl, k⟩ := h
    have k0 := k
    obtain ⟨a', N, ts, c, n, e, ⟨dx, r, vs, ha, _⟩, _⟩ := k0
    cases e
    refine ⟨_, PSs.nox (pss_one (ps_ret (pe_methR (pv 0) T.cl_Form T.m_Form_scaled (rawN (ok_Form_scaled T) T.b_Form_scaled) (hr.mono (by decide)) pass0 (pa_cons (pe_un un_neg pe_int) pa_nil)))), ?_⟩
    simp only [rIsO, isO_int, isO_str, isO_bl, isO_non, isO_ref, isOO_ins, isOO_lst, isOO_tup, isOO_dK, tMethR, StX.tMakeR, cxOf_K, tDNewK, tCallR, tNever, tSeq, tAsg, gName, tPar, tVar, tC, tOp, rI0, rI, rU, tUn, rEq, rNe, tTest, tB, tAnd, tOr, tNot, tAndV, tOrV, tNotV, tIf, tIfS, tRet, tRetN, tNext, tDrop, tCons, tNil, tCB, tCall, tTup, tLst, rIxLH, rIxTH, gSub, rSetL, tPart, tNoPart, tSl, tBM, tBM0, L2.start, sc_ii, sc_ss, sc_bb, sc_nn, sc_ni, sc_in, sc_ns, sc_sn, sc_is, sc_si, eq_self, tChain, List.map_cons, List.map_nil, List.replicate_succ, List.replicate_zero, List.length_cons, List.length_nil, Nat.reduceAdd, Nat.reduceSub, Nat.zero_add, Nat.sub_self, Nat.add_sub_cancel, List.cons_append, List.nil_append, List.append_nil, List.getElem?_cons_zero, List.getElem?_cons_succ, List.set_cons_zero, List.set_cons_succ, Option.some.injEq, V.int.injEq, V.ref.injEq, V.bl.injEq, V.str.injEq, List.cons.injEq, HO.lst.injEq, HO.tup.injEq, and_true, true_and, exists_eq_left', exists_eq_left, exists_eq', exists_eq, exists_eq_right, exists_eq_right', exists_and_left, exists_and_right, and_assoc, upd_same, reduceCtorEq, false_and, and_false, exists_false, or_false, false_or, at0, at1, atM1, sg_inj, dot_eq, plus_eq, minus_eq, rIxS, at2, at3, at4, at5, ix0, ix1, ix2, ix3, upd_upd, decide_eq_true_eq, Int.reduceLT, Int.reduceLE, Int.reduceAdd, Int.reduceSub, Int.reduceNeg, Int.reduceMul, Int.reducePow, Int.reduceEq, decide_true, decide_false, Int.cast_ofNat_Int, Int.natCast_zero, Int.natCast_one, Nat.reduceEqDiff, Nat.reduceLeDiff, rIsB, tyN_non, tyN_bl, tyN_int, tyN_str, tyN_ref, tyO_lst, tyO_tup, tyO_dK, tyO_dT, V.ty.injEq, ite_true, ite_false, if_true, if_false, Bool.not_true, Bool.not_false, Bool.false_eq_true, kb_int_int, kb_int_bool, kb_int_str, kb_int_tuple, kb_int_list, kb_int_dict, kb_bool_int, kb_bool_bool, kb_bool_str, kb_bool_tuple, kb_bool_list, kb_bool_dict, kb_str_int, kb_str_bool, kb_str_str, kb_str_tuple, kb_str_list, kb_str_dict, kb_NoneType_int, kb_NoneType_bool, kb_NoneType_str, kb_NoneType_tuple, kb_NoneType_list, kb_NoneType_dict, kb_list_int, kb_list_bool, kb_list_str, kb_list_tuple, kb_list_list, kb_list_dict, kb_tuple_int, kb_tuple_bool, kb_tuple_str, kb_tuple_tuple, kb_tuple_list, kb_tuple_dict, kb_dict_int, kb_dict_bool, kb_dict_str, kb_dict_tuple, kb_dict_list, kb_dict_dict, cp_2_53, pw_2_53, cp_10_9, pw_10_9, cp_10_10, pw_10_10, cp_10_18, pw_10_18, cp_10_20, pw_10_20, cp_10_29, pw_10_29, cp_10_30, pw_10_30]
    exact ⟨dx, _, ha, look_n _ _ _ (by decide +kernel) (by decide +kernel), k⟩
theorem sc_Form___mul__ : FnScope ["self", "number"] ["self", "number"] (defScope s_Form___mul__) := ⟨rfl, rfl, rfl, by decide +kernel, rfl, by decide +kernel, by decide +kernel⟩
theorem ok_Form___mul__ (T : Txt K mg) : FnOk P w K mg base CX0 5 (He.ma K (He.ga K "Form") "__mul__") (fdOf K (He.ma K (He.ga K "Form") "__mul__")) ["self", "number"] (spScaled (He.ga K "Form")) := by
  refine T.F_Form___mul__.ok sc_Form___mul__ (fun vs H Q E h => ?_) (fun cdv A outer s H vs Q E hr h => ?_)
  · obtain ⟨_, _, _, _, _, rfl, _⟩ := h
    rfl
  · have k0 := h
    obtain ⟨a, N, ts, c, n, rfl, ⟨dx, r, vs, ha, _⟩, _⟩ := k0
    refine ⟨_, PSs.nox (pss_one (ps_ret (pe_methR (pv 0) T.cl_Form T.m_Form_scaled (rawN (ok_Form_scaled T) T.b_Form_scaled) (hr.mono (by decide)) pass0 (pa_cons (pv 1) pa_nil)))), ?_⟩
    simp only [rIsO, isO_int, isO_str, isO_bl, isO_non, isO_ref, isOO_ins, isOO_lst, isOO_tup, isOO_dK, tMethR, StX.tMakeR, cxOf_K, tDNewK, tCallR, tNever, tSeq, tAsg, gName, tPar, tVar, tC, tOp, rI0, rI, rU, tUn, rEq, rNe, tTest, tB, tAnd, tOr, tNot, tAndV, tOrV, tNotV, tIf, tIfS, tRet, tRetN, tNext, tDrop, tCons, tNil, tCB, tCall, tTup, tLst, rIxLH, rIxTH, gSub, rSetL, tPart, tNoPart, tSl, tBM, tBM0, L2.start, sc_ii, sc_ss, sc_bb, sc_nn, sc_ni, sc_in, sc_ns, sc_sn, sc_is, sc_si, eq_self, tChain, List.map_cons, List.map_nil, List.replicate_succ, List.replicate_zero, List.length_cons, List.length_nil, Nat.reduceAdd, Nat.reduceSub, Nat.zero_add, Nat.sub_self, Nat.add_sub_cancel, List.cons_append, List.nil_append, List.append_nil, List.getElem?_cons_zero, List.getElem?_cons_succ, List.set_cons_zero, List.set_cons_succ, Option.some.injEq, V.int.injEq, V.ref.injEq, V.bl.injEq, V.str.injEq, List.cons.injEq, HO.lst.injEq, HO.tup.injEq, and_true, true_and, exists_eq_left', exists_eq_left, exists_eq', exists_eq, exists_eq_right, exists_eq_right', exists_and_left, exists_and_right, and_assoc, upd_same, reduceCtorEq, false_and, and_false, exists_false, or_false, false_or, at0, at1, atM1, sg_inj, dot_eq, plus_eq, minus_eq, rIxS, at2, at3, at4, at5, ix0, ix1, ix2, ix3, upd_upd, decide_eq_true_eq, Int.reduceLT, Int.reduceLE, Int.reduceAdd, Int.reduceSub, Int.reduceNeg, Int.reduceMul, Int.reducePow, Int.reduceEq, decide_true, decide_false, Int.cast_ofNat_Int, Int.natCast_zero, Int.natCast_one, Nat.reduceEqDiff, Nat.reduceLeDiff, rIsB, tyN_non, tyN_bl, tyN_int, tyN_str, tyN_ref, tyO_lst, tyO_tup, tyO_dK, tyO_dT, V.ty.injEq, ite_true, ite_false, if_true, if_false, Bool.not_true, Bool.not_false, Bool.false_eq_true, kb_int_int, kb_int_bool, kb_int_str, kb_int_tuple, kb_int_list, kb_int_dict, kb_bool_int, kb_bool_bool, kb_bool_str, kb_bool_tuple, kb_bool_list, kb_bool_dict, kb_str_int, kb_str_bool, kb_str_str, kb_str_tuple, kb_str_list, kb_str_dict, kb_NoneType_int, kb_NoneType_bool, kb_NoneType_str, kb_NoneType_tuple, kb_NoneType_list, kb_NoneType_dict, kb_list_int, kb_list_bool, kb_list_str, kb_list_tuple, kb_list_list, kb_list_dict, kb_tuple_int, kb_tuple_bool, kb_tuple_str, kb_tuple_tuple, kb_tuple_list, kb_tuple_dict, kb_dict_int, kb_dict_bool, kb_dict_str, kb_dict_tuple, kb_dict_list, kb_dict_dict, cp_2_53, pw_2_53, cp_10_9, pw_10_9, cp_10_10, pw_10_10, cp_10_18, pw_10_18, cp_10_20, pw_10_20, cp_10_29, pw_10_29, cp_10_30, pw_10_30]
    exact ⟨dx, _, ha, look_n _ _ _ (by decide +kernel) (by decide +kernel), h⟩
theorem sc_Form___rmul__ : FnScope ["self", "number"] ["self", "number"] (defScope s_Form___rmul__) := ⟨rfl, rfl, rfl, by decide +kernel, rfl, by decide +kernel, by decide +kernel⟩
theorem ok_Form___rmul__ (T : Txt K mg) : FnOk P w K mg base CX0 5 (He.ma K (He.ga K "Form") "__rmul__") (fdOf K (He.ma K (He.ga K "Form") "__rmul__")) ["self", "number"] (spScaled (He.ga K "Form")) := by
  refine T.F_Form___rmul__.ok sc_Form___rmul__ (fun vs H Q E h => ?_) (fun cdv A outer s H vs Q E hr h => ?_)
  · obtain ⟨_, _, _, _, _, rfl, _⟩ := h
    rfl
  · have k0 := h
    obtain ⟨a, N, ts, c, n, rfl, ⟨dx, r, vs, ha, _⟩, _⟩ := k0
    refine ⟨_, PSs.nox (pss_one (ps_ret (pe_methR (pv 0) T.cl_Form T.m_Form_scaled (rawN (ok_Form_scaled T) T.b_Form_scaled) (hr.mono (by decide)) pass0 (pa_cons (pv 1) pa_nil)))), ?_⟩
    simp only [rIsO, isO_int, isO_str, isO_bl, isO_non, isO_ref, isOO_ins, isOO_lst, isOO_tup, isOO_dK, tMethR, StX.tMakeR, cxOf_K, tDNewK, tCallR, tNever, tSeq, tAsg, gName, tPar, tVar, tC, tOp, rI0, rI, rU, tUn, rEq, rNe, tTest, tB, tAnd, tOr, tNot, tAndV, tOrV, tNotV, tIf, tIfS, tRet, tRetN, tNext, tDrop, tCons, tNil, tCB, tCall, tTup, tLst, rIxLH, rIxTH, gSub, rSetL, tPart, tNoPart, tSl, tBM, tBM0, L2.start, sc_ii, sc_ss, sc_bb, sc_nn, sc_ni, sc_in, sc_ns, sc_sn, sc_is, sc_si, eq_self, tChain, List.map_cons, List.map_nil, List.replicate_succ, List.replicate_zero, List.length_cons, List.length_nil, Nat.reduceAdd, Nat.reduceSub, Nat.zero_add, Nat.sub_self, Nat.add_sub_cancel, List.cons_append, List.nil_append, List.append_nil, List.getElem?_cons_zero, List.getElem?_cons_succ, List.set_cons_zero, List.set_cons_succ, Option.some.injEq, V.int.injEq, V.ref.injEq, V.bl.injEq, V.str.injEq, List.cons.injEq, HO.lst.injEq, HO.tup.injEq, and_true, true_and, exists_eq_left', exists_eq_left, exists_eq', exists_eq, exists_eq_right, exists_eq_right', exists_and_left, exists_and_right, and_assoc, upd_same, reduceCtorEq, false_and, and_false, exists_false, or_false, false_or, at0, at1, atM1, sg_inj, dot_eq, plus_eq, minus_eq, rIxS, at2, at3, at4, at5, ix0, ix1, ix2, ix3, upd_upd, decide_eq_true_eq, Int.reduceLT, Int.reduceLE, Int.reduceAdd, Int.reduceSub, Int.reduceNeg, Int.reduceMul, Int.reducePow, Int.reduceEq, decide_true, decide_false, Int.cast_ofNat_Int, Int.natCast_zero, Int.natCast_one, Nat.reduceEqDiff, Nat.reduceLeDiff, rIsB, tyN_non, tyN_bl, tyN_int, tyN_str, tyN_ref, tyO_lst, tyO_tup, tyO_dK, tyO_dT, V.ty.injEq, ite_true, ite_false, if_true, if_false, Bool.not_true, Bool.not_false, Bool.false_eq_true, kb_int_int, kb_int_bool, kb_int_str, kb_int_tuple, kb_int_list, kb_int_dict, kb_bool_int, kb_bool_bool, kb_bool_str, kb_bool_tuple, kb_bool_list, kb_bool_dict, kb_str_int, kb_str_bool, kb_str_str, kb_str_tuple, kb_str_list, kb_str_dict, kb_NoneType_int, kb_NoneType_bool, kb_NoneType_str, kb_NoneType_tuple, kb_NoneType_list, kb_NoneType_dict, kb_list_int, kb_list_bool, kb_list_str, kb_list_tuple, kb_list_list, kb_list_dict, kb_tuple_int, kb_tuple_bool, kb_tuple_str, kb_tuple_tuple, kb_tuple_list, kb_tuple_dict, kb_dict_int, kb_dict_bool, kb_dict_str, kb_dict_tuple, kb_dict_list, kb_dict_dict, cp_2_53, pw_2_53, cp_10_9, pw_10_9, cp_10_10, pw_10_10, cp_10_18, pw_10_18, cp_10_20, pw_10_20, cp_10_29, pw_10_29, cp_10_30, pw_10_30]
    exact ⟨dx, _, ha, look_n _ _ _ (by decide +kernel) (by decide +kernel), h⟩
/-! x + y -/
theorem cat_of {H : Hp} {a b : Addr} {xs ys : List V} {Q : VK} (ha : H a = some (.tup xs)) (hb : H b = some (.tup ys)) (hl : xs.length + ys.length ≤ 1000) (k : ∀ p H', Same H H' → H' p = some (.tup (xs ++ ys)) → Q (.ref p) H') : rCatA K (.ref a) (.ref b) H Q := by
  refine ⟨a, b, xs, ys, rfl, rfl, .inl (.inl ha), .inl (.inl hb), size_le hl, fun e => ?_, fun _ e => ?_, fun _ _ p hp => k p _ (same_upd hp) upd_same⟩
  · subst e; exact k b H (Same.refl _) hb
  · subst e; exact k a H (Same.refl _) (by rw [List.append_nil]; exact ha)
def spAdd (C : Addr) : Sp := fun vs H Q _ => ∃ (a b : Addr) (N : List Str) (ts us : List Trm) (c d : Int), vs = [.ref a, .ref b] ∧ FormAt C H a ts c ∧ FormAt C H b us d ∧ Pool N ∧ FB N 3000 ts c ∧ FB N 3000 us d ∧
  ∀ x H' xs, H x = none → Same H H' → Canon xs → (∀ m, wt xs m = wt ts m + wt us m) → FormAt C H' x xs (c + d) → Q (.ref x) H'
theorem sc_Form___add__ : FnScope ["self", "other"] ["self", "other"] (defScope s_Form___add__) := ⟨rfl, rfl, rfl, by decide +kernel, rfl, by decide +kernel, by decide +kernel⟩
theorem ok_Form___add__ (T : Txt K mg) : FnOk P w K mg base CX0 4 (He.ma K (He.ga K "Form") "__add__") (fdOf K (He.ma K (He.ga K "Form") "__add__")) ["self", "other"] (spAdd (He.ga K "Form")) := by
  refine T.F_Form___add__.ok sc_Form___add__ (fun vs H Q E h => ?_) (fun cdv A outer s H vs Q E hr h => ?_)
  · obtain ⟨_, _, _, _, _, _, _, rfl, _⟩ := h
    rfl
  · obtain ⟨a, b, N, ts, us, c, d, rfl, ⟨dx, r, vs, ha, hr1, ht⟩, ⟨dy, q, ws, hb, hq1, hu⟩, pl, fb, gb, k⟩ := h
    refine ⟨_, PSs.nox (pss_cons (ps_if (pt_val (pe_callB (call_isiO T.is_Form) (by rfl) T.z_isinstance (by decide +kernel) (pa_cons (pv 1) (pa_cons (pe_glob (v := .ref (He.ga K "Form")) (by rfl) T.g_Form rfl) pa_nil)))) (pss_one (ps_ret (StX.pe_makeR T.M_Form (ok_Form_mkT T) (hr.mono (by decide)) (by rfl) T.g_Form pass0 (pa_cons (pe_op (op_catA) (pe_fld (pv 0) rfl) (pe_fld (pv 1) rfl)) (pa_cons (pe_op op_add (pe_fld (pv 0) rfl) (pe_fld (pv 1) rfl)) pa_nil))))) pss_nil)
      (pss_one (ps_ret (StX.pe_makeR T.M_Form (ok_Form_mkT T) (hr.mono (by decide)) (by rfl) T.g_Form pass0 (pa_cons (pe_fld (pv 0) rfl) (pa_cons (pe_op op_add (pe_fld (pv 0) rfl) (pv 1)) pa_nil)))))), ?_⟩
    simp only [rIsO, isO_int, isO_str, isO_bl, isO_non, isO_ref, isOO_ins, isOO_lst, isOO_tup, isOO_dK, tMethR, StX.tMakeR, cxOf_K, tDNewK, tCallR, tNever, tSeq, tAsg, gName, tPar, tVar, tC, tOp, rI0, rI, rU, tUn, rEq, rNe, tTest, tB, tAnd, tOr, tNot, tAndV, tOrV, tNotV, tIf, tIfS, tRet, tRetN, tNext, tDrop, tCons, tNil, tCB, tCall, tTup, tLst, rIxLH, rIxTH, gSub, rSetL, tPart, tNoPart, tSl, tBM, tBM0, L2.start, sc_ii, sc_ss, sc_bb, sc_nn, sc_ni, sc_in, sc_ns, sc_sn, sc_is, sc_si, eq_self, tChain, List.map_cons, List.map_nil, List.replicate_succ, List.replicate_zero, List.length_cons, List.length_nil, Nat.reduceAdd, Nat.reduceSub, Nat.zero_add, Nat.sub_self, Nat.add_sub_cancel, List.cons_append, List.nil_append, List.append_nil, List.getElem?_cons_zero, List.getElem?_cons_succ, List.set_cons_zero, List.set_cons_succ, Option.some.injEq, V.int.injEq, V.ref.injEq, V.bl.injEq, V.str.injEq, List.cons.injEq, HO.lst.injEq, HO.tup.injEq, and_true, true_and, exists_eq_left', exists_eq_left, exists_eq', exists_eq, exists_eq_right, exists_eq_right', exists_and_left, exists_and_right, and_assoc, upd_same, reduceCtorEq, false_and, and_false, exists_false, or_false, false_or, at0, at1, atM1, sg_inj, dot_eq, plus_eq, minus_eq, rIxS, at2, at3, at4, at5, ix0, ix1, ix2, ix3, upd_upd, decide_eq_true_eq, Int.reduceLT, Int.reduceLE, Int.reduceAdd, Int.reduceSub, Int.reduceNeg, Int.reduceMul, Int.reducePow, Int.reduceEq, decide_true, decide_false, Int.cast_ofNat_Int, Int.natCast_zero, Int.natCast_one, Nat.reduceEqDiff, Nat.reduceLeDiff, rIsB, tyN_non, tyN_bl, tyN_int, tyN_str, tyN_ref, tyO_lst, tyO_tup, tyO_dK, tyO_dT, V.ty.injEq, ite_true, ite_false, if_true, if_false, Bool.not_true, Bool.not_false, Bool.false_eq_true, kb_int_int, kb_int_bool, kb_int_str, kb_int_tuple, kb_int_list, kb_int_dict, kb_bool_int, kb_bool_bool, kb_bool_str, kb_bool_tuple, kb_bool_list, kb_bool_dict, kb_str_int, kb_str_bool, kb_str_str, kb_str_tuple, kb_str_list, kb_str_dict, kb_NoneType_int, kb_NoneType_bool, kb_NoneType_str, kb_NoneType_tuple, kb_NoneType_list, kb_NoneType_dict, kb_list_int, kb_list_bool, kb_list_str, kb_list_tuple, kb_list_list, kb_list_dict, kb_tuple_int, kb_tuple_bool, kb_tuple_str, kb_tuple_tuple, kb_tuple_list, kb_tuple_dict, kb_dict_int, kb_dict_bool, kb_dict_str, kb_dict_tuple, kb_dict_list, kb_dict_dict, cp_2_53, pw_2_53, cp_10_9, pw_10_9, cp_10_10, pw_10_10, cp_10_18, pw_10_18, cp_10_20, pw_10_20, cp_10_29, pw_10_29, cp_10_30, pw_10_30, tFld, HO.ins.injEq, look_t, look_c, T.cl_Form, T.nt_Form, T.nc_Form, ha, hb]
    have l1 : ts.length ≤ 12 := by have := fb.len; have := pl.l; omega
    have l2 : us.length ≤ 12 := by have := gb.len; have := pl.l; omega
    refine cat_of hr1 hq1 (by rw [ht.1, hu.1]; omega) fun p H1 s1 e1 => ?_
    have ha1 := s1 _ _ ha
    have hb1 := s1 _ _ hb
    simp only [rIsO, isO_int, isO_str, isO_bl, isO_non, isO_ref, isOO_ins, isOO_lst, isOO_tup, isOO_dK, tMethR, StX.tMakeR, cxOf_K, tDNewK, tCallR, tNever, tSeq, tAsg, gName, tPar, tVar, tC, tOp, rI0, rI, rU, tUn, rEq, rNe, tTest, tB, tAnd, tOr, tNot, tAndV, tOrV, tNotV, tIf, tIfS, tRet, tRetN, tNext, tDrop, tCons, tNil, tCB, tCall, tTup, tLst, rIxLH, rIxTH, gSub, rSetL, tPart, tNoPart, tSl, tBM, tBM0, L2.start, sc_ii, sc_ss, sc_bb, sc_nn, sc_ni, sc_in, sc_ns, sc_sn, sc_is, sc_si, eq_self, tChain, List.map_cons, List.map_nil, List.replicate_succ, List.replicate_zero, List.length_cons, List.length_nil, Nat.reduceAdd, Nat.reduceSub, Nat.zero_add, Nat.sub_self, Nat.add_sub_cancel, List.cons_append, List.nil_append, List.append_nil, List.getElem?_cons_zero, List.getElem?_cons_succ, List.set_cons_zero, List.set_cons_succ, Option.some.injEq, V.int.injEq, V.ref.injEq, V.bl.injEq, V.str.injEq, List.cons.injEq, HO.lst.injEq, HO.tup.injEq, and_true, true_and, exists_eq_left', exists_eq_left, exists_eq', exists_eq, exists_eq_right, exists_eq_right', exists_and_left, exists_and_right, and_assoc, upd_same, reduceCtorEq, false_and, and_false, exists_false, or_false, false_or, at0, at1, atM1, sg_inj, dot_eq, plus_eq, minus_eq, rIxS, at2, at3, at4, at5, ix0, ix1, ix2, ix3, upd_upd, decide_eq_true_eq, Int.reduceLT, Int.reduceLE, Int.reduceAdd, Int.reduceSub, Int.reduceNeg, Int.reduceMul, Int.reducePow, Int.reduceEq, decide_true, decide_false, Int.cast_ofNat_Int, Int.natCast_zero, Int.natCast_one, Nat.reduceEqDiff, Nat.reduceLeDiff, rIsB, tyN_non, tyN_bl, tyN_int, tyN_str, tyN_ref, tyO_lst, tyO_tup, tyO_dK, tyO_dT, V.ty.injEq, ite_true, ite_false, if_true, if_false, Bool.not_true, Bool.not_false, Bool.false_eq_true, kb_int_int, kb_int_bool, kb_int_str, kb_int_tuple, kb_int_list, kb_int_dict, kb_bool_int, kb_bool_bool, kb_bool_str, kb_bool_tuple, kb_bool_list, kb_bool_dict, kb_str_int, kb_str_bool, kb_str_str, kb_str_tuple, kb_str_list, kb_str_dict, kb_NoneType_int, kb_NoneType_bool, kb_NoneType_str, kb_NoneType_tuple, kb_NoneType_list, kb_NoneType_dict, kb_list_int, kb_list_bool, kb_list_str, kb_list_tuple, kb_list_list, kb_list_dict, kb_tuple_int, kb_tuple_bool, kb_tuple_str, kb_tuple_tuple, kb_tuple_list, kb_tuple_dict, kb_dict_int, kb_dict_bool, kb_dict_str, kb_dict_tuple, kb_dict_list, kb_dict_dict, cp_2_53, pw_2_53, cp_10_9, pw_10_9, cp_10_10, pw_10_10, cp_10_18, pw_10_18, cp_10_20, pw_10_20, cp_10_29, pw_10_29, cp_10_30, pw_10_30, tFld, HO.ins.injEq, look_t, look_c, T.cl_Form, T.nt_Form, T.nc_Form, ha1, hb1]
    refine mk_T e1 ((ht.im (Im.of s1)).append (hu.im (Im.of s1))) (by rw [List.length_append]; omega) (fun t hm => ?_) fun x H3 xs nx s3 cn hw hf => k x H3 xs (s1.free nx) (s1.trans s3) cn (fun m => by rw [hw, wt_append]) hf
    rcases List.mem_append.mp hm with z | z
    · exact fb.isq pl t z
    · exact gb.isq pl t z
/-! x - y -/
def spSub (C : Addr) : Sp := fun vs H Q _ => ∃ (a b : Addr) (N : List Str) (ts us : List Trm) (c d : Int), vs = [.ref a, .ref b] ∧ FormAt C H a ts c ∧ FormAt C H b us d ∧ Pool N ∧ FB N 2900 ts c ∧ FB N 2900 us d ∧
  ∀ x H' xs, H x = none → Same H H' → Canon xs → (∀ m, wt xs m = wt ts m - wt us m) → FormAt C H' x xs (c - d) → Q (.ref x) H'
theorem sc_Form___sub__ : FnScope ["self", "other"] ["self", "other"] (defScope s_Form___sub__) := ⟨rfl, rfl, rfl, by decide +kernel, rfl, by decide +kernel, by decide +kernel⟩
theorem ok_Form___sub__ (T : Txt K mg) : FnOk P w K mg base CX0 6 (He.ma K (He.ga K "Form") "__sub__") (fdOf K (He.ma K (He.ga K "Form") "__sub__")) ["self", "other"] (spSub (He.ga K "Form")) := by
  refine T.F_Form___sub__.ok sc_Form___sub__ (fun vs H Q E h => ?_) (fun cdv A outer s H vs Q E hr h => ?_)
  · obtain ⟨_, _, _, _, _, _, _, rfl, _⟩ := h
    rfl
  · obtain ⟨a, b, N, ts, us, c, d, rfl, hA, hB, pl, fb, gb, k⟩ := h
    refine ⟨_, PSs.nox (pss_one (ps_ret (pe_op (op_ownC (op := .Add) T.o_add T.x_selfFirst (rawN (ok_Form___add__ T) T.b_Form___add__) (hr.mono (by decide)) pass0) (pv 0) (pe_un (un_own T.o_neg (rawN (ok_Form___neg__ T) T.b_Form___neg__) (hr.mono (by decide)) pass0) (pv 1))))), ?_⟩
    obtain ⟨dx, r, vs, ha, _⟩ := id hA
    obtain ⟨dy, q, ws, hb, _⟩ := id hB
    simp only [rIsO, isO_int, isO_str, isO_bl, isO_non, isO_ref, isOO_ins, isOO_lst, isOO_tup, isOO_dK, tMethR, StX.tMakeR, cxOf_K, tDNewK, tCallR, tNever, tSeq, tAsg, gName, tPar, tVar, tC, tOp, rI0, rI, rU, tUn, rEq, rNe, tTest, tB, tAnd, tOr, tNot, tAndV, tOrV, tNotV, tIf, tIfS, tRet, tRetN, tNext, tDrop, tCons, tNil, tCB, tCall, tTup, tLst, rIxLH, rIxTH, gSub, rSetL, tPart, tNoPart, tSl, tBM, tBM0, L2.start, sc_ii, sc_ss, sc_bb, sc_nn, sc_ni, sc_in, sc_ns, sc_sn, sc_is, sc_si, eq_self, tChain, List.map_cons, List.map_nil, List.replicate_succ, List.replicate_zero, List.length_cons, List.length_nil, Nat.reduceAdd, Nat.reduceSub, Nat.zero_add, Nat.sub_self, Nat.add_sub_cancel, List.cons_append, List.nil_append, List.append_nil, List.getElem?_cons_zero, List.getElem?_cons_succ, List.set_cons_zero, List.set_cons_succ, Option.some.injEq, V.int.injEq, V.ref.injEq, V.bl.injEq, V.str.injEq, List.cons.injEq, HO.lst.injEq, HO.tup.injEq, and_true, true_and, exists_eq_left', exists_eq_left, exists_eq', exists_eq, exists_eq_right, exists_eq_right', exists_and_left, exists_and_right, and_assoc, upd_same, reduceCtorEq, false_and, and_false, exists_false, or_false, false_or, at0, at1, atM1, sg_inj, dot_eq, plus_eq, minus_eq, rIxS, at2, at3, at4, at5, ix0, ix1, ix2, ix3, upd_upd, decide_eq_true_eq, Int.reduceLT, Int.reduceLE, Int.reduceAdd, Int.reduceSub, Int.reduceNeg, Int.reduceMul, Int.reducePow, Int.reduceEq, decide_true, decide_false, Int.cast_ofNat_Int, Int.natCast_zero, Int.natCast_one, Nat.reduceEqDiff, Nat.reduceLeDiff, rIsB, tyN_non, tyN_bl, tyN_int, tyN_str, tyN_ref, tyO_lst, tyO_tup, tyO_dK, tyO_dT, V.ty.injEq, ite_true, ite_false, if_true, if_false, Bool.not_true, Bool.not_false, Bool.false_eq_true, kb_int_int, kb_int_bool, kb_int_str, kb_int_tuple, kb_int_list, kb_int_dict, kb_bool_int, kb_bool_bool, kb_bool_str, kb_bool_tuple, kb_bool_list, kb_bool_dict, kb_str_int, kb_str_bool, kb_str_str, kb_str_tuple, kb_str_list, kb_str_dict, kb_NoneType_int, kb_NoneType_bool, kb_NoneType_str, kb_NoneType_tuple, kb_NoneType_list, kb_NoneType_dict, kb_list_int, kb_list_bool, kb_list_str, kb_list_tuple, kb_list_list, kb_list_dict, kb_tuple_int, kb_tuple_bool, kb_tuple_str, kb_tuple_tuple, kb_tuple_list, kb_tuple_dict, kb_dict_int, kb_dict_bool, kb_dict_str, kb_dict_tuple, kb_dict_list, kb_dict_dict, cp_2_53, pw_2_53, cp_10_9, pw_10_9, cp_10_10, pw_10_10, cp_10_18, pw_10_18, cp_10_20, pw_10_20, cp_10_29, pw_10_29, cp_10_30, pw_10_30, tFld, HO.ins.injEq, look_t, look_c, T.cl_Form, T.nt_Form, T.nc_Form, hb]
    have s1' : Sm 3000 (-1) := Sm.mono (n := 1) (by unfold Sm; decide) (by decide)
    refine ⟨b, rfl, b, N, us, d, -1, rfl, hB, pl, gb.mono (by decide), s1', fun x H1 xs nx s1 cn hw hf => ?_⟩
    obtain ⟨dz, r2, vs2, hx, _⟩ := id hf
    have e : ∀ m, wt xs m = -wt us m := fun m => by rw [hw]; omega
    refine ⟨x, rfl, ⟨_, _, s1 _ _ ha⟩, ⟨_, _, hx⟩, a, x, N, ts, xs, c, d * -1, rfl, hA.im (Im.of s1), hf, pl, fb.mono (by decide), FB.of cn e (fun n hn => gb.wn (by omega)) (fun n => ((gb.wb n).neg).mono (by decide)) ?_, fun y H2 ys ny s2 cn2 hw2 hf2 => k y H2 ys (s1.free ny) (s1.trans s2) cn2 (fun m => by rw [hw2, e]; omega) ?_⟩
    · rw [Int.mul_neg, Int.mul_one]; exact gb.bc.neg.mono (by decide)
    · rw [Int.mul_neg, Int.mul_one, ← Int.sub_eq_add_neg] at hf2; exact hf2
/-! x[n] -/
def spGet (C : Addr) : Sp := fun vs H Q _ => ∃ (a : Addr) (ts : List Trm) (c : Int) (n : Str), vs = [.ref a, .str n] ∧ FormAt C H a ts c ∧ Canon ts ∧ Q (.int (wt ts n)) H
theorem sc_Form___getitem__ : FnScope ["self", "name", "known", "weight"] ["self", "name"] (defScope s_Form___getitem__) := ⟨rfl, rfl, rfl, by decide +kernel, rfl, by decide +kernel, by decide +kernel⟩
theorem ok_Form___getitem__ (T : Txt K mg) : FnOk P w K mg base CX0 1 (He.ma K (He.ga K "Form") "__getitem__") (fdOf K (He.ma K (He.ga K "Form") "__getitem__")) ["self", "name"] (spGet (He.ga K "Form")) := by
  refine T.F_Form___getitem__.ok sc_Form___getitem__ (fun vs H Q E h => ?_) (fun cdv A outer s H vs Q E hr h => ?_)
  · obtain ⟨_, _, _, _, rfl, _⟩ := h
    rfl
  · obtain ⟨a, ts, c, n, rfl, ⟨dx, r, vs, ha, hr1, ht⟩, cn, k⟩ := h
    refine ⟨_, PSs.nox (pss_cons (ps_for PassesOwn.never rfl (pi_tup (pe_fld (pv 0) rfl)) (pg_tup (by rfl) (pgs_cons (pg_name (i := 2) sc_Form___getitem__.nd rfl (Or.inl rfl)) (pgs_cons (pg_name (i := 3) sc_Form___getitem__.nd rfl (Or.inl rfl)) pgs_nil))) (pss_one (ps_if (pt_cmpR op_eq (pv 2) (pv 1) (nomark _)) (pss_one (ps_ret (pv 3))) pss_nil)))
      (pss_one (ps_ret pe_int))), ?_⟩
    simp only [rIsO, isO_int, isO_str, isO_bl, isO_non, isO_ref, isOO_ins, isOO_lst, isOO_tup, isOO_dK, tMethR, StX.tMakeR, cxOf_K, tDNewK, tCallR, tNever, tSeq, tAsg, gName, tPar, tVar, tC, tOp, rI0, rI, rU, tUn, rEq, rNe, tTest, tB, tAnd, tOr, tNot, tAndV, tOrV, tNotV, tIf, tIfS, tRet, tRetN, tNext, tDrop, tCons, tNil, tCB, tCall, tTup, tLst, rIxLH, rIxTH, gSub, rSetL, tPart, tNoPart, tSl, tBM, tBM0, L2.start, sc_ii, sc_ss, sc_bb, sc_nn, sc_ni, sc_in, sc_ns, sc_sn, sc_is, sc_si, eq_self, tChain, List.map_cons, List.map_nil, List.replicate_succ, List.replicate_zero, List.length_cons, List.length_nil, Nat.reduceAdd, Nat.reduceSub, Nat.zero_add, Nat.sub_self, Nat.add_sub_cancel, List.cons_append, List.nil_append, List.append_nil, List.getElem?_cons_zero, List.getElem?_cons_succ, List.set_cons_zero, List.set_cons_succ, Option.some.injEq, V.int.injEq, V.ref.injEq, V.bl.injEq, V.str.injEq, List.cons.injEq, HO.lst.injEq, HO.tup.injEq, and_true, true_and, exists_eq_left', exists_eq_left, exists_eq', exists_eq, exists_eq_right, exists_eq_right', exists_and_left, exists_and_right, and_assoc, upd_same, reduceCtorEq, false_and, and_false, exists_false, or_false, false_or, at0, at1, atM1, sg_inj, dot_eq, plus_eq, minus_eq, rIxS, at2, at3, at4, at5, ix0, ix1, ix2, ix3, upd_upd, decide_eq_true_eq, Int.reduceLT, Int.reduceLE, Int.reduceAdd, Int.reduceSub, Int.reduceNeg, Int.reduceMul, Int.reducePow, Int.reduceEq, decide_true, decide_false, Int.cast_ofNat_Int, Int.natCast_zero, Int.natCast_one, Nat.reduceEqDiff, Nat.reduceLeDiff, rIsB, tyN_non, tyN_bl, tyN_int, tyN_str, tyN_ref, tyO_lst, tyO_tup, tyO_dK, tyO_dT, V.ty.injEq, ite_true, ite_false, if_true, if_false, Bool.not_true, Bool.not_false, Bool.false_eq_true, kb_int_int, kb_int_bool, kb_int_str, kb_int_tuple, kb_int_list, kb_int_dict, kb_bool_int, kb_bool_bool, kb_bool_str, kb_bool_tuple, kb_bool_list, kb_bool_dict, kb_str_int, kb_str_bool, kb_str_str, kb_str_tuple, kb_str_list, kb_str_dict, kb_NoneType_int, kb_NoneType_bool, kb_NoneType_str, kb_NoneType_tuple, kb_NoneType_list, kb_NoneType_dict, kb_list_int, kb_list_bool, kb_list_str, kb_list_tuple, kb_list_list, kb_list_dict, kb_tuple_int, kb_tuple_bool, kb_tuple_str, kb_tuple_tuple, kb_tuple_list, kb_tuple_dict, kb_dict_int, kb_dict_bool, kb_dict_str, kb_dict_tuple, kb_dict_list, kb_dict_dict, cp_2_53, pw_2_53, cp_10_9, pw_10_9, cp_10_10, pw_10_10, cp_10_18, pw_10_18, cp_10_20, pw_10_20, cp_10_29, pw_10_29, cp_10_30, pw_10_30, tFld, HO.ins.injEq, look_t, look_c, T.cl_Form, T.nt_Form, T.nc_Form]
    refine ⟨_, rfl, a, _, _, _, _, rfl, ha, T.cl_Form, T.nt_Form, look_t _ _, r, rfl, ⟨_, .inl (.inl hr1)⟩, for_it (walk_tup (xs := vs)) (fun i σ' H' => ∃ y z, σ' = [some (.ref a), some (.str n), y, z] ∧ H' = H ∧ n ∉ (ts.take i).map (·.1)) ⟨none, none, rfl, rfl, by simp⟩ ?_ ?_ ?_⟩
    · rintro i σ' H' _ ⟨y, z, rfl, rfl, _⟩
      exact .inl (.inl hr1)
    · rintro i x σ' H1 H2 hi ⟨y, z, rfl, rfl, hni⟩ ⟨rfl, hx⟩
      obtain ⟨t, q, ht', rfl, hq⟩ := ht.at hx
      refine g_pair (t := t) ⟨q, rfl, hq⟩ ?_
      simp only [rIsO, isO_int, isO_str, isO_bl, isO_non, isO_ref, isOO_ins, isOO_lst, isOO_tup, isOO_dK, tMethR, StX.tMakeR, cxOf_K, tDNewK, tCallR, tNever, tSeq, tAsg, gName, tPar, tVar, tC, tOp, rI0, rI, rU, tUn, rEq, rNe, tTest, tB, tAnd, tOr, tNot, tAndV, tOrV, tNotV, tIf, tIfS, tRet, tRetN, tNext, tDrop, tCons, tNil, tCB, tCall, tTup, tLst, rIxLH, rIxTH, gSub, rSetL, tPart, tNoPart, tSl, tBM, tBM0, L2.start, sc_ii, sc_ss, sc_bb, sc_nn, sc_ni, sc_in, sc_ns, sc_sn, sc_is, sc_si, eq_self, tChain, List.map_cons, List.map_nil, List.replicate_succ, List.replicate_zero, List.length_cons, List.length_nil, Nat.reduceAdd, Nat.reduceSub, Nat.zero_add, Nat.sub_self, Nat.add_sub_cancel, List.cons_append, List.nil_append, List.append_nil, List.getElem?_cons_zero, List.getElem?_cons_succ, List.set_cons_zero, List.set_cons_succ, Option.some.injEq, V.int.injEq, V.ref.injEq, V.bl.injEq, V.str.injEq, List.cons.injEq, HO.lst.injEq, HO.tup.injEq, and_true, true_and, exists_eq_left', exists_eq_left, exists_eq', exists_eq, exists_eq_right, exists_eq_right', exists_and_left, exists_and_right, and_assoc, upd_same, reduceCtorEq, false_and, and_false, exists_false, or_false, false_or, at0, at1, atM1, sg_inj, dot_eq, plus_eq, minus_eq, rIxS, at2, at3, at4, at5, ix0, ix1, ix2, ix3, upd_upd, decide_eq_true_eq, Int.reduceLT, Int.reduceLE, Int.reduceAdd, Int.reduceSub, Int.reduceNeg, Int.reduceMul, Int.reducePow, Int.reduceEq, decide_true, decide_false, Int.cast_ofNat_Int, Int.natCast_zero, Int.natCast_one, Nat.reduceEqDiff, Nat.reduceLeDiff, rIsB, tyN_non, tyN_bl, tyN_int, tyN_str, tyN_ref, tyO_lst, tyO_tup, tyO_dK, tyO_dT, V.ty.injEq, ite_true, ite_false, if_true, if_false, Bool.not_true, Bool.not_false, Bool.false_eq_true, kb_int_int, kb_int_bool, kb_int_str, kb_int_tuple, kb_int_list, kb_int_dict, kb_bool_int, kb_bool_bool, kb_bool_str, kb_bool_tuple, kb_bool_list, kb_bool_dict, kb_str_int, kb_str_bool, kb_str_str, kb_str_tuple, kb_str_list, kb_str_dict, kb_NoneType_int, kb_NoneType_bool, kb_NoneType_str, kb_NoneType_tuple, kb_NoneType_list, kb_NoneType_dict, kb_list_int, kb_list_bool, kb_list_str, kb_list_tuple, kb_list_list, kb_list_dict, kb_tuple_int, kb_tuple_bool, kb_tuple_str, kb_tuple_tuple, kb_tuple_list, kb_tuple_dict, kb_dict_int, kb_dict_bool, kb_dict_str, kb_dict_tuple, kb_dict_list, kb_dict_dict, cp_2_53, pw_2_53, cp_10_9, pw_10_9, cp_10_10, pw_10_10, cp_10_18, pw_10_18, cp_10_20, pw_10_20, cp_10_29, pw_10_29, cp_10_30, pw_10_30, tFld, HO.ins.injEq, look_t, look_c, T.cl_Form, T.nt_Form, T.nc_Form]
      refine ite2 (fun e => ?_) fun e => ?_
      · rw [← e, wt_one cn.nd (List.mem_of_getElem? ht')] at k; exact k
      · rw [List.take_add_one, ht', List.map_append]
        intro z
        rcases List.mem_append.mp z with z | z
        · exact hni z
        · have z2 : n = t.1 := by simpa using z
          exact e z2.symm
    · rintro σ' H1 ⟨y, z, rfl, rfl, hni⟩
      rw [ht.1, List.take_length] at hni
      simp only [rIsO, isO_int, isO_str, isO_bl, isO_non, isO_ref, isOO_ins, isOO_lst, isOO_tup, isOO_dK, tMethR, StX.tMakeR, cxOf_K, tDNewK, tCallR, tNever, tSeq, tAsg, gName, tPar, tVar, tC, tOp, rI0, rI, rU, tUn, rEq, rNe, tTest, tB, tAnd, tOr, tNot, tAndV, tOrV, tNotV, tIf, tIfS, tRet, tRetN, tNext, tDrop, tCons, tNil, tCB, tCall, tTup, tLst, rIxLH, rIxTH, gSub, rSetL, tPart, tNoPart, tSl, tBM, tBM0, L2.start, sc_ii, sc_ss, sc_bb, sc_nn, sc_ni, sc_in, sc_ns, sc_sn, sc_is, sc_si, eq_self, tChain, List.map_cons, List.map_nil, List.replicate_succ, List.replicate_zero, List.length_cons, List.length_nil, Nat.reduceAdd, Nat.reduceSub, Nat.zero_add, Nat.sub_self, Nat.add_sub_cancel, List.cons_append, List.nil_append, List.append_nil, List.getElem?_cons_zero, List.getElem?_cons_succ, List.set_cons_zero, List.set_cons_succ, Option.some.injEq, V.int.injEq, V.ref.injEq, V.bl.injEq, V.str.injEq, List.cons.injEq, HO.lst.injEq, HO.tup.injEq, and_true, true_and, exists_eq_left', exists_eq_left, exists_eq', exists_eq, exists_eq_right, exists_eq_right', exists_and_left, exists_and_right, and_assoc, upd_same, reduceCtorEq, false_and, and_false, exists_false, or_false, false_or, at0, at1, atM1, sg_inj, dot_eq, plus_eq, minus_eq, rIxS, at2, at3, at4, at5, ix0, ix1, ix2, ix3, upd_upd, decide_eq_true_eq, Int.reduceLT, Int.reduceLE, Int.reduceAdd, Int.reduceSub, Int.reduceNeg, Int.reduceMul, Int.reducePow, Int.reduceEq, decide_true, decide_false, Int.cast_ofNat_Int, Int.natCast_zero, Int.natCast_one, Nat.reduceEqDiff, Nat.reduceLeDiff, rIsB, tyN_non, tyN_bl, tyN_int, tyN_str, tyN_ref, tyO_lst, tyO_tup, tyO_dK, tyO_dT, V.ty.injEq, ite_true, ite_false, if_true, if_false, Bool.not_true, Bool.not_false, Bool.false_eq_true, kb_int_int, kb_int_bool, kb_int_str, kb_int_tuple, kb_int_list, kb_int_dict, kb_bool_int, kb_bool_bool, kb_bool_str, kb_bool_tuple, kb_bool_list, kb_bool_dict, kb_str_int, kb_str_bool, kb_str_str, kb_str_tuple, kb_str_list, kb_str_dict, kb_NoneType_int, kb_NoneType_bool, kb_NoneType_str, kb_NoneType_tuple, kb_NoneType_list, kb_NoneType_dict, kb_list_int, kb_list_bool, kb_list_str, kb_list_tuple, kb_list_list, kb_list_dict, kb_tuple_int, kb_tuple_bool, kb_tuple_str, kb_tuple_tuple, kb_tuple_list, kb_tuple_dict, kb_dict_int, kb_dict_bool, kb_dict_str, kb_dict_tuple, kb_dict_list, kb_dict_dict, cp_2_53, pw_2_53, cp_10_9, pw_10_9, cp_10_10, pw_10_10, cp_10_18, pw_10_18, cp_10_20, pw_10_20, cp_10_29, pw_10_29, cp_10_30, pw_10_30, tFld, HO.ins.injEq, look_t, look_c, T.cl_Form, T.nt_Form, T.nc_Form]
      rw [wt_none hni] at k; exact k
/-! x.put(n, y) -/
def spPut (C : Addr) : Sp := fun vs H Q _ => ∃ (a b : Addr) (N : List Str) (ts us : List Trm) (c d : Int) (n : Str), vs = [.ref a, .str n, .ref b] ∧ FormAt C H a ts c ∧ FormAt C H b us d ∧ Pool N ∧ FB N 1000 ts c ∧ FB N 1000 us d ∧
  ∀ x H' xs, H x = none → Same H H' → Canon xs → (∀ m, wt xs m = (if m = n then 0 else wt ts m) + wt us m * wt ts n) → FormAt C H' x xs (c + d * wt ts n) → Q (.ref x) H'
theorem sc_Form_put : FnScope ["self", "name", "form", "rest", "term"] ["self", "name", "form"] (defScope s_Form_put) := ⟨rfl, rfl, rfl, by decide +kernel, rfl, by decide +kernel, by decide +kernel⟩
theorem ok_Form_put (T : Txt K mg) : FnOk P w K mg base CX0 6 (He.ma K (He.ga K "Form") "put") (fdOf K (He.ma K (He.ga K "Form") "put")) ["self", "name", "form"] (spPut (He.ga K "Form")) := by
  refine T.F_Form_put.ok sc_Form_put (fun vs H Q E h => ?_) (fun cdv A outer s H vs Q E hr h => ?_)
  · obtain ⟨_, _, _, _, _, _, _, _, rfl, _⟩ := h
    rfl
  · obtain ⟨a, b, N, ts, us, c, d, n, rfl, hA, hB, pl, fb, gb, k⟩ := h
    refine ⟨_, PSs.nox (pss_cons (ps_set (i := 3) sc_Form_put.nd rfl (Or.inl rfl) (StX.pe_makeR T.M_Form (ok_Form_mkL T) (hr.mono (by decide)) (by rfl) T.g_Form pass0 (pa_cons (pe_lc (own := [("term", 4)]) (g := gName 4) (by rfl) sc_Form_put.nd (pi_tup (pe_fld (pv 0) rfl)) (blkOk_by (own := [("term", 4)]) (N := ["self", "name", "form", "rest", "term"]) (sc := defScope s_Form_put) (by decide +kernel)) (fun _ _ _ _ _ => pg_name (i := 4) sc_Form_put.nd rfl (Or.inl rfl)) (fun _ _ _ _ _ => pts_one (pt_cmpR op_ne (pe_ix ixT (pv 4) pe_int (fun _ _ => rfl)) (pv 1) (nomark _))) (fun _ _ _ _ _ => (pv 4))) (pa_cons (pe_fld (pv 0) rfl) pa_nil))))
      (pss_one (ps_ret (pe_op (op_ownC (op := .Add) T.o_add T.x_selfFirst (rawN (ok_Form___add__ T) T.b_Form___add__) (hr.mono (by decide)) pass0) (pv 3) (pe_op (op_ownI (op := .Mult) T.o_mul T.x_selfFirst T.o_rmul.at_ (.inr ⟨_,rfl⟩) (He.eqO_ok T.x_intmul) (He.eqO_ok T.x_intrmul) (of_decide_eq_true T.x_subIF) (rawN (ok_Form___mul__ T) T.b_Form___mul__) (hr.mono (by decide)) pass0) (pv 2) (pe_ixO T.o_get T.x_fnget (rawN (ok_Form___getitem__ T) T.b_Form___getitem__) (hr.mono (by decide)) pass0 (pv 0) (pv 1))))))), ?_⟩
    obtain ⟨dx, r, vs, ha, hr1, ht⟩ := id hA
    obtain ⟨dy, q, ws, hb, _⟩ := id hB
    simp only [rIsO, isO_int, isO_str, isO_bl, isO_non, isO_ref, isOO_ins, isOO_lst, isOO_tup, isOO_dK, tMethR, StX.tMakeR, cxOf_K, tDNewK, tCallR, tNever, tSeq, tAsg, gName, tPar, tVar, tC, tOp, rI0, rI, rU, tUn, rEq, rNe, tTest, tB, tAnd, tOr, tNot, tAndV, tOrV, tNotV, tIf, tIfS, tRet, tRetN, tNext, tDrop, tCons, tNil, tCB, tCall, tTup, tLst, rIxLH, rIxTH, gSub, rSetL, tPart, tNoPart, tSl, tBM, tBM0, L2.start, sc_ii, sc_ss, sc_bb, sc_nn, sc_ni, sc_in, sc_ns, sc_sn, sc_is, sc_si, eq_self, tChain, List.map_cons, List.map_nil, List.replicate_succ, List.replicate_zero, List.length_cons, List.length_nil, Nat.reduceAdd, Nat.reduceSub, Nat.zero_add, Nat.sub_self, Nat.add_sub_cancel, List.cons_append, List.nil_append, List.append_nil, List.getElem?_cons_zero, List.getElem?_cons_succ, List.set_cons_zero, List.set_cons_succ, Option.some.injEq, V.int.injEq, V.ref.injEq, V.bl.injEq, V.str.injEq, List.cons.injEq, HO.lst.injEq, HO.tup.injEq, and_true, true_and, exists_eq_left', exists_eq_left, exists_eq', exists_eq, exists_eq_right, exists_eq_right', exists_and_left, exists_and_right, and_assoc, upd_same, reduceCtorEq, false_and, and_false, exists_false, or_false, false_or, at0, at1, atM1, sg_inj, dot_eq, plus_eq, minus_eq, rIxS, at2, at3, at4, at5, ix0, ix1, ix2, ix3, upd_upd, decide_eq_true_eq, Int.reduceLT, Int.reduceLE, Int.reduceAdd, Int.reduceSub, Int.reduceNeg, Int.reduceMul, Int.reducePow, Int.reduceEq, decide_true, decide_false, Int.cast_ofNat_Int, Int.natCast_zero, Int.natCast_one, Nat.reduceEqDiff, Nat.reduceLeDiff, rIsB, tyN_non, tyN_bl, tyN_int, tyN_str, tyN_ref, tyO_lst, tyO_tup, tyO_dK, tyO_dT, V.ty.injEq, ite_true, ite_false, if_true, if_false, Bool.not_true, Bool.not_false, Bool.false_eq_true, kb_int_int, kb_int_bool, kb_int_str, kb_int_tuple, kb_int_list, kb_int_dict, kb_bool_int, kb_bool_bool, kb_bool_str, kb_bool_tuple, kb_bool_list, kb_bool_dict, kb_str_int, kb_str_bool, kb_str_str, kb_str_tuple, kb_str_list, kb_str_dict, kb_NoneType_int, kb_NoneType_bool, kb_NoneType_str, kb_NoneType_tuple, kb_NoneType_list, kb_NoneType_dict, kb_list_int, kb_list_bool, kb_list_str, kb_list_tuple, kb_list_list, kb_list_dict, kb_tuple_int, kb_tuple_bool, kb_tuple_str, kb_tuple_tuple, kb_tuple_list, kb_tuple_dict, kb_dict_int, kb_dict_bool, kb_dict_str, kb_dict_tuple, kb_dict_list, kb_dict_dict, cp_2_53, pw_2_53, cp_10_9, pw_10_9, cp_10_10, pw_10_10, cp_10_18, pw_10_18, cp_10_20, pw_10_20, cp_10_29, pw_10_29, cp_10_30, pw_10_30]
    have hl : ts.length ≤ 12 := by have := fb.len; have := pl.l; omega
    have fl : ∀ t ∈ ts.filter (fun t => decide (t.1 ≠ n)), t ∈ ts := fun t h => (List.mem_filter.mp h).1
    refine ⟨_, rfl, a, _, _, _, _, rfl, ha, T.cl_Form, T.nt_Form, look_t _ _, r, rfl, ⟨_, .inl (.inl hr1)⟩, fun D nD => lc_it (walk_tup (xs := vs)) (fun i H' => Same H H' ∧ ∃ us, H' D = some (.lst us) ∧ Trms H' us ((ts.take i).filter fun t => decide (t.1 ≠ n))) ⟨same_upd nD, [], upd_same, Trms.nil⟩ ?_ ?_ ?_⟩
    · rintro i H' _ ⟨sm, _⟩
      exact .inl (.inl (sm _ _ hr1))
    · rintro i x H1 H2 hi ⟨sm, us, hD, hv⟩ ⟨rfl, hx⟩
      obtain ⟨t, p, ht', rfl, hp⟩ := ht.at hx
      have hp2 := sm _ _ hp
      refine ⟨rfl, ?_⟩
      simp only [rIsO, isO_int, isO_str, isO_bl, isO_non, isO_ref, isOO_ins, isOO_lst, isOO_tup, isOO_dK, tMethR, StX.tMakeR, cxOf_K, tDNewK, tCallR, tNever, tSeq, tAsg, gName, tPar, tVar, tC, tOp, rI0, rI, rU, tUn, rEq, rNe, tTest, tB, tAnd, tOr, tNot, tAndV, tOrV, tNotV, tIf, tIfS, tRet, tRetN, tNext, tDrop, tCons, tNil, tCB, tCall, tTup, tLst, rIxLH, rIxTH, gSub, rSetL, tPart, tNoPart, tSl, tBM, tBM0, L2.start, sc_ii, sc_ss, sc_bb, sc_nn, sc_ni, sc_in, sc_ns, sc_sn, sc_is, sc_si, eq_self, tChain, List.map_cons, List.map_nil, List.replicate_succ, List.replicate_zero, List.length_cons, List.length_nil, Nat.reduceAdd, Nat.reduceSub, Nat.zero_add, Nat.sub_self, Nat.add_sub_cancel, List.cons_append, List.nil_append, List.append_nil, List.getElem?_cons_zero, List.getElem?_cons_succ, List.set_cons_zero, List.set_cons_succ, Option.some.injEq, V.int.injEq, V.ref.injEq, V.bl.injEq, V.str.injEq, List.cons.injEq, HO.lst.injEq, HO.tup.injEq, and_true, true_and, exists_eq_left', exists_eq_left, exists_eq', exists_eq, exists_eq_right, exists_eq_right', exists_and_left, exists_and_right, and_assoc, upd_same, reduceCtorEq, false_and, and_false, exists_false, or_false, false_or, at0, at1, atM1, sg_inj, dot_eq, plus_eq, minus_eq, rIxS, at2, at3, at4, at5, ix0, ix1, ix2, ix3, upd_upd, decide_eq_true_eq, Int.reduceLT, Int.reduceLE, Int.reduceAdd, Int.reduceSub, Int.reduceNeg, Int.reduceMul, Int.reducePow, Int.reduceEq, decide_true, decide_false, Int.cast_ofNat_Int, Int.natCast_zero, Int.natCast_one, Nat.reduceEqDiff, Nat.reduceLeDiff, rIsB, tyN_non, tyN_bl, tyN_int, tyN_str, tyN_ref, tyO_lst, tyO_tup, tyO_dK, tyO_dT, V.ty.injEq, ite_true, ite_false, if_true, if_false, Bool.not_true, Bool.not_false, Bool.false_eq_true, kb_int_int, kb_int_bool, kb_int_str, kb_int_tuple, kb_int_list, kb_int_dict, kb_bool_int, kb_bool_bool, kb_bool_str, kb_bool_tuple, kb_bool_list, kb_bool_dict, kb_str_int, kb_str_bool, kb_str_str, kb_str_tuple, kb_str_list, kb_str_dict, kb_NoneType_int, kb_NoneType_bool, kb_NoneType_str, kb_NoneType_tuple, kb_NoneType_list, kb_NoneType_dict, kb_list_int, kb_list_bool, kb_list_str, kb_list_tuple, kb_list_list, kb_list_dict, kb_tuple_int, kb_tuple_bool, kb_tuple_str, kb_tuple_tuple, kb_tuple_list, kb_tuple_dict, kb_dict_int, kb_dict_bool, kb_dict_str, kb_dict_tuple, kb_dict_list, kb_dict_dict, cp_2_53, pw_2_53, cp_10_9, pw_10_9, cp_10_10, pw_10_10, cp_10_18, pw_10_18, cp_10_20, pw_10_20, cp_10_29, pw_10_29, cp_10_30, pw_10_30, wipe, hp2]
      rw [List.take_add_one, ht', List.filter_append]
      by_cases e : t.1 = n
      · rw [decide_eq_true e]
        simp only [Bool.not_true, Bool.false_eq_true, if_false]
        refine ⟨sm, us, hD, ?_⟩
        simp only [Option.toList_some, List.filter_cons, List.filter_nil, ne_eq, e, not_true, decide_false, Bool.false_eq_true, if_false, List.append_nil]
        exact hv
      · rw [decide_eq_false e]
        simp only [Bool.not_false, if_true]
        refine ⟨us, hD, ?_, fun b o hb' => ?_, ?_⟩
        · rw [hv.1]
          refine small1000 (Nat.le_trans (List.length_filter_le _ _) ?_)
          rw [List.length_take]; omega
        · have h2 := sm _ _ hb'
          rw [upd_ne]; · exact h2
          rintro rfl; rw [nD] at hb'; cases hb'
        · simp only [Option.toList_some, List.filter_cons, List.filter_nil, ne_eq, e, not_false_iff, decide_true, if_true]
          exact (hv.snoc (t := t) ⟨p, rfl, hp2⟩).im (Im.lst hD)
    · rintro H1 ⟨s1, us', hD, hv⟩
      rw [ht.1, List.take_length] at hv
      have ha1 := s1 _ _ ha
      refine ⟨_, rfl, a, _, _, _, _, rfl, ha1, T.cl_Form, T.nc_Form, look_c _ _, ?_⟩
      have hlf := List.length_filter_le (fun t : Trm => decide (t.1 ≠ n)) ts
      refine mk_L hD hv (by omega) (fun t h => fb.isq pl t (fl t h)) fun x H2 xs nx s2 cn hw hf => ?_
      have s02 := s1.trans s2
      have wf : ∀ (l : List Trm) (m : Str), wt (l.filter fun t => decide (t.1 ≠ n)) m = if m = n then 0 else wt l m := by
        intro l m
        induction l with
        | nil => simp [wt]
        | cons t u ih =>
          by_cases e : t.1 = n
          · rw [List.filter_cons, if_neg (by simp [e]), ih]
            by_cases e2 : m = n
            · rw [if_pos e2, if_pos e2]
            · rw [if_neg e2, if_neg e2]
              simp only [wt]; rw [if_neg (by rw [e]; exact fun z => e2 z.symm)]; omega
          · rw [List.filter_cons, if_pos (by simp [e])]
            simp only [wt, ih]
            by_cases e2 : m = n
            · rw [if_pos e2, if_pos e2, if_neg (by rw [e2]; exact e)]; rfl
            · rw [if_neg e2, if_neg e2]
      have hw' : ∀ m, wt xs m = if m = n then 0 else wt ts m := fun m => by rw [hw, wf]
      obtain ⟨dz, r2, vs2, hx, _⟩ := id hf
      have f1 : ∀ m, (if m = n then 0 else wt ts m) ≠ 0 → m ∈ N := by
        intro m hm
        by_cases e : m = n
        · rw [if_pos e] at hm; exact absurd rfl hm
        · rw [if_neg e] at hm; exact fb.wn hm
      have f2 : ∀ m, Sm 3000 (if m = n then 0 else wt ts m) := by
        intro m
        by_cases e : m = n
        · rw [if_pos e]; exact Sm.zero
        · rw [if_neg e]; exact (fb.wb m).mono (by decide)
      have fx : FB N 3000 xs c := FB.of cn hw' f1 f2 (fb.bc.mono (by decide))
      refine ⟨⟨_, _, s02 _ _ ha⟩, a, ts, c, n, rfl, hA.im (Im.of s02), fb.cn, ?_⟩
      refine ⟨_, rfl, ⟨_, _, s02 _ _ hb⟩, b, N, us, d, wt ts n, rfl, hB.im (Im.of s02), pl, gb.mono (by decide), (fb.wb n).mono (by decide), fun y H3 ys ny s3 cn3 hw3 hf3 => ?_⟩
      obtain ⟨dw, r3, vs3, hy, _⟩ := id hf3
      have fy : FB N 3000 ys (d * wt ts n) := FB.of cn3 hw3 (fun m hm => gb.wn (fun z => hm (by rw [z, Int.zero_mul]))) (fun m => ((gb.wb m).mul (fb.wb n)).mono (by decide)) ((gb.bc.mul (fb.wb n)).mono (by decide))
      refine ⟨y, rfl, ⟨_, _, s3 _ _ hx⟩, ⟨_, _, hy⟩, x, y, N, xs, ys, c, d * wt ts n, rfl, hf.im (Im.of s3), hf3, pl, fx, fy, fun z H4 zs nz s4 cn4 hw4 hf4 => ?_⟩
      have s34 := s02.trans s3
      exact k z H4 zs (s34.free nz) (s34.trans s4) cn4 (fun m => by rw [hw4, hw', hw3]) hf4
end
end K0
namespace K0
open PySem PySem.Spec PyProof.Rows L2
/-! ratios -/
theorem quo_sm {n : Nat} {t d : Int} (hd : d ≠ 0) (h : d ∣ t) (s : Sm n t) : Sm n (t.fdiv d) := by
  obtain ⟨q, rfl⟩ := h
  rw [Int.mul_fdiv_cancel_left q hd]
  refine s.le ?_
  rw [Int.natAbs_mul]
  exact Nat.le_mul_of_pos_left _ (by omega)
theorem den_dvd_l (t b : Int) : den t b ∣ t := by
  unfold den; split
  · exact Int.neg_dvd.mpr (Int.gcd_dvd_left ..)
  · exact Int.gcd_dvd_left ..
theorem den_dvd_r (t b : Int) : den t b ∣ b := by
  unfold den; split
  · exact Int.neg_dvd.mpr (Int.gcd_dvd_right ..)
  · exact Int.gcd_dvd_right ..
structure RB (n : Nat) (q : Rat) : Prop where
  a : Sm n q.num
  b : Sm n (q.den : Int)
theorem RB.mono {n m : Nat} {q : Rat} (h : RB n q) (l : n ≤ m) : RB m q := ⟨h.a.mono l, h.b.mono l⟩
theorem rb_div {n : Nat} {t b : Int} (hb : b ≠ 0) (st : Sm n t) (sb : Sm n b) : RB n (Rat.divInt t b) := by
  obtain ⟨e1, e2⟩ := low_rat (t := t) hb
  exact ⟨e1 ▸ quo_sm (den_ne hb) (den_dvd_l t b) st, e2 ▸ quo_sm (den_ne hb) (den_dvd_r t b) sb⟩
theorem rat_add (p q : Rat) : p + q = Rat.divInt (p.num * q.den + q.num * p.den) (p.den * q.den) := by
  rw [Rat.add_def', ← Rat.divInt_ofNat, Int.natCast_mul]
theorem den0 (q : Rat) : ((q.den : Nat) : Int) ≠ 0 := by have := q.den_nz; omega
theorem rb_add {n m : Nat} {p q : Rat} (h : RB n p) (g : RB m q) : RB (n + m + 1) (p + q) := by
  rw [rat_add]
  have e : max (n + m) (m + n) = n + m := by omega
  refine rb_div (Int.mul_ne_zero (den0 p) (den0 q)) ?_ ((h.b.mul g.b).mono (by omega))
  have := (h.a.mul g.b).add (g.a.mul h.b)
  rw [e] at this; exact this
theorem prT_int (c : Int) : prT (c : Rat) = .tup [.int c, .int 1] := rfl
section
variable {P : Program} {w : World} {K : PySem.W.Frag} {mg : Str → Option Value} {base : Heap}
def spGcd : Sp := fun vs H Q _ => ∃ a b : Int, vs = [.int a, .int b] ∧ Q (.int (Int.gcd a b)) H
theorem abs_nat (i : Int) : (if i < 0 then -i else i) = (i.natAbs : Int) := by omega
theorem sc_divisor_of : FnScope ["first", "second"] ["first", "second"] (defScope s_divisor_of) := ⟨rfl, rfl, rfl, by decide +kernel, rfl, by decide +kernel, by decide +kernel⟩
theorem ok_divisor_of (T : Txt K mg) : FnOk P w K mg base CX0 1 (He.ga K "divisor_of") (fdOf K (He.ga K "divisor_of")) ["first", "second"] (spGcd) := by
  refine T.F_divisor_of.ok sc_divisor_of (fun vs H Q E h => ?_) (fun cdv A outer s H vs Q E hr h => ?_)
  · obtain ⟨a, b, rfl, _⟩ := h
    rfl
  · obtain ⟨a, b, rfl, k⟩ := h
    refine ⟨_, PSs.nox (pss_cons (ps_par (i := 0) (j := 1) (by rfl) sc_divisor_of.nd rfl rfl (by decide) rfl rfl (pa_cons (pe_callB call_abs (by rfl) T.z_abs (by decide +kernel) (pa_cons (pv 0) pa_nil)) (pa_cons (pe_callB call_abs (by rfl) T.z_abs (by decide +kernel) (pa_cons (pv 1) pa_nil)) pa_nil)) (by rfl))
      (pss_cons (ps_while PassesOwn.never (pt_cmpR op_gt (pv 1) pe_int (nomark _)) (pss_one (ps_par (i := 0) (j := 1) (by rfl) sc_divisor_of.nd rfl rfl (by decide) rfl rfl (pa_cons (pv 1) (pa_cons (pe_op op_mod (pv 0) (pv 1)) pa_nil)) (by rfl))))
      (pss_one (ps_ret (pv 0))))), ?_⟩
    simp only [tDNotIn, tDIn, tDGet, Option.isSome_some, Option.isSome_none, rIsO, isO_int, isO_str, isO_bl, isO_non, isO_ref, isOO_ins, isOO_lst, isOO_tup, isOO_dK, tMethR, StX.tMakeR, cxOf_K, tDNewK, tCallR, tNever, tSeq, tAsg, gName, tPar, tVar, tC, tOp, rI0, rI, rU, tUn, rEq, rNe, tTest, tB, tAnd, tOr, tNot, tAndV, tOrV, tNotV, tIf, tIfS, tRet, tRetN, tNext, tDrop, tCons, tNil, tCB, tCall, tTup, tLst, rIxLH, rIxTH, gSub, rSetL, tPart, tNoPart, tSl, tBM, tBM0, L2.start, sc_ii, sc_ss, sc_bb, sc_nn, sc_ni, sc_in, sc_ns, sc_sn, sc_is, sc_si, eq_self, tChain, List.map_cons, List.map_nil, List.replicate_succ, List.replicate_zero, List.length_cons, List.length_nil, Nat.reduceAdd, Nat.reduceSub, Nat.zero_add, Nat.sub_self, Nat.add_sub_cancel, List.cons_append, List.nil_append, List.append_nil, List.getElem?_cons_zero, List.getElem?_cons_succ, List.set_cons_zero, List.set_cons_succ, Option.some.injEq, V.int.injEq, V.ref.injEq, V.bl.injEq, V.str.injEq, List.cons.injEq, HO.lst.injEq, HO.tup.injEq, and_true, true_and, exists_eq_left', exists_eq_left, exists_eq', exists_eq, exists_eq_right, exists_eq_right', exists_and_left, exists_and_right, and_assoc, upd_same, reduceCtorEq, false_and, and_false, exists_false, or_false, false_or, at0, at1, atM1, sg_inj, dot_eq, plus_eq, minus_eq, rIxS, at2, at3, at4, at5, ix0, ix1, ix2, ix3, upd_upd, decide_eq_true_eq, Int.reduceLT, Int.reduceLE, Int.reduceAdd, Int.reduceSub, Int.reduceNeg, Int.reduceMul, Int.reducePow, Int.reduceEq, decide_true, decide_false, Int.cast_ofNat_Int, Int.natCast_zero, Int.natCast_one, Nat.reduceEqDiff, Nat.reduceLeDiff, rIsB, tyN_non, tyN_bl, tyN_int, tyN_str, tyN_ref, tyO_lst, tyO_tup, tyO_dK, tyO_dT, V.ty.injEq, ite_true, ite_false, if_true, if_false, Bool.not_true, Bool.not_false, Bool.false_eq_true, kb_int_int, kb_int_bool, kb_int_str, kb_int_tuple, kb_int_list, kb_int_dict, kb_bool_int, kb_bool_bool, kb_bool_str, kb_bool_tuple, kb_bool_list, kb_bool_dict, kb_str_int, kb_str_bool, kb_str_str, kb_str_tuple, kb_str_list, kb_str_dict, kb_NoneType_int, kb_NoneType_bool, kb_NoneType_str, kb_NoneType_tuple, kb_NoneType_list, kb_NoneType_dict, kb_list_int, kb_list_bool, kb_list_str, kb_list_tuple, kb_list_list, kb_list_dict, kb_tuple_int, kb_tuple_bool, kb_tuple_str, kb_tuple_tuple, kb_tuple_list, kb_tuple_dict, kb_dict_int, kb_dict_bool, kb_dict_str, kb_dict_tuple, kb_dict_list, kb_dict_dict, cp_2_53, pw_2_53, cp_10_9, pw_10_9, cp_10_10, pw_10_10, cp_10_18, pw_10_18, cp_10_20, pw_10_20, cp_10_29, pw_10_29, cp_10_30, pw_10_30]
    refine ⟨fun m σ H' => ∃ x y : Nat, σ = [some (.int x), some (.int y)] ∧ H' = H ∧ Nat.gcd x y = Int.gcd a b ∧ m = y, ⟨_, a.natAbs, b.natAbs, ?_, rfl, rfl, rfl⟩, ?_⟩
    · rw [abs_nat, abs_nat]
    · rintro m σ H' ⟨x, y, rfl, rfl, hg, rfl⟩
      simp only [tDNotIn, tDIn, tDGet, Option.isSome_some, Option.isSome_none, rIsO, isO_int, isO_str, isO_bl, isO_non, isO_ref, isOO_ins, isOO_lst, isOO_tup, isOO_dK, tMethR, StX.tMakeR, cxOf_K, tDNewK, tCallR, tNever, tSeq, tAsg, gName, tPar, tVar, tC, tOp, rI0, rI, rU, tUn, rEq, rNe, tTest, tB, tAnd, tOr, tNot, tAndV, tOrV, tNotV, tIf, tIfS, tRet, tRetN, tNext, tDrop, tCons, tNil, tCB, tCall, tTup, tLst, rIxLH, rIxTH, gSub, rSetL, tPart, tNoPart, tSl, tBM, tBM0, L2.start, sc_ii, sc_ss, sc_bb, sc_nn, sc_ni, sc_in, sc_ns, sc_sn, sc_is, sc_si, eq_self, tChain, List.map_cons, List.map_nil, List.replicate_succ, List.replicate_zero, List.length_cons, List.length_nil, Nat.reduceAdd, Nat.reduceSub, Nat.zero_add, Nat.sub_self, Nat.add_sub_cancel, List.cons_append, List.nil_append, List.append_nil, List.getElem?_cons_zero, List.getElem?_cons_succ, List.set_cons_zero, List.set_cons_succ, Option.some.injEq, V.int.injEq, V.ref.injEq, V.bl.injEq, V.str.injEq, List.cons.injEq, HO.lst.injEq, HO.tup.injEq, and_true, true_and, exists_eq_left', exists_eq_left, exists_eq', exists_eq, exists_eq_right, exists_eq_right', exists_and_left, exists_and_right, and_assoc, upd_same, reduceCtorEq, false_and, and_false, exists_false, or_false, false_or, at0, at1, atM1, sg_inj, dot_eq, plus_eq, minus_eq, rIxS, at2, at3, at4, at5, ix0, ix1, ix2, ix3, upd_upd, decide_eq_true_eq, Int.reduceLT, Int.reduceLE, Int.reduceAdd, Int.reduceSub, Int.reduceNeg, Int.reduceMul, Int.reducePow, Int.reduceEq, decide_true, decide_false, Int.cast_ofNat_Int, Int.natCast_zero, Int.natCast_one, Nat.reduceEqDiff, Nat.reduceLeDiff, rIsB, tyN_non, tyN_bl, tyN_int, tyN_str, tyN_ref, tyO_lst, tyO_tup, tyO_dK, tyO_dT, V.ty.injEq, ite_true, ite_false, if_true, if_false, Bool.not_true, Bool.not_false, Bool.false_eq_true, kb_int_int, kb_int_bool, kb_int_str, kb_int_tuple, kb_int_list, kb_int_dict, kb_bool_int, kb_bool_bool, kb_bool_str, kb_bool_tuple, kb_bool_list, kb_bool_dict, kb_str_int, kb_str_bool, kb_str_str, kb_str_tuple, kb_str_list, kb_str_dict, kb_NoneType_int, kb_NoneType_bool, kb_NoneType_str, kb_NoneType_tuple, kb_NoneType_list, kb_NoneType_dict, kb_list_int, kb_list_bool, kb_list_str, kb_list_tuple, kb_list_list, kb_list_dict, kb_tuple_int, kb_tuple_bool, kb_tuple_str, kb_tuple_tuple, kb_tuple_list, kb_tuple_dict, kb_dict_int, kb_dict_bool, kb_dict_str, kb_dict_tuple, kb_dict_list, kb_dict_dict, cp_2_53, pw_2_53, cp_10_9, pw_10_9, cp_10_10, pw_10_10, cp_10_18, pw_10_18, cp_10_20, pw_10_20, cp_10_29, pw_10_29, cp_10_30, pw_10_30]
      refine ite2 (fun e => ⟨_, fun _ _ z => z, e, ?_⟩) fun e => ?_
      · exact ⟨x % m, Nat.mod_lt _ (by omega), m, x % m, by simp, rfl, by rw [← hg, Nat.gcd_comm m, ← Nat.gcd_rec, Nat.gcd_comm], rfl⟩
      · have : m = 0 := by omega
        subst this
        rw [Nat.gcd_zero_right] at hg
        rw [hg]; exact k
def spRat : Sp := fun vs H Q _ => ∃ t b : Int, vs = [.int t, .int b] ∧ b ≠ 0 ∧ Sm 8900 b ∧ ∀ p H', H p = none → Same H H' → H' p = some (prT (Rat.divInt t b)) → Q (.ref p) H'
theorem sc_ratio : FnScope ["top", "bottom", "divisor"] ["top", "bottom"] (defScope s_ratio) := ⟨rfl, rfl, rfl, by decide +kernel, rfl, by decide +kernel, by decide +kernel⟩
theorem ok_ratio (T : Txt K mg) : FnOk P w K mg base CX0 2 (He.ga K "ratio") (fdOf K (He.ga K "ratio")) ["top", "bottom"] (spRat) := by
  refine T.F_ratio.ok sc_ratio (fun vs H Q E h => ?_) (fun cdv A outer s H vs Q E hr h => ?_)
  · obtain ⟨t, b, rfl, _⟩ := h
    rfl
  · obtain ⟨t, b, rfl, hb, sb, k⟩ := h
    refine ⟨_, PSs.nox (pss_cons (ps_if (pt_cmpR op_eq (pv 1) pe_int (nomark _)) (pss_one ps_never) pss_nil)
      (pss_cons (ps_set (i := 2) sc_ratio.nd rfl (Or.inl rfl) (pe_call (ok_divisor_of T) (hr.mono (by decide)) (by rfl) T.g_divisor_of T.k_divisor_of T.b_divisor_of .nil pass0 (pa_cons (pv 0) (pa_cons (pv 1) pa_nil))))
      (Evl.pss_cut (ps_if (pt_cmpR op_lt (pv 1) pe_int (nomark _)) (pss_one (ps_set (i := 2) sc_ratio.nd rfl (Or.inl rfl) (pe_un un_neg (pv 2)))) pss_nil)
      (pss_one (ps_ret (pe_tup (pa_cons (pe_op (op_fdivZ) (pv 0) (pv 2)) (pa_cons (pe_op (op_fdivZ) (pv 1) (pv 2)) pa_nil)))))))), ?_⟩
    simp only [tDNotIn, tDIn, tDGet, Option.isSome_some, Option.isSome_none, rIsO, isO_int, isO_str, isO_bl, isO_non, isO_ref, isOO_ins, isOO_lst, isOO_tup, isOO_dK, tMethR, StX.tMakeR, cxOf_K, tDNewK, tCallR, tNever, tSeq, tAsg, gName, tPar, tVar, tC, tOp, rI0, rI, rU, tUn, rEq, rNe, tTest, tB, tAnd, tOr, tNot, tAndV, tOrV, tNotV, tIf, tIfS, tRet, tRetN, tNext, tDrop, tCons, tNil, tCB, tCall, tTup, tLst, rIxLH, rIxTH, gSub, rSetL, tPart, tNoPart, tSl, tBM, tBM0, L2.start, sc_ii, sc_ss, sc_bb, sc_nn, sc_ni, sc_in, sc_ns, sc_sn, sc_is, sc_si, eq_self, tChain, List.map_cons, List.map_nil, List.replicate_succ, List.replicate_zero, List.length_cons, List.length_nil, Nat.reduceAdd, Nat.reduceSub, Nat.zero_add, Nat.sub_self, Nat.add_sub_cancel, List.cons_append, List.nil_append, List.append_nil, List.getElem?_cons_zero, List.getElem?_cons_succ, List.set_cons_zero, List.set_cons_succ, Option.some.injEq, V.int.injEq, V.ref.injEq, V.bl.injEq, V.str.injEq, List.cons.injEq, HO.lst.injEq, HO.tup.injEq, and_true, true_and, exists_eq_left', exists_eq_left, exists_eq', exists_eq, exists_eq_right, exists_eq_right', exists_and_left, exists_and_right, and_assoc, upd_same, reduceCtorEq, false_and, and_false, exists_false, or_false, false_or, at0, at1, atM1, sg_inj, dot_eq, plus_eq, minus_eq, rIxS, at2, at3, at4, at5, ix0, ix1, ix2, ix3, upd_upd, decide_eq_true_eq, Int.reduceLT, Int.reduceLE, Int.reduceAdd, Int.reduceSub, Int.reduceNeg, Int.reduceMul, Int.reducePow, Int.reduceEq, decide_true, decide_false, Int.cast_ofNat_Int, Int.natCast_zero, Int.natCast_one, Nat.reduceEqDiff, Nat.reduceLeDiff, rIsB, tyN_non, tyN_bl, tyN_int, tyN_str, tyN_ref, tyO_lst, tyO_tup, tyO_dK, tyO_dT, V.ty.injEq, ite_true, ite_false, if_true, if_false, Bool.not_true, Bool.not_false, Bool.false_eq_true, kb_int_int, kb_int_bool, kb_int_str, kb_int_tuple, kb_int_list, kb_int_dict, kb_bool_int, kb_bool_bool, kb_bool_str, kb_bool_tuple, kb_bool_list, kb_bool_dict, kb_str_int, kb_str_bool, kb_str_str, kb_str_tuple, kb_str_list, kb_str_dict, kb_NoneType_int, kb_NoneType_bool, kb_NoneType_str, kb_NoneType_tuple, kb_NoneType_list, kb_NoneType_dict, kb_list_int, kb_list_bool, kb_list_str, kb_list_tuple, kb_list_list, kb_list_dict, kb_tuple_int, kb_tuple_bool, kb_tuple_str, kb_tuple_tuple, kb_tuple_list, kb_tuple_dict, kb_dict_int, kb_dict_bool, kb_dict_str, kb_dict_tuple, kb_dict_list, kb_dict_dict, cp_2_53, pw_2_53, cp_10_9, pw_10_9, cp_10_10, pw_10_10, cp_10_18, pw_10_18, cp_10_20, pw_10_20, cp_10_29, pw_10_29, cp_10_30, pw_10_30, spGcd]
    refine ite2 (fun e => absurd e hb) fun _ => ?_
    refine ⟨fun σ' H' => σ' = [some (.int t), some (.int b), some (.int (den t b))] ∧ H' = H, ?_, ?_⟩
    · simp only [tDNotIn, tDIn, tDGet, Option.isSome_some, Option.isSome_none, rIsO, isO_int, isO_str, isO_bl, isO_non, isO_ref, isOO_ins, isOO_lst, isOO_tup, isOO_dK, tMethR, StX.tMakeR, cxOf_K, tDNewK, tCallR, tNever, tSeq, tAsg, gName, tPar, tVar, tC, tOp, rI0, rI, rU, tUn, rEq, rNe, tTest, tB, tAnd, tOr, tNot, tAndV, tOrV, tNotV, tIf, tIfS, tRet, tRetN, tNext, tDrop, tCons, tNil, tCB, tCall, tTup, tLst, rIxLH, rIxTH, gSub, rSetL, tPart, tNoPart, tSl, tBM, tBM0, L2.start, sc_ii, sc_ss, sc_bb, sc_nn, sc_ni, sc_in, sc_ns, sc_sn, sc_is, sc_si, eq_self, tChain, List.map_cons, List.map_nil, List.replicate_succ, List.replicate_zero, List.length_cons, List.length_nil, Nat.reduceAdd, Nat.reduceSub, Nat.zero_add, Nat.sub_self, Nat.add_sub_cancel, List.cons_append, List.nil_append, List.append_nil, List.getElem?_cons_zero, List.getElem?_cons_succ, List.set_cons_zero, List.set_cons_succ, Option.some.injEq, V.int.injEq, V.ref.injEq, V.bl.injEq, V.str.injEq, List.cons.injEq, HO.lst.injEq, HO.tup.injEq, and_true, true_and, exists_eq_left', exists_eq_left, exists_eq', exists_eq, exists_eq_right, exists_eq_right', exists_and_left, exists_and_right, and_assoc, upd_same, reduceCtorEq, false_and, and_false, exists_false, or_false, false_or, at0, at1, atM1, sg_inj, dot_eq, plus_eq, minus_eq, rIxS, at2, at3, at4, at5, ix0, ix1, ix2, ix3, upd_upd, decide_eq_true_eq, Int.reduceLT, Int.reduceLE, Int.reduceAdd, Int.reduceSub, Int.reduceNeg, Int.reduceMul, Int.reducePow, Int.reduceEq, decide_true, decide_false, Int.cast_ofNat_Int, Int.natCast_zero, Int.natCast_one, Nat.reduceEqDiff, Nat.reduceLeDiff, rIsB, tyN_non, tyN_bl, tyN_int, tyN_str, tyN_ref, tyO_lst, tyO_tup, tyO_dK, tyO_dT, V.ty.injEq, ite_true, ite_false, if_true, if_false, Bool.not_true, Bool.not_false, Bool.false_eq_true, kb_int_int, kb_int_bool, kb_int_str, kb_int_tuple, kb_int_list, kb_int_dict, kb_bool_int, kb_bool_bool, kb_bool_str, kb_bool_tuple, kb_bool_list, kb_bool_dict, kb_str_int, kb_str_bool, kb_str_str, kb_str_tuple, kb_str_list, kb_str_dict, kb_NoneType_int, kb_NoneType_bool, kb_NoneType_str, kb_NoneType_tuple, kb_NoneType_list, kb_NoneType_dict, kb_list_int, kb_list_bool, kb_list_str, kb_list_tuple, kb_list_list, kb_list_dict, kb_tuple_int, kb_tuple_bool, kb_tuple_str, kb_tuple_tuple, kb_tuple_list, kb_tuple_dict, kb_dict_int, kb_dict_bool, kb_dict_str, kb_dict_tuple, kb_dict_list, kb_dict_dict, cp_2_53, pw_2_53, cp_10_9, pw_10_9, cp_10_10, pw_10_10, cp_10_18, pw_10_18, cp_10_20, pw_10_20, cp_10_29, pw_10_29, cp_10_30, pw_10_30]
      unfold den
      refine ite2 (fun e => ?_) fun e => ?_
      · rw [if_pos e]
      · rw [if_neg e]
    · rintro σ' H' ⟨rfl, rfl⟩
      simp only [tDNotIn, tDIn, tDGet, Option.isSome_some, Option.isSome_none, rIsO, isO_int, isO_str, isO_bl, isO_non, isO_ref, isOO_ins, isOO_lst, isOO_tup, isOO_dK, tMethR, StX.tMakeR, cxOf_K, tDNewK, tCallR, tNever, tSeq, tAsg, gName, tPar, tVar, tC, tOp, rI0, rI, rU, tUn, rEq, rNe, tTest, tB, tAnd, tOr, tNot, tAndV, tOrV, tNotV, tIf, tIfS, tRet, tRetN, tNext, tDrop, tCons, tNil, tCB, tCall, tTup, tLst, rIxLH, rIxTH, gSub, rSetL, tPart, tNoPart, tSl, tBM, tBM0, L2.start, sc_ii, sc_ss, sc_bb, sc_nn, sc_ni, sc_in, sc_ns, sc_sn, sc_is, sc_si, eq_self, tChain, List.map_cons, List.map_nil, List.replicate_succ, List.replicate_zero, List.length_cons, List.length_nil, Nat.reduceAdd, Nat.reduceSub, Nat.zero_add, Nat.sub_self, Nat.add_sub_cancel, List.cons_append, List.nil_append, List.append_nil, List.getElem?_cons_zero, List.getElem?_cons_succ, List.set_cons_zero, List.set_cons_succ, Option.some.injEq, V.int.injEq, V.ref.injEq, V.bl.injEq, V.str.injEq, List.cons.injEq, HO.lst.injEq, HO.tup.injEq, and_true, true_and, exists_eq_left', exists_eq_left, exists_eq', exists_eq, exists_eq_right, exists_eq_right', exists_and_left, exists_and_right, and_assoc, upd_same, reduceCtorEq, false_and, and_false, exists_false, or_false, false_or, at0, at1, atM1, sg_inj, dot_eq, plus_eq, minus_eq, rIxS, at2, at3, at4, at5, ix0, ix1, ix2, ix3, upd_upd, decide_eq_true_eq, Int.reduceLT, Int.reduceLE, Int.reduceAdd, Int.reduceSub, Int.reduceNeg, Int.reduceMul, Int.reducePow, Int.reduceEq, decide_true, decide_false, Int.cast_ofNat_Int, Int.natCast_zero, Int.natCast_one, Nat.reduceEqDiff, Nat.reduceLeDiff, rIsB, tyN_non, tyN_bl, tyN_int, tyN_str, tyN_ref, tyO_lst, tyO_tup, tyO_dK, tyO_dT, V.ty.injEq, ite_true, ite_false, if_true, if_false, Bool.not_true, Bool.not_false, Bool.false_eq_true, kb_int_int, kb_int_bool, kb_int_str, kb_int_tuple, kb_int_list, kb_int_dict, kb_bool_int, kb_bool_bool, kb_bool_str, kb_bool_tuple, kb_bool_list, kb_bool_dict, kb_str_int, kb_str_bool, kb_str_str, kb_str_tuple, kb_str_list, kb_str_dict, kb_NoneType_int, kb_NoneType_bool, kb_NoneType_str, kb_NoneType_tuple, kb_NoneType_list, kb_NoneType_dict, kb_list_int, kb_list_bool, kb_list_str, kb_list_tuple, kb_list_list, kb_list_dict, kb_tuple_int, kb_tuple_bool, kb_tuple_str, kb_tuple_tuple, kb_tuple_list, kb_tuple_dict, kb_dict_int, kb_dict_bool, kb_dict_str, kb_dict_tuple, kb_dict_list, kb_dict_dict, cp_2_53, pw_2_53, cp_10_9, pw_10_9, cp_10_10, pw_10_10, cp_10_18, pw_10_18, cp_10_20, pw_10_20, cp_10_29, pw_10_29, cp_10_30, pw_10_30]
      have z := (den_sm (t := t) hb sb).divz (x := 0) (den_ne hb)
      obtain ⟨e1, e2⟩ := low_rat (t := t) hb
      rw [e1, e2]
      exact ⟨z, z, size_le (by simp), fun p hp => k p _ hp (same_upd hp) upd_same⟩
theorem ok_ratio2 (T : Txt K mg) : FnR P w K mg base CX0 2 (He.ga K "ratio") spRat := by
  obtain ⟨ds, v, b⟩ := FunD.binds1 (ps := ["top", "bottom"]) T.F_ratio 2 1 (by intro z; cases z) rfl fun _ _ _ _ _ _ _ us its h1 h2 => match us, h1, its, h2 with | [_, _], _, [_], _ => ⟨_, rfl, rfl⟩
  refine (FnOk.raw (ok_ratio T) b v).imp fun vs H Q E h => ?_
  show spRat (vs ++ []) H Q E
  rw [List.append_nil]; exact h
def spPlus : Sp := fun vs H Q _ => ∃ (p q : Addr) (x y : Rat), vs = [.ref p, .ref q] ∧ H p = some (prT x) ∧ H q = some (prT y) ∧ RB 8000 x ∧ RB 900 y ∧ ∀ r H', H r = none → Same H H' → H' r = some (prT (x + y)) → Q (.ref r) H'
theorem sc_plus : FnScope ["first", "second"] ["first", "second"] (defScope s_plus) := ⟨rfl, rfl, rfl, by decide +kernel, rfl, by decide +kernel, by decide +kernel⟩
theorem ok_plus (T : Txt K mg) : FnOk P w K mg base CX0 3 (He.ga K "plus") (fdOf K (He.ga K "plus")) ["first", "second"] (spPlus) := by
  refine T.F_plus.ok sc_plus (fun vs H Q E h => ?_) (fun cdv A outer s H vs Q E hr h => ?_)
  · obtain ⟨_, _, _, _, rfl, _⟩ := h
    rfl
  · obtain ⟨p, q, x, y, rfl, hp, hq, bx, bY, k⟩ := h
    refine ⟨_, PSs.nox (pss_one (ps_ret (pe_callR (ok_ratio2 T) (hr.mono (by decide)) (by rfl) T.g_ratio T.k_ratio pass0 (pa_cons (pe_op op_add (pe_op op_mulX (pe_ix ixT (pv 0) pe_int (fun _ _ => rfl)) (pe_ix ixT (pv 1) pe_int (fun _ _ => rfl))) (pe_op op_mulX (pe_ix ixT (pv 1) pe_int (fun _ _ => rfl)) (pe_ix ixT (pv 0) pe_int (fun _ _ => rfl)))) (pa_cons (pe_op op_mulX (pe_ix ixT (pv 0) pe_int (fun _ _ => rfl)) (pe_ix ixT (pv 1) pe_int (fun _ _ => rfl))) pa_nil))))), ?_⟩
    unfold prT at hp hq
    simp only [tDNotIn, tDIn, tDGet, Option.isSome_some, Option.isSome_none, rIsO, isO_int, isO_str, isO_bl, isO_non, isO_ref, isOO_ins, isOO_lst, isOO_tup, isOO_dK, tMethR, StX.tMakeR, cxOf_K, tDNewK, tCallR, tNever, tSeq, tAsg, gName, tPar, tVar, tC, tOp, rI0, rI, rU, tUn, rEq, rNe, tTest, tB, tAnd, tOr, tNot, tAndV, tOrV, tNotV, tIf, tIfS, tRet, tRetN, tNext, tDrop, tCons, tNil, tCB, tCall, tTup, tLst, rIxLH, rIxTH, gSub, rSetL, tPart, tNoPart, tSl, tBM, tBM0, L2.start, sc_ii, sc_ss, sc_bb, sc_nn, sc_ni, sc_in, sc_ns, sc_sn, sc_is, sc_si, eq_self, tChain, List.map_cons, List.map_nil, List.replicate_succ, List.replicate_zero, List.length_cons, List.length_nil, Nat.reduceAdd, Nat.reduceSub, Nat.zero_add, Nat.sub_self, Nat.add_sub_cancel, List.cons_append, List.nil_append, List.append_nil, List.getElem?_cons_zero, List.getElem?_cons_succ, List.set_cons_zero, List.set_cons_succ, Option.some.injEq, V.int.injEq, V.ref.injEq, V.bl.injEq, V.str.injEq, List.cons.injEq, HO.lst.injEq, HO.tup.injEq, and_true, true_and, exists_eq_left', exists_eq_left, exists_eq', exists_eq, exists_eq_right, exists_eq_right', exists_and_left, exists_and_right, and_assoc, upd_same, reduceCtorEq, false_and, and_false, exists_false, or_false, false_or, at0, at1, atM1, sg_inj, dot_eq, plus_eq, minus_eq, rIxS, at2, at3, at4, at5, ix0, ix1, ix2, ix3, upd_upd, decide_eq_true_eq, Int.reduceLT, Int.reduceLE, Int.reduceAdd, Int.reduceSub, Int.reduceNeg, Int.reduceMul, Int.reducePow, Int.reduceEq, decide_true, decide_false, Int.cast_ofNat_Int, Int.natCast_zero, Int.natCast_one, Nat.reduceEqDiff, Nat.reduceLeDiff, rIsB, tyN_non, tyN_bl, tyN_int, tyN_str, tyN_ref, tyO_lst, tyO_tup, tyO_dK, tyO_dT, V.ty.injEq, ite_true, ite_false, if_true, if_false, Bool.not_true, Bool.not_false, Bool.false_eq_true, kb_int_int, kb_int_bool, kb_int_str, kb_int_tuple, kb_int_list, kb_int_dict, kb_bool_int, kb_bool_bool, kb_bool_str, kb_bool_tuple, kb_bool_list, kb_bool_dict, kb_str_int, kb_str_bool, kb_str_str, kb_str_tuple, kb_str_list, kb_str_dict, kb_NoneType_int, kb_NoneType_bool, kb_NoneType_str, kb_NoneType_tuple, kb_NoneType_list, kb_NoneType_dict, kb_list_int, kb_list_bool, kb_list_str, kb_list_tuple, kb_list_list, kb_list_dict, kb_tuple_int, kb_tuple_bool, kb_tuple_str, kb_tuple_tuple, kb_tuple_list, kb_tuple_dict, kb_dict_int, kb_dict_bool, kb_dict_str, kb_dict_tuple, kb_dict_list, kb_dict_dict, cp_2_53, pw_2_53, cp_10_9, pw_10_9, cp_10_10, pw_10_10, cp_10_18, pw_10_18, cp_10_20, pw_10_20, cp_10_29, pw_10_29, cp_10_30, pw_10_30, hp, hq, spRat]
    rw [rat_add] at k
    exact ⟨bx.a.mulok bY.b, bY.a.mulok bx.b, bx.b.mulok bY.b, Int.mul_ne_zero (den0 x) (den0 y), (bx.b.mul bY.b).mono (by decide), k⟩
/-! a world -/
def WorldAt (H : Hp) (d : Addr) (N : List Str) (lv : Str → Rat) : Prop := ∃ kvs, H d = some (.dK kvs) ∧ kvs.length ≤ 100 ∧ ∀ n ∈ N, RB 120 (lv n) ∧ ∃ r, valV kvs (Sum.inr n : Key) = some (.ref r) ∧ H r = some (prT (lv n))
def spCallF (C : Addr) : Sp := fun vs H Q _ => ∃ (a d : Addr) (N : List Str) (ts : List Trm) (c : Int) (lv : Str → Rat), vs = [.ref a, .ref d] ∧ FormAt C H a ts c ∧ Pool N ∧ FB N 500 ts c ∧ WorldAt H d N lv ∧
  ∀ r H', H r = none → Same H H' → H' r = some (prT (c + lin lv ts)) → Q (.ref r) H'
theorem lin_take {f : Str → Rat} {ts : List Trm} {i : Nat} {t : Trm} (h : ts[i]? = some t) : lin f (ts.take (i + 1)) = lin f (ts.take i) + (t.2 : Rat) * f t.1 := by
  rw [List.take_add_one, h, lin_append]
  simp [lin]; grind
theorem w_rat (n : Int) (q : Rat) : (n : Rat) * q = Rat.divInt (n * q.num) q.den := by
  have h : (n : Rat) * q = Rat.divInt n 1 * Rat.divInt q.num q.den := by
    rw [Rat.num_divInt_den, show Rat.divInt n 1 = (n : Rat) from by rw [Rat.divInt_eq_div]; simp; grind]
  rw [h, Rat.divInt_mul_divInt, Int.one_mul]
theorem sc_Form___call__ : FnScope ["self", "world", "value", "name", "weight", "level"] ["self", "world"] (defScope s_Form___call__) := ⟨rfl, rfl, rfl, by decide +kernel, rfl, by decide +kernel, by decide +kernel⟩
theorem ok_Form___call__ (T : Txt K mg) : FnOk P w K mg base CX0 4 (He.ma K (He.ga K "Form") "__call__") (fdOf K (He.ma K (He.ga K "Form") "__call__")) ["self", "world"] (spCallF (He.ga K "Form")) := by
  refine T.F_Form___call__.ok sc_Form___call__ (fun vs H Q E h => ?_) (fun cdv A outer s H vs Q E hr h => ?_)
  · obtain ⟨_, _, _, _, _, _, rfl, _⟩ := h
    rfl
  · obtain ⟨a, d, N, ts, c, lv, rfl, ⟨dx, r, vs, ha, hr1, ht⟩, pl, fb, ⟨kvs, hd, hk, hw⟩, k⟩ := h
    have hu := hu_of hr
    refine ⟨_, PSs.nox (pss_cons (ps_set (i := 2) sc_Form___call__.nd rfl (Or.inl rfl) (pe_tup (pa_cons (pe_fld (pv 0) rfl) (pa_cons pe_int pa_nil))))
      (pss_cons (ps_for PassesOwn.never rfl (pi_tup (pe_fld (pv 0) rfl)) (pg_tup (by rfl) (pgs_cons (pg_name (i := 3) sc_Form___call__.nd rfl (Or.inl rfl)) (pgs_cons (pg_name (i := 4) sc_Form___call__.nd rfl (Or.inl rfl)) pgs_nil))) (pss_cons (ps_if (pt_cmp (pc_dnotin hu (pv 3) (pv 1))) (pss_one ps_never) pss_nil)
      (pss_cons (ps_set (i := 5) sc_Form___call__.nd rfl (Or.inl rfl) (pe_dget hu (pv 1) (pv 3) (fun _ _ => rfl)))
      (pss_one (ps_set (i := 2) sc_Form___call__.nd rfl (Or.inl rfl) (pe_call (ok_plus T) (hr.mono (by decide)) (by rfl) T.g_plus T.k_plus T.b_plus .nil pass0 (pa_cons (pv 2) (pa_cons (pe_callR (ok_ratio2 T) (hr.mono (by decide)) (by rfl) T.g_ratio T.k_ratio pass0 (pa_cons (pe_op op_mulX (pv 4) (pe_ix ixT (pv 5) pe_int (fun _ _ => rfl))) (pa_cons (pe_ix ixT (pv 5) pe_int (fun _ _ => rfl)) pa_nil))) pa_nil))))))))
      (pss_one (ps_ret (pv 2))))), ?_⟩
    simp only [tDNotIn, tDIn, tDGet, Option.isSome_some, Option.isSome_none, rIsO, isO_int, isO_str, isO_bl, isO_non, isO_ref, isOO_ins, isOO_lst, isOO_tup, isOO_dK, tMethR, StX.tMakeR, cxOf_K, tDNewK, tCallR, tNever, tSeq, tAsg, gName, tPar, tVar, tC, tOp, rI0, rI, rU, tUn, rEq, rNe, tTest, tB, tAnd, tOr, tNot, tAndV, tOrV, tNotV, tIf, tIfS, tRet, tRetN, tNext, tDrop, tCons, tNil, tCB, tCall, tTup, tLst, rIxLH, rIxTH, gSub, rSetL, tPart, tNoPart, tSl, tBM, tBM0, L2.start, sc_ii, sc_ss, sc_bb, sc_nn, sc_ni, sc_in, sc_ns, sc_sn, sc_is, sc_si, eq_self, tChain, List.map_cons, List.map_nil, List.replicate_succ, List.replicate_zero, List.length_cons, List.length_nil, Nat.reduceAdd, Nat.reduceSub, Nat.zero_add, Nat.sub_self, Nat.add_sub_cancel, List.cons_append, List.nil_append, List.append_nil, List.getElem?_cons_zero, List.getElem?_cons_succ, List.set_cons_zero, List.set_cons_succ, Option.some.injEq, V.int.injEq, V.ref.injEq, V.bl.injEq, V.str.injEq, List.cons.injEq, HO.lst.injEq, HO.tup.injEq, and_true, true_and, exists_eq_left', exists_eq_left, exists_eq', exists_eq, exists_eq_right, exists_eq_right', exists_and_left, exists_and_right, and_assoc, upd_same, reduceCtorEq, false_and, and_false, exists_false, or_false, false_or, at0, at1, atM1, sg_inj, dot_eq, plus_eq, minus_eq, rIxS, at2, at3, at4, at5, ix0, ix1, ix2, ix3, upd_upd, decide_eq_true_eq, Int.reduceLT, Int.reduceLE, Int.reduceAdd, Int.reduceSub, Int.reduceNeg, Int.reduceMul, Int.reducePow, Int.reduceEq, decide_true, decide_false, Int.cast_ofNat_Int, Int.natCast_zero, Int.natCast_one, Nat.reduceEqDiff, Nat.reduceLeDiff, rIsB, tyN_non, tyN_bl, tyN_int, tyN_str, tyN_ref, tyO_lst, tyO_tup, tyO_dK, tyO_dT, V.ty.injEq, ite_true, ite_false, if_true, if_false, Bool.not_true, Bool.not_false, Bool.false_eq_true, kb_int_int, kb_int_bool, kb_int_str, kb_int_tuple, kb_int_list, kb_int_dict, kb_bool_int, kb_bool_bool, kb_bool_str, kb_bool_tuple, kb_bool_list, kb_bool_dict, kb_str_int, kb_str_bool, kb_str_str, kb_str_tuple, kb_str_list, kb_str_dict, kb_NoneType_int, kb_NoneType_bool, kb_NoneType_str, kb_NoneType_tuple, kb_NoneType_list, kb_NoneType_dict, kb_list_int, kb_list_bool, kb_list_str, kb_list_tuple, kb_list_list, kb_list_dict, kb_tuple_int, kb_tuple_bool, kb_tuple_str, kb_tuple_tuple, kb_tuple_list, kb_tuple_dict, kb_dict_int, kb_dict_bool, kb_dict_str, kb_dict_tuple, kb_dict_list, kb_dict_dict, cp_2_53, pw_2_53, cp_10_9, pw_10_9, cp_10_10, pw_10_10, cp_10_18, pw_10_18, cp_10_20, pw_10_20, cp_10_29, pw_10_29, cp_10_30, pw_10_30, tFld, HO.ins.injEq, look_t, look_c, T.cl_Form, T.nt_Form, T.nc_Form, ha]
    refine ⟨size_le (by simp), ?_⟩
    (intro p np; (obtain ⟨H1, eqH, s1, e1⟩ := new_upd (o := .tup [V.int c, V.int 1]) np); rw [← eqH]; clear eqH)
    have hl : ts.length ≤ 12 := by have := fb.len; have := pl.l; omega
    have ha1 := s1 _ _ ha
    have hr2 := s1 _ _ hr1
    refine ⟨_, rfl, a, _, _, _, _, rfl, ha1, T.cl_Form, T.nt_Form, look_t _ _, r, rfl, ⟨_, .inl (.inl hr2)⟩, for_it (walk_tup (xs := vs)) (fun i σ' H' => ∃ v y z u, σ' = [some (.ref a), some (.ref d), some (.ref v), y, z, u] ∧ Same H H' ∧ H v = none ∧ RB (500 + i * 621) (c + lin lv (ts.take i)) ∧ H' v = some (prT (c + lin lv (ts.take i)))) ?_ ?_ ?_ ?_⟩
    · have e : (c : Rat) + lin lv (ts.take 0) = c := by simp [lin]; grind
      refine ⟨p, none, none, none, rfl, s1, np, ?_, ?_⟩
      · rw [e]
        exact ⟨fb.bc.mono (by decide), Sm.mono (n := 1) (by show Sm 1 ((1 : Nat) : Int); unfold Sm; decide) (by decide)⟩
      · rw [e]; exact e1
    · rintro i σ' H' _ ⟨v, y, z, u, rfl, sm, _⟩
      exact .inl (.inl (sm _ _ hr1))
    · rintro i x σ' H2 H3 hi ⟨v, y, z, u, rfl, sm, nv, rb, hv⟩ ⟨rfl, hx⟩
      obtain ⟨t, q, ht', rfl, hq⟩ := ht.at hx
      have hmt : t ∈ ts := List.mem_of_getElem? ht'
      obtain ⟨bl, r3, hval, hr3⟩ := hw t.1 (fb.nm t hmt)
      have hi12 : i < 12 := by rw [ht.1] at hi; omega
      refine g_pair (t := t) ⟨q, rfl, sm _ _ hq⟩ ?_
      have g : DGet H3 d (.str t.1) (some (.ref r3)) := by
        have := DGet.k (k := Sum.inr t.1) (sm _ _ hd)
        rw [hval] at this; exact this
      have hr33 := sm _ _ hr3
      unfold prT at hr33
      simp only [tDNotIn, tDIn, tDGet, Option.isSome_some, Option.isSome_none, rIsO, isO_int, isO_str, isO_bl, isO_non, isO_ref, isOO_ins, isOO_lst, isOO_tup, isOO_dK, tMethR, StX.tMakeR, cxOf_K, tDNewK, tCallR, tNever, tSeq, tAsg, gName, tPar, tVar, tC, tOp, rI0, rI, rU, tUn, rEq, rNe, tTest, tB, tAnd, tOr, tNot, tAndV, tOrV, tNotV, tIf, tIfS, tRet, tRetN, tNext, tDrop, tCons, tNil, tCB, tCall, tTup, tLst, rIxLH, rIxTH, gSub, rSetL, tPart, tNoPart, tSl, tBM, tBM0, L2.start, sc_ii, sc_ss, sc_bb, sc_nn, sc_ni, sc_in, sc_ns, sc_sn, sc_is, sc_si, eq_self, tChain, List.map_cons, List.map_nil, List.replicate_succ, List.replicate_zero, List.length_cons, List.length_nil, Nat.reduceAdd, Nat.reduceSub, Nat.zero_add, Nat.sub_self, Nat.add_sub_cancel, List.cons_append, List.nil_append, List.append_nil, List.getElem?_cons_zero, List.getElem?_cons_succ, List.set_cons_zero, List.set_cons_succ, Option.some.injEq, V.int.injEq, V.ref.injEq, V.bl.injEq, V.str.injEq, List.cons.injEq, HO.lst.injEq, HO.tup.injEq, and_true, true_and, exists_eq_left', exists_eq_left, exists_eq', exists_eq, exists_eq_right, exists_eq_right', exists_and_left, exists_and_right, and_assoc, upd_same, reduceCtorEq, false_and, and_false, exists_false, or_false, false_or, at0, at1, atM1, sg_inj, dot_eq, plus_eq, minus_eq, rIxS, at2, at3, at4, at5, ix0, ix1, ix2, ix3, upd_upd, decide_eq_true_eq, Int.reduceLT, Int.reduceLE, Int.reduceAdd, Int.reduceSub, Int.reduceNeg, Int.reduceMul, Int.reducePow, Int.reduceEq, decide_true, decide_false, Int.cast_ofNat_Int, Int.natCast_zero, Int.natCast_one, Nat.reduceEqDiff, Nat.reduceLeDiff, rIsB, tyN_non, tyN_bl, tyN_int, tyN_str, tyN_ref, tyO_lst, tyO_tup, tyO_dK, tyO_dT, V.ty.injEq, ite_true, ite_false, if_true, if_false, Bool.not_true, Bool.not_false, Bool.false_eq_true, kb_int_int, kb_int_bool, kb_int_str, kb_int_tuple, kb_int_list, kb_int_dict, kb_bool_int, kb_bool_bool, kb_bool_str, kb_bool_tuple, kb_bool_list, kb_bool_dict, kb_str_int, kb_str_bool, kb_str_str, kb_str_tuple, kb_str_list, kb_str_dict, kb_NoneType_int, kb_NoneType_bool, kb_NoneType_str, kb_NoneType_tuple, kb_NoneType_list, kb_NoneType_dict, kb_list_int, kb_list_bool, kb_list_str, kb_list_tuple, kb_list_list, kb_list_dict, kb_tuple_int, kb_tuple_bool, kb_tuple_str, kb_tuple_tuple, kb_tuple_list, kb_tuple_dict, kb_dict_int, kb_dict_bool, kb_dict_str, kb_dict_tuple, kb_dict_list, kb_dict_dict, cp_2_53, pw_2_53, cp_10_9, pw_10_9, cp_10_10, pw_10_10, cp_10_18, pw_10_18, cp_10_20, pw_10_20, cp_10_29, pw_10_29, cp_10_30, pw_10_30]
      refine ⟨_, g, ?_⟩
      simp only [tDNotIn, tDIn, tDGet, Option.isSome_some, Option.isSome_none, rIsO, isO_int, isO_str, isO_bl, isO_non, isO_ref, isOO_ins, isOO_lst, isOO_tup, isOO_dK, tMethR, StX.tMakeR, cxOf_K, tDNewK, tCallR, tNever, tSeq, tAsg, gName, tPar, tVar, tC, tOp, rI0, rI, rU, tUn, rEq, rNe, tTest, tB, tAnd, tOr, tNot, tAndV, tOrV, tNotV, tIf, tIfS, tRet, tRetN, tNext, tDrop, tCons, tNil, tCB, tCall, tTup, tLst, rIxLH, rIxTH, gSub, rSetL, tPart, tNoPart, tSl, tBM, tBM0, L2.start, sc_ii, sc_ss, sc_bb, sc_nn, sc_ni, sc_in, sc_ns, sc_sn, sc_is, sc_si, eq_self, tChain, List.map_cons, List.map_nil, List.replicate_succ, List.replicate_zero, List.length_cons, List.length_nil, Nat.reduceAdd, Nat.reduceSub, Nat.zero_add, Nat.sub_self, Nat.add_sub_cancel, List.cons_append, List.nil_append, List.append_nil, List.getElem?_cons_zero, List.getElem?_cons_succ, List.set_cons_zero, List.set_cons_succ, Option.some.injEq, V.int.injEq, V.ref.injEq, V.bl.injEq, V.str.injEq, List.cons.injEq, HO.lst.injEq, HO.tup.injEq, and_true, true_and, exists_eq_left', exists_eq_left, exists_eq', exists_eq, exists_eq_right, exists_eq_right', exists_and_left, exists_and_right, and_assoc, upd_same, reduceCtorEq, false_and, and_false, exists_false, or_false, false_or, at0, at1, atM1, sg_inj, dot_eq, plus_eq, minus_eq, rIxS, at2, at3, at4, at5, ix0, ix1, ix2, ix3, upd_upd, decide_eq_true_eq, Int.reduceLT, Int.reduceLE, Int.reduceAdd, Int.reduceSub, Int.reduceNeg, Int.reduceMul, Int.reducePow, Int.reduceEq, decide_true, decide_false, Int.cast_ofNat_Int, Int.natCast_zero, Int.natCast_one, Nat.reduceEqDiff, Nat.reduceLeDiff, rIsB, tyN_non, tyN_bl, tyN_int, tyN_str, tyN_ref, tyO_lst, tyO_tup, tyO_dK, tyO_dT, V.ty.injEq, ite_true, ite_false, if_true, if_false, Bool.not_true, Bool.not_false, Bool.false_eq_true, kb_int_int, kb_int_bool, kb_int_str, kb_int_tuple, kb_int_list, kb_int_dict, kb_bool_int, kb_bool_bool, kb_bool_str, kb_bool_tuple, kb_bool_list, kb_bool_dict, kb_str_int, kb_str_bool, kb_str_str, kb_str_tuple, kb_str_list, kb_str_dict, kb_NoneType_int, kb_NoneType_bool, kb_NoneType_str, kb_NoneType_tuple, kb_NoneType_list, kb_NoneType_dict, kb_list_int, kb_list_bool, kb_list_str, kb_list_tuple, kb_list_list, kb_list_dict, kb_tuple_int, kb_tuple_bool, kb_tuple_str, kb_tuple_tuple, kb_tuple_list, kb_tuple_dict, kb_dict_int, kb_dict_bool, kb_dict_str, kb_dict_tuple, kb_dict_list, kb_dict_dict, cp_2_53, pw_2_53, cp_10_9, pw_10_9, cp_10_10, pw_10_10, cp_10_18, pw_10_18, cp_10_20, pw_10_20, cp_10_29, pw_10_29, cp_10_30, pw_10_30]
      refine ⟨_, g, ?_⟩
      simp only [tDNotIn, tDIn, tDGet, Option.isSome_some, Option.isSome_none, rIsO, isO_int, isO_str, isO_bl, isO_non, isO_ref, isOO_ins, isOO_lst, isOO_tup, isOO_dK, tMethR, StX.tMakeR, cxOf_K, tDNewK, tCallR, tNever, tSeq, tAsg, gName, tPar, tVar, tC, tOp, rI0, rI, rU, tUn, rEq, rNe, tTest, tB, tAnd, tOr, tNot, tAndV, tOrV, tNotV, tIf, tIfS, tRet, tRetN, tNext, tDrop, tCons, tNil, tCB, tCall, tTup, tLst, rIxLH, rIxTH, gSub, rSetL, tPart, tNoPart, tSl, tBM, tBM0, L2.start, sc_ii, sc_ss, sc_bb, sc_nn, sc_ni, sc_in, sc_ns, sc_sn, sc_is, sc_si, eq_self, tChain, List.map_cons, List.map_nil, List.replicate_succ, List.replicate_zero, List.length_cons, List.length_nil, Nat.reduceAdd, Nat.reduceSub, Nat.zero_add, Nat.sub_self, Nat.add_sub_cancel, List.cons_append, List.nil_append, List.append_nil, List.getElem?_cons_zero, List.getElem?_cons_succ, List.set_cons_zero, List.set_cons_succ, Option.some.injEq, V.int.injEq, V.ref.injEq, V.bl.injEq, V.str.injEq, List.cons.injEq, HO.lst.injEq, HO.tup.injEq, and_true, true_and, exists_eq_left', exists_eq_left, exists_eq', exists_eq, exists_eq_right, exists_eq_right', exists_and_left, exists_and_right, and_assoc, upd_same, reduceCtorEq, false_and, and_false, exists_false, or_false, false_or, at0, at1, atM1, sg_inj, dot_eq, plus_eq, minus_eq, rIxS, at2, at3, at4, at5, ix0, ix1, ix2, ix3, upd_upd, decide_eq_true_eq, Int.reduceLT, Int.reduceLE, Int.reduceAdd, Int.reduceSub, Int.reduceNeg, Int.reduceMul, Int.reducePow, Int.reduceEq, decide_true, decide_false, Int.cast_ofNat_Int, Int.natCast_zero, Int.natCast_one, Nat.reduceEqDiff, Nat.reduceLeDiff, rIsB, tyN_non, tyN_bl, tyN_int, tyN_str, tyN_ref, tyO_lst, tyO_tup, tyO_dK, tyO_dT, V.ty.injEq, ite_true, ite_false, if_true, if_false, Bool.not_true, Bool.not_false, Bool.false_eq_true, kb_int_int, kb_int_bool, kb_int_str, kb_int_tuple, kb_int_list, kb_int_dict, kb_bool_int, kb_bool_bool, kb_bool_str, kb_bool_tuple, kb_bool_list, kb_bool_dict, kb_str_int, kb_str_bool, kb_str_str, kb_str_tuple, kb_str_list, kb_str_dict, kb_NoneType_int, kb_NoneType_bool, kb_NoneType_str, kb_NoneType_tuple, kb_NoneType_list, kb_NoneType_dict, kb_list_int, kb_list_bool, kb_list_str, kb_list_tuple, kb_list_list, kb_list_dict, kb_tuple_int, kb_tuple_bool, kb_tuple_str, kb_tuple_tuple, kb_tuple_list, kb_tuple_dict, kb_dict_int, kb_dict_bool, kb_dict_str, kb_dict_tuple, kb_dict_list, kb_dict_dict, cp_2_53, pw_2_53, cp_10_9, pw_10_9, cp_10_10, pw_10_10, cp_10_18, pw_10_18, cp_10_20, pw_10_20, cp_10_29, pw_10_29, cp_10_30, pw_10_30, hr33, spRat, spPlus]
      refine ⟨(fb.bw t hmt).mulok bl.a, den0 _, bl.b.mono (by decide), fun p4 H4 n4 s4 e4 => ?_⟩
      rw [← w_rat] at e4
      have rb2 : RB 620 ((t.2 : Rat) * lv t.1) := by
        rw [w_rat]
        exact rb_div (den0 _) (((fb.bw t hmt).mul bl.a).mono (by decide)) (bl.b.mono (by decide))
      refine ⟨_, s4 _ _ hv, _, e4, rb.mono (by omega), rb2.mono (by decide), fun p5 H5 n5 s5 e5 => ?_⟩
      have e6 : (c : Rat) + lin lv (ts.take i) + (t.2 : Rat) * lv t.1 = c + lin lv (ts.take (i + 1)) := by rw [lin_take ht']; grind
      rw [e6] at e5
      have rb3 := rb_add rb rb2
      rw [e6] at rb3
      exact ⟨(sm.trans s4).trans s5, (sm.trans s4).free n5, rb3.mono (by omega), e5⟩
    · rintro σ' H2 ⟨v, y, z, u, rfl, sm, nv, rb, hv⟩
      rw [ht.1, List.take_length] at hv
      simp only [tDNotIn, tDIn, tDGet, Option.isSome_some, Option.isSome_none, rIsO, isO_int, isO_str, isO_bl, isO_non, isO_ref, isOO_ins, isOO_lst, isOO_tup, isOO_dK, tMethR, StX.tMakeR, cxOf_K, tDNewK, tCallR, tNever, tSeq, tAsg, gName, tPar, tVar, tC, tOp, rI0, rI, rU, tUn, rEq, rNe, tTest, tB, tAnd, tOr, tNot, tAndV, tOrV, tNotV, tIf, tIfS, tRet, tRetN, tNext, tDrop, tCons, tNil, tCB, tCall, tTup, tLst, rIxLH, rIxTH, gSub, rSetL, tPart, tNoPart, tSl, tBM, tBM0, L2.start, sc_ii, sc_ss, sc_bb, sc_nn, sc_ni, sc_in, sc_ns, sc_sn, sc_is, sc_si, eq_self, tChain, List.map_cons, List.map_nil, List.replicate_succ, List.replicate_zero, List.length_cons, List.length_nil, Nat.reduceAdd, Nat.reduceSub, Nat.zero_add, Nat.sub_self, Nat.add_sub_cancel, List.cons_append, List.nil_append, List.append_nil, List.getElem?_cons_zero, List.getElem?_cons_succ, List.set_cons_zero, List.set_cons_succ, Option.some.injEq, V.int.injEq, V.ref.injEq, V.bl.injEq, V.str.injEq, List.cons.injEq, HO.lst.injEq, HO.tup.injEq, and_true, true_and, exists_eq_left', exists_eq_left, exists_eq', exists_eq, exists_eq_right, exists_eq_right', exists_and_left, exists_and_right, and_assoc, upd_same, reduceCtorEq, false_and, and_false, exists_false, or_false, false_or, at0, at1, atM1, sg_inj, dot_eq, plus_eq, minus_eq, rIxS, at2, at3, at4, at5, ix0, ix1, ix2, ix3, upd_upd, decide_eq_true_eq, Int.reduceLT, Int.reduceLE, Int.reduceAdd, Int.reduceSub, Int.reduceNeg, Int.reduceMul, Int.reducePow, Int.reduceEq, decide_true, decide_false, Int.cast_ofNat_Int, Int.natCast_zero, Int.natCast_one, Nat.reduceEqDiff, Nat.reduceLeDiff, rIsB, tyN_non, tyN_bl, tyN_int, tyN_str, tyN_ref, tyO_lst, tyO_tup, tyO_dK, tyO_dT, V.ty.injEq, ite_true, ite_false, if_true, if_false, Bool.not_true, Bool.not_false, Bool.false_eq_true, kb_int_int, kb_int_bool, kb_int_str, kb_int_tuple, kb_int_list, kb_int_dict, kb_bool_int, kb_bool_bool, kb_bool_str, kb_bool_tuple, kb_bool_list, kb_bool_dict, kb_str_int, kb_str_bool, kb_str_str, kb_str_tuple, kb_str_list, kb_str_dict, kb_NoneType_int, kb_NoneType_bool, kb_NoneType_str, kb_NoneType_tuple, kb_NoneType_list, kb_NoneType_dict, kb_list_int, kb_list_bool, kb_list_str, kb_list_tuple, kb_list_list, kb_list_dict, kb_tuple_int, kb_tuple_bool, kb_tuple_str, kb_tuple_tuple, kb_tuple_list, kb_tuple_dict, kb_dict_int, kb_dict_bool, kb_dict_str, kb_dict_tuple, kb_dict_list, kb_dict_dict, cp_2_53, pw_2_53, cp_10_9, pw_10_9, cp_10_10, pw_10_10, cp_10_18, pw_10_18, cp_10_20, pw_10_20, cp_10_29, pw_10_29, cp_10_30, pw_10_30]
      exact k v H2 nv sm hv
end
end K0
namespace K0
open PySem PySem.Spec PyProof.Rows L2
/-! == of terms, of forms -/
def tmD (ts : List Trm) : PyData := .tuple (ts.map fun t => .tuple [.str t.1, .int t.2])
theorem dp_all {K : PySem.W.Frag} {H : Hp} : ∀ {vs : List V} {ts : List Trm}, Trms H vs ts → DpAll K H vs (ts.map fun t => .tuple [.str t.1, .int t.2])
  | [], [], _ => .nil
  | [], _ :: _, h => by have := h.1; simp at this
  | _ :: _, [], h => by have := h.1; simp at this
  | v :: vs, t :: ts, h => by
    obtain ⟨r, rfl, hr⟩ := h.2 0 v t rfl rfl
    refine .cons (.tup (.inl (.inl hr)) (.cons (.str _) (.cons (.int _) .nil))) (dp_all ⟨by have := h.1; simpa using this, fun i a b ha hb => h.2 (i + 1) a b ha hb⟩)
theorem dp_tm {K : PySem.W.Frag} {H : Hp} {r : Addr} {vs : List V} {ts : List Trm} (hr : H r = some (.tup vs)) (ht : Trms H vs ts) : Dp K H (.ref r) (tmD ts) := .tup (.inl (.inl hr)) (dp_all ht)
theorem shaped_tm {ts : List Trm} (h : ∀ t ∈ ts, PySem.PyData.strOk t.1 = true) : SeqAt.shaped (tmD ts) = true := by
  unfold SeqAt.shaped tmD
  rw [Bool.and_eq_true]
  constructor
  · show PyData.canLayAll0 _ = true
    induction ts with
    | nil => rfl
    | cons t r ih =>
      simp only [List.map_cons, PyData.canLayAll0, PyData.canLay0, Bool.and_true, Bool.and_eq_true]
      exact ⟨h t (List.mem_cons_self ..), ih fun u hu => h u (List.mem_cons_of_mem _ hu)⟩
  · rw [decide_eq_true_eq]
    show PyData.depthAll _ + 1 ≤ 64
    have : ∀ l : List Trm, PyData.depthAll (l.map fun t => PyData.tuple [.str t.1, .int t.2]) ≤ 1 := by
      intro l
      induction l with
      | nil => exact Nat.zero_le _
      | cons t r ih =>
        simp only [List.map_cons, PyData.depthAll, PyData.depth]
        omega
    have := this ts
    omega
theorem eqv_tm (ts us : List Trm) : PyData.eqv (tmD ts) (tmD us) = decide (ts = us) := by
  show PyData.eqvAll _ _ = _
  induction ts generalizing us with
  | nil => cases us <;> simp [PyData.eqvAll]
  | cons t r ih =>
    cases us with
    | nil => simp [PyData.eqvAll]
    | cons u s =>
      simp only [List.map_cons, PyData.eqvAll, PyData.eqv, ih, Bool.and_true]
      rw [Bool.eq_iff_iff]
      simp only [Bool.and_eq_true, beq_iff_eq, decide_eq_true_eq, List.cons.injEq, Prod.ext_iff]
theorem isQ_all {z : Str} (h : isQ z = true) : ∀ c ∈ z.cps.toList, c ∈ QC := by
  intro c hc
  rcases Classical.em (c ∈ QC) with y | y
  · exact y
  · rw [isQ_ch hc y] at h; cases h
theorem qc_small : ∀ c ∈ QC, c < 128 := by decide +kernel
theorem isQ_ok {z : Str} (h : isQ z = true) : PyData.strOk z = true := by
  unfold PyData.strOk
  rw [Array.all_eq_true_iff_forall_mem]
  intro c hc
  have := qc_small c (isQ_all h c (Array.mem_toList_iff.mpr hc))
  simp only [decide_eq_true_eq]; omega
section
variable {P : Program} {w : World} {K : PySem.W.Frag} {mg : Str → Option Value} {base : Heap}
def spEqF (C : Addr) : Sp := fun vs H Q _ => ∃ (a b : Addr) (ts us : List Trm) (c d : Int), vs = [.ref a, .ref b] ∧ FormAt C H a ts c ∧ FormAt C H b us d ∧ (∀ t ∈ ts, isQ t.1 = true) ∧ (∀ t ∈ us, isQ t.1 = true) ∧ Q (.bl (decide (ts = us) && decide (c = d))) H
theorem sc_Form___eq__ : FnScope ["self", "other"] ["self", "other"] (defScope s_Form___eq__) := ⟨rfl, rfl, rfl, by decide +kernel, rfl, by decide +kernel, by decide +kernel⟩
theorem ok_Form___eq__ (T : Txt K mg) : FnOk P w K mg base CX0 1 (He.ma K (He.ga K "Form") "__eq__") (fdOf K (He.ma K (He.ga K "Form") "__eq__")) ["self", "other"] (spEqF (He.ga K "Form")) := by
  refine T.F_Form___eq__.ok sc_Form___eq__ (fun vs H Q E h => ?_) (fun cdv A outer s H vs Q E hr h => ?_)
  · obtain ⟨_, _, _, _, _, _, rfl, _⟩ := h
    rfl
  · obtain ⟨a, b, ts, us, c, d, rfl, ⟨dx, r, vs, ha, hr1, ht⟩, ⟨dy, q, ws, hb, hq1, hu⟩, h1, h2, k⟩ := h
    refine ⟨_, PSs.nox (pss_one (ps_ret (pe_and (pe_callB (call_isiO T.is_Form) (by rfl) T.z_isinstance (by decide +kernel) (pa_cons (pv 1) (pa_cons (pe_glob (v := .ref (He.ga K "Form")) (by rfl) T.g_Form rfl) pa_nil))) (pe_and (pe_cmpR (op_eqD hr.units) (pe_fld (pv 0) rfl) (pe_fld (pv 1) rfl) (nomark _)) (pe_one (pe_cmpR op_eq (pe_fld (pv 0) rfl) (pe_fld (pv 1) rfl) (nomark _))))))), ?_⟩
    simp only [tDNotIn, tDIn, tDGet, Option.isSome_some, Option.isSome_none, rIsO, isO_int, isO_str, isO_bl, isO_non, isO_ref, isOO_ins, isOO_lst, isOO_tup, isOO_dK, tMethR, StX.tMakeR, cxOf_K, tDNewK, tCallR, tNever, tSeq, tAsg, gName, tPar, tVar, tC, tOp, rI0, rI, rU, tUn, rEq, rNe, tTest, tB, tAnd, tOr, tNot, tAndV, tOrV, tNotV, tIf, tIfS, tRet, tRetN, tNext, tDrop, tCons, tNil, tCB, tCall, tTup, tLst, rIxLH, rIxTH, gSub, rSetL, tPart, tNoPart, tSl, tBM, tBM0, L2.start, sc_ii, sc_ss, sc_bb, sc_nn, sc_ni, sc_in, sc_ns, sc_sn, sc_is, sc_si, eq_self, tChain, List.map_cons, List.map_nil, List.replicate_succ, List.replicate_zero, List.length_cons, List.length_nil, Nat.reduceAdd, Nat.reduceSub, Nat.zero_add, Nat.sub_self, Nat.add_sub_cancel, List.cons_append, List.nil_append, List.append_nil, List.getElem?_cons_zero, List.getElem?_cons_succ, List.set_cons_zero, List.set_cons_succ, Option.some.injEq, V.int.injEq, V.ref.injEq, V.bl.injEq, V.str.injEq, List.cons.injEq, HO.lst.injEq, HO.tup.injEq, and_true, true_and, exists_eq_left', exists_eq_left, exists_eq', exists_eq, exists_eq_right, exists_eq_right', exists_and_left, exists_and_right, and_assoc, upd_same, reduceCtorEq, false_and, and_false, exists_false, or_false, false_or, at0, at1, atM1, sg_inj, dot_eq, plus_eq, minus_eq, rIxS, at2, at3, at4, at5, ix0, ix1, ix2, ix3, upd_upd, decide_eq_true_eq, Int.reduceLT, Int.reduceLE, Int.reduceAdd, Int.reduceSub, Int.reduceNeg, Int.reduceMul, Int.reducePow, Int.reduceEq, decide_true, decide_false, Int.cast_ofNat_Int, Int.natCast_zero, Int.natCast_one, Nat.reduceEqDiff, Nat.reduceLeDiff, rIsB, tyN_non, tyN_bl, tyN_int, tyN_str, tyN_ref, tyO_lst, tyO_tup, tyO_dK, tyO_dT, V.ty.injEq, ite_true, ite_false, if_true, if_false, Bool.not_true, Bool.not_false, Bool.false_eq_true, kb_int_int, kb_int_bool, kb_int_str, kb_int_tuple, kb_int_list, kb_int_dict, kb_bool_int, kb_bool_bool, kb_bool_str, kb_bool_tuple, kb_bool_list, kb_bool_dict, kb_str_int, kb_str_bool, kb_str_str, kb_str_tuple, kb_str_list, kb_str_dict, kb_NoneType_int, kb_NoneType_bool, kb_NoneType_str, kb_NoneType_tuple, kb_NoneType_list, kb_NoneType_dict, kb_list_int, kb_list_bool, kb_list_str, kb_list_tuple, kb_list_list, kb_list_dict, kb_tuple_int, kb_tuple_bool, kb_tuple_str, kb_tuple_tuple, kb_tuple_list, kb_tuple_dict, kb_dict_int, kb_dict_bool, kb_dict_str, kb_dict_tuple, kb_dict_list, kb_dict_dict, cp_2_53, pw_2_53, cp_10_9, pw_10_9, cp_10_10, pw_10_10, cp_10_18, pw_10_18, cp_10_20, pw_10_20, cp_10_29, pw_10_29, cp_10_30, pw_10_30, tFld, HO.ins.injEq, look_t, look_c, T.cl_Form, T.nt_Form, T.nc_Form, ha, hb]
    refine ⟨_, _, dp_tm hr1 ht, dp_tm hq1 hu, shaped_tm fun t h => isQ_ok (h1 t h), shaped_tm fun t h => isQ_ok (h2 t h), ?_⟩
    rw [eqv_tm]
    simp only [tDNotIn, tDIn, tDGet, Option.isSome_some, Option.isSome_none, rIsO, isO_int, isO_str, isO_bl, isO_non, isO_ref, isOO_ins, isOO_lst, isOO_tup, isOO_dK, tMethR, StX.tMakeR, cxOf_K, tDNewK, tCallR, tNever, tSeq, tAsg, gName, tPar, tVar, tC, tOp, rI0, rI, rU, tUn, rEq, rNe, tTest, tB, tAnd, tOr, tNot, tAndV, tOrV, tNotV, tIf, tIfS, tRet, tRetN, tNext, tDrop, tCons, tNil, tCB, tCall, tTup, tLst, rIxLH, rIxTH, gSub, rSetL, tPart, tNoPart, tSl, tBM, tBM0, L2.start, sc_ii, sc_ss, sc_bb, sc_nn, sc_ni, sc_in, sc_ns, sc_sn, sc_is, sc_si, eq_self, tChain, List.map_cons, List.map_nil, List.replicate_succ, List.replicate_zero, List.length_cons, List.length_nil, Nat.reduceAdd, Nat.reduceSub, Nat.zero_add, Nat.sub_self, Nat.add_sub_cancel, List.cons_append, List.nil_append, List.append_nil, List.getElem?_cons_zero, List.getElem?_cons_succ, List.set_cons_zero, List.set_cons_succ, Option.some.injEq, V.int.injEq, V.ref.injEq, V.bl.injEq, V.str.injEq, List.cons.injEq, HO.lst.injEq, HO.tup.injEq, and_true, true_and, exists_eq_left', exists_eq_left, exists_eq', exists_eq, exists_eq_right, exists_eq_right', exists_and_left, exists_and_right, and_assoc, upd_same, reduceCtorEq, false_and, and_false, exists_false, or_false, false_or, at0, at1, atM1, sg_inj, dot_eq, plus_eq, minus_eq, rIxS, at2, at3, at4, at5, ix0, ix1, ix2, ix3, upd_upd, decide_eq_true_eq, Int.reduceLT, Int.reduceLE, Int.reduceAdd, Int.reduceSub, Int.reduceNeg, Int.reduceMul, Int.reducePow, Int.reduceEq, decide_true, decide_false, Int.cast_ofNat_Int, Int.natCast_zero, Int.natCast_one, Nat.reduceEqDiff, Nat.reduceLeDiff, rIsB, tyN_non, tyN_bl, tyN_int, tyN_str, tyN_ref, tyO_lst, tyO_tup, tyO_dK, tyO_dT, V.ty.injEq, ite_true, ite_false, if_true, if_false, Bool.not_true, Bool.not_false, Bool.false_eq_true, kb_int_int, kb_int_bool, kb_int_str, kb_int_tuple, kb_int_list, kb_int_dict, kb_bool_int, kb_bool_bool, kb_bool_str, kb_bool_tuple, kb_bool_list, kb_bool_dict, kb_str_int, kb_str_bool, kb_str_str, kb_str_tuple, kb_str_list, kb_str_dict, kb_NoneType_int, kb_NoneType_bool, kb_NoneType_str, kb_NoneType_tuple, kb_NoneType_list, kb_NoneType_dict, kb_list_int, kb_list_bool, kb_list_str, kb_list_tuple, kb_list_list, kb_list_dict, kb_tuple_int, kb_tuple_bool, kb_tuple_str, kb_tuple_tuple, kb_tuple_list, kb_tuple_dict, kb_dict_int, kb_dict_bool, kb_dict_str, kb_dict_tuple, kb_dict_list, kb_dict_dict, cp_2_53, pw_2_53, cp_10_9, pw_10_9, cp_10_10, pw_10_10, cp_10_18, pw_10_18, cp_10_20, pw_10_20, cp_10_29, pw_10_29, cp_10_30, pw_10_30, tFld, HO.ins.injEq, look_t, look_c, T.cl_Form, T.nt_Form, T.nc_Form, ha, hb]
    refine ite2 (fun e => ?_) fun e => ?_
    · rw [decide_eq_true e] at k; exact k
    · rw [decide_eq_false e] at k; exact k
end
end K0
namespace K0
open PySem PySem.Spec PyProof.Rows L2
/-! written forms -/
def Lz (z : Str) : List Nat := z.cps.toList
theorem Lz_app (a b : Str) : Lz (a ++ b) = Lz a ++ Lz b := by
  show (a.cps ++ b.cps).toList = _
  rw [Array.toList_append]; rfl
theorem Lz_len (a : Str) : (Lz a).length = a.length := rfl
theorem len_app (a b : Str) : (a ++ b).length = a.length + b.length := by
  rw [← Lz_len, Lz_app, List.length_append, Lz_len, Lz_len]
theorem empty_app (a : Str) : Str.empty ++ a = a := str_ext (by
  show (#[] ++ a.cps).toList = _
  simp)
theorem size_big {n : Nat} (h : n ≤ 100000) : n ≤ sizeLine := Nat.le_trans h (by decide)
def dgt (i : Int) : List Nat := Lz (Str.ofString (toString i))
theorem Sm.log1920 {n : Nat} {x : Int} (h : Sm n x) (h0 : 0 < n := by decide) (h9 : n ≤ 1900 := by decide) : x.natAbs.log2 < 1920 := Nat.lt_of_lt_of_le (PySem.Flt.log2_lt_of h0 h) (by omega)
theorem num_len {n : Nat} {x : Int} (h : Sm n x) (h0 : 0 < n := by decide) (h9 : n ≤ 1900 := by decide) : (Str.ofString (toString x)).length ≤ 1921 := PyProof.Rows.int_text_len_1921 (h.log1920 h0 h9)
theorem sp1 : Lz (Str.ofString " ") = [32] := by decide +kernel
theorem mi2 : Lz (Str.ofString "- ") = [45, 32] := by decide +kernel
theorem pl2 : Lz (Str.ofString "+ ") = [43, 32] := by decide +kernel
theorem mi1 : Lz (Str.ofString "-") = [45] := by decide +kernel
def szL (w : Int) (n : List Nat) : List Nat := if w.natAbs = 1 then n else dgt w.natAbs ++ [32] ++ n
def sgL (w : Int) : List Nat := if w < 0 then [45] else [43]
theorem Sm.abs {n : Nat} {x : Int} (h : Sm n x) : Sm n (x.natAbs : Int) := by unfold Sm at *; omega
section
variable {P : Program} {w : World} {K : PySem.W.Frag} {mg : Str → Option Value} {base : Heap}
def spSize : Sp := fun vs H Q _ => ∃ (w : Int) (n : Str), vs = [.int w, .str n] ∧ n.length ≤ 12 ∧ Sm 1500 w ∧ ∀ z, Lz z = szL w (Lz n) → z.length ≤ 2000 → Q (.str z) H
theorem sc_size_text : FnScope ["weight", "name"] ["weight", "name"] (defScope s_size_text) := ⟨rfl, rfl, rfl, by decide +kernel, rfl, by decide +kernel, by decide +kernel⟩
theorem ok_size_text (T : Txt K mg) : FnOk P w K mg base CX0 1 (He.ga K "size_text") (fdOf K (He.ga K "size_text")) ["weight", "name"] (spSize) := by
  refine T.F_size_text.ok sc_size_text (fun vs H Q E h => ?_) (fun cdv A outer s H vs Q E hr h => ?_)
  · obtain ⟨_, _, rfl, _⟩ := h
    rfl
  · obtain ⟨x, n, rfl, hn, sw, k⟩ := h
    refine ⟨_, PSs.nox (pss_cons (ps_if (pt_cmpR op_eq (pe_callB call_abs (by rfl) T.z_abs (by decide +kernel) (pa_cons (pv 0) pa_nil)) pe_int (nomark _)) (pss_one (ps_ret (pv 1))) pss_nil)
      (pss_one (ps_ret (pe_joined (PJ.cons (pe_fmt (pe_callB call_abs (by rfl) T.z_abs (by decide +kernel) (pa_cons (pv 0) pa_nil))) (PJ.cons pe_str (PJ.cons (pe_fmt (pv 1)) PJ.nil))))))), ?_⟩
    simp only [tDNotIn, tDIn, tDGet, Option.isSome_some, Option.isSome_none, rIsO, isO_int, isO_str, isO_bl, isO_non, isO_ref, isOO_ins, isOO_lst, isOO_tup, isOO_dK, tMethR, StX.tMakeR, cxOf_K, tDNewK, tCallR, tNever, tSeq, tAsg, gName, tPar, tVar, tC, tOp, rI0, rI, rU, tUn, rEq, rNe, tTest, tB, tAnd, tOr, tNot, tAndV, tOrV, tNotV, tIf, tIfS, tRet, tRetN, tNext, tDrop, tCons, tNil, tCB, tCall, tTup, tLst, rIxLH, rIxTH, gSub, rSetL, tPart, tNoPart, tSl, tBM, tBM0, L2.start, sc_ii, sc_ss, sc_bb, sc_nn, sc_ni, sc_in, sc_ns, sc_sn, sc_is, sc_si, eq_self, tChain, List.map_cons, List.map_nil, List.replicate_succ, List.replicate_zero, List.length_cons, List.length_nil, Nat.reduceAdd, Nat.reduceSub, Nat.zero_add, Nat.sub_self, Nat.add_sub_cancel, List.cons_append, List.nil_append, List.append_nil, List.getElem?_cons_zero, List.getElem?_cons_succ, List.set_cons_zero, List.set_cons_succ, Option.some.injEq, V.int.injEq, V.ref.injEq, V.bl.injEq, V.str.injEq, List.cons.injEq, HO.lst.injEq, HO.tup.injEq, and_true, true_and, exists_eq_left', exists_eq_left, exists_eq', exists_eq, exists_eq_right, exists_eq_right', exists_and_left, exists_and_right, and_assoc, upd_same, reduceCtorEq, false_and, and_false, exists_false, or_false, false_or, at0, at1, atM1, sg_inj, dot_eq, plus_eq, minus_eq, rIxS, at2, at3, at4, at5, ix0, ix1, ix2, ix3, upd_upd, decide_eq_true_eq, Int.reduceLT, Int.reduceLE, Int.reduceAdd, Int.reduceSub, Int.reduceNeg, Int.reduceMul, Int.reducePow, Int.reduceEq, decide_true, decide_false, Int.cast_ofNat_Int, Int.natCast_zero, Int.natCast_one, Nat.reduceEqDiff, Nat.reduceLeDiff, rIsB, tyN_non, tyN_bl, tyN_int, tyN_str, tyN_ref, tyO_lst, tyO_tup, tyO_dK, tyO_dT, V.ty.injEq, ite_true, ite_false, if_true, if_false, Bool.not_true, Bool.not_false, Bool.false_eq_true, kb_int_int, kb_int_bool, kb_int_str, kb_int_tuple, kb_int_list, kb_int_dict, kb_bool_int, kb_bool_bool, kb_bool_str, kb_bool_tuple, kb_bool_list, kb_bool_dict, kb_str_int, kb_str_bool, kb_str_str, kb_str_tuple, kb_str_list, kb_str_dict, kb_NoneType_int, kb_NoneType_bool, kb_NoneType_str, kb_NoneType_tuple, kb_NoneType_list, kb_NoneType_dict, kb_list_int, kb_list_bool, kb_list_str, kb_list_tuple, kb_list_list, kb_list_dict, kb_tuple_int, kb_tuple_bool, kb_tuple_str, kb_tuple_tuple, kb_tuple_list, kb_tuple_dict, kb_dict_int, kb_dict_bool, kb_dict_str, kb_dict_tuple, kb_dict_list, kb_dict_dict, cp_2_53, pw_2_53, cp_10_9, pw_10_9, cp_10_10, pw_10_10, cp_10_18, pw_10_18, cp_10_20, pw_10_20, cp_10_29, pw_10_29, cp_10_30, pw_10_30, tFmt, tJs, empty_app, len_app, abs_nat]
    have l1 : (Str.ofString " ").length = 1 := congrArg List.length sp1
    have l2 := num_len sw.abs
    refine ite2 (fun e => ?_) fun e => ?_
    · exact k n (by unfold szL; rw [if_pos (by omega)]) (by omega)
    · refine ⟨sw.abs.log1920, size_big (by omega), size_big (by omega), size_big (by omega), size_big (by omega), k _ ?_ (by rw [len_app, len_app]; omega)⟩
      rw [Lz_app, Lz_app, sp1]
      unfold szL
      rw [if_neg (by omega)]; rfl
def spSigned : Sp := fun vs H Q _ => ∃ (w : Int) (n : Str), vs = [.int w, .str n] ∧ n.length ≤ 3000 ∧ ∀ z, Lz z = sgL w ++ [32] ++ Lz n → z.length ≤ n.length + 2 → Q (.str z) H
theorem sc_signed : FnScope ["number", "text"] ["number", "text"] (defScope s_signed) := ⟨rfl, rfl, rfl, by decide +kernel, rfl, by decide +kernel, by decide +kernel⟩
theorem ok_signed (T : Txt K mg) : FnOk P w K mg base CX0 1 (He.ga K "signed") (fdOf K (He.ga K "signed")) ["number", "text"] (spSigned) := by
  refine T.F_signed.ok sc_signed (fun vs H Q E h => ?_) (fun cdv A outer s H vs Q E hr h => ?_)
  · obtain ⟨_, _, rfl, _⟩ := h
    rfl
  · obtain ⟨x, n, rfl, hn, k⟩ := h
    refine ⟨_, PSs.nox (pss_cons (ps_if (pt_cmpR op_lt (pv 0) pe_int (nomark _)) (pss_one (ps_ret (pe_joined (PJ.cons pe_str (PJ.cons (pe_fmt (pv 1)) PJ.nil))))) pss_nil)
      (pss_one (ps_ret (pe_joined (PJ.cons pe_str (PJ.cons (pe_fmt (pv 1)) PJ.nil)))))), ?_⟩
    simp only [tDNotIn, tDIn, tDGet, Option.isSome_some, Option.isSome_none, rIsO, isO_int, isO_str, isO_bl, isO_non, isO_ref, isOO_ins, isOO_lst, isOO_tup, isOO_dK, tMethR, StX.tMakeR, cxOf_K, tDNewK, tCallR, tNever, tSeq, tAsg, gName, tPar, tVar, tC, tOp, rI0, rI, rU, tUn, rEq, rNe, tTest, tB, tAnd, tOr, tNot, tAndV, tOrV, tNotV, tIf, tIfS, tRet, tRetN, tNext, tDrop, tCons, tNil, tCB, tCall, tTup, tLst, rIxLH, rIxTH, gSub, rSetL, tPart, tNoPart, tSl, tBM, tBM0, L2.start, sc_ii, sc_ss, sc_bb, sc_nn, sc_ni, sc_in, sc_ns, sc_sn, sc_is, sc_si, eq_self, tChain, List.map_cons, List.map_nil, List.replicate_succ, List.replicate_zero, List.length_cons, List.length_nil, Nat.reduceAdd, Nat.reduceSub, Nat.zero_add, Nat.sub_self, Nat.add_sub_cancel, List.cons_append, List.nil_append, List.append_nil, List.getElem?_cons_zero, List.getElem?_cons_succ, List.set_cons_zero, List.set_cons_succ, Option.some.injEq, V.int.injEq, V.ref.injEq, V.bl.injEq, V.str.injEq, List.cons.injEq, HO.lst.injEq, HO.tup.injEq, and_true, true_and, exists_eq_left', exists_eq_left, exists_eq', exists_eq, exists_eq_right, exists_eq_right', exists_and_left, exists_and_right, and_assoc, upd_same, reduceCtorEq, false_and, and_false, exists_false, or_false, false_or, at0, at1, atM1, sg_inj, dot_eq, plus_eq, minus_eq, rIxS, at2, at3, at4, at5, ix0, ix1, ix2, ix3, upd_upd, decide_eq_true_eq, Int.reduceLT, Int.reduceLE, Int.reduceAdd, Int.reduceSub, Int.reduceNeg, Int.reduceMul, Int.reducePow, Int.reduceEq, decide_true, decide_false, Int.cast_ofNat_Int, Int.natCast_zero, Int.natCast_one, Nat.reduceEqDiff, Nat.reduceLeDiff, rIsB, tyN_non, tyN_bl, tyN_int, tyN_str, tyN_ref, tyO_lst, tyO_tup, tyO_dK, tyO_dT, V.ty.injEq, ite_true, ite_false, if_true, if_false, Bool.not_true, Bool.not_false, Bool.false_eq_true, kb_int_int, kb_int_bool, kb_int_str, kb_int_tuple, kb_int_list, kb_int_dict, kb_bool_int, kb_bool_bool, kb_bool_str, kb_bool_tuple, kb_bool_list, kb_bool_dict, kb_str_int, kb_str_bool, kb_str_str, kb_str_tuple, kb_str_list, kb_str_dict, kb_NoneType_int, kb_NoneType_bool, kb_NoneType_str, kb_NoneType_tuple, kb_NoneType_list, kb_NoneType_dict, kb_list_int, kb_list_bool, kb_list_str, kb_list_tuple, kb_list_list, kb_list_dict, kb_tuple_int, kb_tuple_bool, kb_tuple_str, kb_tuple_tuple, kb_tuple_list, kb_tuple_dict, kb_dict_int, kb_dict_bool, kb_dict_str, kb_dict_tuple, kb_dict_list, kb_dict_dict, cp_2_53, pw_2_53, cp_10_9, pw_10_9, cp_10_10, pw_10_10, cp_10_18, pw_10_18, cp_10_20, pw_10_20, cp_10_29, pw_10_29, cp_10_30, pw_10_30, tFmt, tJs, empty_app, len_app]
    have l1 : (Str.ofString "- ").length = 2 := congrArg List.length mi2
    have l2 : (Str.ofString "+ ").length = 2 := congrArg List.length pl2
    refine ite2 (fun e => ?_) fun e => ?_
    · refine ⟨size_big (by omega), size_big (by omega), size_big (by omega), k _ ?_ (by rw [len_app]; omega)⟩
      rw [Lz_app, mi2]; unfold sgL; rw [if_pos e]; rfl
    · refine ⟨size_big (by omega), size_big (by omega), size_big (by omega), k _ ?_ (by rw [len_app]; omega)⟩
      rw [Lz_app, pl2]; unfold sgL; rw [if_neg e]; rfl
end
end K0
namespace K0
open PySem PySem.Spec PyProof.Rows L2
def jn : List (List Nat) → List Nat
  | [] => []
  | p :: r => p ++ r.flatMap fun q => 32 :: q
theorem jn_join (sp : Str) (h : Lz sp = [32]) : ∀ ys : List Str, Lz (Txt.join sp ys) = jn (ys.map Lz) := by
  intro ys
  rw [TL.join_eq]
  induction ys with
  | nil => rfl
  | cons a r ih =>
    cases r with
    | nil => show Lz a = Lz a ++ []; rw [List.append_nil]
    | cons b s =>
      show Lz (a ++ sp ++ Str.join sp (b :: s)) = _
      rw [Lz_app, Lz_app, h, ih]
      simp [jn]
/-- the pieces of a written form: a number whose sign is written, and what stands behind it -/
def pcs (ts : List Trm) (c : Int) : List (Int × List Nat) := ts.map (fun t => (t.2, szL t.2 (Lz t.1))) ++ (if c = 0 ∧ ts ≠ [] then [] else [(c, dgt c.natAbs)])
def seg (p : Int × List Nat) : List Nat := sgL p.1 ++ 32 :: p.2
def fin : List (Int × List Nat) → List Nat
  | [] => []
  | p :: r => (if p.1 < 0 then [45] else []) ++ (p.2 ++ r.flatMap fun q => 32 :: seg q)
theorem pcs_ne (ts : List Trm) (c : Int) : pcs ts c ≠ [] := by
  unfold pcs
  cases ts with
  | nil => simp
  | cons t r => simp
theorem jn_seg (p : Int × List Nat) (r : List (Int × List Nat)) : jn ((p :: r).map seg) = sgL p.1 ++ 32 :: (p.2 ++ r.flatMap fun q => 32 :: seg q) := by
  show seg p ++ (r.map seg).flatMap (fun q => 32 :: q) = _
  rw [List.flatMap_map]
  simp [seg]
theorem Lz_cut2 {z : Str} {x y : Nat} {r : List Nat} (h : Lz z = x :: y :: r) : Lz (cutS z (some 2) none) = r := by
  have hl : z.length = r.length + 2 := by rw [← Lz_len, h]; rfl
  have e : HT.sIx z.length 0 (some 2) = 2 := by
    have := HT.sIx_nat z.length 0 2
    rw [show ((2 : Nat) : Int) = 2 from rfl] at this
    rw [this]; omega
  show (((z.cps.toList.drop (HT.sIx z.length 0 (some 2))).take (HT.sIx z.length z.length none - HT.sIx z.length 0 (some 2))).toArray).toList = r
  rw [e, HT.sIx_none, List.toList_toArray]
  show ((Lz z).drop 2).take (z.length - 2) = r
  rw [h]
  show r.take (z.length - 2) = r
  rw [List.take_of_length_le (by omega)]
theorem isQ_le {z : Str} (h : isQ z = true) : z.length ≤ 12 := by
  apply Decidable.byContradiction
  intro g
  rw [isQ_len (fun e => g e.2)] at h
  cases h
theorem take_s {α : Type} {l : List α} {n : Nat} {t : α} (h : l[n]? = some t) : l.take (n + 1) = l.take n ++ [t] := by rw [List.take_add_one, h]; rfl
theorem sum_le {f : Str → Nat} {b : Nat} : ∀ (l : List Str), (∀ z ∈ l, f z ≤ b) → (l.map f).sum ≤ l.length * b := by
  intro l h
  induction l with
  | nil => simp
  | cons a r ih =>
    have := ih fun z hz => h z (List.mem_cons_of_mem _ hz)
    have := h a (List.mem_cons_self ..)
    rw [List.map_cons, List.sum_cons, List.length_cons, Nat.add_mul]; omega
theorem jn_len : ∀ (l : List (List Nat)) (b : Nat), (∀ z ∈ l, z.length ≤ b) → (jn l).length ≤ l.length * (b + 1) := by
  intro l b h
  have g : ∀ r : List (List Nat), (∀ z ∈ r, z.length ≤ b) → (r.flatMap fun q => 32 :: q).length ≤ r.length * (b + 1) := by
    intro r
    induction r with
    | nil => intro _; simp
    | cons a r ih =>
      intro h
      have := ih fun z hz => h z (List.mem_cons_of_mem _ hz)
      have := h a (List.mem_cons_self ..)
      rw [List.flatMap_cons, List.length_append, List.length_cons, List.length_cons, Nat.add_mul]; omega
  cases l with
  | nil => simp [jn]
  | cons a r =>
    have := g r fun z hz => h z (List.mem_cons_of_mem _ hz)
    have := h a (List.mem_cons_self ..)
    show (a ++ _).length ≤ _
    rw [List.length_append, List.length_cons, Nat.add_mul]; omega
section
variable {P : Program} {w : World} {K : PySem.W.Frag} {mg : Str → Option Value} {base : Heap}
def spStrF (C : Addr) : Sp := fun vs H Q _ => ∃ (a : Addr) (N : List Str) (ts : List Trm) (c : Int), vs = [.ref a] ∧ FormAt C H a ts c ∧ Pool N ∧ FB N 1000 ts c ∧ ∀ z H', Same H H' → Lz z = fin (pcs ts c) → z.length ≤ 50000 → Q (.str z) H'
theorem sc_Form___str__ : FnScope ["self", "parts", "name", "weight", "text"] ["self"] (defScope s_Form___str__) := ⟨rfl, rfl, rfl, by decide +kernel, rfl, by decide +kernel, by decide +kernel⟩
theorem ok_Form___str__ (T : Txt K mg) : FnOk P w K mg base CX0 2 (He.ma K (He.ga K "Form") "__str__") (fdOf K (He.ma K (He.ga K "Form") "__str__")) ["self"] (spStrF (He.ga K "Form")) := by
  refine T.F_Form___str__.ok sc_Form___str__ (fun vs H Q E h => ?_) (fun cdv A outer s H vs Q E hr h => ?_)
  · obtain ⟨_, _, _, _, rfl, _⟩ := h
    rfl
  · obtain ⟨a, N, ts, c, rfl, ⟨dx, r, vs, ha, hr1, ht⟩, pl, fb, k⟩ := h
    refine ⟨_, PSs.nox (pss_cons (ps_setLc (i := 1) (own := [("name", 2), ("weight", 3)]) (g := gTup K 2 (gCons (gName 2) (gCons (gName 3) gNil))) (tt := tYes) (by rfl) sc_Form___str__.nd rfl rfl (sw_true rfl rfl rfl (by decide +kernel)) (pi_tup (pe_fld (pv 0) rfl)) (blkOk_by (own := [("name", 2), ("weight", 3)]) (N := ["self", "parts", "name", "weight", "text"]) (sc := defScope s_Form___str__) (by decide +kernel)) (fun _ _ _ _ _ => (pg_tup (by rfl) (pgs_cons (pg_name (i := 2) sc_Form___str__.nd rfl (Or.inl rfl)) (pgs_cons (pg_name (i := 3) sc_Form___str__.nd rfl (Or.inl rfl)) pgs_nil)))) (fun _ _ _ _ _ => pts_nil) (fun _ _ _ _ _ => (pe_call (ok_signed T) (hr.mono (by decide)) (by rfl) T.g_signed T.k_signed T.b_signed .nil pass0 (pa_cons (pv 3) (pa_cons (pe_call (ok_size_text T) (hr.mono (by decide)) (by rfl) T.g_size_text T.k_size_text T.b_size_text .nil pass0 (pa_cons (pv 3) (pa_cons (pv 2) pa_nil))) pa_nil)))))
      (Evl.pss_cut (ps_if (PW.pt (pw_or (pt_cmpR op_ne (pe_fld (pv 0) rfl) pe_int (nomark _)) (pw_or1 (pt_not (pt_truth (pe_fld (pv 0) rfl) (by intro _; rfl)))))) (pss_one (ps_expr (pe_bm PySem.F.plainAttrs_list PySem.F.slot_list_append PySem.F.type_list_append mt_append (pv 1) (pa_cons (pe_call (ok_signed T) (hr.mono (by decide)) (by rfl) T.g_signed T.k_signed T.b_signed .nil pass0 (pa_cons (pe_fld (pv 0) rfl) (pa_cons (pe_joined1 (pe_fmt (pe_callB call_abs (by rfl) T.z_abs (by decide +kernel) (pa_cons (pe_fld (pv 0) rfl) pa_nil)))) pa_nil))) pa_nil)))) pss_nil)
      (pss_cons (ps_set (i := 4) sc_Form___str__.nd rfl (Or.inl rfl) (pe_join pe_str (pv 1)))
      (pss_cons (ps_if (pt_cmpR op_eq (pe_ix ix_str (pv 4) pe_int (fun _ _ => rfl)) pe_str (nomark _)) (pss_one (ps_ret (pe_callTy SkE.call_str_str (by rfl) T.z_str (by decide +kernel) (pa_cons (pe_slice sl_str (pv 4) (po_some pe_int) po_none) pa_nil)))) pss_nil)
      (pss_one (ps_ret (pe_joined (PJ.cons pe_str (PJ.cons (pe_fmt (pe_slice sl_str (pv 4) (po_some pe_int) po_none)) PJ.nil))))))))), ?_⟩
    have hl : ts.length ≤ 12 := by have := fb.len; have := pl.l; omega
    simp only [tDNotIn, tDIn, tDGet, Option.isSome_some, Option.isSome_none, rIsO, isO_int, isO_str, isO_bl, isO_non, isO_ref, isOO_ins, isOO_lst, isOO_tup, isOO_dK, tMethR, StX.tMakeR, cxOf_K, tDNewK, tCallR, tNever, tSeq, tAsg, gName, tPar, tVar, tC, tOp, rI0, rI, rU, tUn, rEq, rNe, tTest, tB, tAnd, tOr, tNot, tAndV, tOrV, tNotV, tIf, tIfS, tRet, tRetN, tNext, tDrop, tCons, tNil, tCB, tCall, tTup, tLst, rIxLH, rIxTH, gSub, rSetL, tPart, tNoPart, tSl, tBM, tBM0, L2.start, sc_ii, sc_ss, sc_bb, sc_nn, sc_ni, sc_in, sc_ns, sc_sn, sc_is, sc_si, eq_self, tChain, List.map_cons, List.map_nil, List.replicate_succ, List.replicate_zero, List.length_cons, List.length_nil, Nat.reduceAdd, Nat.reduceSub, Nat.zero_add, Nat.sub_self, Nat.add_sub_cancel, List.cons_append, List.nil_append, List.append_nil, List.getElem?_cons_zero, List.getElem?_cons_succ, List.set_cons_zero, List.set_cons_succ, Option.some.injEq, V.int.injEq, V.ref.injEq, V.bl.injEq, V.str.injEq, List.cons.injEq, HO.lst.injEq, HO.tup.injEq, and_true, true_and, exists_eq_left', exists_eq_left, exists_eq', exists_eq, exists_eq_right, exists_eq_right', exists_and_left, exists_and_right, and_assoc, upd_same, reduceCtorEq, false_and, and_false, exists_false, or_false, false_or, at0, at1, atM1, sg_inj, dot_eq, plus_eq, minus_eq, rIxS, at2, at3, at4, at5, ix0, ix1, ix2, ix3, upd_upd, decide_eq_true_eq, Int.reduceLT, Int.reduceLE, Int.reduceAdd, Int.reduceSub, Int.reduceNeg, Int.reduceMul, Int.reducePow, Int.reduceEq, decide_true, decide_false, Int.cast_ofNat_Int, Int.natCast_zero, Int.natCast_one, Nat.reduceEqDiff, Nat.reduceLeDiff, rIsB, tyN_non, tyN_bl, tyN_int, tyN_str, tyN_ref, tyO_lst, tyO_tup, tyO_dK, tyO_dT, V.ty.injEq, ite_true, ite_false, if_true, if_false, Bool.not_true, Bool.not_false, Bool.false_eq_true, kb_int_int, kb_int_bool, kb_int_str, kb_int_tuple, kb_int_list, kb_int_dict, kb_bool_int, kb_bool_bool, kb_bool_str, kb_bool_tuple, kb_bool_list, kb_bool_dict, kb_str_int, kb_str_bool, kb_str_str, kb_str_tuple, kb_str_list, kb_str_dict, kb_NoneType_int, kb_NoneType_bool, kb_NoneType_str, kb_NoneType_tuple, kb_NoneType_list, kb_NoneType_dict, kb_list_int, kb_list_bool, kb_list_str, kb_list_tuple, kb_list_list, kb_list_dict, kb_tuple_int, kb_tuple_bool, kb_tuple_str, kb_tuple_tuple, kb_tuple_list, kb_tuple_dict, kb_dict_int, kb_dict_bool, kb_dict_str, kb_dict_tuple, kb_dict_list, kb_dict_dict, cp_2_53, pw_2_53, cp_10_9, pw_10_9, cp_10_10, pw_10_10, cp_10_18, pw_10_18, cp_10_20, pw_10_20, cp_10_29, pw_10_29, cp_10_30, pw_10_30]
    refine ⟨_, rfl, a, _, _, _, _, rfl, ha, T.cl_Form, T.nt_Form, look_t _ _, r, rfl, ⟨_, .inl (.inl hr1)⟩, fun D nD => lc_it (walk_tup (xs := vs)) (fun n H' => Same H H' ∧ ∃ ys : List Str, H' D = some (.lst (ys.map V.str)) ∧ ys.map Lz = ((ts.take n).map fun t => seg (t.2, szL t.2 (Lz t.1))) ∧ ∀ y ∈ ys, y.length ≤ 2002) ⟨same_upd nD, [], upd_same, rfl, by simp⟩ ?_ ?_ ?_⟩
    · rintro n H' _ ⟨sm, _⟩
      exact .inl (.inl (sm _ _ hr1))
    · rintro n x H2 H3 hn ⟨sm, ys, hD, hv, hy⟩ ⟨rfl, hx⟩
      obtain ⟨t, q, ht', rfl, hq⟩ := ht.at hx
      have hm := List.mem_of_getElem? ht'
      have hyl : ys.length ≤ 12 := by have := congrArg List.length hv; rw [List.length_map, List.length_map, List.length_take] at this; omega
      refine g_pair (t := t) ⟨q, rfl, sm _ _ hq⟩ ⟨rfl, ?_⟩
      simp only [tDNotIn, tDIn, tDGet, Option.isSome_some, Option.isSome_none, rIsO, isO_int, isO_str, isO_bl, isO_non, isO_ref, isOO_ins, isOO_lst, isOO_tup, isOO_dK, tMethR, StX.tMakeR, cxOf_K, tDNewK, tCallR, tNever, tSeq, tAsg, gName, tPar, tVar, tC, tOp, rI0, rI, rU, tUn, rEq, rNe, tTest, tB, tAnd, tOr, tNot, tAndV, tOrV, tNotV, tIf, tIfS, tRet, tRetN, tNext, tDrop, tCons, tNil, tCB, tCall, tTup, tLst, rIxLH, rIxTH, gSub, rSetL, tPart, tNoPart, tSl, tBM, tBM0, L2.start, sc_ii, sc_ss, sc_bb, sc_nn, sc_ni, sc_in, sc_ns, sc_sn, sc_is, sc_si, eq_self, tChain, List.map_cons, List.map_nil, List.replicate_succ, List.replicate_zero, List.length_cons, List.length_nil, Nat.reduceAdd, Nat.reduceSub, Nat.zero_add, Nat.sub_self, Nat.add_sub_cancel, List.cons_append, List.nil_append, List.append_nil, List.getElem?_cons_zero, List.getElem?_cons_succ, List.set_cons_zero, List.set_cons_succ, Option.some.injEq, V.int.injEq, V.ref.injEq, V.bl.injEq, V.str.injEq, List.cons.injEq, HO.lst.injEq, HO.tup.injEq, and_true, true_and, exists_eq_left', exists_eq_left, exists_eq', exists_eq, exists_eq_right, exists_eq_right', exists_and_left, exists_and_right, and_assoc, upd_same, reduceCtorEq, false_and, and_false, exists_false, or_false, false_or, at0, at1, atM1, sg_inj, dot_eq, plus_eq, minus_eq, rIxS, at2, at3, at4, at5, ix0, ix1, ix2, ix3, upd_upd, decide_eq_true_eq, Int.reduceLT, Int.reduceLE, Int.reduceAdd, Int.reduceSub, Int.reduceNeg, Int.reduceMul, Int.reducePow, Int.reduceEq, decide_true, decide_false, Int.cast_ofNat_Int, Int.natCast_zero, Int.natCast_one, Nat.reduceEqDiff, Nat.reduceLeDiff, rIsB, tyN_non, tyN_bl, tyN_int, tyN_str, tyN_ref, tyO_lst, tyO_tup, tyO_dK, tyO_dT, V.ty.injEq, ite_true, ite_false, if_true, if_false, Bool.not_true, Bool.not_false, Bool.false_eq_true, kb_int_int, kb_int_bool, kb_int_str, kb_int_tuple, kb_int_list, kb_int_dict, kb_bool_int, kb_bool_bool, kb_bool_str, kb_bool_tuple, kb_bool_list, kb_bool_dict, kb_str_int, kb_str_bool, kb_str_str, kb_str_tuple, kb_str_list, kb_str_dict, kb_NoneType_int, kb_NoneType_bool, kb_NoneType_str, kb_NoneType_tuple, kb_NoneType_list, kb_NoneType_dict, kb_list_int, kb_list_bool, kb_list_str, kb_list_tuple, kb_list_list, kb_list_dict, kb_tuple_int, kb_tuple_bool, kb_tuple_str, kb_tuple_tuple, kb_tuple_list, kb_tuple_dict, kb_dict_int, kb_dict_bool, kb_dict_str, kb_dict_tuple, kb_dict_list, kb_dict_dict, cp_2_53, pw_2_53, cp_10_9, pw_10_9, cp_10_10, pw_10_10, cp_10_18, pw_10_18, cp_10_20, pw_10_20, cp_10_29, pw_10_29, cp_10_30, pw_10_30, spSize, spSigned, wipe]
      refine ⟨isQ_le (fb.isq pl t hm), (fb.bw t hm).mono (by decide), fun z hz lz => ⟨by omega, fun z' hz' lz' => ⟨_, hD, ?_, ?_⟩⟩⟩
      · rw [List.length_map]; exact Nat.lt_of_le_of_lt hyl (by decide)
      · refine ⟨fun b o h => by rw [upd_ne (ne_of_none h nD)]; exact sm b o h, ys ++ [z'], by rw [List.map_append]; rfl, ?_, fun y h => ?_⟩
        · rw [List.map_append, hv, take_s ht', List.map_append, List.map_cons, List.map_nil, List.map_cons, List.map_nil, hz', hz]
          simp [seg]
        · rcases List.mem_append.mp h with h | h
          · exact hy y h
          · rw [List.mem_singleton.mp h]; omega
    · rintro H2 ⟨sm, ys, hD, hv, hy⟩
      rw [ht.1, List.take_length] at hv
      have hyl : ys.length ≤ 12 := by have := congrArg List.length hv; rw [List.length_map, List.length_map] at this; omega
      have ha2 := sm _ _ ha
      have hr2 := sm _ _ hr1
      refine ⟨fun σ' H' => ∃ zs : List Str, σ' = [some (.ref a), some (.ref D), none, none, none] ∧ Same H H' ∧ H' D = some (.lst (zs.map V.str)) ∧ zs.map Lz = (pcs ts c).map seg ∧ zs.length ≤ 13 ∧ ∀ z ∈ zs, z.length ≤ 2002, ?_, ?_⟩
      · have l2 := num_len (fb.bc.mono (m := 1500) (by decide)).abs
        simp only [tDNotIn, tDIn, tDGet, Option.isSome_some, Option.isSome_none, rIsO, isO_int, isO_str, isO_bl, isO_non, isO_ref, isOO_ins, isOO_lst, isOO_tup, isOO_dK, tMethR, StX.tMakeR, cxOf_K, tDNewK, tCallR, tNever, tSeq, tAsg, gName, tPar, tVar, tC, tOp, rI0, rI, rU, tUn, rEq, rNe, tTest, tB, tAnd, tOr, tNot, tAndV, tOrV, tNotV, tIf, tIfS, tRet, tRetN, tNext, tDrop, tCons, tNil, tCB, tCall, tTup, tLst, rIxLH, rIxTH, gSub, rSetL, tPart, tNoPart, tSl, tBM, tBM0, L2.start, sc_ii, sc_ss, sc_bb, sc_nn, sc_ni, sc_in, sc_ns, sc_sn, sc_is, sc_si, eq_self, tChain, List.map_cons, List.map_nil, List.replicate_succ, List.replicate_zero, List.length_cons, List.length_nil, Nat.reduceAdd, Nat.reduceSub, Nat.zero_add, Nat.sub_self, Nat.add_sub_cancel, List.cons_append, List.nil_append, List.append_nil, List.getElem?_cons_zero, List.getElem?_cons_succ, List.set_cons_zero, List.set_cons_succ, Option.some.injEq, V.int.injEq, V.ref.injEq, V.bl.injEq, V.str.injEq, List.cons.injEq, HO.lst.injEq, HO.tup.injEq, and_true, true_and, exists_eq_left', exists_eq_left, exists_eq', exists_eq, exists_eq_right, exists_eq_right', exists_and_left, exists_and_right, and_assoc, upd_same, reduceCtorEq, false_and, and_false, exists_false, or_false, false_or, at0, at1, atM1, sg_inj, dot_eq, plus_eq, minus_eq, rIxS, at2, at3, at4, at5, ix0, ix1, ix2, ix3, upd_upd, decide_eq_true_eq, Int.reduceLT, Int.reduceLE, Int.reduceAdd, Int.reduceSub, Int.reduceNeg, Int.reduceMul, Int.reducePow, Int.reduceEq, decide_true, decide_false, Int.cast_ofNat_Int, Int.natCast_zero, Int.natCast_one, Nat.reduceEqDiff, Nat.reduceLeDiff, rIsB, tyN_non, tyN_bl, tyN_int, tyN_str, tyN_ref, tyO_lst, tyO_tup, tyO_dK, tyO_dT, V.ty.injEq, ite_true, ite_false, if_true, if_false, Bool.not_true, Bool.not_false, Bool.false_eq_true, kb_int_int, kb_int_bool, kb_int_str, kb_int_tuple, kb_int_list, kb_int_dict, kb_bool_int, kb_bool_bool, kb_bool_str, kb_bool_tuple, kb_bool_list, kb_bool_dict, kb_str_int, kb_str_bool, kb_str_str, kb_str_tuple, kb_str_list, kb_str_dict, kb_NoneType_int, kb_NoneType_bool, kb_NoneType_str, kb_NoneType_tuple, kb_NoneType_list, kb_NoneType_dict, kb_list_int, kb_list_bool, kb_list_str, kb_list_tuple, kb_list_list, kb_list_dict, kb_tuple_int, kb_tuple_bool, kb_tuple_str, kb_tuple_tuple, kb_tuple_list, kb_tuple_dict, kb_dict_int, kb_dict_bool, kb_dict_str, kb_dict_tuple, kb_dict_list, kb_dict_dict, cp_2_53, pw_2_53, cp_10_9, pw_10_9, cp_10_10, pw_10_10, cp_10_18, pw_10_18, cp_10_20, pw_10_20, cp_10_29, pw_10_29, cp_10_30, pw_10_30, tFld, HO.ins.injEq, look_t, look_c, T.cl_Form, T.nt_Form, T.nc_Form, ha2, tFmt, abs_nat, spSigned, rAppend]
        have app : ∀ {R : (z : Str) → Prop}, pcs ts c = ts.map (fun t => (t.2, szL t.2 (Lz t.1))) ++ [(c, dgt c.natAbs)] → ∀ (z : Str), Lz z = sgL c ++ [32] ++ Lz (Str.ofString (toString (c.natAbs : Int))) → z.length ≤ (Str.ofString (toString (c.natAbs : Int))).length + 2 → ∃ x, H2 D = some (HO.lst x) ∧ x.length < sizeLine ∧ Same H (upd H2 D (HO.lst (x ++ [V.str z]))) ∧ ∃ x_1, x ++ [V.str z] = List.map V.str x_1 ∧ List.map Lz x_1 = List.map seg (pcs ts c) ∧ x_1.length ≤ 13 ∧ ∀ (z : Str), z ∈ x_1 → z.length ≤ 2002 := by
          intro _ ep z hz lz
          refine ⟨_, hD, by rw [List.length_map]; exact Nat.lt_of_le_of_lt hyl (by decide), fun b o h => by rw [upd_ne (ne_of_none h nD)]; exact sm b o h, ys ++ [z], by rw [List.map_append]; rfl, ?_, by simp; omega, fun y h => ?_⟩
          · rw [ep, List.map_append, List.map_append, hv, List.map_map]
            show _ ++ [Lz z] = _ ++ [seg (c, dgt c.natAbs)]
            rw [hz]
            simp only [seg, dgt, List.append_assoc, List.cons_append, List.nil_append]
            rfl
          · rcases List.mem_append.mp h with h | h
            · exact hy y h
            · rw [List.mem_singleton.mp h]; omega
        have ty : tyV K "list" (V.ref D) H2 := .inl ⟨rfl, _, .inl (.inl hD)⟩
        have lg := (fb.bc.mono (m := 1500) (by decide)).abs.log1920
        by_cases hc : c = 0
        · subst hc
          refine ⟨!vs.isEmpty, .inr (.inl ⟨_, .inl (.inl hr2), rfl⟩), ?_⟩
          by_cases hnil : ts = []
          · have : vs = [] := by have := ht.1; rw [hnil] at this; exact List.length_eq_zero_iff.mp this
            rw [this]
            exact ⟨ty, lg, by omega, app (R := fun _ => True) (by unfold pcs; rw [if_neg (fun e => e.2 hnil)])⟩
          · have : vs.isEmpty = false := by
              cases vs with
              | nil => exact absurd (List.length_eq_zero_iff.mp ht.1.symm) hnil
              | cons _ _ => rfl
            rw [this]
            refine ⟨sm, ys, hD, ?_, by omega, hy⟩
            rw [hv]; unfold pcs; rw [if_pos ⟨rfl, hnil⟩, List.append_nil, List.map_map]; rfl
        · rw [if_pos (by simp [hc])]
          exact ⟨ty, lg, by omega, app (R := fun _ => True) (by unfold pcs; rw [if_neg (fun e => hc e.1)])⟩
      · rintro σ' H' ⟨zs, rfl, s3, hD3, hz, hzl, hzb⟩
        simp only [tDNotIn, tDIn, tDGet, Option.isSome_some, Option.isSome_none, rIsO, isO_int, isO_str, isO_bl, isO_non, isO_ref, isOO_ins, isOO_lst, isOO_tup, isOO_dK, tMethR, StX.tMakeR, cxOf_K, tDNewK, tCallR, tNever, tSeq, tAsg, gName, tPar, tVar, tC, tOp, rI0, rI, rU, tUn, rEq, rNe, tTest, tB, tAnd, tOr, tNot, tAndV, tOrV, tNotV, tIf, tIfS, tRet, tRetN, tNext, tDrop, tCons, tNil, tCB, tCall, tTup, tLst, rIxLH, rIxTH, gSub, rSetL, tPart, tNoPart, tSl, tBM, tBM0, L2.start, sc_ii, sc_ss, sc_bb, sc_nn, sc_ni, sc_in, sc_ns, sc_sn, sc_is, sc_si, eq_self, tChain, List.map_cons, List.map_nil, List.replicate_succ, List.replicate_zero, List.length_cons, List.length_nil, Nat.reduceAdd, Nat.reduceSub, Nat.zero_add, Nat.sub_self, Nat.add_sub_cancel, List.cons_append, List.nil_append, List.append_nil, List.getElem?_cons_zero, List.getElem?_cons_succ, List.set_cons_zero, List.set_cons_succ, Option.some.injEq, V.int.injEq, V.ref.injEq, V.bl.injEq, V.str.injEq, List.cons.injEq, HO.lst.injEq, HO.tup.injEq, and_true, true_and, exists_eq_left', exists_eq_left, exists_eq', exists_eq, exists_eq_right, exists_eq_right', exists_and_left, exists_and_right, and_assoc, upd_same, reduceCtorEq, false_and, and_false, exists_false, or_false, false_or, at0, at1, atM1, sg_inj, dot_eq, plus_eq, minus_eq, rIxS, at2, at3, at4, at5, ix0, ix1, ix2, ix3, upd_upd, decide_eq_true_eq, Int.reduceLT, Int.reduceLE, Int.reduceAdd, Int.reduceSub, Int.reduceNeg, Int.reduceMul, Int.reducePow, Int.reduceEq, decide_true, decide_false, Int.cast_ofNat_Int, Int.natCast_zero, Int.natCast_one, Nat.reduceEqDiff, Nat.reduceLeDiff, rIsB, tyN_non, tyN_bl, tyN_int, tyN_str, tyN_ref, tyO_lst, tyO_tup, tyO_dK, tyO_dT, V.ty.injEq, ite_true, ite_false, if_true, if_false, Bool.not_true, Bool.not_false, Bool.false_eq_true, kb_int_int, kb_int_bool, kb_int_str, kb_int_tuple, kb_int_list, kb_int_dict, kb_bool_int, kb_bool_bool, kb_bool_str, kb_bool_tuple, kb_bool_list, kb_bool_dict, kb_str_int, kb_str_bool, kb_str_str, kb_str_tuple, kb_str_list, kb_str_dict, kb_NoneType_int, kb_NoneType_bool, kb_NoneType_str, kb_NoneType_tuple, kb_NoneType_list, kb_NoneType_dict, kb_list_int, kb_list_bool, kb_list_str, kb_list_tuple, kb_list_list, kb_list_dict, kb_tuple_int, kb_tuple_bool, kb_tuple_str, kb_tuple_tuple, kb_tuple_list, kb_tuple_dict, kb_dict_int, kb_dict_bool, kb_dict_str, kb_dict_tuple, kb_dict_list, kb_dict_dict, cp_2_53, pw_2_53, cp_10_9, pw_10_9, cp_10_10, pw_10_10, cp_10_18, pw_10_18, cp_10_20, pw_10_20, cp_10_29, pw_10_29, cp_10_30, pw_10_30, tM1]
        have sl1 : (Str.ofString " ").length = 1 := congrArg List.length sp1
        have hs := sum_le (f := fun x => x.length) zs hzb
        have hj := jn_join _ sp1 zs
        rw [hz] at hj
        have hjl : (Txt.join (Str.ofString " ") zs).length ≤ 30000 := by
          rw [← Lz_len, jn_join _ sp1 zs]
          have := jn_len (zs.map Lz) 2002 (fun z h => by obtain ⟨y, hy, rfl⟩ := List.mem_map.mp h; exact hzb y hy)
          rw [List.length_map] at this
          omega
        cases hp : pcs ts c with
        | nil => exact absurd hp (pcs_ne ts c)
        | cons p rr =>
          rw [hp, jn_seg] at hj
          rw [hp] at k
          by_cases hn : p.1 < 0
          · have hj2 : Lz (Txt.join (Str.ofString " ") zs) = 45 :: 32 :: (p.2 ++ rr.flatMap fun q => 32 :: seg q) := by rw [hj]; unfold sgL; rw [if_pos hn]; rfl
            refine ⟨zs, .inl (.inl (.inl hD3)), by rw [sl1]; omega, size_big (by omega), 45, by show (Lz (Txt.join (Str.ofString " ") zs))[0]? = _; rw [hj2]; rfl, ?_⟩
            simp only [tDNotIn, tDIn, tDGet, Option.isSome_some, Option.isSome_none, rIsO, isO_int, isO_str, isO_bl, isO_non, isO_ref, isOO_ins, isOO_lst, isOO_tup, isOO_dK, tMethR, StX.tMakeR, cxOf_K, tDNewK, tCallR, tNever, tSeq, tAsg, gName, tPar, tVar, tC, tOp, rI0, rI, rU, tUn, rEq, rNe, tTest, tB, tAnd, tOr, tNot, tAndV, tOrV, tNotV, tIf, tIfS, tRet, tRetN, tNext, tDrop, tCons, tNil, tCB, tCall, tTup, tLst, rIxLH, rIxTH, gSub, rSetL, tPart, tNoPart, tSl, tBM, tBM0, L2.start, sc_ii, sc_ss, sc_bb, sc_nn, sc_ni, sc_in, sc_ns, sc_sn, sc_is, sc_si, eq_self, tChain, List.map_cons, List.map_nil, List.replicate_succ, List.replicate_zero, List.length_cons, List.length_nil, Nat.reduceAdd, Nat.reduceSub, Nat.zero_add, Nat.sub_self, Nat.add_sub_cancel, List.cons_append, List.nil_append, List.append_nil, List.getElem?_cons_zero, List.getElem?_cons_succ, List.set_cons_zero, List.set_cons_succ, Option.some.injEq, V.int.injEq, V.ref.injEq, V.bl.injEq, V.str.injEq, List.cons.injEq, HO.lst.injEq, HO.tup.injEq, and_true, true_and, exists_eq_left', exists_eq_left, exists_eq', exists_eq, exists_eq_right, exists_eq_right', exists_and_left, exists_and_right, and_assoc, upd_same, reduceCtorEq, false_and, and_false, exists_false, or_false, false_or, at0, at1, atM1, sg_inj, dot_eq, plus_eq, minus_eq, rIxS, at2, at3, at4, at5, ix0, ix1, ix2, ix3, upd_upd, decide_eq_true_eq, Int.reduceLT, Int.reduceLE, Int.reduceAdd, Int.reduceSub, Int.reduceNeg, Int.reduceMul, Int.reducePow, Int.reduceEq, decide_true, decide_false, Int.cast_ofNat_Int, Int.natCast_zero, Int.natCast_one, Nat.reduceEqDiff, Nat.reduceLeDiff, rIsB, tyN_non, tyN_bl, tyN_int, tyN_str, tyN_ref, tyO_lst, tyO_tup, tyO_dK, tyO_dT, V.ty.injEq, ite_true, ite_false, if_true, if_false, Bool.not_true, Bool.not_false, Bool.false_eq_true, kb_int_int, kb_int_bool, kb_int_str, kb_int_tuple, kb_int_list, kb_int_dict, kb_bool_int, kb_bool_bool, kb_bool_str, kb_bool_tuple, kb_bool_list, kb_bool_dict, kb_str_int, kb_str_bool, kb_str_str, kb_str_tuple, kb_str_list, kb_str_dict, kb_NoneType_int, kb_NoneType_bool, kb_NoneType_str, kb_NoneType_tuple, kb_NoneType_list, kb_NoneType_dict, kb_list_int, kb_list_bool, kb_list_str, kb_list_tuple, kb_list_list, kb_list_dict, kb_tuple_int, kb_tuple_bool, kb_tuple_str, kb_tuple_tuple, kb_tuple_list, kb_tuple_dict, kb_dict_int, kb_dict_bool, kb_dict_str, kb_dict_tuple, kb_dict_list, kb_dict_dict, cp_2_53, pw_2_53, cp_10_9, pw_10_9, cp_10_10, pw_10_10, cp_10_18, pw_10_18, cp_10_20, pw_10_20, cp_10_29, pw_10_29, cp_10_30, pw_10_30, tFmt, tJs, rSlS, empty_app]
            have hc := Lz_cut2 hj2
            have hcl := cutS_length (Txt.join (Str.ofString " ") zs) (some 2) none
            have hm1 : Lz ⟨#[45]⟩ = [45] := rfl
            have hm2 : (⟨#[45]⟩ : Str).length = 1 := rfl
            refine ⟨size_big (by omega), size_big (by omega), size_big (by omega), size_big (by rw [len_app]; omega), k _ _ s3 ?_ (by rw [len_app]; omega)⟩
            rw [Lz_app, hc, hm1]
            show _ = (if p.1 < 0 then [45] else []) ++ _
            rw [if_pos hn]
          · have hj2 : Lz (Txt.join (Str.ofString " ") zs) = 43 :: 32 :: (p.2 ++ rr.flatMap fun q => 32 :: seg q) := by rw [hj]; unfold sgL; rw [if_neg hn]; rfl
            refine ⟨zs, .inl (.inl (.inl hD3)), by rw [sl1]; omega, size_big (by omega), 43, by show (Lz (Txt.join (Str.ofString " ") zs))[0]? = _; rw [hj2]; rfl, ?_⟩
            simp only [tDNotIn, tDIn, tDGet, Option.isSome_some, Option.isSome_none, rIsO, isO_int, isO_str, isO_bl, isO_non, isO_ref, isOO_ins, isOO_lst, isOO_tup, isOO_dK, tMethR, StX.tMakeR, cxOf_K, tDNewK, tCallR, tNever, tSeq, tAsg, gName, tPar, tVar, tC, tOp, rI0, rI, rU, tUn, rEq, rNe, tTest, tB, tAnd, tOr, tNot, tAndV, tOrV, tNotV, tIf, tIfS, tRet, tRetN, tNext, tDrop, tCons, tNil, tCB, tCall, tTup, tLst, rIxLH, rIxTH, gSub, rSetL, tPart, tNoPart, tSl, tBM, tBM0, L2.start, sc_ii, sc_ss, sc_bb, sc_nn, sc_ni, sc_in, sc_ns, sc_sn, sc_is, sc_si, eq_self, tChain, List.map_cons, List.map_nil, List.replicate_succ, List.replicate_zero, List.length_cons, List.length_nil, Nat.reduceAdd, Nat.reduceSub, Nat.zero_add, Nat.sub_self, Nat.add_sub_cancel, List.cons_append, List.nil_append, List.append_nil, List.getElem?_cons_zero, List.getElem?_cons_succ, List.set_cons_zero, List.set_cons_succ, Option.some.injEq, V.int.injEq, V.ref.injEq, V.bl.injEq, V.str.injEq, List.cons.injEq, HO.lst.injEq, HO.tup.injEq, and_true, true_and, exists_eq_left', exists_eq_left, exists_eq', exists_eq, exists_eq_right, exists_eq_right', exists_and_left, exists_and_right, and_assoc, upd_same, reduceCtorEq, false_and, and_false, exists_false, or_false, false_or, at0, at1, atM1, sg_inj, dot_eq, plus_eq, minus_eq, rIxS, at2, at3, at4, at5, ix0, ix1, ix2, ix3, upd_upd, decide_eq_true_eq, Int.reduceLT, Int.reduceLE, Int.reduceAdd, Int.reduceSub, Int.reduceNeg, Int.reduceMul, Int.reducePow, Int.reduceEq, decide_true, decide_false, Int.cast_ofNat_Int, Int.natCast_zero, Int.natCast_one, Nat.reduceEqDiff, Nat.reduceLeDiff, rIsB, tyN_non, tyN_bl, tyN_int, tyN_str, tyN_ref, tyO_lst, tyO_tup, tyO_dK, tyO_dT, V.ty.injEq, ite_true, ite_false, if_true, if_false, Bool.not_true, Bool.not_false, Bool.false_eq_true, kb_int_int, kb_int_bool, kb_int_str, kb_int_tuple, kb_int_list, kb_int_dict, kb_bool_int, kb_bool_bool, kb_bool_str, kb_bool_tuple, kb_bool_list, kb_bool_dict, kb_str_int, kb_str_bool, kb_str_str, kb_str_tuple, kb_str_list, kb_str_dict, kb_NoneType_int, kb_NoneType_bool, kb_NoneType_str, kb_NoneType_tuple, kb_NoneType_list, kb_NoneType_dict, kb_list_int, kb_list_bool, kb_list_str, kb_list_tuple, kb_list_list, kb_list_dict, kb_tuple_int, kb_tuple_bool, kb_tuple_str, kb_tuple_tuple, kb_tuple_list, kb_tuple_dict, kb_dict_int, kb_dict_bool, kb_dict_str, kb_dict_tuple, kb_dict_list, kb_dict_dict, cp_2_53, pw_2_53, cp_10_9, pw_10_9, cp_10_10, pw_10_10, cp_10_18, pw_10_18, cp_10_20, pw_10_20, cp_10_29, pw_10_29, cp_10_30, pw_10_30, rSlS]
            have hc := Lz_cut2 hj2
            have hcl := cutS_length (Txt.join (Str.ofString " ") zs) (some 2) none
            refine ⟨size_big (by omega), k _ _ s3 ?_ (by omega)⟩
            rw [hc]
            show _ = (if p.1 < 0 then [45] else []) ++ _
            rw [if_neg hn, List.nil_append]
end
end K0
namespace K0
open PySem PySem.Spec PyProof.Rows L2
/-! the draws of a law -/
section
variable {P : Program} {w : World} {K : PySem.W.Frag} {mg : Str → Option Value} {base : Heap}
theorem PotAt.new {H : Hp} {p q : Addr} {o : HO} (h : PotAt H p) (hq : H q = none) : PotAt (upd H q o) p := by
  obtain ⟨a, b, c, d, cs, hp, r⟩ := h
  exact ⟨a, b, c, d, cs, by rw [upd_ne (ne_of_none hp hq)]; exact hp, r⟩
theorem PotAt.same {H H' : Hp} {p : Addr} (h : PotAt H p) (s : Same H H') : PotAt H' p := by
  obtain ⟨a, b, c, d, cs, hp, r⟩ := h
  exact ⟨a, b, c, d, cs, s _ _ hp, r⟩
theorem Off.same {p : Addr} {H H1 H2 : Hp} (o : Off p H H1) (s : Same H1 H2) : Off p H H2 := fun b u h n => s _ _ (o b u h n)
theorem PotAt.ne {H : Hp} {p q : Addr} (h : PotAt H p) (hq : H q = none) : q ≠ p := by
  rintro rfl
  obtain ⟨_, _, _, _, _, z, _⟩ := h
  rw [z] at hq; cases hq
theorem PotAt.put {H : Hp} {p l : Addr} {o : HO} (h : PotAt H p) (n : l ≠ p) : PotAt (upd H l o) p := by
  obtain ⟨a, b, c, d, cs, hp, r⟩ := h
  exact ⟨a, b, c, d, cs, by rw [upd_ne n.symm]; exact hp, r⟩
theorem Off.upd {p l : Addr} {H H' : Hp} {o : HO} (h : Off p H H') (n : H l = none) : Off p H (upd H' l o) := fun b u hb hne => by
  rw [upd_ne (ne_of_none hb n)]; exact h b u hb hne
theorem Off.free {p q : Addr} {H H1 : Hp} (o : Off p H H1) (hn : q ≠ p) (h : H1 q = none) : H q = none := by
  cases e : H q with
  | none => rfl
  | some u => rw [o q u e hn] at h; cases h
/-- a comprehension whose elements are drawn -/
theorem lc_pot {p D : Addr} {H1 : Hp} {n b : Nat} {te : TE} {σ : L2.St} {j : Nat} {vs : List Nat} {Qd : Hp → Prop} (hp : PotAt H1 p) (hD : H1 D = none) (hn : n ≤ 100) (hw : ∀ x, wipe ((wipe σ vs).set j (some x)) vs = wipe σ vs)
    (he : ∀ (i : Nat) (H2 : Hp) (Q : VK), PotAt H2 p → (∀ x H3, Sm b x → PotAt H3 p → Off p H2 H3 → Q (.int x) H3) → te ((wipe σ vs).set j (some (.int (0 + i)))) H2 Q)
    (hd : ∀ (ns : List Int) (H2 : Hp), ns.length = n → (∀ x ∈ ns, Sm b x) → H2 D = some (.lst (ns.map V.int)) → PotAt H2 p → Off p H1 H2 → Qd H2) :
    ∃ W : Nat → Nat → Hp → Prop, (∃ m, W 0 m (upd H1 D (.lst []))) ∧ ∀ i m H, W i m H →
      ((Itr 0 n).stop i H ∧ Qd H) ∨ ((Itr 0 n).go i H ∧ ∃ Nx : Hp → Prop, (∀ H', Nx H' → ∃ m', m' < m ∧ W (i + 1) m' H') ∧ ∀ x H', (Itr 0 n).yld i H x H' → gName j x (wipe σ vs) H' fun σ2 H2 => wipe σ2 vs = wipe σ vs ∧ tYes σ2 H2 fun b H3 =>
        if b = true then te σ2 H3 fun y H4 => ∃ acc, H4 D = some (.lst acc) ∧ acc.length < sizeLine ∧ Nx (upd H4 D (.lst (acc ++ [y]))) else Nx H3) := by
  refine lc_range (lo := 0) (n := n) (fun i H2 => ∃ ns : List Int, ns.length = i ∧ (∀ x ∈ ns, Sm b x) ∧ H2 D = some (.lst (ns.map V.int)) ∧ PotAt H2 p ∧ Off p H1 H2) ?_ ?_ ?_
  · exact ⟨[], rfl, fun _ z => (List.not_mem_nil z).elim, upd_same, hp.new hD, Off.refl.new hD⟩
  · rintro i H2 hi ⟨ns, hl, hs, hd, hp2, o2⟩
    refine ⟨hw _, ?_⟩
    simp only [tYes, if_true]
    refine he i H2 _ hp2 fun x H3 hx hp3 o3 => ?_
    have hne : D ≠ p := hp.ne hD
    refine ⟨_, o3 D _ hd hne, ?_, ns ++ [x], ?_, ?_, ?_, ?_, ?_⟩
    · rw [List.length_map]; exact small1000 (by omega)
    · rw [List.length_append, hl]; rfl
    · intro y hy
      rcases List.mem_append.mp hy with z | z
      · exact hs y z
      · rw [List.mem_singleton.mp z]; exact hx
    · rw [upd_same, List.map_append]; rfl
    · obtain ⟨a, b, c, d, cs, z, r⟩ := hp3
      exact ⟨a, b, c, d, cs, by rw [upd_ne hne.symm]; exact z, r⟩
    · intro c u h hc
      rw [upd_ne (ne_of_none h hD)]
      exact o3 c u (o2 c u h hc) hc
  · rintro H2 ⟨ns, hl, hs, h, hp2, o2⟩
    exact hd ns H2 hl hs h hp2 o2
def spTake : Sp := fun vs H Q _ => ∃ (p : Addr) (n : Int), vs = [.ref p, .int n] ∧ PotAt H p ∧ 0 < n ∧ n < 2 ^ 200 ∧ ∀ k H', 0 ≤ k → k < n → PotAt H' p → Off p H H' → Q (.int k) H'
theorem sc_l_take : FnScope ["_law_pot_here", "_law_size", "_law_cell", "_law_mixed"] ["_law_pot_here", "_law_size"] (defScope s_l_take) := ⟨rfl, rfl, rfl, by decide +kernel, rfl, by decide +kernel, by decide +kernel⟩
theorem ok_l_take (T : Txt K mg) : FnOk P w K mg base CX0 1 (He.ga K "_law_take") (fdOf K (He.ga K "_law_take")) ["_law_pot_here", "_law_size"] (spTake) := by
  refine T.F_l_take.ok sc_l_take (fun vs H Q E h => ?_) (fun cdv A outer s H vs Q E hr h => ?_)
  · obtain ⟨a, b, rfl, _⟩ := h
    rfl
  · obtain ⟨p, n, rfl, ⟨a, b, c, d, cs, hp, ha, hb, hd0, hd1, hcs⟩, hn, hn2, k⟩ := h
    refine ⟨_, PSs.nox (pss_cons (ps_asg (pe_op op_add (pe_ix ixL (pv 0) pe_int (fun _ _ => rfl)) pe_int) (pg_sub (pv 0) pe_int set_list))
      (Evl.pss_cut (ps_if (PW.pt (pw_and (pt_cmpR op_eq (pe_ix ixL (pv 0) pe_int (fun _ _ => rfl)) pe_int (nomark _)) (pw_and1 (pt_cmpR op_lt (pe_ix ixL (pv 0) pe_int (fun _ _ => rfl)) (pe_callB call_lenL (by rfl) T.z_len PySem.boot_len (pa_cons (pv 0) pa_nil)) (nomark _))))) (pss_cons (ps_set (i := 2) sc_l_take.nd rfl (Or.inl rfl) (pe_callTy call_int1 (by rfl) T.z_int (by decide +kernel) (pa_cons (pe_ix ixL (pv 0) (pe_ix ixL (pv 0) pe_int (fun _ _ => rfl)) (fun _ _ => rfl)) pa_nil)))
      (pss_cons (ps_asg (pe_op op_add (pe_ix ixL (pv 0) pe_int (fun _ _ => rfl)) pe_int) (pg_sub (pv 0) pe_int set_list))
      (pss_one (ps_if (pt_cmpR op_ge (pv 2) (pe_op op_pow pe_int pe_int) (nomark _)) (pss_one (ps_asg (pe_op op_sub (pv 2) (pe_op op_pow pe_int pe_int)) (pg_sub (pv 0) pe_int set_list))) (pss_one (ps_asg (pe_op op_mod (pe_callTy call_int1 (by rfl) T.z_int (by decide +kernel) (pa_cons (pe_op op_add (pe_op op_add (pe_op op_mulX (pe_ix ixL (pv 0) pe_int (fun _ _ => rfl)) pe_int) (pe_op op_mulX (pv 2) pe_int)) pe_int) pa_nil)) pe_int) (pg_sub (pv 0) pe_int set_list))))))) pss_nil)
      (pss_cons (ps_if (pt_cmpR op_gt (pe_ix ixL (pv 0) pe_int (fun _ _ => rfl)) pe_int (nomark _)) (pss_cons (ps_set (i := 2) sc_l_take.nd rfl (Or.inl rfl) (pe_callTy call_int1 (by rfl) T.z_int (by decide +kernel) (pa_cons (pe_ix ixL (pv 0) pe_int (fun _ _ => rfl)) pa_nil)))
      (pss_cons (ps_asg (pe_op op_fdivW (pv 2) (pv 1)) (pg_sub (pv 0) pe_int set_list))
      (pss_one (ps_ret (pe_op op_mod (pe_callTy call_int1 (by rfl) T.z_int (by decide +kernel) (pa_cons (pv 2) pa_nil)) (pv 1)))))) pss_nil)
      (pss_cons (ps_set (i := 3) sc_l_take.nd rfl (Or.inl rfl) (pe_op op_mod (pe_callTy call_int1 (by rfl) T.z_int (by decide +kernel) (pa_cons (pe_op op_mulX (pe_ix ixL (pv 0) pe_int (fun _ _ => rfl)) (pe_op op_add (pe_op op_mulX (pe_ix ixL (pv 0) pe_int (fun _ _ => rfl)) pe_int) pe_int)) pa_nil)) pe_int))
      (pss_cons (ps_set (i := 3) sc_l_take.nd rfl (Or.inl rfl) (pe_op op_mod (pe_callTy call_int1 (by rfl) T.z_int (by decide +kernel) (pa_cons (pe_op op_mulX (pv 3) (pe_op op_add (pe_op op_add (pv 3) (pe_op op_mulX (pe_ix ixL (pv 0) pe_int (fun _ _ => rfl)) pe_int)) pe_int)) pa_nil)) pe_int))
      (pss_one (ps_ret (pe_op op_mod (pe_callTy call_int1 (by rfl) T.z_int (by decide +kernel) (pa_cons (pe_op op_add (pe_op op_fdivW (pv 3) pe_int) (pe_ix ixL (pv 0) pe_int (fun _ _ => rfl))) pa_nil)) (pv 1))))))))), ?_⟩
    simp only [tDNotIn, tDIn, tDGet, Option.isSome_some, Option.isSome_none, rIsO, isO_int, isO_str, isO_bl, isO_non, isO_ref, isOO_ins, isOO_lst, isOO_tup, isOO_dK, tMethR, StX.tMakeR, cxOf_K, tDNewK, tCallR, tNever, tSeq, tAsg, gName, tPar, tVar, tC, tOp, rI0, rI, rU, tUn, rEq, rNe, tTest, tB, tAnd, tOr, tNot, tAndV, tOrV, tNotV, tIf, tIfS, tRet, tRetN, tNext, tDrop, tCons, tNil, tCB, tCall, tTup, tLst, rIxLH, rIxTH, gSub, rSetL, tPart, tNoPart, tSl, tBM, tBM0, L2.start, sc_ii, sc_ss, sc_bb, sc_nn, sc_ni, sc_in, sc_ns, sc_sn, sc_is, sc_si, eq_self, tChain, List.map_cons, List.map_nil, List.replicate_succ, List.replicate_zero, List.length_cons, List.length_nil, Nat.reduceAdd, Nat.reduceSub, Nat.zero_add, Nat.sub_self, Nat.add_sub_cancel, List.cons_append, List.nil_append, List.append_nil, List.getElem?_cons_zero, List.getElem?_cons_succ, List.set_cons_zero, List.set_cons_succ, Option.some.injEq, V.int.injEq, V.ref.injEq, V.bl.injEq, V.str.injEq, List.cons.injEq, HO.lst.injEq, HO.tup.injEq, and_true, true_and, exists_eq_left', exists_eq_left, exists_eq', exists_eq, exists_eq_right, exists_eq_right', exists_and_left, exists_and_right, and_assoc, upd_same, reduceCtorEq, false_and, and_false, exists_false, or_false, false_or, at0, at1, atM1, sg_inj, dot_eq, plus_eq, minus_eq, rIxS, at2, at3, at4, at5, ix0, ix1, ix2, ix3, upd_upd, decide_eq_true_eq, Int.reduceLT, Int.reduceLE, Int.reduceAdd, Int.reduceSub, Int.reduceNeg, Int.reduceMul, Int.reducePow, Int.reduceEq, decide_true, decide_false, Int.cast_ofNat_Int, Int.natCast_zero, Int.natCast_one, Nat.reduceEqDiff, Nat.reduceLeDiff, rIsB, tyN_non, tyN_bl, tyN_int, tyN_str, tyN_ref, tyO_lst, tyO_tup, tyO_dK, tyO_dT, V.ty.injEq, ite_true, ite_false, if_true, if_false, Bool.not_true, Bool.not_false, Bool.false_eq_true, kb_int_int, kb_int_bool, kb_int_str, kb_int_tuple, kb_int_list, kb_int_dict, kb_bool_int, kb_bool_bool, kb_bool_str, kb_bool_tuple, kb_bool_list, kb_bool_dict, kb_str_int, kb_str_bool, kb_str_str, kb_str_tuple, kb_str_list, kb_str_dict, kb_NoneType_int, kb_NoneType_bool, kb_NoneType_str, kb_NoneType_tuple, kb_NoneType_list, kb_NoneType_dict, kb_list_int, kb_list_bool, kb_list_str, kb_list_tuple, kb_list_list, kb_list_dict, kb_tuple_int, kb_tuple_bool, kb_tuple_str, kb_tuple_tuple, kb_tuple_list, kb_tuple_dict, kb_dict_int, kb_dict_bool, kb_dict_str, kb_dict_tuple, kb_dict_list, kb_dict_dict, cp_2_53, pw_2_53, cp_10_9, pw_10_9, cp_10_10, pw_10_10, cp_10_18, pw_10_18, cp_10_20, pw_10_20, cp_10_29, pw_10_29, cp_10_30, pw_10_30, hp]
    have hP1 : PotAt (upd H p (.lst (.int a :: .int b :: .int (c + 1) :: .int d :: cs.map V.int))) p := ⟨_, _, _, _, _, upd_same, ha, hb, hd0, hd1, hcs⟩
    refine ⟨fun σ' H' => ∃ y z, σ' = [some (.ref p), some (.int n), y, z] ∧ PotAt H' p ∧ Off p H H', ?_, ?_⟩
    · simp only [tDNotIn, tDIn, tDGet, Option.isSome_some, Option.isSome_none, rIsO, isO_int, isO_str, isO_bl, isO_non, isO_ref, isOO_ins, isOO_lst, isOO_tup, isOO_dK, tMethR, StX.tMakeR, cxOf_K, tDNewK, tCallR, tNever, tSeq, tAsg, gName, tPar, tVar, tC, tOp, rI0, rI, rU, tUn, rEq, rNe, tTest, tB, tAnd, tOr, tNot, tAndV, tOrV, tNotV, tIf, tIfS, tRet, tRetN, tNext, tDrop, tCons, tNil, tCB, tCall, tTup, tLst, rIxLH, rIxTH, gSub, rSetL, tPart, tNoPart, tSl, tBM, tBM0, L2.start, sc_ii, sc_ss, sc_bb, sc_nn, sc_ni, sc_in, sc_ns, sc_sn, sc_is, sc_si, eq_self, tChain, List.map_cons, List.map_nil, List.replicate_succ, List.replicate_zero, List.length_cons, List.length_nil, Nat.reduceAdd, Nat.reduceSub, Nat.zero_add, Nat.sub_self, Nat.add_sub_cancel, List.cons_append, List.nil_append, List.append_nil, List.getElem?_cons_zero, List.getElem?_cons_succ, List.set_cons_zero, List.set_cons_succ, Option.some.injEq, V.int.injEq, V.ref.injEq, V.bl.injEq, V.str.injEq, List.cons.injEq, HO.lst.injEq, HO.tup.injEq, and_true, true_and, exists_eq_left', exists_eq_left, exists_eq', exists_eq, exists_eq_right, exists_eq_right', exists_and_left, exists_and_right, and_assoc, upd_same, reduceCtorEq, false_and, and_false, exists_false, or_false, false_or, at0, at1, atM1, sg_inj, dot_eq, plus_eq, minus_eq, rIxS, at2, at3, at4, at5, ix0, ix1, ix2, ix3, upd_upd, decide_eq_true_eq, Int.reduceLT, Int.reduceLE, Int.reduceAdd, Int.reduceSub, Int.reduceNeg, Int.reduceMul, Int.reducePow, Int.reduceEq, decide_true, decide_false, Int.cast_ofNat_Int, Int.natCast_zero, Int.natCast_one, Nat.reduceEqDiff, Nat.reduceLeDiff, rIsB, tyN_non, tyN_bl, tyN_int, tyN_str, tyN_ref, tyO_lst, tyO_tup, tyO_dK, tyO_dT, V.ty.injEq, ite_true, ite_false, if_true, if_false, Bool.not_true, Bool.not_false, Bool.false_eq_true, kb_int_int, kb_int_bool, kb_int_str, kb_int_tuple, kb_int_list, kb_int_dict, kb_bool_int, kb_bool_bool, kb_bool_str, kb_bool_tuple, kb_bool_list, kb_bool_dict, kb_str_int, kb_str_bool, kb_str_str, kb_str_tuple, kb_str_list, kb_str_dict, kb_NoneType_int, kb_NoneType_bool, kb_NoneType_str, kb_NoneType_tuple, kb_NoneType_list, kb_NoneType_dict, kb_list_int, kb_list_bool, kb_list_str, kb_list_tuple, kb_list_list, kb_list_dict, kb_tuple_int, kb_tuple_bool, kb_tuple_str, kb_tuple_tuple, kb_tuple_list, kb_tuple_dict, kb_dict_int, kb_dict_bool, kb_dict_str, kb_dict_tuple, kb_dict_list, kb_dict_dict, cp_2_53, pw_2_53, cp_10_9, pw_10_9, cp_10_10, pw_10_10, cp_10_18, pw_10_18, cp_10_20, pw_10_20, cp_10_29, pw_10_29, cp_10_30, pw_10_30]
      have z1 : PotAt (upd H p (.lst (.int a :: .int b :: .int (c + 1) :: .int d :: cs.map V.int))) p ∧ Off p H (upd H p (.lst (.int a :: .int b :: .int (c + 1) :: .int d :: cs.map V.int))) := ⟨hP1, Off.refl.put⟩
      refine ite2 (fun e0 => ite2 (fun e1 => ?_) fun _ => z1) fun _ => z1
      rw [List.length_map] at e1
      have hj : a.toNat - 4 < cs.length := by omega
      refine ⟨.int (cs[a.toNat - 4]), at_int (by omega) ?_, .inl ⟨_, rfl, ?_⟩⟩
      · obtain ⟨m, hm⟩ : ∃ m, a.toNat = m + 1 + 1 + 1 + 1 := ⟨a.toNat - 4, by omega⟩
        have hm' : a.toNat - 4 = m := by omega
        simp only [hm, List.getElem?_cons_succ, List.getElem?_map]
        rw [List.getElem?_eq_getElem (by omega)]
        simp
      · refine ite2 (fun e2 => ?_) fun e2 => ?_
        · exact ⟨⟨_, _, _, _, _, upd_same, by omega, by omega, hd0, hd1, hcs⟩, Off.refl.put⟩
        · exact ⟨mulx_r (by omega) (by omega), mulx_r (by omega) (by omega), ⟨_, _, _, _, _, upd_same, by omega, hb, by omega, by omega, hcs⟩, Off.refl.put⟩
    · rintro σ' H' ⟨y, z, rfl, ⟨a', b', c', d', cs', hp', ha', hb', hd0', hd1', hcs'⟩, o'⟩
      simp only [tDNotIn, tDIn, tDGet, Option.isSome_some, Option.isSome_none, rIsO, isO_int, isO_str, isO_bl, isO_non, isO_ref, isOO_ins, isOO_lst, isOO_tup, isOO_dK, tMethR, StX.tMakeR, cxOf_K, tDNewK, tCallR, tNever, tSeq, tAsg, gName, tPar, tVar, tC, tOp, rI0, rI, rU, tUn, rEq, rNe, tTest, tB, tAnd, tOr, tNot, tAndV, tOrV, tNotV, tIf, tIfS, tRet, tRetN, tNext, tDrop, tCons, tNil, tCB, tCall, tTup, tLst, rIxLH, rIxTH, gSub, rSetL, tPart, tNoPart, tSl, tBM, tBM0, L2.start, sc_ii, sc_ss, sc_bb, sc_nn, sc_ni, sc_in, sc_ns, sc_sn, sc_is, sc_si, eq_self, tChain, List.map_cons, List.map_nil, List.replicate_succ, List.replicate_zero, List.length_cons, List.length_nil, Nat.reduceAdd, Nat.reduceSub, Nat.zero_add, Nat.sub_self, Nat.add_sub_cancel, List.cons_append, List.nil_append, List.append_nil, List.getElem?_cons_zero, List.getElem?_cons_succ, List.set_cons_zero, List.set_cons_succ, Option.some.injEq, V.int.injEq, V.ref.injEq, V.bl.injEq, V.str.injEq, List.cons.injEq, HO.lst.injEq, HO.tup.injEq, and_true, true_and, exists_eq_left', exists_eq_left, exists_eq', exists_eq, exists_eq_right, exists_eq_right', exists_and_left, exists_and_right, and_assoc, upd_same, reduceCtorEq, false_and, and_false, exists_false, or_false, false_or, at0, at1, atM1, sg_inj, dot_eq, plus_eq, minus_eq, rIxS, at2, at3, at4, at5, ix0, ix1, ix2, ix3, upd_upd, decide_eq_true_eq, Int.reduceLT, Int.reduceLE, Int.reduceAdd, Int.reduceSub, Int.reduceNeg, Int.reduceMul, Int.reducePow, Int.reduceEq, decide_true, decide_false, Int.cast_ofNat_Int, Int.natCast_zero, Int.natCast_one, Nat.reduceEqDiff, Nat.reduceLeDiff, rIsB, tyN_non, tyN_bl, tyN_int, tyN_str, tyN_ref, tyO_lst, tyO_tup, tyO_dK, tyO_dT, V.ty.injEq, ite_true, ite_false, if_true, if_false, Bool.not_true, Bool.not_false, Bool.false_eq_true, kb_int_int, kb_int_bool, kb_int_str, kb_int_tuple, kb_int_list, kb_int_dict, kb_bool_int, kb_bool_bool, kb_bool_str, kb_bool_tuple, kb_bool_list, kb_bool_dict, kb_str_int, kb_str_bool, kb_str_str, kb_str_tuple, kb_str_list, kb_str_dict, kb_NoneType_int, kb_NoneType_bool, kb_NoneType_str, kb_NoneType_tuple, kb_NoneType_list, kb_NoneType_dict, kb_list_int, kb_list_bool, kb_list_str, kb_list_tuple, kb_list_list, kb_list_dict, kb_tuple_int, kb_tuple_bool, kb_tuple_str, kb_tuple_tuple, kb_tuple_list, kb_tuple_dict, kb_dict_int, kb_dict_bool, kb_dict_str, kb_dict_tuple, kb_dict_list, kb_dict_dict, cp_2_53, pw_2_53, cp_10_9, pw_10_9, cp_10_10, pw_10_10, cp_10_18, pw_10_18, cp_10_20, pw_10_20, cp_10_29, pw_10_29, cp_10_30, pw_10_30, hp']
      have sn : Sm 200 n := by unfold Sm; omega
      refine ite2 (fun e0 => ?_) fun e0 => ?_
      · exact ⟨sn.divok hn, hn, k _ _ (Int.emod_nonneg _ (by omega)) (Int.emod_lt_of_pos _ hn) ⟨_, _, _, _, _, upd_same, ha', Int.ediv_nonneg hb' (by omega), hd0', hd1', hcs'⟩ o'.put⟩
      · have r1 : ∀ x : Int, 0 ≤ x % 2147483399 ∧ x % 2147483399 < 2147483399 := by intro x; omega
        refine ⟨mulx_r (by omega) (by omega), mulx_l (by omega) (by omega), mulx_r (by omega) (by omega), mulx_l ?_ ?_, ⟨by omega, by decide⟩, hn, k _ _ (Int.emod_nonneg _ (by omega)) (Int.emod_lt_of_pos _ hn) ⟨_, _, _, _, _, hp', ha', hb', hd0', hd1', hcs'⟩ o'⟩
        · have := (r1 (d' * (c' * 52774 + 40692))).1; omega
        · have := (r1 (d' * (c' * 52774 + 40692))).2; omega
def spPot (K : PySem.W.Frag) : Sp := fun vs H Q _ => ∃ (q : Addr) (ns : List Int), vs = [.ref q] ∧ SqL K H q (ns.map V.int) ∧ ns.length ≤ 63 ∧ ∀ H' p, PotAt H' p → Q (.ref p) H'
theorem sc_l_pot : FnScope ["_law_script"] ["_law_script"] (defScope s_l_pot) := ⟨rfl, rfl, rfl, by decide +kernel, rfl, by decide +kernel, by decide +kernel⟩
theorem ok_l_pot (T : Txt K mg) : FnOk P w K mg base CX0 1 (He.ga K "_law_pot") (fdOf K (He.ga K "_law_pot")) ["_law_script"] (spPot K) := by
  refine T.F_l_pot.ok sc_l_pot (fun vs H Q E h => ?_) (fun cdv A outer s H vs Q E hr h => ?_)
  · obtain ⟨_, _, rfl, _⟩ := h
    rfl
  · obtain ⟨q, ns, rfl, hq, hl, k⟩ := h
    refine ⟨_, PSs.nox (pss_one (ps_ret (pe_op (op_cat) (pe_lst (pa_cons pe_int (pa_cons pe_int (pa_cons pe_int (pa_cons pe_int pa_nil))))) (pe_callTy call_list_of (by rfl) T.z_list (by decide +kernel) (pa_cons (pe_slice sl_list (pv 0) po_none (po_some pe_int)) pa_nil))))), ?_⟩
    simp only [tDNotIn, tDIn, tDGet, Option.isSome_some, Option.isSome_none, rIsO, isO_int, isO_str, isO_bl, isO_non, isO_ref, isOO_ins, isOO_lst, isOO_tup, isOO_dK, tMethR, StX.tMakeR, cxOf_K, tDNewK, tCallR, tNever, tSeq, tAsg, gName, tPar, tVar, tC, tOp, rI0, rI, rU, tUn, rEq, rNe, tTest, tB, tAnd, tOr, tNot, tAndV, tOrV, tNotV, tIf, tIfS, tRet, tRetN, tNext, tDrop, tCons, tNil, tCB, tCall, tTup, tLst, rIxLH, rIxTH, gSub, rSetL, tPart, tNoPart, tSl, tBM, tBM0, L2.start, sc_ii, sc_ss, sc_bb, sc_nn, sc_ni, sc_in, sc_ns, sc_sn, sc_is, sc_si, eq_self, tChain, List.map_cons, List.map_nil, List.replicate_succ, List.replicate_zero, List.length_cons, List.length_nil, Nat.reduceAdd, Nat.reduceSub, Nat.zero_add, Nat.sub_self, Nat.add_sub_cancel, List.cons_append, List.nil_append, List.append_nil, List.getElem?_cons_zero, List.getElem?_cons_succ, List.set_cons_zero, List.set_cons_succ, Option.some.injEq, V.int.injEq, V.ref.injEq, V.bl.injEq, V.str.injEq, List.cons.injEq, HO.lst.injEq, HO.tup.injEq, and_true, true_and, exists_eq_left', exists_eq_left, exists_eq', exists_eq, exists_eq_right, exists_eq_right', exists_and_left, exists_and_right, and_assoc, upd_same, reduceCtorEq, false_and, and_false, exists_false, or_false, false_or, at0, at1, atM1, sg_inj, dot_eq, plus_eq, minus_eq, rIxS, at2, at3, at4, at5, ix0, ix1, ix2, ix3, upd_upd, decide_eq_true_eq, Int.reduceLT, Int.reduceLE, Int.reduceAdd, Int.reduceSub, Int.reduceNeg, Int.reduceMul, Int.reducePow, Int.reduceEq, decide_true, decide_false, Int.cast_ofNat_Int, Int.natCast_zero, Int.natCast_one, Nat.reduceEqDiff, Nat.reduceLeDiff, rIsB, tyN_non, tyN_bl, tyN_int, tyN_str, tyN_ref, tyO_lst, tyO_tup, tyO_dK, tyO_dT, V.ty.injEq, ite_true, ite_false, if_true, if_false, Bool.not_true, Bool.not_false, Bool.false_eq_true, kb_int_int, kb_int_bool, kb_int_str, kb_int_tuple, kb_int_list, kb_int_dict, kb_bool_int, kb_bool_bool, kb_bool_str, kb_bool_tuple, kb_bool_list, kb_bool_dict, kb_str_int, kb_str_bool, kb_str_str, kb_str_tuple, kb_str_list, kb_str_dict, kb_NoneType_int, kb_NoneType_bool, kb_NoneType_str, kb_NoneType_tuple, kb_NoneType_list, kb_NoneType_dict, kb_list_int, kb_list_bool, kb_list_str, kb_list_tuple, kb_list_list, kb_list_dict, kb_tuple_int, kb_tuple_bool, kb_tuple_str, kb_tuple_tuple, kb_tuple_list, kb_tuple_dict, kb_dict_int, kb_dict_bool, kb_dict_str, kb_dict_tuple, kb_dict_list, kb_dict_dict, cp_2_53, pw_2_53, cp_10_9, pw_10_9, cp_10_10, pw_10_10, cp_10_18, pw_10_18, cp_10_20, pw_10_20, cp_10_29, pw_10_29, cp_10_30, pw_10_30]
    refine ⟨size_le (by decide), fun p hp => ⟨q, _, rfl, Same.seq (H := H) (fun b o h => by rw [upd_ne (ne_of_none h hp)]; exact h) hq, fun r hr => ?_⟩⟩
    have hpr : p ≠ r := ne_of_none upd_same hr
    refine ⟨r, rfl, _, .inl (.inl (.inl upd_same)), fun l hl' => ?_⟩
    have hpl : p ≠ l := ne_of_none (o := .lst [V.int 4, V.int 0, V.int 0, V.int 0]) (by rw [upd_ne hpr, upd_same]) hl'
    have e : cutV (ns.map V.int) none (some 63) = ns.map V.int := by
      unfold cutV
      rw [HT.sIx_none, show HT.sIx (ns.map V.int).length (ns.map V.int).length (some 63) = min 63 (ns.map V.int).length from HT.sIx_nat _ _ 63, List.length_map, Nat.min_eq_right hl]
      simp only [Nat.sub_zero, List.drop_zero]
      exact List.take_of_length_le (by simp)
    rw [e]
    refine ⟨p, l, _, _, rfl, rfl, by rw [upd_ne hpl, upd_ne hpr, upd_same], upd_same, ?_, fun t ht => k _ t ⟨4, 0, 0, 0, ns, upd_same, by omega, by omega, by omega, by omega, hl⟩⟩
    simp only [List.length_cons, List.length_nil, List.length_map]
    exact size_le (by omega)
def spWhole : Sp := fun vs H Q _ => ∃ i : Int, vs = [.int i] ∧ Q (.bl true) H
theorem sc_l_whole : FnScope ["_law_found"] ["_law_found"] (defScope s_l_whole) := ⟨rfl, rfl, rfl, by decide +kernel, rfl, by decide +kernel, by decide +kernel⟩
theorem ok_l_whole (T : Txt K mg) : FnOk P w K mg base CX0 1 (He.ga K "_law_whole") (fdOf K (He.ga K "_law_whole")) ["_law_found"] (spWhole) := by
  refine T.F_l_whole.ok sc_l_whole (fun vs H Q E h => ?_) (fun cdv A outer s H vs Q E hr h => ?_)
  · obtain ⟨a, rfl, _⟩ := h
    rfl
  · obtain ⟨i, rfl, k⟩ := h
    refine ⟨_, PSs.nox (pss_one (ps_ret (pe_and (pe_callB call_isiB (by rfl) T.z_isinstance (by decide +kernel) (pa_cons (pv 0) (pa_cons (pe_bltn (v := .ty "int") (by rfl) T.z_int (by decide +kernel) rfl) pa_nil))) (pe_one (pe_not (pe_callB call_isiB (by rfl) T.z_isinstance (by decide +kernel) (pa_cons (pv 0) (pa_cons (pe_bltn (v := .ty "bool") (by rfl) T.z_bool (by decide +kernel) rfl) pa_nil)))))))), ?_⟩
    simp only [tDNotIn, tDIn, tDGet, Option.isSome_some, Option.isSome_none, rIsO, isO_int, isO_str, isO_bl, isO_non, isO_ref, isOO_ins, isOO_lst, isOO_tup, isOO_dK, tMethR, StX.tMakeR, cxOf_K, tDNewK, tCallR, tNever, tSeq, tAsg, gName, tPar, tVar, tC, tOp, rI0, rI, rU, tUn, rEq, rNe, tTest, tB, tAnd, tOr, tNot, tAndV, tOrV, tNotV, tIf, tIfS, tRet, tRetN, tNext, tDrop, tCons, tNil, tCB, tCall, tTup, tLst, rIxLH, rIxTH, gSub, rSetL, tPart, tNoPart, tSl, tBM, tBM0, L2.start, sc_ii, sc_ss, sc_bb, sc_nn, sc_ni, sc_in, sc_ns, sc_sn, sc_is, sc_si, eq_self, tChain, List.map_cons, List.map_nil, List.replicate_succ, List.replicate_zero, List.length_cons, List.length_nil, Nat.reduceAdd, Nat.reduceSub, Nat.zero_add, Nat.sub_self, Nat.add_sub_cancel, List.cons_append, List.nil_append, List.append_nil, List.getElem?_cons_zero, List.getElem?_cons_succ, List.set_cons_zero, List.set_cons_succ, Option.some.injEq, V.int.injEq, V.ref.injEq, V.bl.injEq, V.str.injEq, List.cons.injEq, HO.lst.injEq, HO.tup.injEq, and_true, true_and, exists_eq_left', exists_eq_left, exists_eq', exists_eq, exists_eq_right, exists_eq_right', exists_and_left, exists_and_right, and_assoc, upd_same, reduceCtorEq, false_and, and_false, exists_false, or_false, false_or, at0, at1, atM1, sg_inj, dot_eq, plus_eq, minus_eq, rIxS, at2, at3, at4, at5, ix0, ix1, ix2, ix3, upd_upd, decide_eq_true_eq, Int.reduceLT, Int.reduceLE, Int.reduceAdd, Int.reduceSub, Int.reduceNeg, Int.reduceMul, Int.reducePow, Int.reduceEq, decide_true, decide_false, Int.cast_ofNat_Int, Int.natCast_zero, Int.natCast_one, Nat.reduceEqDiff, Nat.reduceLeDiff, rIsB, tyN_non, tyN_bl, tyN_int, tyN_str, tyN_ref, tyO_lst, tyO_tup, tyO_dK, tyO_dT, V.ty.injEq, ite_true, ite_false, if_true, if_false, Bool.not_true, Bool.not_false, Bool.false_eq_true, kb_int_int, kb_int_bool, kb_int_str, kb_int_tuple, kb_int_list, kb_int_dict, kb_bool_int, kb_bool_bool, kb_bool_str, kb_bool_tuple, kb_bool_list, kb_bool_dict, kb_str_int, kb_str_bool, kb_str_str, kb_str_tuple, kb_str_list, kb_str_dict, kb_NoneType_int, kb_NoneType_bool, kb_NoneType_str, kb_NoneType_tuple, kb_NoneType_list, kb_NoneType_dict, kb_list_int, kb_list_bool, kb_list_str, kb_list_tuple, kb_list_list, kb_list_dict, kb_tuple_int, kb_tuple_bool, kb_tuple_str, kb_tuple_tuple, kb_tuple_list, kb_tuple_dict, kb_dict_int, kb_dict_bool, kb_dict_str, kb_dict_tuple, kb_dict_list, kb_dict_dict, cp_2_53, pw_2_53, cp_10_9, pw_10_9, cp_10_10, pw_10_10, cp_10_18, pw_10_18, cp_10_20, pw_10_20, cp_10_29, pw_10_29, cp_10_30, pw_10_30]
    exact k
def spNumber (n : Nat) : Sp := fun vs H Q _ => ∃ p : Addr, vs = [.ref p] ∧ PotAt H p ∧ ∀ x H', Sm n x → PotAt H' p → Off p H H' → Q (.int x) H'
end
section
variable {P : Program} {w : World} {K : PySem.W.Frag} {mg : Str → Option Value} {base : Heap}
theorem sc_l_weight : FnScope ["_law_pot_here", "_law_way", "_law_sign", "_law_edge", "_law_large"] ["_law_pot_here"] (defScope s_l_weight) := ⟨rfl, rfl, rfl, by decide +kernel, rfl, by decide +kernel, by decide +kernel⟩
theorem ok_l_weight (T : Txt K mg) : FnOk P w K mg base CX0 2 (He.ga K "_law_weight") (fdOf K (He.ga K "_law_weight")) ["_law_pot_here"] (spNumber 110) := by
  refine T.F_l_weight.ok sc_l_weight (fun vs H Q E h => ?_) (fun cdv A outer s H vs Q E hr h => ?_)
  · obtain ⟨p, rfl, _⟩ := h
    rfl
  · obtain ⟨p, rfl, hp, k⟩ := h
    refine ⟨_, PSs.nox (pss_cons (ps_set (i := 1) sc_l_weight.nd rfl (Or.inl rfl) (pe_call (ok_l_take T) (hr.mono (by decide)) (by rfl) T.g_l_take T.k_l_take T.b_l_take .nil pass0 (pa_cons (pv 0) (pa_cons pe_int pa_nil))))
      (pss_cons (ps_set (i := 2) sc_l_weight.nd rfl (Or.inl rfl) (pe_op op_sub pe_int (pe_op op_mulX pe_int (pe_call (ok_l_take T) (hr.mono (by decide)) (by rfl) T.g_l_take T.k_l_take T.b_l_take .nil pass0 (pa_cons (pv 0) (pa_cons pe_int pa_nil))))))
      (pss_cons (ps_if (pt_cmpR op_lt (pv 1) pe_int (nomark _)) (pss_one (ps_ret (pe_op op_mulX (pv 2) (pe_call (ok_l_take T) (hr.mono (by decide)) (by rfl) T.g_l_take T.k_l_take T.b_l_take .nil pass0 (pa_cons (pv 0) (pa_cons pe_int pa_nil)))))) pss_nil)
      (pss_cons (ps_if (pt_cmpR op_eq (pv 1) pe_int (nomark _)) (pss_one (ps_ret (pe_op op_mulX (pv 2) (pe_call (ok_l_take T) (hr.mono (by decide)) (by rfl) T.g_l_take T.k_l_take T.b_l_take .nil pass0 (pa_cons (pv 0) (pa_cons pe_int pa_nil)))))) pss_nil)
      (pss_cons (ps_if (pt_cmpR op_eq (pv 1) pe_int (nomark _)) (pss_cons (ps_set (i := 3) sc_l_weight.nd rfl (Or.inl rfl) (pe_ix ixL (pe_lst (pa_cons (pe_op op_pow pe_int pe_int) (pa_cons (pe_op op_add (pe_op op_pow pe_int pe_int) pe_int) (pa_cons (pe_op op_pow pe_int pe_int) (pa_cons (pe_op op_pow pe_int pe_int) pa_nil))))) (pe_call (ok_l_take T) (hr.mono (by decide)) (by rfl) T.g_l_take T.k_l_take T.b_l_take .nil pass0 (pa_cons (pv 0) (pa_cons pe_int pa_nil))) (fun _ _ => rfl)))
      (pss_one (ps_ret (pe_op op_mulX (pv 2) (pe_op op_sub (pe_op op_sub (pv 3) pe_int) (pe_call (ok_l_take T) (hr.mono (by decide)) (by rfl) T.g_l_take T.k_l_take T.b_l_take .nil pass0 (pa_cons (pv 0) (pa_cons pe_int pa_nil)))))))) pss_nil)
      (pss_cons (ps_set (i := 4) sc_l_weight.nd rfl (Or.inl rfl) (pe_op op_add (pe_op op_mulX (pe_call (ok_l_take T) (hr.mono (by decide)) (by rfl) T.g_l_take T.k_l_take T.b_l_take .nil pass0 (pa_cons (pv 0) (pa_cons (pe_op op_pow pe_int pe_int) pa_nil))) (pe_op op_pow pe_int pe_int)) (pe_op op_mulX (pe_call (ok_l_take T) (hr.mono (by decide)) (by rfl) T.g_l_take T.k_l_take T.b_l_take .nil pass0 (pa_cons (pv 0) (pa_cons (pe_op op_pow pe_int pe_int) pa_nil))) (pe_op op_pow pe_int pe_int))))
      (pss_one (ps_ret (pe_op op_mulX (pv 2) (pe_op op_add (pv 4) (pe_call (ok_l_take T) (hr.mono (by decide)) (by rfl) T.g_l_take T.k_l_take T.b_l_take .nil pass0 (pa_cons (pv 0) (pa_cons (pe_op op_pow pe_int pe_int) pa_nil))))))))))))), ?_⟩
    simp only [tDNotIn, tDIn, tDGet, Option.isSome_some, Option.isSome_none, rIsO, isO_int, isO_str, isO_bl, isO_non, isO_ref, isOO_ins, isOO_lst, isOO_tup, isOO_dK, tMethR, StX.tMakeR, cxOf_K, tDNewK, tCallR, tNever, tSeq, tAsg, gName, tPar, tVar, tC, tOp, rI0, rI, rU, tUn, rEq, rNe, tTest, tB, tAnd, tOr, tNot, tAndV, tOrV, tNotV, tIf, tIfS, tRet, tRetN, tNext, tDrop, tCons, tNil, tCB, tCall, tTup, tLst, rIxLH, rIxTH, gSub, rSetL, tPart, tNoPart, tSl, tBM, tBM0, L2.start, sc_ii, sc_ss, sc_bb, sc_nn, sc_ni, sc_in, sc_ns, sc_sn, sc_is, sc_si, eq_self, tChain, List.map_cons, List.map_nil, List.replicate_succ, List.replicate_zero, List.length_cons, List.length_nil, Nat.reduceAdd, Nat.reduceSub, Nat.zero_add, Nat.sub_self, Nat.add_sub_cancel, List.cons_append, List.nil_append, List.append_nil, List.getElem?_cons_zero, List.getElem?_cons_succ, List.set_cons_zero, List.set_cons_succ, Option.some.injEq, V.int.injEq, V.ref.injEq, V.bl.injEq, V.str.injEq, List.cons.injEq, HO.lst.injEq, HO.tup.injEq, and_true, true_and, exists_eq_left', exists_eq_left, exists_eq', exists_eq, exists_eq_right, exists_eq_right', exists_and_left, exists_and_right, and_assoc, upd_same, reduceCtorEq, false_and, and_false, exists_false, or_false, false_or, at0, at1, atM1, sg_inj, dot_eq, plus_eq, minus_eq, rIxS, at2, at3, at4, at5, ix0, ix1, ix2, ix3, upd_upd, decide_eq_true_eq, Int.reduceLT, Int.reduceLE, Int.reduceAdd, Int.reduceSub, Int.reduceNeg, Int.reduceMul, Int.reducePow, Int.reduceEq, decide_true, decide_false, Int.cast_ofNat_Int, Int.natCast_zero, Int.natCast_one, Nat.reduceEqDiff, Nat.reduceLeDiff, rIsB, tyN_non, tyN_bl, tyN_int, tyN_str, tyN_ref, tyO_lst, tyO_tup, tyO_dK, tyO_dT, V.ty.injEq, ite_true, ite_false, if_true, if_false, Bool.not_true, Bool.not_false, Bool.false_eq_true, kb_int_int, kb_int_bool, kb_int_str, kb_int_tuple, kb_int_list, kb_int_dict, kb_bool_int, kb_bool_bool, kb_bool_str, kb_bool_tuple, kb_bool_list, kb_bool_dict, kb_str_int, kb_str_bool, kb_str_str, kb_str_tuple, kb_str_list, kb_str_dict, kb_NoneType_int, kb_NoneType_bool, kb_NoneType_str, kb_NoneType_tuple, kb_NoneType_list, kb_NoneType_dict, kb_list_int, kb_list_bool, kb_list_str, kb_list_tuple, kb_list_list, kb_list_dict, kb_tuple_int, kb_tuple_bool, kb_tuple_str, kb_tuple_tuple, kb_tuple_list, kb_tuple_dict, kb_dict_int, kb_dict_bool, kb_dict_str, kb_dict_tuple, kb_dict_list, kb_dict_dict, cp_2_53, pw_2_53, cp_10_9, pw_10_9, cp_10_10, pw_10_10, cp_10_18, pw_10_18, cp_10_20, pw_10_20, cp_10_29, pw_10_29, cp_10_30, pw_10_30, spTake]
    (repeat' (first | assumption | intro _ | refine And.intro ?_ ?_ | refine ite2 ?_ ?_))
    all_goals try (first | exact mulx_l (by omega) (by omega) | exact mulx_r (by omega) (by omega))
    all_goals try (refine k _ _ ?_ ?_ ?_)
    all_goals try (first | assumption | exact PotAt.new (by assumption) (by assumption))
    all_goals try ((repeat (first | assumption | exact Off.refl | refine Off.new ?_ (by assumption) | refine Off.put ?_ | refine Off.trans ?_ (by assumption))); done)
    all_goals try (exact (Sm.mul (n := 1) (m := 108) (by (unfold Sm; omega)) (by (unfold Sm; omega))).mono (by decide))
    · rw [sizeLine_eq]; decide
    · rename_i k0 k1 h0 h1 hp1 o1 k2 k3 hk2 hk3 hp2 o2 _ _ _ q hq k6 H6 h6 h6' hp6 o6
      have hl := o6 q _ upd_same (fun e => by subst e; obtain ⟨_, _, _, _, _, z, _⟩ := hp2; rw [z] at hq; cases hq)
      obtain ⟨i, hi, hs⟩ : ∃ i : Int, atI [V.int 1000000000, V.int 9007199254740995, V.int 100000000000000000000000000000, V.int 1000000000000000000000000000000] k6 = some (.int i) ∧ 0 < i ∧ i ≤ 1000000000000000000000000000000 := by
        have : k6 = 0 ∨ k6 = 1 ∨ k6 = 2 ∨ k6 = 3 := by omega
        rcases this with rfl | rfl | rfl | rfl <;> exact ⟨_, rfl, by decide, by decide⟩
      refine ⟨_, hl, _, hi, _, rfl, hp6, fun k7 H7 h7 h7' hp7 o7 => ⟨by (first | exact mulx_l (by omega) (by omega) | exact mulx_r (by omega) (by omega)), k _ _ ?_ hp7 ?_⟩⟩
      · exact (Sm.mul (n := 1) (m := 108) (by (unfold Sm; omega)) (by (unfold Sm; omega))).mono (by decide)
      · ((repeat (first | assumption | exact Off.refl | refine Off.new ?_ (by assumption) | refine Off.put ?_ | refine Off.trans ?_ (by assumption))); done)
end
end K0
namespace K0
open PySem PySem.Spec PyProof.Rows L2
section
variable {P : Program} {w : World} {K : PySem.W.Frag} {mg : Str → Option Value} {base : Heap}
def spLowP : Sp := fun vs H Q _ => ∃ t b : Int, vs = [.int t, .int b] ∧ 0 < b ∧ Sm 8900 b ∧ ∀ p H', H p = none → Same H H' → H' p = some (prT (Rat.divInt t b)) → Q (.ref p) H'
theorem sc_l_lowest : FnScope ["_law_top", "_law_bottom", "_law_first", "_law_second", "_law_rest"] ["_law_top", "_law_bottom"] (defScope s_l_lowest) := ⟨rfl, rfl, rfl, by decide +kernel, rfl, by decide +kernel, by decide +kernel⟩
theorem ok_l_lowest (T : Txt K mg) : FnOk P w K mg base CX0 1 (He.ga K "_law_lowest") (fdOf K (He.ga K "_law_lowest")) ["_law_top", "_law_bottom"] (spLowP) := by
  refine T.F_l_lowest.ok sc_l_lowest (fun vs H Q E h => ?_) (fun cdv A outer s H vs Q E hr h => ?_)
  · obtain ⟨t, b, rfl, _⟩ := h
    rfl
  · obtain ⟨t, b, rfl, hb, sb, k⟩ := h
    refine ⟨_, PSs.nox (pss_cons (ps_set (i := 2) sc_l_lowest.nd rfl (Or.inl rfl) (pe_callB call_abs (by rfl) T.z_abs (by decide +kernel) (pa_cons (pv 0) pa_nil)))
      (pss_cons (ps_set (i := 3) sc_l_lowest.nd rfl (Or.inl rfl) (pv 1))
      (pss_cons (ps_while PassesOwn.never (pt_cmpR op_gt (pv 3) pe_int (nomark _)) (pss_cons (ps_set (i := 4) sc_l_lowest.nd rfl (Or.inl rfl) (pe_op op_mod (pe_callTy call_int1 (by rfl) T.z_int (by decide +kernel) (pa_cons (pv 2) pa_nil)) (pv 3)))
      (pss_cons (ps_set (i := 2) sc_l_lowest.nd rfl (Or.inl rfl) (pv 3))
      (pss_one (ps_set (i := 3) sc_l_lowest.nd rfl (Or.inl rfl) (pv 4))))))
      (pss_one (ps_ret (pe_tup (pa_cons (pe_op (op_fdivZ) (pv 0) (pv 2)) (pa_cons (pe_op (op_fdivZ) (pv 1) (pv 2)) pa_nil)))))))), ?_⟩
    simp only [tDNotIn, tDIn, tDGet, Option.isSome_some, Option.isSome_none, rIsO, isO_int, isO_str, isO_bl, isO_non, isO_ref, isOO_ins, isOO_lst, isOO_tup, isOO_dK, tMethR, StX.tMakeR, cxOf_K, tDNewK, tCallR, tNever, tSeq, tAsg, gName, tPar, tVar, tC, tOp, rI0, rI, rU, tUn, rEq, rNe, tTest, tB, tAnd, tOr, tNot, tAndV, tOrV, tNotV, tIf, tIfS, tRet, tRetN, tNext, tDrop, tCons, tNil, tCB, tCall, tTup, tLst, rIxLH, rIxTH, gSub, rSetL, tPart, tNoPart, tSl, tBM, tBM0, L2.start, sc_ii, sc_ss, sc_bb, sc_nn, sc_ni, sc_in, sc_ns, sc_sn, sc_is, sc_si, eq_self, tChain, List.map_cons, List.map_nil, List.replicate_succ, List.replicate_zero, List.length_cons, List.length_nil, Nat.reduceAdd, Nat.reduceSub, Nat.zero_add, Nat.sub_self, Nat.add_sub_cancel, List.cons_append, List.nil_append, List.append_nil, List.getElem?_cons_zero, List.getElem?_cons_succ, List.set_cons_zero, List.set_cons_succ, Option.some.injEq, V.int.injEq, V.ref.injEq, V.bl.injEq, V.str.injEq, List.cons.injEq, HO.lst.injEq, HO.tup.injEq, and_true, true_and, exists_eq_left', exists_eq_left, exists_eq', exists_eq, exists_eq_right, exists_eq_right', exists_and_left, exists_and_right, and_assoc, upd_same, reduceCtorEq, false_and, and_false, exists_false, or_false, false_or, at0, at1, atM1, sg_inj, dot_eq, plus_eq, minus_eq, rIxS, at2, at3, at4, at5, ix0, ix1, ix2, ix3, upd_upd, decide_eq_true_eq, Int.reduceLT, Int.reduceLE, Int.reduceAdd, Int.reduceSub, Int.reduceNeg, Int.reduceMul, Int.reducePow, Int.reduceEq, decide_true, decide_false, Int.cast_ofNat_Int, Int.natCast_zero, Int.natCast_one, Nat.reduceEqDiff, Nat.reduceLeDiff, rIsB, tyN_non, tyN_bl, tyN_int, tyN_str, tyN_ref, tyO_lst, tyO_tup, tyO_dK, tyO_dT, V.ty.injEq, ite_true, ite_false, if_true, if_false, Bool.not_true, Bool.not_false, Bool.false_eq_true, kb_int_int, kb_int_bool, kb_int_str, kb_int_tuple, kb_int_list, kb_int_dict, kb_bool_int, kb_bool_bool, kb_bool_str, kb_bool_tuple, kb_bool_list, kb_bool_dict, kb_str_int, kb_str_bool, kb_str_str, kb_str_tuple, kb_str_list, kb_str_dict, kb_NoneType_int, kb_NoneType_bool, kb_NoneType_str, kb_NoneType_tuple, kb_NoneType_list, kb_NoneType_dict, kb_list_int, kb_list_bool, kb_list_str, kb_list_tuple, kb_list_list, kb_list_dict, kb_tuple_int, kb_tuple_bool, kb_tuple_str, kb_tuple_tuple, kb_tuple_list, kb_tuple_dict, kb_dict_int, kb_dict_bool, kb_dict_str, kb_dict_tuple, kb_dict_list, kb_dict_dict, cp_2_53, pw_2_53, cp_10_9, pw_10_9, cp_10_10, pw_10_10, cp_10_18, pw_10_18, cp_10_20, pw_10_20, cp_10_29, pw_10_29, cp_10_30, pw_10_30]
    refine ⟨fun m σ H' => ∃ (x y : Nat) (z : Option V), σ = [some (.int t), some (.int b), some (.int x), some (.int y), z] ∧ H' = H ∧ Nat.gcd x y = Int.gcd t b ∧ m = y, ⟨_, t.natAbs, b.natAbs, none, ?_, rfl, rfl, rfl⟩, ?_⟩
    · rw [abs_nat, show (b.natAbs : Int) = b by omega]
    · rintro m σ H' ⟨x, y, z, rfl, rfl, hg, rfl⟩
      simp only [tDNotIn, tDIn, tDGet, Option.isSome_some, Option.isSome_none, rIsO, isO_int, isO_str, isO_bl, isO_non, isO_ref, isOO_ins, isOO_lst, isOO_tup, isOO_dK, tMethR, StX.tMakeR, cxOf_K, tDNewK, tCallR, tNever, tSeq, tAsg, gName, tPar, tVar, tC, tOp, rI0, rI, rU, tUn, rEq, rNe, tTest, tB, tAnd, tOr, tNot, tAndV, tOrV, tNotV, tIf, tIfS, tRet, tRetN, tNext, tDrop, tCons, tNil, tCB, tCall, tTup, tLst, rIxLH, rIxTH, gSub, rSetL, tPart, tNoPart, tSl, tBM, tBM0, L2.start, sc_ii, sc_ss, sc_bb, sc_nn, sc_ni, sc_in, sc_ns, sc_sn, sc_is, sc_si, eq_self, tChain, List.map_cons, List.map_nil, List.replicate_succ, List.replicate_zero, List.length_cons, List.length_nil, Nat.reduceAdd, Nat.reduceSub, Nat.zero_add, Nat.sub_self, Nat.add_sub_cancel, List.cons_append, List.nil_append, List.append_nil, List.getElem?_cons_zero, List.getElem?_cons_succ, List.set_cons_zero, List.set_cons_succ, Option.some.injEq, V.int.injEq, V.ref.injEq, V.bl.injEq, V.str.injEq, List.cons.injEq, HO.lst.injEq, HO.tup.injEq, and_true, true_and, exists_eq_left', exists_eq_left, exists_eq', exists_eq, exists_eq_right, exists_eq_right', exists_and_left, exists_and_right, and_assoc, upd_same, reduceCtorEq, false_and, and_false, exists_false, or_false, false_or, at0, at1, atM1, sg_inj, dot_eq, plus_eq, minus_eq, rIxS, at2, at3, at4, at5, ix0, ix1, ix2, ix3, upd_upd, decide_eq_true_eq, Int.reduceLT, Int.reduceLE, Int.reduceAdd, Int.reduceSub, Int.reduceNeg, Int.reduceMul, Int.reducePow, Int.reduceEq, decide_true, decide_false, Int.cast_ofNat_Int, Int.natCast_zero, Int.natCast_one, Nat.reduceEqDiff, Nat.reduceLeDiff, rIsB, tyN_non, tyN_bl, tyN_int, tyN_str, tyN_ref, tyO_lst, tyO_tup, tyO_dK, tyO_dT, V.ty.injEq, ite_true, ite_false, if_true, if_false, Bool.not_true, Bool.not_false, Bool.false_eq_true, kb_int_int, kb_int_bool, kb_int_str, kb_int_tuple, kb_int_list, kb_int_dict, kb_bool_int, kb_bool_bool, kb_bool_str, kb_bool_tuple, kb_bool_list, kb_bool_dict, kb_str_int, kb_str_bool, kb_str_str, kb_str_tuple, kb_str_list, kb_str_dict, kb_NoneType_int, kb_NoneType_bool, kb_NoneType_str, kb_NoneType_tuple, kb_NoneType_list, kb_NoneType_dict, kb_list_int, kb_list_bool, kb_list_str, kb_list_tuple, kb_list_list, kb_list_dict, kb_tuple_int, kb_tuple_bool, kb_tuple_str, kb_tuple_tuple, kb_tuple_list, kb_tuple_dict, kb_dict_int, kb_dict_bool, kb_dict_str, kb_dict_tuple, kb_dict_list, kb_dict_dict, cp_2_53, pw_2_53, cp_10_9, pw_10_9, cp_10_10, pw_10_10, cp_10_18, pw_10_18, cp_10_20, pw_10_20, cp_10_29, pw_10_29, cp_10_30, pw_10_30]
      refine ite2 (fun e => ⟨_, fun _ _ z => z, e, ?_⟩) fun e => ?_
      · exact ⟨x % m, Nat.mod_lt _ (by omega), m, x % m, ⟨some (.int ((x % m : Nat) : Int)), by simp⟩, rfl, by rw [← hg, Nat.gcd_comm m, ← Nat.gcd_rec, Nat.gcd_comm], rfl⟩
      · have : m = 0 := by omega
        subst this
        rw [Nat.gcd_zero_right] at hg
        have ed : (x : Int) = den t b := by rw [hg]; unfold den; rw [if_neg (by omega)]
        have hb0 : b ≠ 0 := by omega
        have z := (den_sm (t := t) hb0 sb).divz (x := 0) (den_ne hb0)
        obtain ⟨e1, e2⟩ := low_rat (t := t) hb0
        rw [ed, e1, e2]
        exact ⟨z, z, size_le (by simp), fun p hp => k p _ hp (same_upd hp) upd_same⟩
def spLevel : Sp := fun vs H Q _ => ∃ p : Addr, vs = [.ref p] ∧ PotAt H p ∧ ∀ q x H', RB 120 x → H q = none → H' q = some (prT x) → PotAt H' p → Off p H H' → Q (.ref q) H'
theorem sc_l_level : FnScope ["_law_pot_here", "_law_top", "_law_bottom"] ["_law_pot_here"] (defScope s_l_level) := ⟨rfl, rfl, rfl, by decide +kernel, rfl, by decide +kernel, by decide +kernel⟩
theorem ok_l_level (T : Txt K mg) : FnOk P w K mg base CX0 3 (He.ga K "_law_level") (fdOf K (He.ga K "_law_level")) ["_law_pot_here"] (spLevel) := by
  refine T.F_l_level.ok sc_l_level (fun vs H Q E h => ?_) (fun cdv A outer s H vs Q E hr h => ?_)
  · obtain ⟨p, rfl, _⟩ := h
    rfl
  · obtain ⟨p, rfl, hp, k⟩ := h
    refine ⟨_, PSs.nox (pss_cons (ps_set (i := 1) sc_l_level.nd rfl (Or.inl rfl) (pe_call (ok_l_weight T) (hr.mono (by decide)) (by rfl) T.g_l_weight T.k_l_weight T.b_l_weight .nil pass0 (pa_cons (pv 0) pa_nil)))
      (pss_cons (ps_set (i := 2) sc_l_level.nd rfl (Or.inl rfl) pe_int)
      (Evl.pss_cut (ps_if (pt_cmpR op_eq (pe_call (ok_l_take T) (hr.mono (by decide)) (by rfl) T.g_l_take T.k_l_take T.b_l_take .nil pass0 (pa_cons (pv 0) (pa_cons pe_int pa_nil))) pe_int (nomark _)) (pss_one (ps_set (i := 2) sc_l_level.nd rfl (Or.inl rfl) (pe_callB (call_max2 rfl) (by rfl) T.z_max (by decide +kernel) (pa_cons pe_int (pa_cons (pe_callB call_abs (by rfl) T.z_abs (by decide +kernel) (pa_cons (pe_call (ok_l_weight T) (hr.mono (by decide)) (by rfl) T.g_l_weight T.k_l_weight T.b_l_weight .nil pass0 (pa_cons (pv 0) pa_nil)) pa_nil)) pa_nil))))) pss_nil)
      (pss_one (ps_ret (pe_call (ok_l_lowest T) (hr.mono (by decide)) (by rfl) T.g_l_lowest T.k_l_lowest T.b_l_lowest .nil pass0 (pa_cons (pv 1) (pa_cons (pv 2) pa_nil)))))))), ?_⟩
    simp only [tDNotIn, tDIn, tDGet, Option.isSome_some, Option.isSome_none, rIsO, isO_int, isO_str, isO_bl, isO_non, isO_ref, isOO_ins, isOO_lst, isOO_tup, isOO_dK, tMethR, StX.tMakeR, cxOf_K, tDNewK, tCallR, tNever, tSeq, tAsg, gName, tPar, tVar, tC, tOp, rI0, rI, rU, tUn, rEq, rNe, tTest, tB, tAnd, tOr, tNot, tAndV, tOrV, tNotV, tIf, tIfS, tRet, tRetN, tNext, tDrop, tCons, tNil, tCB, tCall, tTup, tLst, rIxLH, rIxTH, gSub, rSetL, tPart, tNoPart, tSl, tBM, tBM0, L2.start, sc_ii, sc_ss, sc_bb, sc_nn, sc_ni, sc_in, sc_ns, sc_sn, sc_is, sc_si, eq_self, tChain, List.map_cons, List.map_nil, List.replicate_succ, List.replicate_zero, List.length_cons, List.length_nil, Nat.reduceAdd, Nat.reduceSub, Nat.zero_add, Nat.sub_self, Nat.add_sub_cancel, List.cons_append, List.nil_append, List.append_nil, List.getElem?_cons_zero, List.getElem?_cons_succ, List.set_cons_zero, List.set_cons_succ, Option.some.injEq, V.int.injEq, V.ref.injEq, V.bl.injEq, V.str.injEq, List.cons.injEq, HO.lst.injEq, HO.tup.injEq, and_true, true_and, exists_eq_left', exists_eq_left, exists_eq', exists_eq, exists_eq_right, exists_eq_right', exists_and_left, exists_and_right, and_assoc, upd_same, reduceCtorEq, false_and, and_false, exists_false, or_false, false_or, at0, at1, atM1, sg_inj, dot_eq, plus_eq, minus_eq, rIxS, at2, at3, at4, at5, ix0, ix1, ix2, ix3, upd_upd, decide_eq_true_eq, Int.reduceLT, Int.reduceLE, Int.reduceAdd, Int.reduceSub, Int.reduceNeg, Int.reduceMul, Int.reducePow, Int.reduceEq, decide_true, decide_false, Int.cast_ofNat_Int, Int.natCast_zero, Int.natCast_one, Nat.reduceEqDiff, Nat.reduceLeDiff, rIsB, tyN_non, tyN_bl, tyN_int, tyN_str, tyN_ref, tyO_lst, tyO_tup, tyO_dK, tyO_dT, V.ty.injEq, ite_true, ite_false, if_true, if_false, Bool.not_true, Bool.not_false, Bool.false_eq_true, kb_int_int, kb_int_bool, kb_int_str, kb_int_tuple, kb_int_list, kb_int_dict, kb_bool_int, kb_bool_bool, kb_bool_str, kb_bool_tuple, kb_bool_list, kb_bool_dict, kb_str_int, kb_str_bool, kb_str_str, kb_str_tuple, kb_str_list, kb_str_dict, kb_NoneType_int, kb_NoneType_bool, kb_NoneType_str, kb_NoneType_tuple, kb_NoneType_list, kb_NoneType_dict, kb_list_int, kb_list_bool, kb_list_str, kb_list_tuple, kb_list_list, kb_list_dict, kb_tuple_int, kb_tuple_bool, kb_tuple_str, kb_tuple_tuple, kb_tuple_list, kb_tuple_dict, kb_dict_int, kb_dict_bool, kb_dict_str, kb_dict_tuple, kb_dict_list, kb_dict_dict, cp_2_53, pw_2_53, cp_10_9, pw_10_9, cp_10_10, pw_10_10, cp_10_18, pw_10_18, cp_10_20, pw_10_20, cp_10_29, pw_10_29, cp_10_30, pw_10_30, spTake, spNumber, spLowP]
    refine ⟨hp, fun t H1 st hp1 o1 => ?_⟩
    refine ⟨fun σ' H' => ∃ b : Int, σ' = [some (.ref p), some (.int t), some (.int b)] ∧ 0 < b ∧ Sm 110 b ∧ PotAt H' p ∧ Off p H H', ?_, ?_⟩
    · simp only [tDNotIn, tDIn, tDGet, Option.isSome_some, Option.isSome_none, rIsO, isO_int, isO_str, isO_bl, isO_non, isO_ref, isOO_ins, isOO_lst, isOO_tup, isOO_dK, tMethR, StX.tMakeR, cxOf_K, tDNewK, tCallR, tNever, tSeq, tAsg, gName, tPar, tVar, tC, tOp, rI0, rI, rU, tUn, rEq, rNe, tTest, tB, tAnd, tOr, tNot, tAndV, tOrV, tNotV, tIf, tIfS, tRet, tRetN, tNext, tDrop, tCons, tNil, tCB, tCall, tTup, tLst, rIxLH, rIxTH, gSub, rSetL, tPart, tNoPart, tSl, tBM, tBM0, L2.start, sc_ii, sc_ss, sc_bb, sc_nn, sc_ni, sc_in, sc_ns, sc_sn, sc_is, sc_si, eq_self, tChain, List.map_cons, List.map_nil, List.replicate_succ, List.replicate_zero, List.length_cons, List.length_nil, Nat.reduceAdd, Nat.reduceSub, Nat.zero_add, Nat.sub_self, Nat.add_sub_cancel, List.cons_append, List.nil_append, List.append_nil, List.getElem?_cons_zero, List.getElem?_cons_succ, List.set_cons_zero, List.set_cons_succ, Option.some.injEq, V.int.injEq, V.ref.injEq, V.bl.injEq, V.str.injEq, List.cons.injEq, HO.lst.injEq, HO.tup.injEq, and_true, true_and, exists_eq_left', exists_eq_left, exists_eq', exists_eq, exists_eq_right, exists_eq_right', exists_and_left, exists_and_right, and_assoc, upd_same, reduceCtorEq, false_and, and_false, exists_false, or_false, false_or, at0, at1, atM1, sg_inj, dot_eq, plus_eq, minus_eq, rIxS, at2, at3, at4, at5, ix0, ix1, ix2, ix3, upd_upd, decide_eq_true_eq, Int.reduceLT, Int.reduceLE, Int.reduceAdd, Int.reduceSub, Int.reduceNeg, Int.reduceMul, Int.reducePow, Int.reduceEq, decide_true, decide_false, Int.cast_ofNat_Int, Int.natCast_zero, Int.natCast_one, Nat.reduceEqDiff, Nat.reduceLeDiff, rIsB, tyN_non, tyN_bl, tyN_int, tyN_str, tyN_ref, tyO_lst, tyO_tup, tyO_dK, tyO_dT, V.ty.injEq, ite_true, ite_false, if_true, if_false, Bool.not_true, Bool.not_false, Bool.false_eq_true, kb_int_int, kb_int_bool, kb_int_str, kb_int_tuple, kb_int_list, kb_int_dict, kb_bool_int, kb_bool_bool, kb_bool_str, kb_bool_tuple, kb_bool_list, kb_bool_dict, kb_str_int, kb_str_bool, kb_str_str, kb_str_tuple, kb_str_list, kb_str_dict, kb_NoneType_int, kb_NoneType_bool, kb_NoneType_str, kb_NoneType_tuple, kb_NoneType_list, kb_NoneType_dict, kb_list_int, kb_list_bool, kb_list_str, kb_list_tuple, kb_list_list, kb_list_dict, kb_tuple_int, kb_tuple_bool, kb_tuple_str, kb_tuple_tuple, kb_tuple_list, kb_tuple_dict, kb_dict_int, kb_dict_bool, kb_dict_str, kb_dict_tuple, kb_dict_list, kb_dict_dict, cp_2_53, pw_2_53, cp_10_9, pw_10_9, cp_10_10, pw_10_10, cp_10_18, pw_10_18, cp_10_20, pw_10_20, cp_10_29, pw_10_29, cp_10_30, pw_10_30, spNumber, spTake]
      refine ⟨hp1, fun k0 H2 h0 h0' hp2 o2 => ite2 (fun e => ⟨hp2, fun b H3 sb hp3 o3 => ?_⟩) fun e => ?_⟩
      · rw [abs_nat]
        have : (if (b.natAbs : Int) > 1 then (b.natAbs : Int) else 1) = ((max b.natAbs 1 : Nat) : Int) := by split <;> omega
        rw [this]
        have s1 := sb.abs
        exact ⟨by omega, by unfold Sm at *; omega, hp3, (o1.trans o2).trans o3⟩
      · exact ⟨Sm.mono (n := 1) (by unfold Sm; decide) (by decide), hp2, o1.trans o2⟩
    · rintro σ' H3 ⟨b, rfl, b0, sb, hp3, o3⟩
      simp only [tDNotIn, tDIn, tDGet, Option.isSome_some, Option.isSome_none, rIsO, isO_int, isO_str, isO_bl, isO_non, isO_ref, isOO_ins, isOO_lst, isOO_tup, isOO_dK, tMethR, StX.tMakeR, cxOf_K, tDNewK, tCallR, tNever, tSeq, tAsg, gName, tPar, tVar, tC, tOp, rI0, rI, rU, tUn, rEq, rNe, tTest, tB, tAnd, tOr, tNot, tAndV, tOrV, tNotV, tIf, tIfS, tRet, tRetN, tNext, tDrop, tCons, tNil, tCB, tCall, tTup, tLst, rIxLH, rIxTH, gSub, rSetL, tPart, tNoPart, tSl, tBM, tBM0, L2.start, sc_ii, sc_ss, sc_bb, sc_nn, sc_ni, sc_in, sc_ns, sc_sn, sc_is, sc_si, eq_self, tChain, List.map_cons, List.map_nil, List.replicate_succ, List.replicate_zero, List.length_cons, List.length_nil, Nat.reduceAdd, Nat.reduceSub, Nat.zero_add, Nat.sub_self, Nat.add_sub_cancel, List.cons_append, List.nil_append, List.append_nil, List.getElem?_cons_zero, List.getElem?_cons_succ, List.set_cons_zero, List.set_cons_succ, Option.some.injEq, V.int.injEq, V.ref.injEq, V.bl.injEq, V.str.injEq, List.cons.injEq, HO.lst.injEq, HO.tup.injEq, and_true, true_and, exists_eq_left', exists_eq_left, exists_eq', exists_eq, exists_eq_right, exists_eq_right', exists_and_left, exists_and_right, and_assoc, upd_same, reduceCtorEq, false_and, and_false, exists_false, or_false, false_or, at0, at1, atM1, sg_inj, dot_eq, plus_eq, minus_eq, rIxS, at2, at3, at4, at5, ix0, ix1, ix2, ix3, upd_upd, decide_eq_true_eq, Int.reduceLT, Int.reduceLE, Int.reduceAdd, Int.reduceSub, Int.reduceNeg, Int.reduceMul, Int.reducePow, Int.reduceEq, decide_true, decide_false, Int.cast_ofNat_Int, Int.natCast_zero, Int.natCast_one, Nat.reduceEqDiff, Nat.reduceLeDiff, rIsB, tyN_non, tyN_bl, tyN_int, tyN_str, tyN_ref, tyO_lst, tyO_tup, tyO_dK, tyO_dT, V.ty.injEq, ite_true, ite_false, if_true, if_false, Bool.not_true, Bool.not_false, Bool.false_eq_true, kb_int_int, kb_int_bool, kb_int_str, kb_int_tuple, kb_int_list, kb_int_dict, kb_bool_int, kb_bool_bool, kb_bool_str, kb_bool_tuple, kb_bool_list, kb_bool_dict, kb_str_int, kb_str_bool, kb_str_str, kb_str_tuple, kb_str_list, kb_str_dict, kb_NoneType_int, kb_NoneType_bool, kb_NoneType_str, kb_NoneType_tuple, kb_NoneType_list, kb_NoneType_dict, kb_list_int, kb_list_bool, kb_list_str, kb_list_tuple, kb_list_list, kb_list_dict, kb_tuple_int, kb_tuple_bool, kb_tuple_str, kb_tuple_tuple, kb_tuple_list, kb_tuple_dict, kb_dict_int, kb_dict_bool, kb_dict_str, kb_dict_tuple, kb_dict_list, kb_dict_dict, cp_2_53, pw_2_53, cp_10_9, pw_10_9, cp_10_10, pw_10_10, cp_10_18, pw_10_18, cp_10_20, pw_10_20, cp_10_29, pw_10_29, cp_10_30, pw_10_30, spLowP]
      refine ⟨b0, sb.mono (by decide), fun q H4 nq s4 e4 => k q _ _ ?_ ?_ e4 ?_ ?_⟩
      · exact (rb_div (by omega) st sb).mono (by decide)
      · exact o3.free (hp3.ne nq) nq
      · exact hp3.same s4
      · exact o3.same s4
theorem lc_qc : ∀ c ∈ LC, c ∈ QC := by decide +kernel
theorem isQ_cons {z : Str} {a b : Nat} {r : List Nat} (h : Lz z = a :: r) (ha : a ∈ LC) (hr : ∀ c ∈ r, c ∈ QC) (hl : r.length ≤ 11) (hb : (a :: r).getLast? = some b) (hne : b ≠ 46) : isQ z = true := by
  have hz : z.length = r.length + 1 := by rw [← Lz_len, h]; rfl
  rw [isQ_end (a := a) (b := b) (by omega) (fun c hc => ?_) (by show (Lz z).head? = _; rw [h]; rfl) (by show (Lz z).getLast? = _; rw [h]; exact hb), decide_eq_true ha, decide_eq_false hne]; rfl
  have hc2 : c ∈ Lz z := hc
  rw [h] at hc2
  rcases List.mem_cons.mp hc2 with rfl | hc2
  · exact lc_qc _ ha
  · exact hr c hc2
theorem at_in {l : List Nat} {i : Int} (h0 : 0 ≤ i) (h : i < l.length) : ∃ c, atI l i = some c ∧ c ∈ l := by
  obtain ⟨n, rfl⟩ := Int.eq_ofNat_of_zero_le h0
  have hn : n < l.length := by omega
  exact ⟨l[n], by rw [show ((n : Nat) : Int) = (n : Int) from rfl, at_nat, List.getElem?_eq_getElem hn], List.getElem_mem hn⟩
theorem Lz_cutM {z : Str} : Lz (cutS z none (some (-1))) = (Lz z).dropLast := by
  show (((z.cps.toList.drop (HT.sIx z.length 0 none)).take (HT.sIx z.length z.length (some (-1)) - HT.sIx z.length 0 none)).toArray).toList = _
  rw [HT.sIx_none, List.toList_toArray, List.drop_zero]
  have e : HT.sIx z.length z.length (some (-1)) = z.length - 1 := by
    show (if (-1 : Int) < 0 then ((-1 : Int) + (z.length : Int)).toNat else min (-1 : Int).toNat z.length) = _
    rw [if_pos (by decide)]; omega
  rw [e, Nat.sub_zero, List.dropLast_eq_take]; rfl
theorem Lz_cut0 {z : Str} {n : Nat} : Lz (cutS z none (some (n : Int))) = (Lz z).take n := by
  show (((z.cps.toList.drop (HT.sIx z.length 0 none)).take (HT.sIx z.length z.length (some (n : Int)) - HT.sIx z.length 0 none)).toArray).toList = _
  rw [HT.sIx_none, List.toList_toArray, List.drop_zero, HT.sIx_nat, Nat.sub_zero]
  show (Lz z).take (min n z.length) = _
  rw [← Lz_len, ← List.take_eq_take_min]
def nmL : Str := "abcdefghijklmnopqrstuvwxyz"
def nmS : Str := nmL ++ Str.ofString "0123456789."
theorem nmL_l : nmL.length = 26 := by decide +kernel
theorem nmS_l : nmS.length = 37 := by decide +kernel
theorem nmL_a : ∀ c ∈ Lz nmL, c ∈ LC := by decide +kernel
theorem nmS_a : ∀ c ∈ Lz nmS, c ∈ QC := by decide +kernel
theorem Off.im {p : Addr} {H H' : Hp} (o : Off p H H') (h : PotAt H p) : Im H H' := Im.off h o
def spQuan : Sp := fun vs H Q _ => ∃ (p : Addr) (s : Int), vs = [.ref p, .int s] ∧ PotAt H p ∧ 0 ≤ s ∧ s ≤ 20 ∧ ∀ z H', isQ z = true → PotAt H' p → Off p H H' → Q (.str z) H'
theorem sc_l_quantity : FnScope ["_law_pot_here", "_law_shift", "_law_letters", "_law_signs", "_law_text", "_law_way", "_law_long", "_law_k"] ["_law_pot_here", "_law_shift"] (defScope s_l_quantity) := ⟨rfl, rfl, rfl, by decide +kernel, rfl, by decide +kernel, by decide +kernel⟩
theorem ok_l_quantity (T : Txt K mg) : FnOk P w K mg base CX0 2 (He.ga K "_law_quantity") (fdOf K (He.ga K "_law_quantity")) ["_law_pot_here", "_law_shift"] (spQuan) := by
  refine T.F_l_quantity.ok sc_l_quantity (fun vs H Q E h => ?_) (fun cdv A outer s H vs Q E hr h => ?_)
  · obtain ⟨p, _, rfl, _⟩ := h
    rfl
  · obtain ⟨p, s0, rfl, hp, s1, s2, k⟩ := h
    refine ⟨_, PSs.nox (pss_cons (ps_set (i := 2) sc_l_quantity.nd rfl (Or.inl rfl) pe_str)
      (pss_cons (ps_set (i := 3) sc_l_quantity.nd rfl (Or.inl rfl) (pe_op op_add_str (pv 2) pe_str))
      (pss_cons (ps_set (i := 4) sc_l_quantity.nd rfl (Or.inl rfl) (pe_ix ix_str (pv 2) (pe_op op_mod (pe_callTy call_int1 (by rfl) T.z_int (by decide +kernel) (pa_cons (pe_op op_add (pe_call (ok_l_take T) (hr.mono (by decide)) (by rfl) T.g_l_take T.k_l_take T.b_l_take .nil pass0 (pa_cons (pv 0) (pa_cons pe_int pa_nil))) (pv 1)) pa_nil)) pe_int) (fun _ _ => rfl)))
      (pss_cons (ps_set (i := 5) sc_l_quantity.nd rfl (Or.inl rfl) (pe_call (ok_l_take T) (hr.mono (by decide)) (by rfl) T.g_l_take T.k_l_take T.b_l_take .nil pass0 (pa_cons (pv 0) (pa_cons pe_int pa_nil))))
      (pss_cons (ps_set (i := 6) sc_l_quantity.nd rfl (Or.inl rfl) pe_int)
      (Evl.pss_cut (ps_if (pt_cmpR op_in_seq (pv 5) (pe_tup (pa_cons pe_int (pa_cons pe_int pa_nil))) (by rfl)) (pss_one (ps_set (i := 6) sc_l_quantity.nd rfl (Or.inl rfl) (pv 5))) pss_nil)
      (Evl.pss_cut (ps_if (pt_cmpR op_gt (pv 5) pe_int (nomark _)) (pss_one (ps_set (i := 6) sc_l_quantity.nd rfl (Or.inl rfl) (pe_call (ok_l_take T) (hr.mono (by decide)) (by rfl) T.g_l_take T.k_l_take T.b_l_take .nil pass0 (pa_cons (pv 0) (pa_cons pe_int pa_nil))))) pss_nil)
      (pss_cons (ps_for PassesOwn.never rfl (pi_range1 (by rfl) T.z_range (pa_cons (pv 6) pa_nil)) (pg_name (i := 7) sc_l_quantity.nd rfl (Or.inl rfl)) (pss_one (ps_set (i := 4) sc_l_quantity.nd rfl (Or.inl rfl) (pe_op op_add_str (pv 4) (pe_ix ix_str (pv 3) (pe_call (ok_l_take T) (hr.mono (by decide)) (by rfl) T.g_l_take T.k_l_take T.b_l_take .nil pass0 (pa_cons (pv 0) (pa_cons pe_int pa_nil))) (fun _ _ => rfl))))))
      (Evl.pss_cut (ps_if (pt_cmpR op_eq (pe_ix ix_str (pv 4) (pe_un un_neg pe_int) (fun _ _ => rfl)) pe_str (nomark _)) (pss_one (ps_set (i := 4) sc_l_quantity.nd rfl (Or.inl rfl) (pe_op op_add_str (pe_slice sl_str (pv 4) po_none (po_some (pe_un un_neg pe_int))) pe_str))) pss_nil)
      (pss_one (ps_ret (pv 4)))))))))))), ?_⟩
    simp only [tDNotIn, tDIn, tDGet, Option.isSome_some, Option.isSome_none, rIsO, isO_int, isO_str, isO_bl, isO_non, isO_ref, isOO_ins, isOO_lst, isOO_tup, isOO_dK, tMethR, StX.tMakeR, cxOf_K, tDNewK, tCallR, tNever, tSeq, tAsg, gName, tPar, tVar, tC, tOp, rI0, rI, rU, tUn, rEq, rNe, tTest, tB, tAnd, tOr, tNot, tAndV, tOrV, tNotV, tIf, tIfS, tRet, tRetN, tNext, tDrop, tCons, tNil, tCB, tCall, tTup, tLst, rIxLH, rIxTH, gSub, rSetL, tPart, tNoPart, tSl, tBM, tBM0, L2.start, sc_ii, sc_ss, sc_bb, sc_nn, sc_ni, sc_in, sc_ns, sc_sn, sc_is, sc_si, eq_self, tChain, List.map_cons, List.map_nil, List.replicate_succ, List.replicate_zero, List.length_cons, List.length_nil, Nat.reduceAdd, Nat.reduceSub, Nat.zero_add, Nat.sub_self, Nat.add_sub_cancel, List.cons_append, List.nil_append, List.append_nil, List.getElem?_cons_zero, List.getElem?_cons_succ, List.set_cons_zero, List.set_cons_succ, Option.some.injEq, V.int.injEq, V.ref.injEq, V.bl.injEq, V.str.injEq, List.cons.injEq, HO.lst.injEq, HO.tup.injEq, and_true, true_and, exists_eq_left', exists_eq_left, exists_eq', exists_eq, exists_eq_right, exists_eq_right', exists_and_left, exists_and_right, and_assoc, upd_same, reduceCtorEq, false_and, and_false, exists_false, or_false, false_or, at0, at1, atM1, sg_inj, dot_eq, plus_eq, minus_eq, rIxS, at2, at3, at4, at5, ix0, ix1, ix2, ix3, upd_upd, decide_eq_true_eq, Int.reduceLT, Int.reduceLE, Int.reduceAdd, Int.reduceSub, Int.reduceNeg, Int.reduceMul, Int.reducePow, Int.reduceEq, decide_true, decide_false, Int.cast_ofNat_Int, Int.natCast_zero, Int.natCast_one, Nat.reduceEqDiff, Nat.reduceLeDiff, rIsB, tyN_non, tyN_bl, tyN_int, tyN_str, tyN_ref, tyO_lst, tyO_tup, tyO_dK, tyO_dT, V.ty.injEq, ite_true, ite_false, if_true, if_false, Bool.not_true, Bool.not_false, Bool.false_eq_true, kb_int_int, kb_int_bool, kb_int_str, kb_int_tuple, kb_int_list, kb_int_dict, kb_bool_int, kb_bool_bool, kb_bool_str, kb_bool_tuple, kb_bool_list, kb_bool_dict, kb_str_int, kb_str_bool, kb_str_str, kb_str_tuple, kb_str_list, kb_str_dict, kb_NoneType_int, kb_NoneType_bool, kb_NoneType_str, kb_NoneType_tuple, kb_NoneType_list, kb_NoneType_dict, kb_list_int, kb_list_bool, kb_list_str, kb_list_tuple, kb_list_list, kb_list_dict, kb_tuple_int, kb_tuple_bool, kb_tuple_str, kb_tuple_tuple, kb_tuple_list, kb_tuple_dict, kb_dict_int, kb_dict_bool, kb_dict_str, kb_dict_tuple, kb_dict_list, kb_dict_dict, cp_2_53, pw_2_53, cp_10_9, pw_10_9, cp_10_10, pw_10_10, cp_10_18, pw_10_18, cp_10_20, pw_10_20, cp_10_29, pw_10_29, cp_10_30, pw_10_30, spTake]
    refine ⟨size_le (by decide +kernel), hp, fun k1 H1 k10 k11 hp1 o1 => ⟨size_le (by decide +kernel), ?_⟩⟩
    obtain ⟨a, ea, ma⟩ := at_in (l := Lz nmL) (i := (k1 + s0) % 26) (Int.emod_nonneg _ (by decide)) (by rw [Lz_len, nmL_l]; omega)
    refine ⟨a, ea, hp1, fun k2 H2 k20 k21 hp2 o2 => ?_⟩
    have hA := nmL_a a ma
    refine ⟨fun σ' H' => ∃ lg : Int, σ' = [some (.ref p), some (.int s0), some (.str nmL), some (.str nmS), some (.str ⟨#[a]⟩), some (.int k2), some (.int lg), none] ∧ 0 ≤ lg ∧ lg ≤ 11 ∧ PotAt H' p ∧ Off p H H', ?_, ?_⟩
    · simp only [tDNotIn, tDIn, tDGet, Option.isSome_some, Option.isSome_none, rIsO, isO_int, isO_str, isO_bl, isO_non, isO_ref, isOO_ins, isOO_lst, isOO_tup, isOO_dK, tMethR, StX.tMakeR, cxOf_K, tDNewK, tCallR, tNever, tSeq, tAsg, gName, tPar, tVar, tC, tOp, rI0, rI, rU, tUn, rEq, rNe, tTest, tB, tAnd, tOr, tNot, tAndV, tOrV, tNotV, tIf, tIfS, tRet, tRetN, tNext, tDrop, tCons, tNil, tCB, tCall, tTup, tLst, rIxLH, rIxTH, gSub, rSetL, tPart, tNoPart, tSl, tBM, tBM0, L2.start, sc_ii, sc_ss, sc_bb, sc_nn, sc_ni, sc_in, sc_ns, sc_sn, sc_is, sc_si, eq_self, tChain, List.map_cons, List.map_nil, List.replicate_succ, List.replicate_zero, List.length_cons, List.length_nil, Nat.reduceAdd, Nat.reduceSub, Nat.zero_add, Nat.sub_self, Nat.add_sub_cancel, List.cons_append, List.nil_append, List.append_nil, List.getElem?_cons_zero, List.getElem?_cons_succ, List.set_cons_zero, List.set_cons_succ, Option.some.injEq, V.int.injEq, V.ref.injEq, V.bl.injEq, V.str.injEq, List.cons.injEq, HO.lst.injEq, HO.tup.injEq, and_true, true_and, exists_eq_left', exists_eq_left, exists_eq', exists_eq, exists_eq_right, exists_eq_right', exists_and_left, exists_and_right, and_assoc, upd_same, reduceCtorEq, false_and, and_false, exists_false, or_false, false_or, at0, at1, atM1, sg_inj, dot_eq, plus_eq, minus_eq, rIxS, at2, at3, at4, at5, ix0, ix1, ix2, ix3, upd_upd, decide_eq_true_eq, Int.reduceLT, Int.reduceLE, Int.reduceAdd, Int.reduceSub, Int.reduceNeg, Int.reduceMul, Int.reducePow, Int.reduceEq, decide_true, decide_false, Int.cast_ofNat_Int, Int.natCast_zero, Int.natCast_one, Nat.reduceEqDiff, Nat.reduceLeDiff, rIsB, tyN_non, tyN_bl, tyN_int, tyN_str, tyN_ref, tyO_lst, tyO_tup, tyO_dK, tyO_dT, V.ty.injEq, ite_true, ite_false, if_true, if_false, Bool.not_true, Bool.not_false, Bool.false_eq_true, kb_int_int, kb_int_bool, kb_int_str, kb_int_tuple, kb_int_list, kb_int_dict, kb_bool_int, kb_bool_bool, kb_bool_str, kb_bool_tuple, kb_bool_list, kb_bool_dict, kb_str_int, kb_str_bool, kb_str_str, kb_str_tuple, kb_str_list, kb_str_dict, kb_NoneType_int, kb_NoneType_bool, kb_NoneType_str, kb_NoneType_tuple, kb_NoneType_list, kb_NoneType_dict, kb_list_int, kb_list_bool, kb_list_str, kb_list_tuple, kb_list_list, kb_list_dict, kb_tuple_int, kb_tuple_bool, kb_tuple_str, kb_tuple_tuple, kb_tuple_list, kb_tuple_dict, kb_dict_int, kb_dict_bool, kb_dict_str, kb_dict_tuple, kb_dict_list, kb_dict_dict, cp_2_53, pw_2_53, cp_10_9, pw_10_9, cp_10_10, pw_10_10, cp_10_18, pw_10_18, cp_10_20, pw_10_20, cp_10_29, pw_10_29, cp_10_30, pw_10_30]
      refine ⟨size_le (by decide), fun q nq => ⟨q, _, rfl, .inr (.inl (.inl upd_same)), rfl, rfl, _, rfl, ?_⟩⟩
      have o := (o1.trans o2).new (o := .tup [V.int 1, V.int 2]) nq
      exact ite2 (fun _ => ⟨rfl, rfl, k20, by omega, hp2.new nq, o⟩) fun _ => ⟨rfl, rfl, hp2.new nq, o⟩
    · rintro σ' H3 ⟨lg, rfl, l0, l1, hp3, o3⟩
      refine ⟨fun σ' H' => ∃ lg : Int, σ' = [some (.ref p), some (.int s0), some (.str nmL), some (.str nmS), some (.str ⟨#[a]⟩), some (.int k2), some (.int lg), none] ∧ 0 ≤ lg ∧ lg ≤ 11 ∧ PotAt H' p ∧ Off p H H', ?_, ?_⟩
      · simp only [tDNotIn, tDIn, tDGet, Option.isSome_some, Option.isSome_none, rIsO, isO_int, isO_str, isO_bl, isO_non, isO_ref, isOO_ins, isOO_lst, isOO_tup, isOO_dK, tMethR, StX.tMakeR, cxOf_K, tDNewK, tCallR, tNever, tSeq, tAsg, gName, tPar, tVar, tC, tOp, rI0, rI, rU, tUn, rEq, rNe, tTest, tB, tAnd, tOr, tNot, tAndV, tOrV, tNotV, tIf, tIfS, tRet, tRetN, tNext, tDrop, tCons, tNil, tCB, tCall, tTup, tLst, rIxLH, rIxTH, gSub, rSetL, tPart, tNoPart, tSl, tBM, tBM0, L2.start, sc_ii, sc_ss, sc_bb, sc_nn, sc_ni, sc_in, sc_ns, sc_sn, sc_is, sc_si, eq_self, tChain, List.map_cons, List.map_nil, List.replicate_succ, List.replicate_zero, List.length_cons, List.length_nil, Nat.reduceAdd, Nat.reduceSub, Nat.zero_add, Nat.sub_self, Nat.add_sub_cancel, List.cons_append, List.nil_append, List.append_nil, List.getElem?_cons_zero, List.getElem?_cons_succ, List.set_cons_zero, List.set_cons_succ, Option.some.injEq, V.int.injEq, V.ref.injEq, V.bl.injEq, V.str.injEq, List.cons.injEq, HO.lst.injEq, HO.tup.injEq, and_true, true_and, exists_eq_left', exists_eq_left, exists_eq', exists_eq, exists_eq_right, exists_eq_right', exists_and_left, exists_and_right, and_assoc, upd_same, reduceCtorEq, false_and, and_false, exists_false, or_false, false_or, at0, at1, atM1, sg_inj, dot_eq, plus_eq, minus_eq, rIxS, at2, at3, at4, at5, ix0, ix1, ix2, ix3, upd_upd, decide_eq_true_eq, Int.reduceLT, Int.reduceLE, Int.reduceAdd, Int.reduceSub, Int.reduceNeg, Int.reduceMul, Int.reducePow, Int.reduceEq, decide_true, decide_false, Int.cast_ofNat_Int, Int.natCast_zero, Int.natCast_one, Nat.reduceEqDiff, Nat.reduceLeDiff, rIsB, tyN_non, tyN_bl, tyN_int, tyN_str, tyN_ref, tyO_lst, tyO_tup, tyO_dK, tyO_dT, V.ty.injEq, ite_true, ite_false, if_true, if_false, Bool.not_true, Bool.not_false, Bool.false_eq_true, kb_int_int, kb_int_bool, kb_int_str, kb_int_tuple, kb_int_list, kb_int_dict, kb_bool_int, kb_bool_bool, kb_bool_str, kb_bool_tuple, kb_bool_list, kb_bool_dict, kb_str_int, kb_str_bool, kb_str_str, kb_str_tuple, kb_str_list, kb_str_dict, kb_NoneType_int, kb_NoneType_bool, kb_NoneType_str, kb_NoneType_tuple, kb_NoneType_list, kb_NoneType_dict, kb_list_int, kb_list_bool, kb_list_str, kb_list_tuple, kb_list_list, kb_list_dict, kb_tuple_int, kb_tuple_bool, kb_tuple_str, kb_tuple_tuple, kb_tuple_list, kb_tuple_dict, kb_dict_int, kb_dict_bool, kb_dict_str, kb_dict_tuple, kb_dict_list, kb_dict_dict, cp_2_53, pw_2_53, cp_10_9, pw_10_9, cp_10_10, pw_10_10, cp_10_18, pw_10_18, cp_10_20, pw_10_20, cp_10_29, pw_10_29, cp_10_30, pw_10_30, spTake]
        exact ite2 (fun _ => ⟨hp3, fun k H5 h0 h1 hp5 o5 => ⟨h0, by omega, hp5, o3.trans o5⟩⟩) fun _ => ⟨l0, l1, hp3, o3⟩
      · rintro σ' H4 ⟨lg, rfl, l0, l1, hp4, o4⟩
        simp only [tDNotIn, tDIn, tDGet, Option.isSome_some, Option.isSome_none, rIsO, isO_int, isO_str, isO_bl, isO_non, isO_ref, isOO_ins, isOO_lst, isOO_tup, isOO_dK, tMethR, StX.tMakeR, cxOf_K, tDNewK, tCallR, tNever, tSeq, tAsg, gName, tPar, tVar, tC, tOp, rI0, rI, rU, tUn, rEq, rNe, tTest, tB, tAnd, tOr, tNot, tAndV, tOrV, tNotV, tIf, tIfS, tRet, tRetN, tNext, tDrop, tCons, tNil, tCB, tCall, tTup, tLst, rIxLH, rIxTH, gSub, rSetL, tPart, tNoPart, tSl, tBM, tBM0, L2.start, sc_ii, sc_ss, sc_bb, sc_nn, sc_ni, sc_in, sc_ns, sc_sn, sc_is, sc_si, eq_self, tChain, List.map_cons, List.map_nil, List.replicate_succ, List.replicate_zero, List.length_cons, List.length_nil, Nat.reduceAdd, Nat.reduceSub, Nat.zero_add, Nat.sub_self, Nat.add_sub_cancel, List.cons_append, List.nil_append, List.append_nil, List.getElem?_cons_zero, List.getElem?_cons_succ, List.set_cons_zero, List.set_cons_succ, Option.some.injEq, V.int.injEq, V.ref.injEq, V.bl.injEq, V.str.injEq, List.cons.injEq, HO.lst.injEq, HO.tup.injEq, and_true, true_and, exists_eq_left', exists_eq_left, exists_eq', exists_eq, exists_eq_right, exists_eq_right', exists_and_left, exists_and_right, and_assoc, upd_same, reduceCtorEq, false_and, and_false, exists_false, or_false, false_or, at0, at1, atM1, sg_inj, dot_eq, plus_eq, minus_eq, rIxS, at2, at3, at4, at5, ix0, ix1, ix2, ix3, upd_upd, decide_eq_true_eq, Int.reduceLT, Int.reduceLE, Int.reduceAdd, Int.reduceSub, Int.reduceNeg, Int.reduceMul, Int.reducePow, Int.reduceEq, decide_true, decide_false, Int.cast_ofNat_Int, Int.natCast_zero, Int.natCast_one, Nat.reduceEqDiff, Nat.reduceLeDiff, rIsB, tyN_non, tyN_bl, tyN_int, tyN_str, tyN_ref, tyO_lst, tyO_tup, tyO_dK, tyO_dT, V.ty.injEq, ite_true, ite_false, if_true, if_false, Bool.not_true, Bool.not_false, Bool.false_eq_true, kb_int_int, kb_int_bool, kb_int_str, kb_int_tuple, kb_int_list, kb_int_dict, kb_bool_int, kb_bool_bool, kb_bool_str, kb_bool_tuple, kb_bool_list, kb_bool_dict, kb_str_int, kb_str_bool, kb_str_str, kb_str_tuple, kb_str_list, kb_str_dict, kb_NoneType_int, kb_NoneType_bool, kb_NoneType_str, kb_NoneType_tuple, kb_NoneType_list, kb_NoneType_dict, kb_list_int, kb_list_bool, kb_list_str, kb_list_tuple, kb_list_list, kb_list_dict, kb_tuple_int, kb_tuple_bool, kb_tuple_str, kb_tuple_tuple, kb_tuple_list, kb_tuple_dict, kb_dict_int, kb_dict_bool, kb_dict_str, kb_dict_tuple, kb_dict_list, kb_dict_dict, cp_2_53, pw_2_53, cp_10_9, pw_10_9, cp_10_10, pw_10_10, cp_10_18, pw_10_18, cp_10_20, pw_10_20, cp_10_29, pw_10_29, cp_10_30, pw_10_30]
        refine ⟨_, rfl, lg, rfl, by omega, by omega, for_range (fun i σ' H' => ∃ (z : Str) (r : List Nat) (y : Option V), σ' = [some (.ref p), some (.int s0), some (.str nmL), some (.str nmS), some (.str z), some (.int k2), some (.int lg), y] ∧ Lz z = a :: r ∧ (∀ c ∈ r, c ∈ QC) ∧ r.length ≤ i ∧ PotAt H' p ∧ Off p H H') ⟨⟨#[a]⟩, [], none, rfl, rfl, by simp, by simp, hp4, o4⟩ ?_ ?_⟩
        · rintro i σ' H5 hi ⟨z, r, y, rfl, ez, hr, hrl, hp5, o5⟩
          simp only [tDNotIn, tDIn, tDGet, Option.isSome_some, Option.isSome_none, rIsO, isO_int, isO_str, isO_bl, isO_non, isO_ref, isOO_ins, isOO_lst, isOO_tup, isOO_dK, tMethR, StX.tMakeR, cxOf_K, tDNewK, tCallR, tNever, tSeq, tAsg, gName, tPar, tVar, tC, tOp, rI0, rI, rU, tUn, rEq, rNe, tTest, tB, tAnd, tOr, tNot, tAndV, tOrV, tNotV, tIf, tIfS, tRet, tRetN, tNext, tDrop, tCons, tNil, tCB, tCall, tTup, tLst, rIxLH, rIxTH, gSub, rSetL, tPart, tNoPart, tSl, tBM, tBM0, L2.start, sc_ii, sc_ss, sc_bb, sc_nn, sc_ni, sc_in, sc_ns, sc_sn, sc_is, sc_si, eq_self, tChain, List.map_cons, List.map_nil, List.replicate_succ, List.replicate_zero, List.length_cons, List.length_nil, Nat.reduceAdd, Nat.reduceSub, Nat.zero_add, Nat.sub_self, Nat.add_sub_cancel, List.cons_append, List.nil_append, List.append_nil, List.getElem?_cons_zero, List.getElem?_cons_succ, List.set_cons_zero, List.set_cons_succ, Option.some.injEq, V.int.injEq, V.ref.injEq, V.bl.injEq, V.str.injEq, List.cons.injEq, HO.lst.injEq, HO.tup.injEq, and_true, true_and, exists_eq_left', exists_eq_left, exists_eq', exists_eq, exists_eq_right, exists_eq_right', exists_and_left, exists_and_right, and_assoc, upd_same, reduceCtorEq, false_and, and_false, exists_false, or_false, false_or, at0, at1, atM1, sg_inj, dot_eq, plus_eq, minus_eq, rIxS, at2, at3, at4, at5, ix0, ix1, ix2, ix3, upd_upd, decide_eq_true_eq, Int.reduceLT, Int.reduceLE, Int.reduceAdd, Int.reduceSub, Int.reduceNeg, Int.reduceMul, Int.reducePow, Int.reduceEq, decide_true, decide_false, Int.cast_ofNat_Int, Int.natCast_zero, Int.natCast_one, Nat.reduceEqDiff, Nat.reduceLeDiff, rIsB, tyN_non, tyN_bl, tyN_int, tyN_str, tyN_ref, tyO_lst, tyO_tup, tyO_dK, tyO_dT, V.ty.injEq, ite_true, ite_false, if_true, if_false, Bool.not_true, Bool.not_false, Bool.false_eq_true, kb_int_int, kb_int_bool, kb_int_str, kb_int_tuple, kb_int_list, kb_int_dict, kb_bool_int, kb_bool_bool, kb_bool_str, kb_bool_tuple, kb_bool_list, kb_bool_dict, kb_str_int, kb_str_bool, kb_str_str, kb_str_tuple, kb_str_list, kb_str_dict, kb_NoneType_int, kb_NoneType_bool, kb_NoneType_str, kb_NoneType_tuple, kb_NoneType_list, kb_NoneType_dict, kb_list_int, kb_list_bool, kb_list_str, kb_list_tuple, kb_list_list, kb_list_dict, kb_tuple_int, kb_tuple_bool, kb_tuple_str, kb_tuple_tuple, kb_tuple_list, kb_tuple_dict, kb_dict_int, kb_dict_bool, kb_dict_str, kb_dict_tuple, kb_dict_list, kb_dict_dict, cp_2_53, pw_2_53, cp_10_9, pw_10_9, cp_10_10, pw_10_10, cp_10_18, pw_10_18, cp_10_20, pw_10_20, cp_10_29, pw_10_29, cp_10_30, pw_10_30, spTake]
          refine ⟨hp5, fun k6 H6 k60 k61 hp6 o6 => ⟨size_le (by rw [nmS_l]; decide), ?_⟩⟩
          obtain ⟨b, eb, mb⟩ := at_in (l := Lz nmS) (i := k6) k60 (by rw [Lz_len, nmS_l]; omega)
          have hz : z.length = r.length + 1 := by rw [← Lz_len, ez]; rfl
          refine ⟨b, eb, size_le (by show z.length + 1 ≤ _; omega), r ++ [b], by rw [Lz_app, ez]; rfl, fun c hc => ?_, by simp; omega, hp6, o5.trans o6⟩
          rcases List.mem_append.mp hc with hc | hc
          · exact hr c hc
          · rw [List.mem_singleton.mp hc]; exact nmS_a b mb
        · rintro σ' H5 ⟨z, r, y, rfl, ez, hr, hrl, hp5, o5⟩
          have hz : z.length = r.length + 1 := by rw [← Lz_len, ez]; rfl
          have hrl2 : r.length ≤ 11 := by omega
          refine ⟨fun σ' H' => ∃ (z : Str), σ' = [some (.ref p), some (.int s0), some (.str nmL), some (.str nmS), some (.str z), some (.int k2), some (.int lg), y] ∧ isQ z = true ∧ PotAt H' p ∧ Off p H H', ?_, ?_⟩
          · simp only [tDNotIn, tDIn, tDGet, Option.isSome_some, Option.isSome_none, rIsO, isO_int, isO_str, isO_bl, isO_non, isO_ref, isOO_ins, isOO_lst, isOO_tup, isOO_dK, tMethR, StX.tMakeR, cxOf_K, tDNewK, tCallR, tNever, tSeq, tAsg, gName, tPar, tVar, tC, tOp, rI0, rI, rU, tUn, rEq, rNe, tTest, tB, tAnd, tOr, tNot, tAndV, tOrV, tNotV, tIf, tIfS, tRet, tRetN, tNext, tDrop, tCons, tNil, tCB, tCall, tTup, tLst, rIxLH, rIxTH, gSub, rSetL, tPart, tNoPart, tSl, tBM, tBM0, L2.start, sc_ii, sc_ss, sc_bb, sc_nn, sc_ni, sc_in, sc_ns, sc_sn, sc_is, sc_si, eq_self, tChain, List.map_cons, List.map_nil, List.replicate_succ, List.replicate_zero, List.length_cons, List.length_nil, Nat.reduceAdd, Nat.reduceSub, Nat.zero_add, Nat.sub_self, Nat.add_sub_cancel, List.cons_append, List.nil_append, List.append_nil, List.getElem?_cons_zero, List.getElem?_cons_succ, List.set_cons_zero, List.set_cons_succ, Option.some.injEq, V.int.injEq, V.ref.injEq, V.bl.injEq, V.str.injEq, List.cons.injEq, HO.lst.injEq, HO.tup.injEq, and_true, true_and, exists_eq_left', exists_eq_left, exists_eq', exists_eq, exists_eq_right, exists_eq_right', exists_and_left, exists_and_right, and_assoc, upd_same, reduceCtorEq, false_and, and_false, exists_false, or_false, false_or, at0, at1, atM1, sg_inj, dot_eq, plus_eq, minus_eq, rIxS, at2, at3, at4, at5, ix0, ix1, ix2, ix3, upd_upd, decide_eq_true_eq, Int.reduceLT, Int.reduceLE, Int.reduceAdd, Int.reduceSub, Int.reduceNeg, Int.reduceMul, Int.reducePow, Int.reduceEq, decide_true, decide_false, Int.cast_ofNat_Int, Int.natCast_zero, Int.natCast_one, Nat.reduceEqDiff, Nat.reduceLeDiff, rIsB, tyN_non, tyN_bl, tyN_int, tyN_str, tyN_ref, tyO_lst, tyO_tup, tyO_dK, tyO_dT, V.ty.injEq, ite_true, ite_false, if_true, if_false, Bool.not_true, Bool.not_false, Bool.false_eq_true, kb_int_int, kb_int_bool, kb_int_str, kb_int_tuple, kb_int_list, kb_int_dict, kb_bool_int, kb_bool_bool, kb_bool_str, kb_bool_tuple, kb_bool_list, kb_bool_dict, kb_str_int, kb_str_bool, kb_str_str, kb_str_tuple, kb_str_list, kb_str_dict, kb_NoneType_int, kb_NoneType_bool, kb_NoneType_str, kb_NoneType_tuple, kb_NoneType_list, kb_NoneType_dict, kb_list_int, kb_list_bool, kb_list_str, kb_list_tuple, kb_list_list, kb_list_dict, kb_tuple_int, kb_tuple_bool, kb_tuple_str, kb_tuple_tuple, kb_tuple_list, kb_tuple_dict, kb_dict_int, kb_dict_bool, kb_dict_str, kb_dict_tuple, kb_dict_list, kb_dict_dict, cp_2_53, pw_2_53, cp_10_9, pw_10_9, cp_10_10, pw_10_10, cp_10_18, pw_10_18, cp_10_20, pw_10_20, cp_10_29, pw_10_29, cp_10_30, pw_10_30, rSlS]
            have ne : (a :: r) ≠ [] := by simp
            have gl : z.cps.toList.getLast? = some ((a :: r).getLast ne) := by show (Lz z).getLast? = _; rw [ez, List.getLast?_eq_some_getLast]
            refine ⟨size_le (by omega), _, gl, ite2 (fun e => ?_) fun e => ?_⟩
            · have hx : Lz (Str.ofString "x") = [120] := by decide +kernel
              have hxl : (Str.ofString "x").length = 1 := congrArg List.length hx
              have cl := cutS_length z none (some (-1))
              refine ⟨size_le (by omega), size_le (by omega), ?_, hp5, o5⟩
              cases r with
              | nil =>
                exfalso
                have e2 : a = 46 := e
                rw [e2] at hA
                exact absurd hA (by decide +kernel)
              | cons b r =>
                have hd : Lz (cutS z none (some (-1)) ++ Str.ofString "x") = a :: ((b :: r).dropLast ++ [120]) := by
                  rw [Lz_app, Lz_cutM, ez, hx]; rfl
                refine isQ_cons (b := 120) hd hA (fun c hc => ?_) ?_ ?_ (by decide)
                · rcases List.mem_append.mp hc with hc | hc
                  · exact hr c (List.dropLast_subset _ hc)
                  · rw [List.mem_singleton.mp hc]; decide +kernel
                · rw [List.length_append, List.length_dropLast]; simp at hrl2 ⊢; omega
                · rw [← List.cons_append, List.getLast?_concat]
            · exact ⟨isQ_cons ez hA hr hrl2 (List.getLast?_eq_some_getLast ne) e, hp5, o5⟩
          · rintro σ' H6 ⟨z, rfl, hq, hp6, o6⟩
            simp only [tDNotIn, tDIn, tDGet, Option.isSome_some, Option.isSome_none, rIsO, isO_int, isO_str, isO_bl, isO_non, isO_ref, isOO_ins, isOO_lst, isOO_tup, isOO_dK, tMethR, StX.tMakeR, cxOf_K, tDNewK, tCallR, tNever, tSeq, tAsg, gName, tPar, tVar, tC, tOp, rI0, rI, rU, tUn, rEq, rNe, tTest, tB, tAnd, tOr, tNot, tAndV, tOrV, tNotV, tIf, tIfS, tRet, tRetN, tNext, tDrop, tCons, tNil, tCB, tCall, tTup, tLst, rIxLH, rIxTH, gSub, rSetL, tPart, tNoPart, tSl, tBM, tBM0, L2.start, sc_ii, sc_ss, sc_bb, sc_nn, sc_ni, sc_in, sc_ns, sc_sn, sc_is, sc_si, eq_self, tChain, List.map_cons, List.map_nil, List.replicate_succ, List.replicate_zero, List.length_cons, List.length_nil, Nat.reduceAdd, Nat.reduceSub, Nat.zero_add, Nat.sub_self, Nat.add_sub_cancel, List.cons_append, List.nil_append, List.append_nil, List.getElem?_cons_zero, List.getElem?_cons_succ, List.set_cons_zero, List.set_cons_succ, Option.some.injEq, V.int.injEq, V.ref.injEq, V.bl.injEq, V.str.injEq, List.cons.injEq, HO.lst.injEq, HO.tup.injEq, and_true, true_and, exists_eq_left', exists_eq_left, exists_eq', exists_eq, exists_eq_right, exists_eq_right', exists_and_left, exists_and_right, and_assoc, upd_same, reduceCtorEq, false_and, and_false, exists_false, or_false, false_or, at0, at1, atM1, sg_inj, dot_eq, plus_eq, minus_eq, rIxS, at2, at3, at4, at5, ix0, ix1, ix2, ix3, upd_upd, decide_eq_true_eq, Int.reduceLT, Int.reduceLE, Int.reduceAdd, Int.reduceSub, Int.reduceNeg, Int.reduceMul, Int.reducePow, Int.reduceEq, decide_true, decide_false, Int.cast_ofNat_Int, Int.natCast_zero, Int.natCast_one, Nat.reduceEqDiff, Nat.reduceLeDiff, rIsB, tyN_non, tyN_bl, tyN_int, tyN_str, tyN_ref, tyO_lst, tyO_tup, tyO_dK, tyO_dT, V.ty.injEq, ite_true, ite_false, if_true, if_false, Bool.not_true, Bool.not_false, Bool.false_eq_true, kb_int_int, kb_int_bool, kb_int_str, kb_int_tuple, kb_int_list, kb_int_dict, kb_bool_int, kb_bool_bool, kb_bool_str, kb_bool_tuple, kb_bool_list, kb_bool_dict, kb_str_int, kb_str_bool, kb_str_str, kb_str_tuple, kb_str_list, kb_str_dict, kb_NoneType_int, kb_NoneType_bool, kb_NoneType_str, kb_NoneType_tuple, kb_NoneType_list, kb_NoneType_dict, kb_list_int, kb_list_bool, kb_list_str, kb_list_tuple, kb_list_list, kb_list_dict, kb_tuple_int, kb_tuple_bool, kb_tuple_str, kb_tuple_tuple, kb_tuple_list, kb_tuple_dict, kb_dict_int, kb_dict_bool, kb_dict_str, kb_dict_tuple, kb_dict_list, kb_dict_dict, cp_2_53, pw_2_53, cp_10_9, pw_10_9, cp_10_10, pw_10_10, cp_10_18, pw_10_18, cp_10_20, pw_10_20, cp_10_29, pw_10_29, cp_10_30, pw_10_30]
            exact k z H6 hq hp6 o6
theorem isQ_un {z : Str} (h : isQ z = true) : ∃ a r, Lz z = a :: r ∧ a ∈ LC ∧ (∀ c ∈ r, c ∈ QC) ∧ r.length ≤ 11 := by
  have hl := isQ_12 h
  have hc := isQ_all h
  cases e : Lz z with
  | nil => have : z.length = 0 := by rw [← Lz_len, e]; rfl
           omega
  | cons a r =>
    have hz : z.length = r.length + 1 := by rw [← Lz_len, e]; rfl
    have hb : z.cps.toList.getLast? = some ((a :: r).getLast (by simp)) := by show (Lz z).getLast? = _; rw [e, List.getLast?_eq_some_getLast]
    have ha : z.cps.toList.head? = some a := by show (Lz z).head? = _; rw [e]; rfl
    rw [isQ_end hl hc ha hb, Bool.and_eq_true] at h
    exact ⟨a, r, rfl, of_decide_eq_true h.1, fun c h2 => hc c (by show c ∈ Lz z; rw [e]; exact List.mem_cons_of_mem _ h2), by omega⟩
theorem isQ_pre {z : Str} {b : Nat} (h : isQ z = true) (hb : b ∈ QC) (ne : b ≠ 46) : isQ (cutS z none (some 11) ++ ⟨#[b]⟩) = true := by
  obtain ⟨a, r, e, ha, hr, hl⟩ := isQ_un h
  have e2 : Lz (cutS z none (some 11) ++ ⟨#[b]⟩) = a :: (r.take 10 ++ [b]) := by
    have := Lz_cut0 (z := z) (n := 11)
    rw [Lz_app, show (some 11 : Option Int) = some ((11 : Nat) : Int) from rfl, this, e]; rfl
  refine isQ_cons (b := b) e2 ha (fun c hc => ?_) ?_ ?_ ne
  · rcases List.mem_append.mp hc with hc | hc
    · exact hr c (List.mem_of_mem_take hc)
    · rw [List.mem_singleton.mp hc]; exact hb
  · rw [List.length_append, List.length_take]; simp; omega
  · rw [← List.cons_append, List.getLast?_concat]
/-- a list of names -/
def NmsAt (H : Hp) (l : Addr) (N : List Str) : Prop := H l = some (.lst (N.map V.str))
def spPool : Sp := fun vs H Q _ => ∃ (p : Addr), vs = [.ref p, .int 4] ∧ PotAt H p ∧ ∀ (l : Addr) (N : List Str) H', Pool N → N ≠ [] → N.length ≤ 4 → H l = none → H' l = some (.lst (N.map V.str)) → PotAt H' p → Off p H H' → Q (.ref l) H'
theorem sc_l_pool : FnScope ["_law_pot_here", "_law_most", "_law_pool_here", "_law_k", "_law_text"] ["_law_pot_here", "_law_most"] (defScope s_l_pool) := ⟨rfl, rfl, rfl, by decide +kernel, rfl, by decide +kernel, by decide +kernel⟩
theorem ok_l_pool (T : Txt K mg) : FnOk P w K mg base CX0 3 (He.ga K "_law_pool") (fdOf K (He.ga K "_law_pool")) ["_law_pot_here", "_law_most"] (spPool) := by
  refine T.F_l_pool.ok sc_l_pool (fun vs H Q E h => ?_) (fun cdv A outer s H vs Q E hr h => ?_)
  · obtain ⟨p, rfl, _⟩ := h
    rfl
  · obtain ⟨p, rfl, hp, k⟩ := h
    refine ⟨_, PSs.nox (pss_cons (ps_set (i := 2) sc_l_pool.nd rfl (Or.inl rfl) (pe_lst (pa_cons (pe_call (ok_l_quantity T) (hr.mono (by decide)) (by rfl) T.g_l_quantity T.k_l_quantity T.b_l_quantity .nil pass0 (pa_cons (pv 0) (pa_cons pe_int pa_nil))) pa_nil)))
      (pss_cons (ps_for PassesOwn.never rfl (pi_range2 (by rfl) T.z_range (pa_cons pe_int (pa_cons (pv 1) pa_nil))) (pg_name (i := 3) sc_l_pool.nd rfl (Or.inl rfl)) (pss_cons (ps_set (i := 4) sc_l_pool.nd rfl (Or.inl rfl) (pe_call (ok_l_quantity T) (hr.mono (by decide)) (by rfl) T.g_l_quantity T.k_l_quantity T.b_l_quantity .nil pass0 (pa_cons (pv 0) (pa_cons (pv 3) pa_nil))))
      (Evl.pss_cut (ps_if (pt_cmpR op_eq (pe_call (ok_l_take T) (hr.mono (by decide)) (by rfl) T.g_l_take T.k_l_take T.b_l_take .nil pass0 (pa_cons (pv 0) (pa_cons pe_int pa_nil))) pe_int (nomark _)) (pss_one (ps_set (i := 4) sc_l_pool.nd rfl (Or.inl rfl) (pe_op op_add_str (pe_slice sl_str (pe_ix ixL (pv 2) (pe_un un_neg pe_int) (fun _ _ => rfl)) po_none (po_some pe_int)) (pe_ix ix_str pe_str (pe_call (ok_l_take T) (hr.mono (by decide)) (by rfl) T.g_l_take T.k_l_take T.b_l_take .nil pass0 (pa_cons (pv 0) (pa_cons pe_int pa_nil))) (fun _ _ => rfl))))) pss_nil)
      (pss_one (ps_if (pt_cmpR op_notIn_seq (pv 4) (pv 2) (by rfl)) (pss_one (ps_expr (pe_bm PySem.F.plainAttrs_list PySem.F.slot_list_append PySem.F.type_list_append mt_append (pv 2) (pa_cons (pv 4) pa_nil)))) pss_nil)))))
      (pss_one (ps_ret (pv 2))))), ?_⟩
    simp only [tDNotIn, tDIn, tDGet, Option.isSome_some, Option.isSome_none, rIsO, isO_int, isO_str, isO_bl, isO_non, isO_ref, isOO_ins, isOO_lst, isOO_tup, isOO_dK, tMethR, StX.tMakeR, cxOf_K, tDNewK, tCallR, tNever, tSeq, tAsg, gName, tPar, tVar, tC, tOp, rI0, rI, rU, tUn, rEq, rNe, tTest, tB, tAnd, tOr, tNot, tAndV, tOrV, tNotV, tIf, tIfS, tRet, tRetN, tNext, tDrop, tCons, tNil, tCB, tCall, tTup, tLst, rIxLH, rIxTH, gSub, rSetL, tPart, tNoPart, tSl, tBM, tBM0, L2.start, sc_ii, sc_ss, sc_bb, sc_nn, sc_ni, sc_in, sc_ns, sc_sn, sc_is, sc_si, eq_self, tChain, List.map_cons, List.map_nil, List.replicate_succ, List.replicate_zero, List.length_cons, List.length_nil, Nat.reduceAdd, Nat.reduceSub, Nat.zero_add, Nat.sub_self, Nat.add_sub_cancel, List.cons_append, List.nil_append, List.append_nil, List.getElem?_cons_zero, List.getElem?_cons_succ, List.set_cons_zero, List.set_cons_succ, Option.some.injEq, V.int.injEq, V.ref.injEq, V.bl.injEq, V.str.injEq, List.cons.injEq, HO.lst.injEq, HO.tup.injEq, and_true, true_and, exists_eq_left', exists_eq_left, exists_eq', exists_eq, exists_eq_right, exists_eq_right', exists_and_left, exists_and_right, and_assoc, upd_same, reduceCtorEq, false_and, and_false, exists_false, or_false, false_or, at0, at1, atM1, sg_inj, dot_eq, plus_eq, minus_eq, rIxS, at2, at3, at4, at5, ix0, ix1, ix2, ix3, upd_upd, decide_eq_true_eq, Int.reduceLT, Int.reduceLE, Int.reduceAdd, Int.reduceSub, Int.reduceNeg, Int.reduceMul, Int.reducePow, Int.reduceEq, decide_true, decide_false, Int.cast_ofNat_Int, Int.natCast_zero, Int.natCast_one, Nat.reduceEqDiff, Nat.reduceLeDiff, rIsB, tyN_non, tyN_bl, tyN_int, tyN_str, tyN_ref, tyO_lst, tyO_tup, tyO_dK, tyO_dT, V.ty.injEq, ite_true, ite_false, if_true, if_false, Bool.not_true, Bool.not_false, Bool.false_eq_true, kb_int_int, kb_int_bool, kb_int_str, kb_int_tuple, kb_int_list, kb_int_dict, kb_bool_int, kb_bool_bool, kb_bool_str, kb_bool_tuple, kb_bool_list, kb_bool_dict, kb_str_int, kb_str_bool, kb_str_str, kb_str_tuple, kb_str_list, kb_str_dict, kb_NoneType_int, kb_NoneType_bool, kb_NoneType_str, kb_NoneType_tuple, kb_NoneType_list, kb_NoneType_dict, kb_list_int, kb_list_bool, kb_list_str, kb_list_tuple, kb_list_list, kb_list_dict, kb_tuple_int, kb_tuple_bool, kb_tuple_str, kb_tuple_tuple, kb_tuple_list, kb_tuple_dict, kb_dict_int, kb_dict_bool, kb_dict_str, kb_dict_tuple, kb_dict_list, kb_dict_dict, cp_2_53, pw_2_53, cp_10_9, pw_10_9, cp_10_10, pw_10_10, cp_10_18, pw_10_18, cp_10_20, pw_10_20, cp_10_29, pw_10_29, cp_10_30, pw_10_30, spQuan]
    refine ⟨hp, fun z H1 hz hp1 o1 => ⟨size_le (by simp), ?_⟩⟩
    (intro l nl; (obtain ⟨H2, eqH, s2, e2⟩ := new_upd (o := .lst [V.str z]) nl); rw [← eqH]; clear eqH)
    have nl0 : H l = none := o1.free (hp1.ne nl) nl
    have lp : l ≠ p := hp1.ne nl
    refine ⟨_, rfl, 1, 4, rfl, by decide, for_range (fun i σ' H' => ∃ (N : List Str) (y z : Option V), σ' = [some (.ref p), some (.int 4), some (.ref l), y, z] ∧ N ≠ [] ∧ (∀ n ∈ N, isQ n = true) ∧ N.length ≤ i + 1 ∧ H' l = some (.lst (N.map V.str)) ∧ PotAt H' p ∧ Off p H H') ⟨[z], none, none, rfl, by simp, by simpa using hz, by simp, e2, hp1.same s2, o1.same s2⟩ ?_ ?_⟩
    · rintro i σ' H3 hi ⟨N, y, u, rfl, hne, hN, hNl, hl, hp3, o3⟩
      simp only [tDNotIn, tDIn, tDGet, Option.isSome_some, Option.isSome_none, rIsO, isO_int, isO_str, isO_bl, isO_non, isO_ref, isOO_ins, isOO_lst, isOO_tup, isOO_dK, tMethR, StX.tMakeR, cxOf_K, tDNewK, tCallR, tNever, tSeq, tAsg, gName, tPar, tVar, tC, tOp, rI0, rI, rU, tUn, rEq, rNe, tTest, tB, tAnd, tOr, tNot, tAndV, tOrV, tNotV, tIf, tIfS, tRet, tRetN, tNext, tDrop, tCons, tNil, tCB, tCall, tTup, tLst, rIxLH, rIxTH, gSub, rSetL, tPart, tNoPart, tSl, tBM, tBM0, L2.start, sc_ii, sc_ss, sc_bb, sc_nn, sc_ni, sc_in, sc_ns, sc_sn, sc_is, sc_si, eq_self, tChain, List.map_cons, List.map_nil, List.replicate_succ, List.replicate_zero, List.length_cons, List.length_nil, Nat.reduceAdd, Nat.reduceSub, Nat.zero_add, Nat.sub_self, Nat.add_sub_cancel, List.cons_append, List.nil_append, List.append_nil, List.getElem?_cons_zero, List.getElem?_cons_succ, List.set_cons_zero, List.set_cons_succ, Option.some.injEq, V.int.injEq, V.ref.injEq, V.bl.injEq, V.str.injEq, List.cons.injEq, HO.lst.injEq, HO.tup.injEq, and_true, true_and, exists_eq_left', exists_eq_left, exists_eq', exists_eq, exists_eq_right, exists_eq_right', exists_and_left, exists_and_right, and_assoc, upd_same, reduceCtorEq, false_and, and_false, exists_false, or_false, false_or, at0, at1, atM1, sg_inj, dot_eq, plus_eq, minus_eq, rIxS, at2, at3, at4, at5, ix0, ix1, ix2, ix3, upd_upd, decide_eq_true_eq, Int.reduceLT, Int.reduceLE, Int.reduceAdd, Int.reduceSub, Int.reduceNeg, Int.reduceMul, Int.reducePow, Int.reduceEq, decide_true, decide_false, Int.cast_ofNat_Int, Int.natCast_zero, Int.natCast_one, Nat.reduceEqDiff, Nat.reduceLeDiff, rIsB, tyN_non, tyN_bl, tyN_int, tyN_str, tyN_ref, tyO_lst, tyO_tup, tyO_dK, tyO_dT, V.ty.injEq, ite_true, ite_false, if_true, if_false, Bool.not_true, Bool.not_false, Bool.false_eq_true, kb_int_int, kb_int_bool, kb_int_str, kb_int_tuple, kb_int_list, kb_int_dict, kb_bool_int, kb_bool_bool, kb_bool_str, kb_bool_tuple, kb_bool_list, kb_bool_dict, kb_str_int, kb_str_bool, kb_str_str, kb_str_tuple, kb_str_list, kb_str_dict, kb_NoneType_int, kb_NoneType_bool, kb_NoneType_str, kb_NoneType_tuple, kb_NoneType_list, kb_NoneType_dict, kb_list_int, kb_list_bool, kb_list_str, kb_list_tuple, kb_list_list, kb_list_dict, kb_tuple_int, kb_tuple_bool, kb_tuple_str, kb_tuple_tuple, kb_tuple_list, kb_tuple_dict, kb_dict_int, kb_dict_bool, kb_dict_str, kb_dict_tuple, kb_dict_list, kb_dict_dict, cp_2_53, pw_2_53, cp_10_9, pw_10_9, cp_10_10, pw_10_10, cp_10_18, pw_10_18, cp_10_20, pw_10_20, cp_10_29, pw_10_29, cp_10_30, pw_10_30, spQuan]
      refine ⟨hp3, by omega, by omega, fun z4 H4 hz4 hp4 o4 => ?_⟩
      have hl4 := o4 _ _ hl lp
      refine ⟨fun σ' H' => ∃ (x : Str), σ' = [some (.ref p), some (.int 4), some (.ref l), some (.int (1 + i)), some (.str x)] ∧ isQ x = true ∧ H' l = some (.lst (N.map V.str)) ∧ PotAt H' p ∧ Off p H H', ?_, ?_⟩
      · simp only [tDNotIn, tDIn, tDGet, Option.isSome_some, Option.isSome_none, rIsO, isO_int, isO_str, isO_bl, isO_non, isO_ref, isOO_ins, isOO_lst, isOO_tup, isOO_dK, tMethR, StX.tMakeR, cxOf_K, tDNewK, tCallR, tNever, tSeq, tAsg, gName, tPar, tVar, tC, tOp, rI0, rI, rU, tUn, rEq, rNe, tTest, tB, tAnd, tOr, tNot, tAndV, tOrV, tNotV, tIf, tIfS, tRet, tRetN, tNext, tDrop, tCons, tNil, tCB, tCall, tTup, tLst, rIxLH, rIxTH, gSub, rSetL, tPart, tNoPart, tSl, tBM, tBM0, L2.start, sc_ii, sc_ss, sc_bb, sc_nn, sc_ni, sc_in, sc_ns, sc_sn, sc_is, sc_si, eq_self, tChain, List.map_cons, List.map_nil, List.replicate_succ, List.replicate_zero, List.length_cons, List.length_nil, Nat.reduceAdd, Nat.reduceSub, Nat.zero_add, Nat.sub_self, Nat.add_sub_cancel, List.cons_append, List.nil_append, List.append_nil, List.getElem?_cons_zero, List.getElem?_cons_succ, List.set_cons_zero, List.set_cons_succ, Option.some.injEq, V.int.injEq, V.ref.injEq, V.bl.injEq, V.str.injEq, List.cons.injEq, HO.lst.injEq, HO.tup.injEq, and_true, true_and, exists_eq_left', exists_eq_left, exists_eq', exists_eq, exists_eq_right, exists_eq_right', exists_and_left, exists_and_right, and_assoc, upd_same, reduceCtorEq, false_and, and_false, exists_false, or_false, false_or, at0, at1, atM1, sg_inj, dot_eq, plus_eq, minus_eq, rIxS, at2, at3, at4, at5, ix0, ix1, ix2, ix3, upd_upd, decide_eq_true_eq, Int.reduceLT, Int.reduceLE, Int.reduceAdd, Int.reduceSub, Int.reduceNeg, Int.reduceMul, Int.reducePow, Int.reduceEq, decide_true, decide_false, Int.cast_ofNat_Int, Int.natCast_zero, Int.natCast_one, Nat.reduceEqDiff, Nat.reduceLeDiff, rIsB, tyN_non, tyN_bl, tyN_int, tyN_str, tyN_ref, tyO_lst, tyO_tup, tyO_dK, tyO_dT, V.ty.injEq, ite_true, ite_false, if_true, if_false, Bool.not_true, Bool.not_false, Bool.false_eq_true, kb_int_int, kb_int_bool, kb_int_str, kb_int_tuple, kb_int_list, kb_int_dict, kb_bool_int, kb_bool_bool, kb_bool_str, kb_bool_tuple, kb_bool_list, kb_bool_dict, kb_str_int, kb_str_bool, kb_str_str, kb_str_tuple, kb_str_list, kb_str_dict, kb_NoneType_int, kb_NoneType_bool, kb_NoneType_str, kb_NoneType_tuple, kb_NoneType_list, kb_NoneType_dict, kb_list_int, kb_list_bool, kb_list_str, kb_list_tuple, kb_list_list, kb_list_dict, kb_tuple_int, kb_tuple_bool, kb_tuple_str, kb_tuple_tuple, kb_tuple_list, kb_tuple_dict, kb_dict_int, kb_dict_bool, kb_dict_str, kb_dict_tuple, kb_dict_list, kb_dict_dict, cp_2_53, pw_2_53, cp_10_9, pw_10_9, cp_10_10, pw_10_10, cp_10_18, pw_10_18, cp_10_20, pw_10_20, cp_10_29, pw_10_29, cp_10_30, pw_10_30, spTake]
        refine ⟨hp4, fun k5 H5 k50 k51 hp5 o5 => ite2 (fun e => ?_) fun e => ⟨hz4, o5 _ _ hl4 lp, hp5, (o3.trans o4).trans o5⟩⟩
        have hl5 := o5 _ _ hl4 lp
        refine ⟨_, hl5, .str (N.getLast hne), by rw [List.getLast?_map, List.getLast?_eq_some_getLast hne]; rfl, ?_⟩
        have hq := hN _ (List.getLast_mem hne)
        have hq2 := isQ_12 hq
        simp only [tDNotIn, tDIn, tDGet, Option.isSome_some, Option.isSome_none, rIsO, isO_int, isO_str, isO_bl, isO_non, isO_ref, isOO_ins, isOO_lst, isOO_tup, isOO_dK, tMethR, StX.tMakeR, cxOf_K, tDNewK, tCallR, tNever, tSeq, tAsg, gName, tPar, tVar, tC, tOp, rI0, rI, rU, tUn, rEq, rNe, tTest, tB, tAnd, tOr, tNot, tAndV, tOrV, tNotV, tIf, tIfS, tRet, tRetN, tNext, tDrop, tCons, tNil, tCB, tCall, tTup, tLst, rIxLH, rIxTH, gSub, rSetL, tPart, tNoPart, tSl, tBM, tBM0, L2.start, sc_ii, sc_ss, sc_bb, sc_nn, sc_ni, sc_in, sc_ns, sc_sn, sc_is, sc_si, eq_self, tChain, List.map_cons, List.map_nil, List.replicate_succ, List.replicate_zero, List.length_cons, List.length_nil, Nat.reduceAdd, Nat.reduceSub, Nat.zero_add, Nat.sub_self, Nat.add_sub_cancel, List.cons_append, List.nil_append, List.append_nil, List.getElem?_cons_zero, List.getElem?_cons_succ, List.set_cons_zero, List.set_cons_succ, Option.some.injEq, V.int.injEq, V.ref.injEq, V.bl.injEq, V.str.injEq, List.cons.injEq, HO.lst.injEq, HO.tup.injEq, and_true, true_and, exists_eq_left', exists_eq_left, exists_eq', exists_eq, exists_eq_right, exists_eq_right', exists_and_left, exists_and_right, and_assoc, upd_same, reduceCtorEq, false_and, and_false, exists_false, or_false, false_or, at0, at1, atM1, sg_inj, dot_eq, plus_eq, minus_eq, rIxS, at2, at3, at4, at5, ix0, ix1, ix2, ix3, upd_upd, decide_eq_true_eq, Int.reduceLT, Int.reduceLE, Int.reduceAdd, Int.reduceSub, Int.reduceNeg, Int.reduceMul, Int.reducePow, Int.reduceEq, decide_true, decide_false, Int.cast_ofNat_Int, Int.natCast_zero, Int.natCast_one, Nat.reduceEqDiff, Nat.reduceLeDiff, rIsB, tyN_non, tyN_bl, tyN_int, tyN_str, tyN_ref, tyO_lst, tyO_tup, tyO_dK, tyO_dT, V.ty.injEq, ite_true, ite_false, if_true, if_false, Bool.not_true, Bool.not_false, Bool.false_eq_true, kb_int_int, kb_int_bool, kb_int_str, kb_int_tuple, kb_int_list, kb_int_dict, kb_bool_int, kb_bool_bool, kb_bool_str, kb_bool_tuple, kb_bool_list, kb_bool_dict, kb_str_int, kb_str_bool, kb_str_str, kb_str_tuple, kb_str_list, kb_str_dict, kb_NoneType_int, kb_NoneType_bool, kb_NoneType_str, kb_NoneType_tuple, kb_NoneType_list, kb_NoneType_dict, kb_list_int, kb_list_bool, kb_list_str, kb_list_tuple, kb_list_list, kb_list_dict, kb_tuple_int, kb_tuple_bool, kb_tuple_str, kb_tuple_tuple, kb_tuple_list, kb_tuple_dict, kb_dict_int, kb_dict_bool, kb_dict_str, kb_dict_tuple, kb_dict_list, kb_dict_dict, cp_2_53, pw_2_53, cp_10_9, pw_10_9, cp_10_10, pw_10_10, cp_10_18, pw_10_18, cp_10_20, pw_10_20, cp_10_29, pw_10_29, cp_10_30, pw_10_30, rSlS]
        refine ⟨size_le (by omega), hp5, fun k6 H6 k60 k61 hp6 o6 => ⟨size_le (by decide +kernel), ?_⟩⟩
        obtain ⟨b, eb, mb⟩ := at_in (l := Lz (Str.ofString "0ax9")) (i := k6) k60 (by rw [Lz_len, show (Str.ofString "0ax9").length = 4 by decide +kernel]; omega)
        have cl := cutS_length (N.getLast hne) none (some 11)
        have q0 : ∀ b ∈ Lz (Str.ofString "0ax9"), b ∈ QC ∧ b ≠ 46 := by decide +kernel
        refine ⟨b, eb, size_le (by show _ + 1 ≤ _; omega), isQ_pre hq (q0 b mb).1 (q0 b mb).2, o6 _ _ hl5 lp, hp6, ((o3.trans o4).trans o5).trans o6⟩
      · rintro σ' H5 ⟨x, rfl, hx, hl5, hp5, o5⟩
        simp only [tDNotIn, tDIn, tDGet, Option.isSome_some, Option.isSome_none, rIsO, isO_int, isO_str, isO_bl, isO_non, isO_ref, isOO_ins, isOO_lst, isOO_tup, isOO_dK, tMethR, StX.tMakeR, cxOf_K, tDNewK, tCallR, tNever, tSeq, tAsg, gName, tPar, tVar, tC, tOp, rI0, rI, rU, tUn, rEq, rNe, tTest, tB, tAnd, tOr, tNot, tAndV, tOrV, tNotV, tIf, tIfS, tRet, tRetN, tNext, tDrop, tCons, tNil, tCB, tCall, tTup, tLst, rIxLH, rIxTH, gSub, rSetL, tPart, tNoPart, tSl, tBM, tBM0, L2.start, sc_ii, sc_ss, sc_bb, sc_nn, sc_ni, sc_in, sc_ns, sc_sn, sc_is, sc_si, eq_self, tChain, List.map_cons, List.map_nil, List.replicate_succ, List.replicate_zero, List.length_cons, List.length_nil, Nat.reduceAdd, Nat.reduceSub, Nat.zero_add, Nat.sub_self, Nat.add_sub_cancel, List.cons_append, List.nil_append, List.append_nil, List.getElem?_cons_zero, List.getElem?_cons_succ, List.set_cons_zero, List.set_cons_succ, Option.some.injEq, V.int.injEq, V.ref.injEq, V.bl.injEq, V.str.injEq, List.cons.injEq, HO.lst.injEq, HO.tup.injEq, and_true, true_and, exists_eq_left', exists_eq_left, exists_eq', exists_eq, exists_eq_right, exists_eq_right', exists_and_left, exists_and_right, and_assoc, upd_same, reduceCtorEq, false_and, and_false, exists_false, or_false, false_or, at0, at1, atM1, sg_inj, dot_eq, plus_eq, minus_eq, rIxS, at2, at3, at4, at5, ix0, ix1, ix2, ix3, upd_upd, decide_eq_true_eq, Int.reduceLT, Int.reduceLE, Int.reduceAdd, Int.reduceSub, Int.reduceNeg, Int.reduceMul, Int.reducePow, Int.reduceEq, decide_true, decide_false, Int.cast_ofNat_Int, Int.natCast_zero, Int.natCast_one, Nat.reduceEqDiff, Nat.reduceLeDiff, rIsB, tyN_non, tyN_bl, tyN_int, tyN_str, tyN_ref, tyO_lst, tyO_tup, tyO_dK, tyO_dT, V.ty.injEq, ite_true, ite_false, if_true, if_false, Bool.not_true, Bool.not_false, Bool.false_eq_true, kb_int_int, kb_int_bool, kb_int_str, kb_int_tuple, kb_int_list, kb_int_dict, kb_bool_int, kb_bool_bool, kb_bool_str, kb_bool_tuple, kb_bool_list, kb_bool_dict, kb_str_int, kb_str_bool, kb_str_str, kb_str_tuple, kb_str_list, kb_str_dict, kb_NoneType_int, kb_NoneType_bool, kb_NoneType_str, kb_NoneType_tuple, kb_NoneType_list, kb_NoneType_dict, kb_list_int, kb_list_bool, kb_list_str, kb_list_tuple, kb_list_list, kb_list_dict, kb_tuple_int, kb_tuple_bool, kb_tuple_str, kb_tuple_tuple, kb_tuple_list, kb_tuple_dict, kb_dict_int, kb_dict_bool, kb_dict_str, kb_dict_tuple, kb_dict_list, kb_dict_dict, cp_2_53, pw_2_53, cp_10_9, pw_10_9, cp_10_10, pw_10_10, cp_10_18, pw_10_18, cp_10_20, pw_10_20, cp_10_29, pw_10_29, cp_10_30, pw_10_30, rAppend]
        refine ⟨l, _, rfl, .inl (.inl (.inl hl5)), rfl, by simp [flatV], _, rfl, ite2 (fun e => ⟨.inl ⟨rfl, _, .inl (.inl hl5)⟩, _, hl5, ?_, N ++ [x], ?_, fun n hn => ?_, ?_, ?_, ?_, ?_⟩) fun e => ⟨N, hne, hN, by omega, hl5, hp5, o5⟩⟩
        · rw [List.length_map]; exact small1000 (by omega)
        · simp
        · rcases List.mem_append.mp hn with hn | hn
          · exact hN n hn
          · rw [List.mem_singleton.mp hn]; exact hx
        · simp; omega
        · rw [List.map_append]; rfl
        · exact hp5.put lp
        · exact o5.upd nl0
    · rintro σ' H3 ⟨N, y, u, rfl, hne, hN, hNl, hl, hp3, o3⟩
      simp only [tDNotIn, tDIn, tDGet, Option.isSome_some, Option.isSome_none, rIsO, isO_int, isO_str, isO_bl, isO_non, isO_ref, isOO_ins, isOO_lst, isOO_tup, isOO_dK, tMethR, StX.tMakeR, cxOf_K, tDNewK, tCallR, tNever, tSeq, tAsg, gName, tPar, tVar, tC, tOp, rI0, rI, rU, tUn, rEq, rNe, tTest, tB, tAnd, tOr, tNot, tAndV, tOrV, tNotV, tIf, tIfS, tRet, tRetN, tNext, tDrop, tCons, tNil, tCB, tCall, tTup, tLst, rIxLH, rIxTH, gSub, rSetL, tPart, tNoPart, tSl, tBM, tBM0, L2.start, sc_ii, sc_ss, sc_bb, sc_nn, sc_ni, sc_in, sc_ns, sc_sn, sc_is, sc_si, eq_self, tChain, List.map_cons, List.map_nil, List.replicate_succ, List.replicate_zero, List.length_cons, List.length_nil, Nat.reduceAdd, Nat.reduceSub, Nat.zero_add, Nat.sub_self, Nat.add_sub_cancel, List.cons_append, List.nil_append, List.append_nil, List.getElem?_cons_zero, List.getElem?_cons_succ, List.set_cons_zero, List.set_cons_succ, Option.some.injEq, V.int.injEq, V.ref.injEq, V.bl.injEq, V.str.injEq, List.cons.injEq, HO.lst.injEq, HO.tup.injEq, and_true, true_and, exists_eq_left', exists_eq_left, exists_eq', exists_eq, exists_eq_right, exists_eq_right', exists_and_left, exists_and_right, and_assoc, upd_same, reduceCtorEq, false_and, and_false, exists_false, or_false, false_or, at0, at1, atM1, sg_inj, dot_eq, plus_eq, minus_eq, rIxS, at2, at3, at4, at5, ix0, ix1, ix2, ix3, upd_upd, decide_eq_true_eq, Int.reduceLT, Int.reduceLE, Int.reduceAdd, Int.reduceSub, Int.reduceNeg, Int.reduceMul, Int.reducePow, Int.reduceEq, decide_true, decide_false, Int.cast_ofNat_Int, Int.natCast_zero, Int.natCast_one, Nat.reduceEqDiff, Nat.reduceLeDiff, rIsB, tyN_non, tyN_bl, tyN_int, tyN_str, tyN_ref, tyO_lst, tyO_tup, tyO_dK, tyO_dT, V.ty.injEq, ite_true, ite_false, if_true, if_false, Bool.not_true, Bool.not_false, Bool.false_eq_true, kb_int_int, kb_int_bool, kb_int_str, kb_int_tuple, kb_int_list, kb_int_dict, kb_bool_int, kb_bool_bool, kb_bool_str, kb_bool_tuple, kb_bool_list, kb_bool_dict, kb_str_int, kb_str_bool, kb_str_str, kb_str_tuple, kb_str_list, kb_str_dict, kb_NoneType_int, kb_NoneType_bool, kb_NoneType_str, kb_NoneType_tuple, kb_NoneType_list, kb_NoneType_dict, kb_list_int, kb_list_bool, kb_list_str, kb_list_tuple, kb_list_list, kb_list_dict, kb_tuple_int, kb_tuple_bool, kb_tuple_str, kb_tuple_tuple, kb_tuple_list, kb_tuple_dict, kb_dict_int, kb_dict_bool, kb_dict_str, kb_dict_tuple, kb_dict_list, kb_dict_dict, cp_2_53, pw_2_53, cp_10_9, pw_10_9, cp_10_10, pw_10_10, cp_10_18, pw_10_18, cp_10_20, pw_10_20, cp_10_29, pw_10_29, cp_10_30, pw_10_30]
      exact k l N H3 ⟨hN, by omega⟩ hne (by omega) nl0 hl hp3 o3
def spPairs : Sp := fun vs H Q _ => ∃ (p l : Addr) (N : List Str), vs = [.ref p, .ref l] ∧ PotAt H p ∧ H l = some (.lst (N.map V.str)) ∧ N ≠ [] ∧ N.length ≤ 12 ∧ l ≠ p ∧ ∀ (d : Addr) (us : List V) (ts : List Trm) H', H d = none → H' d = some (.lst us) → Trms H' us ts → ts.length ≤ 5 → (∀ t ∈ ts, t.1 ∈ N ∧ Sm 110 t.2) → PotAt H' p → Off p H H' → Q (.ref d) H'
theorem sc_l_pairs : FnScope ["_law_pot_here", "_law_pool_here", "_law_pairs_here", "_law_k"] ["_law_pot_here", "_law_pool_here"] (defScope s_l_pairs) := ⟨rfl, rfl, rfl, by decide +kernel, rfl, by decide +kernel, by decide +kernel⟩
theorem ok_l_pairs (T : Txt K mg) : FnOk P w K mg base CX0 3 (He.ga K "_law_pairs") (fdOf K (He.ga K "_law_pairs")) ["_law_pot_here", "_law_pool_here"] (spPairs) := by
  refine T.F_l_pairs.ok sc_l_pairs (fun vs H Q E h => ?_) (fun cdv A outer s H vs Q E hr h => ?_)
  · obtain ⟨p, _, _, rfl, _⟩ := h
    rfl
  · obtain ⟨p, l, N, rfl, hp, hl, hne, hNl, lp, k⟩ := h
    have hpos : 0 < N.length := List.length_pos_iff.mpr hne
    refine ⟨_, PSs.nox (pss_cons (ps_set (i := 2) sc_l_pairs.nd rfl (Or.inl rfl) (pe_lst pa_nil))
      (pss_cons (ps_for PassesOwn.never rfl (pi_range1 (by rfl) T.z_range (pa_cons (pe_call (ok_l_take T) (hr.mono (by decide)) (by rfl) T.g_l_take T.k_l_take T.b_l_take .nil pass0 (pa_cons (pv 0) (pa_cons pe_int pa_nil))) pa_nil)) (pg_name (i := 3) sc_l_pairs.nd rfl (Or.inl rfl)) (pss_one (ps_expr (pe_bm PySem.F.plainAttrs_list PySem.F.slot_list_append PySem.F.type_list_append mt_append (pv 2) (pa_cons (pe_tup (pa_cons (pe_ix ixL (pv 1) (pe_call (ok_l_take T) (hr.mono (by decide)) (by rfl) T.g_l_take T.k_l_take T.b_l_take .nil pass0 (pa_cons (pv 0) (pa_cons (pe_callB call_lenL (by rfl) T.z_len PySem.boot_len (pa_cons (pv 1) pa_nil)) pa_nil))) (fun _ _ => rfl)) (pa_cons (pe_call (ok_l_weight T) (hr.mono (by decide)) (by rfl) T.g_l_weight T.k_l_weight T.b_l_weight .nil pass0 (pa_cons (pv 0) pa_nil)) pa_nil))) pa_nil)))))
      (pss_one (ps_ret (pv 2))))), ?_⟩
    simp only [tDNotIn, tDIn, tDGet, Option.isSome_some, Option.isSome_none, rIsO, isO_int, isO_str, isO_bl, isO_non, isO_ref, isOO_ins, isOO_lst, isOO_tup, isOO_dK, tMethR, StX.tMakeR, cxOf_K, tDNewK, tCallR, tNever, tSeq, tAsg, gName, tPar, tVar, tC, tOp, rI0, rI, rU, tUn, rEq, rNe, tTest, tB, tAnd, tOr, tNot, tAndV, tOrV, tNotV, tIf, tIfS, tRet, tRetN, tNext, tDrop, tCons, tNil, tCB, tCall, tTup, tLst, rIxLH, rIxTH, gSub, rSetL, tPart, tNoPart, tSl, tBM, tBM0, L2.start, sc_ii, sc_ss, sc_bb, sc_nn, sc_ni, sc_in, sc_ns, sc_sn, sc_is, sc_si, eq_self, tChain, List.map_cons, List.map_nil, List.replicate_succ, List.replicate_zero, List.length_cons, List.length_nil, Nat.reduceAdd, Nat.reduceSub, Nat.zero_add, Nat.sub_self, Nat.add_sub_cancel, List.cons_append, List.nil_append, List.append_nil, List.getElem?_cons_zero, List.getElem?_cons_succ, List.set_cons_zero, List.set_cons_succ, Option.some.injEq, V.int.injEq, V.ref.injEq, V.bl.injEq, V.str.injEq, List.cons.injEq, HO.lst.injEq, HO.tup.injEq, and_true, true_and, exists_eq_left', exists_eq_left, exists_eq', exists_eq, exists_eq_right, exists_eq_right', exists_and_left, exists_and_right, and_assoc, upd_same, reduceCtorEq, false_and, and_false, exists_false, or_false, false_or, at0, at1, atM1, sg_inj, dot_eq, plus_eq, minus_eq, rIxS, at2, at3, at4, at5, ix0, ix1, ix2, ix3, upd_upd, decide_eq_true_eq, Int.reduceLT, Int.reduceLE, Int.reduceAdd, Int.reduceSub, Int.reduceNeg, Int.reduceMul, Int.reducePow, Int.reduceEq, decide_true, decide_false, Int.cast_ofNat_Int, Int.natCast_zero, Int.natCast_one, Nat.reduceEqDiff, Nat.reduceLeDiff, rIsB, tyN_non, tyN_bl, tyN_int, tyN_str, tyN_ref, tyO_lst, tyO_tup, tyO_dK, tyO_dT, V.ty.injEq, ite_true, ite_false, if_true, if_false, Bool.not_true, Bool.not_false, Bool.false_eq_true, kb_int_int, kb_int_bool, kb_int_str, kb_int_tuple, kb_int_list, kb_int_dict, kb_bool_int, kb_bool_bool, kb_bool_str, kb_bool_tuple, kb_bool_list, kb_bool_dict, kb_str_int, kb_str_bool, kb_str_str, kb_str_tuple, kb_str_list, kb_str_dict, kb_NoneType_int, kb_NoneType_bool, kb_NoneType_str, kb_NoneType_tuple, kb_NoneType_list, kb_NoneType_dict, kb_list_int, kb_list_bool, kb_list_str, kb_list_tuple, kb_list_list, kb_list_dict, kb_tuple_int, kb_tuple_bool, kb_tuple_str, kb_tuple_tuple, kb_tuple_list, kb_tuple_dict, kb_dict_int, kb_dict_bool, kb_dict_str, kb_dict_tuple, kb_dict_list, kb_dict_dict, cp_2_53, pw_2_53, cp_10_9, pw_10_9, cp_10_10, pw_10_10, cp_10_18, pw_10_18, cp_10_20, pw_10_20, cp_10_29, pw_10_29, cp_10_30, pw_10_30]
    refine ⟨size_le (by simp), ?_⟩
    (intro d nd; (obtain ⟨H1, eqH, s1, e1⟩ := new_upd (o := .lst []) nd); rw [← eqH]; clear eqH)
    have dp : d ≠ p := hp.ne nd
    refine ⟨_, rfl, p, 6, rfl, hp.same s1, by decide, by decide, fun k2 H2 k20 k21 hp2 o2 => ⟨k2, rfl, by omega, by omega, for_range (fun i σ' H' => ∃ (us : List V) (ts : List Trm) (y : Option V), σ' = [some (.ref p), some (.ref l), some (.ref d), y] ∧ H' d = some (.lst us) ∧ Trms H' us ts ∧ ts.length ≤ i ∧ (∀ t ∈ ts, t.1 ∈ N ∧ Sm 110 t.2) ∧ PotAt H' p ∧ Off p H H') ⟨[], [], none, rfl, o2 _ _ e1 dp, Trms.nil, by simp, by simp, hp2, (Off.refl.same s1).trans o2⟩ ?_ ?_⟩⟩
    · rintro i σ' H3 hi ⟨us, ts, y, rfl, hd, ht, hl3, hts, hp3, o3⟩
      have hl4 := o3 _ _ hl lp
      simp only [tDNotIn, tDIn, tDGet, Option.isSome_some, Option.isSome_none, rIsO, isO_int, isO_str, isO_bl, isO_non, isO_ref, isOO_ins, isOO_lst, isOO_tup, isOO_dK, tMethR, StX.tMakeR, cxOf_K, tDNewK, tCallR, tNever, tSeq, tAsg, gName, tPar, tVar, tC, tOp, rI0, rI, rU, tUn, rEq, rNe, tTest, tB, tAnd, tOr, tNot, tAndV, tOrV, tNotV, tIf, tIfS, tRet, tRetN, tNext, tDrop, tCons, tNil, tCB, tCall, tTup, tLst, rIxLH, rIxTH, gSub, rSetL, tPart, tNoPart, tSl, tBM, tBM0, L2.start, sc_ii, sc_ss, sc_bb, sc_nn, sc_ni, sc_in, sc_ns, sc_sn, sc_is, sc_si, eq_self, tChain, List.map_cons, List.map_nil, List.replicate_succ, List.replicate_zero, List.length_cons, List.length_nil, Nat.reduceAdd, Nat.reduceSub, Nat.zero_add, Nat.sub_self, Nat.add_sub_cancel, List.cons_append, List.nil_append, List.append_nil, List.getElem?_cons_zero, List.getElem?_cons_succ, List.set_cons_zero, List.set_cons_succ, Option.some.injEq, V.int.injEq, V.ref.injEq, V.bl.injEq, V.str.injEq, List.cons.injEq, HO.lst.injEq, HO.tup.injEq, and_true, true_and, exists_eq_left', exists_eq_left, exists_eq', exists_eq, exists_eq_right, exists_eq_right', exists_and_left, exists_and_right, and_assoc, upd_same, reduceCtorEq, false_and, and_false, exists_false, or_false, false_or, at0, at1, atM1, sg_inj, dot_eq, plus_eq, minus_eq, rIxS, at2, at3, at4, at5, ix0, ix1, ix2, ix3, upd_upd, decide_eq_true_eq, Int.reduceLT, Int.reduceLE, Int.reduceAdd, Int.reduceSub, Int.reduceNeg, Int.reduceMul, Int.reducePow, Int.reduceEq, decide_true, decide_false, Int.cast_ofNat_Int, Int.natCast_zero, Int.natCast_one, Nat.reduceEqDiff, Nat.reduceLeDiff, rIsB, tyN_non, tyN_bl, tyN_int, tyN_str, tyN_ref, tyO_lst, tyO_tup, tyO_dK, tyO_dT, V.ty.injEq, ite_true, ite_false, if_true, if_false, Bool.not_true, Bool.not_false, Bool.false_eq_true, kb_int_int, kb_int_bool, kb_int_str, kb_int_tuple, kb_int_list, kb_int_dict, kb_bool_int, kb_bool_bool, kb_bool_str, kb_bool_tuple, kb_bool_list, kb_bool_dict, kb_str_int, kb_str_bool, kb_str_str, kb_str_tuple, kb_str_list, kb_str_dict, kb_NoneType_int, kb_NoneType_bool, kb_NoneType_str, kb_NoneType_tuple, kb_NoneType_list, kb_NoneType_dict, kb_list_int, kb_list_bool, kb_list_str, kb_list_tuple, kb_list_list, kb_list_dict, kb_tuple_int, kb_tuple_bool, kb_tuple_str, kb_tuple_tuple, kb_tuple_list, kb_tuple_dict, kb_dict_int, kb_dict_bool, kb_dict_str, kb_dict_tuple, kb_dict_list, kb_dict_dict, cp_2_53, pw_2_53, cp_10_9, pw_10_9, cp_10_10, pw_10_10, cp_10_18, pw_10_18, cp_10_20, pw_10_20, cp_10_29, pw_10_29, cp_10_30, pw_10_30, spTake, spNumber, hl4, List.length_map]
      refine ⟨.inl ⟨rfl, _, .inl (.inl hd)⟩, hp3, by omega, by omega, fun k4 H4 k40 k41 hp4 o4 => ?_⟩
      have hl5 := o4 _ _ hl4 lp
      have hk : k4.toNat < N.length := by omega
      refine ⟨_, hl5, .str N[k4.toNat], at_int k40 (by rw [List.getElem?_map, List.getElem?_eq_getElem hk]; rfl), hp4, fun w H5 sw hp5 o5 => ⟨size_le (by simp), ?_⟩⟩
      (intro q nq; (obtain ⟨H6, eqH, s6, e6⟩ := new_upd (o := .tup [V.str N[k4.toNat], V.int w]) nq); rw [← eqH]; clear eqH)
      have o35 := (o4.trans o5).same s6
      have hd6 := o35 _ _ hd dp
      simp only [rAppend]
      have im : Im H3 H6 := Im.off hp3 o35
      refine ⟨d, _, _, rfl, rfl, hd6, ?_, us ++ [.ref q], upd_same, ts ++ [(N[k4.toNat], w)], ?_, ?_, ?_, ?_, ?_⟩
      · rw [ht.1]; exact small1000 (by omega)
      · exact ((ht.im im).snoc (t := (N[k4.toNat], w)) ⟨q, rfl, e6⟩).im (Im.lst hd6)
      · simp; omega
      · intro t h
        rcases List.mem_append.mp h with h | h
        · exact hts t h
        · rw [List.mem_singleton.mp h]; exact ⟨List.getElem_mem hk, sw⟩
      · exact (hp5.same s6).put dp
      · exact (o3.trans o35).upd nd
    · rintro σ' H3 ⟨us, ts, y, rfl, hd, ht, hl3, hts, hp3, o3⟩
      simp only [tDNotIn, tDIn, tDGet, Option.isSome_some, Option.isSome_none, rIsO, isO_int, isO_str, isO_bl, isO_non, isO_ref, isOO_ins, isOO_lst, isOO_tup, isOO_dK, tMethR, StX.tMakeR, cxOf_K, tDNewK, tCallR, tNever, tSeq, tAsg, gName, tPar, tVar, tC, tOp, rI0, rI, rU, tUn, rEq, rNe, tTest, tB, tAnd, tOr, tNot, tAndV, tOrV, tNotV, tIf, tIfS, tRet, tRetN, tNext, tDrop, tCons, tNil, tCB, tCall, tTup, tLst, rIxLH, rIxTH, gSub, rSetL, tPart, tNoPart, tSl, tBM, tBM0, L2.start, sc_ii, sc_ss, sc_bb, sc_nn, sc_ni, sc_in, sc_ns, sc_sn, sc_is, sc_si, eq_self, tChain, List.map_cons, List.map_nil, List.replicate_succ, List.replicate_zero, List.length_cons, List.length_nil, Nat.reduceAdd, Nat.reduceSub, Nat.zero_add, Nat.sub_self, Nat.add_sub_cancel, List.cons_append, List.nil_append, List.append_nil, List.getElem?_cons_zero, List.getElem?_cons_succ, List.set_cons_zero, List.set_cons_succ, Option.some.injEq, V.int.injEq, V.ref.injEq, V.bl.injEq, V.str.injEq, List.cons.injEq, HO.lst.injEq, HO.tup.injEq, and_true, true_and, exists_eq_left', exists_eq_left, exists_eq', exists_eq, exists_eq_right, exists_eq_right', exists_and_left, exists_and_right, and_assoc, upd_same, reduceCtorEq, false_and, and_false, exists_false, or_false, false_or, at0, at1, atM1, sg_inj, dot_eq, plus_eq, minus_eq, rIxS, at2, at3, at4, at5, ix0, ix1, ix2, ix3, upd_upd, decide_eq_true_eq, Int.reduceLT, Int.reduceLE, Int.reduceAdd, Int.reduceSub, Int.reduceNeg, Int.reduceMul, Int.reducePow, Int.reduceEq, decide_true, decide_false, Int.cast_ofNat_Int, Int.natCast_zero, Int.natCast_one, Nat.reduceEqDiff, Nat.reduceLeDiff, rIsB, tyN_non, tyN_bl, tyN_int, tyN_str, tyN_ref, tyO_lst, tyO_tup, tyO_dK, tyO_dT, V.ty.injEq, ite_true, ite_false, if_true, if_false, Bool.not_true, Bool.not_false, Bool.false_eq_true, kb_int_int, kb_int_bool, kb_int_str, kb_int_tuple, kb_int_list, kb_int_dict, kb_bool_int, kb_bool_bool, kb_bool_str, kb_bool_tuple, kb_bool_list, kb_bool_dict, kb_str_int, kb_str_bool, kb_str_str, kb_str_tuple, kb_str_list, kb_str_dict, kb_NoneType_int, kb_NoneType_bool, kb_NoneType_str, kb_NoneType_tuple, kb_NoneType_list, kb_NoneType_dict, kb_list_int, kb_list_bool, kb_list_str, kb_list_tuple, kb_list_list, kb_list_dict, kb_tuple_int, kb_tuple_bool, kb_tuple_str, kb_tuple_tuple, kb_tuple_list, kb_tuple_dict, kb_dict_int, kb_dict_bool, kb_dict_str, kb_dict_tuple, kb_dict_list, kb_dict_dict, cp_2_53, pw_2_53, cp_10_9, pw_10_9, cp_10_10, pw_10_10, cp_10_18, pw_10_18, cp_10_20, pw_10_20, cp_10_29, pw_10_29, cp_10_30, pw_10_30]
      exact k d us ts H3 nd hd ht (by omega) hts hp3 o3
end
end K0
namespace K0
open PySem PySem.Spec PyProof.Rows L2
/-! comprehensions whose elements leave the heap as it was -/
theorem lc_pure {J : It} {G : Hp → Prop} {vs : List V} {D : Addr} {H1 : Hp} {σ : L2.St} {ws : List Nat} {g : TG} {tt : TT} {te : TE} {Qd : Hp → Prop} (w : Walk J vs.length G (YAt vs)) (R : Nat → List V) (hG : ∀ H2, Same H1 H2 → G H2) (nD : H1 D = none) (h0 : R 0 = []) (hR : ∀ i, i ≤ vs.length → (R i).length ≤ 900)
    (he : ∀ i x H2, vs[i]? = some x → Same H1 H2 → ∀ (A : V → Hp → Prop) (B : Hp → Prop), (∀ y, R (i + 1) = R i ++ [y] → A y H2) → (R (i + 1) = R i → B H2) → g x (wipe σ ws) H2 fun σ2 H3 => wipe σ2 ws = wipe σ ws ∧ tt σ2 H3 fun b H4 => if b = true then te σ2 H4 A else B H4)
    (hd : ∀ H2, Same H1 H2 → H2 D = some (.lst (R vs.length)) → Qd H2) :
    ∃ W : Nat → Nat → Hp → Prop, (∃ m, W 0 m (upd H1 D (.lst []))) ∧ ∀ i m H, W i m H →
      (J.stop i H ∧ Qd H) ∨ (J.go i H ∧ ∃ Nx : Hp → Prop, (∀ H', Nx H' → ∃ m', m' < m ∧ W (i + 1) m' H') ∧ ∀ x H', J.yld i H x H' → g x (wipe σ ws) H' fun σ2 H2 => wipe σ2 ws = wipe σ ws ∧ tt σ2 H2 fun b H3 =>
        if b = true then te σ2 H3 fun y H4 => ∃ acc, H4 D = some (.lst acc) ∧ acc.length < sizeLine ∧ Nx (upd H4 D (.lst (acc ++ [y]))) else Nx H3) := by
  refine lc_it w (fun i H' => Same H1 H' ∧ H' D = some (.lst (R i))) ⟨same_upd nD, by rw [h0]; exact upd_same⟩ (fun i H' _ h => hG H' h.1) ?_ (fun H2 h => hd H2 h.1 h.2)
  rintro i x H2 H3 hi ⟨sm, hD⟩ ⟨rfl, hx⟩
  refine he i x H3 hx sm _ _ (fun y hy => ⟨_, hD, small1000 (Nat.le_trans (hR i (Nat.le_of_lt hi)) (by decide)), fun b o h => ?_, ?_⟩) fun e => ⟨sm, by rw [e]; exact hD⟩
  · rw [upd_ne (ne_of_none h nD)]; exact sm b o h
  · rw [hy]; exact upd_same
theorem inV_str {x : Str} {S : List Str} : inV (.str x) (S.map V.str) = decide (x ∈ S) := by
  induction S with
  | nil => rfl
  | cons a r ih =>
    show (eqV (.str a) (.str x) || inV (.str x) (r.map V.str)) = _
    rw [ih]
    show ((a == x) || _) = _
    rw [Bool.eq_iff_iff, Bool.or_eq_true, decide_eq_true_eq, decide_eq_true_eq, beq_iff_eq, List.mem_cons]
    exact ⟨fun h => h.imp Eq.symm id, fun h => h.imp Eq.symm id⟩
theorem flat_str {S : List Str} : (S.map V.str).all flatV = true := by
  rw [List.all_map, List.all_eq_true]; intro _ _; rfl
def pk (ts : List Trm) (n : Str) : List Int := (ts.filter fun t => decide (t.1 = n)).map (·.2)
theorem pk_sum (ts : List Trm) (n : Str) : (pk ts n).sum = wt ts n := by
  induction ts with
  | nil => rfl
  | cons t r ih =>
    unfold pk at *
    by_cases e : t.1 = n
    · rw [List.filter_cons, if_pos (by simp [e]), List.map_cons, List.sum_cons, ih]; simp only [wt]; rw [if_pos e]
    · rw [List.filter_cons, if_neg (by simp [e]), ih]; simp only [wt]; rw [if_neg e]; omega
theorem pk_take {ts : List Trm} {i : Nat} {t : Trm} (n : Str) (h : ts[i]? = some t) : pk (ts.take (i + 1)) n = pk (ts.take i) n ++ (if t.1 = n then [t.2] else []) := by
  unfold pk
  rw [List.take_add_one, h, List.filter_append, List.map_append]
  by_cases e : t.1 = n
  · simp [e]
  · simp [e]
theorem pk_len (ts : List Trm) (n : Str) : (pk ts n).length ≤ ts.length := by
  unfold pk; rw [List.length_map]; exact List.length_filter_le _ _
/-- .. whose elements are pairs (name, weight), new ones or old ones -/
theorem lc_new {J : It} {G : Hp → Prop} {vs : List V} {D : Addr} {H1 : Hp} {σ : L2.St} {ws : List Nat} {g : TG} {tt : TT} {te : TE} {Qd : Hp → Prop} (w : Walk J vs.length G (YAt vs)) (F : Nat → List Trm) (hG : ∀ H2, Same H1 H2 → G H2) (nD : H1 D = none) (h0 : F 0 = []) (hR : ∀ i, i ≤ vs.length → (F i).length ≤ 900)
    (he : ∀ i x H2, vs[i]? = some x → Same H1 H2 → ∀ (A : V → Hp → Prop) (B : Hp → Prop), (∀ q H3 t, Same H2 H3 → F (i + 1) = F i ++ [t] → H3 q = some (.tup [.str t.1, .int t.2]) → A (.ref q) H3) → (F (i + 1) = F i → B H2) → g x (wipe σ ws) H2 fun σ2 H3 => wipe σ2 ws = wipe σ ws ∧ tt σ2 H3 fun b H4 => if b = true then te σ2 H4 A else B H4)
    (hd : ∀ us H2, Same H1 H2 → H2 D = some (.lst us) → Trms H2 us (F vs.length) → Qd H2) :
    ∃ W : Nat → Nat → Hp → Prop, (∃ m, W 0 m (upd H1 D (.lst []))) ∧ ∀ i m H, W i m H →
      (J.stop i H ∧ Qd H) ∨ (J.go i H ∧ ∃ Nx : Hp → Prop, (∀ H', Nx H' → ∃ m', m' < m ∧ W (i + 1) m' H') ∧ ∀ x H', J.yld i H x H' → g x (wipe σ ws) H' fun σ2 H2 => wipe σ2 ws = wipe σ ws ∧ tt σ2 H2 fun b H3 =>
        if b = true then te σ2 H3 fun y H4 => ∃ acc, H4 D = some (.lst acc) ∧ acc.length < sizeLine ∧ Nx (upd H4 D (.lst (acc ++ [y]))) else Nx H3) := by
  refine lc_it w (fun i H' => Same H1 H' ∧ ∃ us, H' D = some (.lst us) ∧ Trms H' us (F i)) ⟨same_upd nD, [], upd_same, by rw [h0]; exact Trms.nil⟩ (fun i H' _ h => hG H' h.1) ?_ (fun H2 ⟨h1, us, h2, h3⟩ => hd us H2 h1 h2 h3)
  rintro i x H2 H3 hi ⟨sm, us, hD, hv⟩ ⟨rfl, hx⟩
  refine he i x H3 hx sm _ _ (fun q H4 t s4 ht hq => ⟨_, s4 _ _ hD, small1000 (by rw [hv.1]; exact Nat.le_trans (hR i (Nat.le_of_lt hi)) (by decide)), fun b o h => ?_, us ++ [.ref q], upd_same, ?_⟩) fun e => ⟨sm, us, hD, by rw [e]; exact hv⟩
  · rw [upd_ne (ne_of_none h nD)]; exact s4 _ _ (sm b o h)
  · rw [ht]; exact ((hv.im (Im.of s4)).snoc ⟨q, rfl, hq⟩).im (Im.lst (s4 _ _ hD))
section
variable {P : Program} {w : World} {K : PySem.W.Frag} {mg : Str → Option Value} {base : Heap}
/-- a form of the law's own -/
def DueAt (H : Hp) (r : Addr) (xs : List Trm) (c : Int) : Prop := ∃ q vs, H r = some (.tup [.ref q, .int c]) ∧ H q = some (.tup vs) ∧ Trms H vs xs
theorem DueAt.im {H H' : Hp} {r : Addr} {xs : List Trm} {c : Int} (h : DueAt H r xs c) (i : Im H H') : DueAt H' r xs c := by
  obtain ⟨q, vs, a, b, t⟩ := h
  exact ⟨q, vs, i _ _ a trivial, i _ _ b trivial, t.im i⟩
def spTidy : Sp := fun vs H Q _ => ∃ (l : Addr) (us : List V) (ts : List Trm) (c : Int), vs = [.ref l, .int c] ∧ H l = some (.lst us) ∧ Trms H us ts ∧ ts.length ≤ 60 ∧ ∀ r H' xs, H r = none → Same H H' → Canon xs → (∀ n, wt xs n = wt ts n) → DueAt H' r xs c → Q (.ref r) H'
theorem sc_l_tidy : FnScope ["_law_pairs_here", "_law_constant", "_law_seen", "_law_pair", "_law_terms", "_law_text", "_law_weight_here"] ["_law_pairs_here", "_law_constant"] (defScope s_l_tidy) := ⟨rfl, rfl, rfl, by decide +kernel, rfl, by decide +kernel, by decide +kernel⟩
theorem ok_l_tidy (T : Txt K mg) : FnOk P w K mg base CX0 1 (He.ga K "_law_tidy") (fdOf K (He.ga K "_law_tidy")) ["_law_pairs_here", "_law_constant"] (spTidy) := by
  refine T.F_l_tidy.ok sc_l_tidy (fun vs H Q E h => ?_) (fun cdv A outer s H vs Q E hr h => ?_)
  · obtain ⟨_, _, _, _, rfl, _⟩ := h
    rfl
  · obtain ⟨l, us, ts, c, rfl, hl, ht, hn, k⟩ := h
    refine ⟨_, PSs.nox (pss_cons (ps_set (i := 2) sc_l_tidy.nd rfl (Or.inl rfl) (pe_lst pa_nil))
      (pss_cons (ps_for PassesOwn.never rfl (pi_list (pv 0)) (pg_name (i := 3) sc_l_tidy.nd rfl (Or.inl rfl)) (pss_one (ps_if (pt_cmpR op_notIn_seq (pe_ix ixT (pv 3) pe_int (fun _ _ => rfl)) (pv 2) (by rfl)) (pss_one (ps_expr (pe_bm PySem.F.plainAttrs_list PySem.F.slot_list_append PySem.F.type_list_append mt_append (pv 2) (pa_cons (pe_ix ixT (pv 3) pe_int (fun _ _ => rfl)) pa_nil)))) pss_nil)))
      (pss_cons (ps_set (i := 4) sc_l_tidy.nd rfl (Or.inl rfl) (pe_lst pa_nil))
      (pss_cons (ps_for PassesOwn.never rfl (pi_list (pe_callB cr_sortedS (by rfl) T.z_sorted (by decide +kernel) (pa_cons (pv 2) pa_nil))) (pg_name (i := 5) sc_l_tidy.nd rfl (Or.inr rfl)) (pss_cons (ps_set (i := 6) sc_l_tidy.nd rfl (Or.inl rfl) (pe_callB (cr_sum rfl) (by rfl) T.z_sum (by decide +kernel) (pa_cons (pe_lc (own := [("_law_pair", 3)]) (g := gName 3) (by rfl) sc_l_tidy.nd (pi_list (pv 0)) (blkOk_by (own := [("_law_pair", 3)]) (N := ["_law_pairs_here", "_law_constant", "_law_seen", "_law_pair", "_law_terms", "_law_text", "_law_weight_here"]) (sc := defScope s_l_tidy) (by decide +kernel)) (fun _ _ _ _ _ => pg_name (i := 3) sc_l_tidy.nd rfl (Or.inl rfl)) (fun _ _ _ _ _ => pts_one (pt_cmpR op_eq (pe_ix ixT (pv 3) pe_int (fun _ _ => rfl)) (pv 5) (nomark _))) (fun _ _ _ _ _ => (pe_ix ixT (pv 3) pe_int (fun _ _ => rfl)))) pa_nil)))
      (pss_one (ps_if (pt_cmpR op_ne (pv 6) pe_int (nomark _)) (pss_one (ps_expr (pe_bm PySem.F.plainAttrs_list PySem.F.slot_list_append PySem.F.type_list_append mt_append (pv 4) (pa_cons (pe_tup (pa_cons (pv 5) (pa_cons (pv 6) pa_nil))) pa_nil)))) pss_nil))))
      (pss_one (ps_ret (pe_tup (pa_cons (pe_callTy call_tuple_of (by rfl) T.z_tuple (by decide +kernel) (pa_cons (pv 4) pa_nil)) (pa_cons (pv 1) pa_nil))))))))), ?_⟩
    simp only [tDNotIn, tDIn, tDGet, Option.isSome_some, Option.isSome_none, rIsO, isO_int, isO_str, isO_bl, isO_non, isO_ref, isOO_ins, isOO_lst, isOO_tup, isOO_dK, tMethR, StX.tMakeR, cxOf_K, tDNewK, tCallR, tNever, tSeq, tAsg, gName, tPar, tVar, tC, tOp, rI0, rI, rU, tUn, rEq, rNe, tTest, tB, tAnd, tOr, tNot, tAndV, tOrV, tNotV, tIf, tIfS, tRet, tRetN, tNext, tDrop, tCons, tNil, tCB, tCall, tTup, tLst, rIxLH, rIxTH, gSub, rSetL, tPart, tNoPart, tSl, tBM, tBM0, L2.start, sc_ii, sc_ss, sc_bb, sc_nn, sc_ni, sc_in, sc_ns, sc_sn, sc_is, sc_si, eq_self, tChain, List.map_cons, List.map_nil, List.replicate_succ, List.replicate_zero, List.length_cons, List.length_nil, Nat.reduceAdd, Nat.reduceSub, Nat.zero_add, Nat.sub_self, Nat.add_sub_cancel, List.cons_append, List.nil_append, List.append_nil, List.getElem?_cons_zero, List.getElem?_cons_succ, List.set_cons_zero, List.set_cons_succ, Option.some.injEq, V.int.injEq, V.ref.injEq, V.bl.injEq, V.str.injEq, List.cons.injEq, HO.lst.injEq, HO.tup.injEq, and_true, true_and, exists_eq_left', exists_eq_left, exists_eq', exists_eq, exists_eq_right, exists_eq_right', exists_and_left, exists_and_right, and_assoc, upd_same, reduceCtorEq, false_and, and_false, exists_false, or_false, false_or, at0, at1, atM1, sg_inj, dot_eq, plus_eq, minus_eq, rIxS, at2, at3, at4, at5, ix0, ix1, ix2, ix3, upd_upd, decide_eq_true_eq, Int.reduceLT, Int.reduceLE, Int.reduceAdd, Int.reduceSub, Int.reduceNeg, Int.reduceMul, Int.reducePow, Int.reduceEq, decide_true, decide_false, Int.cast_ofNat_Int, Int.natCast_zero, Int.natCast_one, Nat.reduceEqDiff, Nat.reduceLeDiff, rIsB, tyN_non, tyN_bl, tyN_int, tyN_str, tyN_ref, tyO_lst, tyO_tup, tyO_dK, tyO_dT, V.ty.injEq, ite_true, ite_false, if_true, if_false, Bool.not_true, Bool.not_false, Bool.false_eq_true, kb_int_int, kb_int_bool, kb_int_str, kb_int_tuple, kb_int_list, kb_int_dict, kb_bool_int, kb_bool_bool, kb_bool_str, kb_bool_tuple, kb_bool_list, kb_bool_dict, kb_str_int, kb_str_bool, kb_str_str, kb_str_tuple, kb_str_list, kb_str_dict, kb_NoneType_int, kb_NoneType_bool, kb_NoneType_str, kb_NoneType_tuple, kb_NoneType_list, kb_NoneType_dict, kb_list_int, kb_list_bool, kb_list_str, kb_list_tuple, kb_list_list, kb_list_dict, kb_tuple_int, kb_tuple_bool, kb_tuple_str, kb_tuple_tuple, kb_tuple_list, kb_tuple_dict, kb_dict_int, kb_dict_bool, kb_dict_str, kb_dict_tuple, kb_dict_list, kb_dict_dict, cp_2_53, pw_2_53, cp_10_9, pw_10_9, cp_10_10, pw_10_10, cp_10_18, pw_10_18, cp_10_20, pw_10_20, cp_10_29, pw_10_29, cp_10_30, pw_10_30]
    refine ⟨size_le (by simp), ?_⟩
    (intro d nd; (obtain ⟨H1, eqH, s1, e1⟩ := new_upd (o := .lst []) nd); rw [← eqH]; clear eqH)
    have hl1 := s1 _ _ hl
    refine ⟨_, rfl, l, rfl, ⟨_, .inl (.inl hl1)⟩, for_it (walk_list (xs := us)) (fun i σ' H' => ∃ (S : List Str) (y : Option V), σ' = [some (.ref l), some (.int c), some (.ref d), y, none, none, none] ∧ Same H H' ∧ H' d = some (.lst (S.map V.str)) ∧ S.Nodup ∧ S.length ≤ i ∧ ∀ n, n ∈ S ↔ n ∈ (ts.take i).map (·.1)) ⟨[], none, rfl, s1, e1, .nil, by simp, by simp⟩ ?_ ?_ ?_⟩
    · rintro i σ' H2 _ ⟨S, y, rfl, sm, _⟩
      exact .inl (.inl (sm _ _ hl))
    · rintro i x σ' H2 H3 hi ⟨S, y, rfl, sm, hd, nS, lS, mS⟩ ⟨rfl, hx⟩
      obtain ⟨t, q, ht', rfl, hq⟩ := ht.at hx
      have hq2 := sm _ _ hq
      simp only [tDNotIn, tDIn, tDGet, Option.isSome_some, Option.isSome_none, rIsO, isO_int, isO_str, isO_bl, isO_non, isO_ref, isOO_ins, isOO_lst, isOO_tup, isOO_dK, tMethR, StX.tMakeR, cxOf_K, tDNewK, tCallR, tNever, tSeq, tAsg, gName, tPar, tVar, tC, tOp, rI0, rI, rU, tUn, rEq, rNe, tTest, tB, tAnd, tOr, tNot, tAndV, tOrV, tNotV, tIf, tIfS, tRet, tRetN, tNext, tDrop, tCons, tNil, tCB, tCall, tTup, tLst, rIxLH, rIxTH, gSub, rSetL, tPart, tNoPart, tSl, tBM, tBM0, L2.start, sc_ii, sc_ss, sc_bb, sc_nn, sc_ni, sc_in, sc_ns, sc_sn, sc_is, sc_si, eq_self, tChain, List.map_cons, List.map_nil, List.replicate_succ, List.replicate_zero, List.length_cons, List.length_nil, Nat.reduceAdd, Nat.reduceSub, Nat.zero_add, Nat.sub_self, Nat.add_sub_cancel, List.cons_append, List.nil_append, List.append_nil, List.getElem?_cons_zero, List.getElem?_cons_succ, List.set_cons_zero, List.set_cons_succ, Option.some.injEq, V.int.injEq, V.ref.injEq, V.bl.injEq, V.str.injEq, List.cons.injEq, HO.lst.injEq, HO.tup.injEq, and_true, true_and, exists_eq_left', exists_eq_left, exists_eq', exists_eq, exists_eq_right, exists_eq_right', exists_and_left, exists_and_right, and_assoc, upd_same, reduceCtorEq, false_and, and_false, exists_false, or_false, false_or, at0, at1, atM1, sg_inj, dot_eq, plus_eq, minus_eq, rIxS, at2, at3, at4, at5, ix0, ix1, ix2, ix3, upd_upd, decide_eq_true_eq, Int.reduceLT, Int.reduceLE, Int.reduceAdd, Int.reduceSub, Int.reduceNeg, Int.reduceMul, Int.reducePow, Int.reduceEq, decide_true, decide_false, Int.cast_ofNat_Int, Int.natCast_zero, Int.natCast_one, Nat.reduceEqDiff, Nat.reduceLeDiff, rIsB, tyN_non, tyN_bl, tyN_int, tyN_str, tyN_ref, tyO_lst, tyO_tup, tyO_dK, tyO_dT, V.ty.injEq, ite_true, ite_false, if_true, if_false, Bool.not_true, Bool.not_false, Bool.false_eq_true, kb_int_int, kb_int_bool, kb_int_str, kb_int_tuple, kb_int_list, kb_int_dict, kb_bool_int, kb_bool_bool, kb_bool_str, kb_bool_tuple, kb_bool_list, kb_bool_dict, kb_str_int, kb_str_bool, kb_str_str, kb_str_tuple, kb_str_list, kb_str_dict, kb_NoneType_int, kb_NoneType_bool, kb_NoneType_str, kb_NoneType_tuple, kb_NoneType_list, kb_NoneType_dict, kb_list_int, kb_list_bool, kb_list_str, kb_list_tuple, kb_list_list, kb_list_dict, kb_tuple_int, kb_tuple_bool, kb_tuple_str, kb_tuple_tuple, kb_tuple_list, kb_tuple_dict, kb_dict_int, kb_dict_bool, kb_dict_str, kb_dict_tuple, kb_dict_list, kb_dict_dict, cp_2_53, pw_2_53, cp_10_9, pw_10_9, cp_10_10, pw_10_10, cp_10_18, pw_10_18, cp_10_20, pw_10_20, cp_10_29, pw_10_29, cp_10_30, pw_10_30, hq2]
      refine ⟨d, _, rfl, .inl (.inl (.inl hd)), rfl, flat_str, _, rfl, ?_⟩
      rw [inV_str]
      simp only [tDNotIn, tDIn, tDGet, Option.isSome_some, Option.isSome_none, rIsO, isO_int, isO_str, isO_bl, isO_non, isO_ref, isOO_ins, isOO_lst, isOO_tup, isOO_dK, tMethR, StX.tMakeR, cxOf_K, tDNewK, tCallR, tNever, tSeq, tAsg, gName, tPar, tVar, tC, tOp, rI0, rI, rU, tUn, rEq, rNe, tTest, tB, tAnd, tOr, tNot, tAndV, tOrV, tNotV, tIf, tIfS, tRet, tRetN, tNext, tDrop, tCons, tNil, tCB, tCall, tTup, tLst, rIxLH, rIxTH, gSub, rSetL, tPart, tNoPart, tSl, tBM, tBM0, L2.start, sc_ii, sc_ss, sc_bb, sc_nn, sc_ni, sc_in, sc_ns, sc_sn, sc_is, sc_si, eq_self, tChain, List.map_cons, List.map_nil, List.replicate_succ, List.replicate_zero, List.length_cons, List.length_nil, Nat.reduceAdd, Nat.reduceSub, Nat.zero_add, Nat.sub_self, Nat.add_sub_cancel, List.cons_append, List.nil_append, List.append_nil, List.getElem?_cons_zero, List.getElem?_cons_succ, List.set_cons_zero, List.set_cons_succ, Option.some.injEq, V.int.injEq, V.ref.injEq, V.bl.injEq, V.str.injEq, List.cons.injEq, HO.lst.injEq, HO.tup.injEq, and_true, true_and, exists_eq_left', exists_eq_left, exists_eq', exists_eq, exists_eq_right, exists_eq_right', exists_and_left, exists_and_right, and_assoc, upd_same, reduceCtorEq, false_and, and_false, exists_false, or_false, false_or, at0, at1, atM1, sg_inj, dot_eq, plus_eq, minus_eq, rIxS, at2, at3, at4, at5, ix0, ix1, ix2, ix3, upd_upd, decide_eq_true_eq, Int.reduceLT, Int.reduceLE, Int.reduceAdd, Int.reduceSub, Int.reduceNeg, Int.reduceMul, Int.reducePow, Int.reduceEq, decide_true, decide_false, Int.cast_ofNat_Int, Int.natCast_zero, Int.natCast_one, Nat.reduceEqDiff, Nat.reduceLeDiff, rIsB, tyN_non, tyN_bl, tyN_int, tyN_str, tyN_ref, tyO_lst, tyO_tup, tyO_dK, tyO_dT, V.ty.injEq, ite_true, ite_false, if_true, if_false, Bool.not_true, Bool.not_false, Bool.false_eq_true, kb_int_int, kb_int_bool, kb_int_str, kb_int_tuple, kb_int_list, kb_int_dict, kb_bool_int, kb_bool_bool, kb_bool_str, kb_bool_tuple, kb_bool_list, kb_bool_dict, kb_str_int, kb_str_bool, kb_str_str, kb_str_tuple, kb_str_list, kb_str_dict, kb_NoneType_int, kb_NoneType_bool, kb_NoneType_str, kb_NoneType_tuple, kb_NoneType_list, kb_NoneType_dict, kb_list_int, kb_list_bool, kb_list_str, kb_list_tuple, kb_list_list, kb_list_dict, kb_tuple_int, kb_tuple_bool, kb_tuple_str, kb_tuple_tuple, kb_tuple_list, kb_tuple_dict, kb_dict_int, kb_dict_bool, kb_dict_str, kb_dict_tuple, kb_dict_list, kb_dict_dict, cp_2_53, pw_2_53, cp_10_9, pw_10_9, cp_10_10, pw_10_10, cp_10_18, pw_10_18, cp_10_20, pw_10_20, cp_10_29, pw_10_29, cp_10_30, pw_10_30, hq2, rAppend]
      have hm1 : ∀ n, n ∈ (ts.take (i + 1)).map (·.1) ↔ n ∈ (ts.take i).map (·.1) ∨ n = t.1 := by intro n; rw [List.take_add_one, ht', List.map_append]; simp
      refine ite2 (fun e => ⟨.inl ⟨rfl, _, .inl (.inl hd)⟩, _, hd, ?_, ?_, S ++ [t.1], ?_, ?_, ?_, ?_⟩) fun e => ⟨sm, S, hd, nS, by omega, fun n => ?_⟩
      · rw [List.length_map]; rw [ht.1] at hi; exact small1000 (by omega)
      · exact fun b o h => by rw [upd_ne (ne_of_none h nd)]; exact sm b o h
      · rw [List.map_append]; rfl
      · have e' : t.1 ∉ S := by simpa using e
        rw [List.nodup_append]
        exact ⟨nS, by simp, fun a ha b hb => by rw [List.mem_singleton.mp hb]; rintro rfl; exact e' ha⟩
      · simp; omega
      · intro n; rw [hm1, List.mem_append, mS]; simp
      · have e' : t.1 ∈ S := by simpa using e
        rw [hm1, mS]
        exact ⟨.inl, fun h => h.elim id fun z => by rw [z]; exact (mS _).mp e'⟩
    · rintro σ' H2 ⟨S, y, rfl, sm, hd, nS, lS, mS⟩
      rw [ht.1, List.take_length] at mS
      simp only [tDNotIn, tDIn, tDGet, Option.isSome_some, Option.isSome_none, rIsO, isO_int, isO_str, isO_bl, isO_non, isO_ref, isOO_ins, isOO_lst, isOO_tup, isOO_dK, tMethR, StX.tMakeR, cxOf_K, tDNewK, tCallR, tNever, tSeq, tAsg, gName, tPar, tVar, tC, tOp, rI0, rI, rU, tUn, rEq, rNe, tTest, tB, tAnd, tOr, tNot, tAndV, tOrV, tNotV, tIf, tIfS, tRet, tRetN, tNext, tDrop, tCons, tNil, tCB, tCall, tTup, tLst, rIxLH, rIxTH, gSub, rSetL, tPart, tNoPart, tSl, tBM, tBM0, L2.start, sc_ii, sc_ss, sc_bb, sc_nn, sc_ni, sc_in, sc_ns, sc_sn, sc_is, sc_si, eq_self, tChain, List.map_cons, List.map_nil, List.replicate_succ, List.replicate_zero, List.length_cons, List.length_nil, Nat.reduceAdd, Nat.reduceSub, Nat.zero_add, Nat.sub_self, Nat.add_sub_cancel, List.cons_append, List.nil_append, List.append_nil, List.getElem?_cons_zero, List.getElem?_cons_succ, List.set_cons_zero, List.set_cons_succ, Option.some.injEq, V.int.injEq, V.ref.injEq, V.bl.injEq, V.str.injEq, List.cons.injEq, HO.lst.injEq, HO.tup.injEq, and_true, true_and, exists_eq_left', exists_eq_left, exists_eq', exists_eq, exists_eq_right, exists_eq_right', exists_and_left, exists_and_right, and_assoc, upd_same, reduceCtorEq, false_and, and_false, exists_false, or_false, false_or, at0, at1, atM1, sg_inj, dot_eq, plus_eq, minus_eq, rIxS, at2, at3, at4, at5, ix0, ix1, ix2, ix3, upd_upd, decide_eq_true_eq, Int.reduceLT, Int.reduceLE, Int.reduceAdd, Int.reduceSub, Int.reduceNeg, Int.reduceMul, Int.reducePow, Int.reduceEq, decide_true, decide_false, Int.cast_ofNat_Int, Int.natCast_zero, Int.natCast_one, Nat.reduceEqDiff, Nat.reduceLeDiff, rIsB, tyN_non, tyN_bl, tyN_int, tyN_str, tyN_ref, tyO_lst, tyO_tup, tyO_dK, tyO_dT, V.ty.injEq, ite_true, ite_false, if_true, if_false, Bool.not_true, Bool.not_false, Bool.false_eq_true, kb_int_int, kb_int_bool, kb_int_str, kb_int_tuple, kb_int_list, kb_int_dict, kb_bool_int, kb_bool_bool, kb_bool_str, kb_bool_tuple, kb_bool_list, kb_bool_dict, kb_str_int, kb_str_bool, kb_str_str, kb_str_tuple, kb_str_list, kb_str_dict, kb_NoneType_int, kb_NoneType_bool, kb_NoneType_str, kb_NoneType_tuple, kb_NoneType_list, kb_NoneType_dict, kb_list_int, kb_list_bool, kb_list_str, kb_list_tuple, kb_list_list, kb_list_dict, kb_tuple_int, kb_tuple_bool, kb_tuple_str, kb_tuple_tuple, kb_tuple_list, kb_tuple_dict, kb_dict_int, kb_dict_bool, kb_dict_str, kb_dict_tuple, kb_dict_list, kb_dict_dict, cp_2_53, pw_2_53, cp_10_9, pw_10_9, cp_10_10, pw_10_10, cp_10_18, pw_10_18, cp_10_20, pw_10_20, cp_10_29, pw_10_29, cp_10_30, pw_10_30]
      refine ⟨size_le (by simp), ?_⟩
      (intro m nm; (obtain ⟨H3, eqH, s3, e3⟩ := new_upd (o := .lst []) nm); rw [← eqH]; clear eqH)
      have hd3 := s3 _ _ hd
      have sm3 := sm.trans s3
      have hmd : m ≠ d := fun z => by subst z; rw [nm] at hd; cases hd
      have hl2 : S.length ≤ 60 := by rw [ht.1] at lS; omega
      refine ⟨_, rfl, d, S, rfl, .inl (.inl hd3), by omega, fun ys p2 perm srt n2 => ?_⟩
      obtain ⟨H4, eqH, s4, e4⟩ := new_upd (o := .lst (ys.map V.str)) n2
      rw [← eqH]; clear eqH
      have up : ys.Pairwise SLt := rises srt (perm.symm.nodup nS)
      have hm : ∀ n, n ∈ ys ↔ n ∈ ts.map (·.1) := fun n => (perm.mem_iff).trans (mS n)
      have yl : ys.length ≤ 60 := by rw [perm.length_eq]; exact hl2
      have e34 := s4 _ _ e3
      have sm4 := sm3.trans s4
      have nm0 : H m = none := sm.free nm
      refine ⟨p2, rfl, ⟨_, .inl (.inl e4)⟩, for_it (walk_list (xs := ys.map V.str)) (fun i σ' H' => ∃ (vs : List V) (y5 y6 : Option V), σ' = [some (.ref l), some (.int c), some (.ref d), y, some (.ref m), y5, y6] ∧ Same H H' ∧ H' p2 = some (.lst (ys.map V.str)) ∧ H' m = some (.lst vs) ∧ Trms H' vs (xsOf ts (ys.take i))) ⟨[], none, none, rfl, sm4, e4, e34, Trms.nil⟩ ?_ ?_ ?_⟩
      · rintro i σ' H5 _ ⟨vs, y5, y6, rfl, sm5, h5, _⟩
        exact .inl (.inl h5)
      · rintro i x σ' H5 H6 hi ⟨vs, y5, y6, rfl, sm5, h5, hm5, hv⟩ ⟨rfl, hx⟩
        rw [List.getElem?_map] at hx
        obtain ⟨n, hn', rfl⟩ := Option.map_eq_some_iff.mp hx
        simp only [tDNotIn, tDIn, tDGet, Option.isSome_some, Option.isSome_none, rIsO, isO_int, isO_str, isO_bl, isO_non, isO_ref, isOO_ins, isOO_lst, isOO_tup, isOO_dK, tMethR, StX.tMakeR, cxOf_K, tDNewK, tCallR, tNever, tSeq, tAsg, gName, tPar, tVar, tC, tOp, rI0, rI, rU, tUn, rEq, rNe, tTest, tB, tAnd, tOr, tNot, tAndV, tOrV, tNotV, tIf, tIfS, tRet, tRetN, tNext, tDrop, tCons, tNil, tCB, tCall, tTup, tLst, rIxLH, rIxTH, gSub, rSetL, tPart, tNoPart, tSl, tBM, tBM0, L2.start, sc_ii, sc_ss, sc_bb, sc_nn, sc_ni, sc_in, sc_ns, sc_sn, sc_is, sc_si, eq_self, tChain, List.map_cons, List.map_nil, List.replicate_succ, List.replicate_zero, List.length_cons, List.length_nil, Nat.reduceAdd, Nat.reduceSub, Nat.zero_add, Nat.sub_self, Nat.add_sub_cancel, List.cons_append, List.nil_append, List.append_nil, List.getElem?_cons_zero, List.getElem?_cons_succ, List.set_cons_zero, List.set_cons_succ, Option.some.injEq, V.int.injEq, V.ref.injEq, V.bl.injEq, V.str.injEq, List.cons.injEq, HO.lst.injEq, HO.tup.injEq, and_true, true_and, exists_eq_left', exists_eq_left, exists_eq', exists_eq, exists_eq_right, exists_eq_right', exists_and_left, exists_and_right, and_assoc, upd_same, reduceCtorEq, false_and, and_false, exists_false, or_false, false_or, at0, at1, atM1, sg_inj, dot_eq, plus_eq, minus_eq, rIxS, at2, at3, at4, at5, ix0, ix1, ix2, ix3, upd_upd, decide_eq_true_eq, Int.reduceLT, Int.reduceLE, Int.reduceAdd, Int.reduceSub, Int.reduceNeg, Int.reduceMul, Int.reducePow, Int.reduceEq, decide_true, decide_false, Int.cast_ofNat_Int, Int.natCast_zero, Int.natCast_one, Nat.reduceEqDiff, Nat.reduceLeDiff, rIsB, tyN_non, tyN_bl, tyN_int, tyN_str, tyN_ref, tyO_lst, tyO_tup, tyO_dK, tyO_dT, V.ty.injEq, ite_true, ite_false, if_true, if_false, Bool.not_true, Bool.not_false, Bool.false_eq_true, kb_int_int, kb_int_bool, kb_int_str, kb_int_tuple, kb_int_list, kb_int_dict, kb_bool_int, kb_bool_bool, kb_bool_str, kb_bool_tuple, kb_bool_list, kb_bool_dict, kb_str_int, kb_str_bool, kb_str_str, kb_str_tuple, kb_str_list, kb_str_dict, kb_NoneType_int, kb_NoneType_bool, kb_NoneType_str, kb_NoneType_tuple, kb_NoneType_list, kb_NoneType_dict, kb_list_int, kb_list_bool, kb_list_str, kb_list_tuple, kb_list_list, kb_list_dict, kb_tuple_int, kb_tuple_bool, kb_tuple_str, kb_tuple_tuple, kb_tuple_list, kb_tuple_dict, kb_dict_int, kb_dict_bool, kb_dict_str, kb_dict_tuple, kb_dict_list, kb_dict_dict, cp_2_53, pw_2_53, cp_10_9, pw_10_9, cp_10_10, pw_10_10, cp_10_18, pw_10_18, cp_10_20, pw_10_20, cp_10_29, pw_10_29, cp_10_30, pw_10_30]
        have hl6 := sm5 _ _ hl
        refine ⟨_, rfl, l, rfl, ⟨_, .inl (.inl hl6)⟩, fun D nD => lc_pure walk_list (fun j => (pk (ts.take j) n).map V.int) (vs := us) (fun H7 s7 => .inl (.inl (s7 _ _ hl6))) nD rfl (fun j hj => ?_) (fun j x H7 hx s7 A B hA hB => ?_) fun H7 s7 hD => ?_⟩
        · rw [List.length_map]
          refine Nat.le_trans (pk_len _ _) ?_
          rw [List.length_take]; omega
        · obtain ⟨t, q, ht', rfl, hq⟩ := ht.at hx
          have hq7 := s7 _ _ (sm5 _ _ hq)
          refine ⟨rfl, ?_⟩
          simp only [tDNotIn, tDIn, tDGet, Option.isSome_some, Option.isSome_none, rIsO, isO_int, isO_str, isO_bl, isO_non, isO_ref, isOO_ins, isOO_lst, isOO_tup, isOO_dK, tMethR, StX.tMakeR, cxOf_K, tDNewK, tCallR, tNever, tSeq, tAsg, gName, tPar, tVar, tC, tOp, rI0, rI, rU, tUn, rEq, rNe, tTest, tB, tAnd, tOr, tNot, tAndV, tOrV, tNotV, tIf, tIfS, tRet, tRetN, tNext, tDrop, tCons, tNil, tCB, tCall, tTup, tLst, rIxLH, rIxTH, gSub, rSetL, tPart, tNoPart, tSl, tBM, tBM0, L2.start, sc_ii, sc_ss, sc_bb, sc_nn, sc_ni, sc_in, sc_ns, sc_sn, sc_is, sc_si, eq_self, tChain, List.map_cons, List.map_nil, List.replicate_succ, List.replicate_zero, List.length_cons, List.length_nil, Nat.reduceAdd, Nat.reduceSub, Nat.zero_add, Nat.sub_self, Nat.add_sub_cancel, List.cons_append, List.nil_append, List.append_nil, List.getElem?_cons_zero, List.getElem?_cons_succ, List.set_cons_zero, List.set_cons_succ, Option.some.injEq, V.int.injEq, V.ref.injEq, V.bl.injEq, V.str.injEq, List.cons.injEq, HO.lst.injEq, HO.tup.injEq, and_true, true_and, exists_eq_left', exists_eq_left, exists_eq', exists_eq, exists_eq_right, exists_eq_right', exists_and_left, exists_and_right, and_assoc, upd_same, reduceCtorEq, false_and, and_false, exists_false, or_false, false_or, at0, at1, atM1, sg_inj, dot_eq, plus_eq, minus_eq, rIxS, at2, at3, at4, at5, ix0, ix1, ix2, ix3, upd_upd, decide_eq_true_eq, Int.reduceLT, Int.reduceLE, Int.reduceAdd, Int.reduceSub, Int.reduceNeg, Int.reduceMul, Int.reducePow, Int.reduceEq, decide_true, decide_false, Int.cast_ofNat_Int, Int.natCast_zero, Int.natCast_one, Nat.reduceEqDiff, Nat.reduceLeDiff, rIsB, tyN_non, tyN_bl, tyN_int, tyN_str, tyN_ref, tyO_lst, tyO_tup, tyO_dK, tyO_dT, V.ty.injEq, ite_true, ite_false, if_true, if_false, Bool.not_true, Bool.not_false, Bool.false_eq_true, kb_int_int, kb_int_bool, kb_int_str, kb_int_tuple, kb_int_list, kb_int_dict, kb_bool_int, kb_bool_bool, kb_bool_str, kb_bool_tuple, kb_bool_list, kb_bool_dict, kb_str_int, kb_str_bool, kb_str_str, kb_str_tuple, kb_str_list, kb_str_dict, kb_NoneType_int, kb_NoneType_bool, kb_NoneType_str, kb_NoneType_tuple, kb_NoneType_list, kb_NoneType_dict, kb_list_int, kb_list_bool, kb_list_str, kb_list_tuple, kb_list_list, kb_list_dict, kb_tuple_int, kb_tuple_bool, kb_tuple_str, kb_tuple_tuple, kb_tuple_list, kb_tuple_dict, kb_dict_int, kb_dict_bool, kb_dict_str, kb_dict_tuple, kb_dict_list, kb_dict_dict, cp_2_53, pw_2_53, cp_10_9, pw_10_9, cp_10_10, pw_10_10, cp_10_18, pw_10_18, cp_10_20, pw_10_20, cp_10_29, pw_10_29, cp_10_30, pw_10_30, hq7, wipe]
          rw [pk_take n ht', List.map_append] at hA hB
          refine ite2 (fun e => hA _ ?_) fun e => hB ?_
          · rw [if_pos e]; rfl
          · rw [if_neg e]; simp
        · rw [ht.1, List.take_length] at hD
          refine ⟨D, _, rfl, .inl (.inl hD), ?_⟩
          rw [pk_sum]
          simp only [tDNotIn, tDIn, tDGet, Option.isSome_some, Option.isSome_none, rIsO, isO_int, isO_str, isO_bl, isO_non, isO_ref, isOO_ins, isOO_lst, isOO_tup, isOO_dK, tMethR, StX.tMakeR, cxOf_K, tDNewK, tCallR, tNever, tSeq, tAsg, gName, tPar, tVar, tC, tOp, rI0, rI, rU, tUn, rEq, rNe, tTest, tB, tAnd, tOr, tNot, tAndV, tOrV, tNotV, tIf, tIfS, tRet, tRetN, tNext, tDrop, tCons, tNil, tCB, tCall, tTup, tLst, rIxLH, rIxTH, gSub, rSetL, tPart, tNoPart, tSl, tBM, tBM0, L2.start, sc_ii, sc_ss, sc_bb, sc_nn, sc_ni, sc_in, sc_ns, sc_sn, sc_is, sc_si, eq_self, tChain, List.map_cons, List.map_nil, List.replicate_succ, List.replicate_zero, List.length_cons, List.length_nil, Nat.reduceAdd, Nat.reduceSub, Nat.zero_add, Nat.sub_self, Nat.add_sub_cancel, List.cons_append, List.nil_append, List.append_nil, List.getElem?_cons_zero, List.getElem?_cons_succ, List.set_cons_zero, List.set_cons_succ, Option.some.injEq, V.int.injEq, V.ref.injEq, V.bl.injEq, V.str.injEq, List.cons.injEq, HO.lst.injEq, HO.tup.injEq, and_true, true_and, exists_eq_left', exists_eq_left, exists_eq', exists_eq, exists_eq_right, exists_eq_right', exists_and_left, exists_and_right, and_assoc, upd_same, reduceCtorEq, false_and, and_false, exists_false, or_false, false_or, at0, at1, atM1, sg_inj, dot_eq, plus_eq, minus_eq, rIxS, at2, at3, at4, at5, ix0, ix1, ix2, ix3, upd_upd, decide_eq_true_eq, Int.reduceLT, Int.reduceLE, Int.reduceAdd, Int.reduceSub, Int.reduceNeg, Int.reduceMul, Int.reducePow, Int.reduceEq, decide_true, decide_false, Int.cast_ofNat_Int, Int.natCast_zero, Int.natCast_one, Nat.reduceEqDiff, Nat.reduceLeDiff, rIsB, tyN_non, tyN_bl, tyN_int, tyN_str, tyN_ref, tyO_lst, tyO_tup, tyO_dK, tyO_dT, V.ty.injEq, ite_true, ite_false, if_true, if_false, Bool.not_true, Bool.not_false, Bool.false_eq_true, kb_int_int, kb_int_bool, kb_int_str, kb_int_tuple, kb_int_list, kb_int_dict, kb_bool_int, kb_bool_bool, kb_bool_str, kb_bool_tuple, kb_bool_list, kb_bool_dict, kb_str_int, kb_str_bool, kb_str_str, kb_str_tuple, kb_str_list, kb_str_dict, kb_NoneType_int, kb_NoneType_bool, kb_NoneType_str, kb_NoneType_tuple, kb_NoneType_list, kb_NoneType_dict, kb_list_int, kb_list_bool, kb_list_str, kb_list_tuple, kb_list_list, kb_list_dict, kb_tuple_int, kb_tuple_bool, kb_tuple_str, kb_tuple_tuple, kb_tuple_list, kb_tuple_dict, kb_dict_int, kb_dict_bool, kb_dict_str, kb_dict_tuple, kb_dict_list, kb_dict_dict, cp_2_53, pw_2_53, cp_10_9, pw_10_9, cp_10_10, pw_10_10, cp_10_18, pw_10_18, cp_10_20, pw_10_20, cp_10_29, pw_10_29, cp_10_30, pw_10_30, rAppend]
          have sm7 := sm5.trans s7
          have h57 := s7 _ _ h5
          have hm7 := s7 _ _ hm5
          have hv7 := hv.im (Im.of s7)
          have hx1 := xsOf_take (ds := ts) hn'
          have m2 : m ≠ p2 := ne_of_none e3 n2
          by_cases e0 : wt ts n = 0
          · rw [if_neg (by simp [e0])]
            rw [if_pos e0, List.append_nil] at hx1
            rw [hx1]
            exact ⟨sm7, h57, vs, hm7, hv7⟩
          · rw [if_pos (by simp [e0])]
            rw [if_neg e0] at hx1
            rw [hx1]
            refine ⟨.inl ⟨rfl, _, .inl (.inl hm7)⟩, size_le (by simp), ?_⟩
            (intro q nq; (obtain ⟨H8, eqH, s8, e8⟩ := new_upd (o := .tup [V.str n, V.int (wt ts n)]) nq); rw [← eqH]; clear eqH)
            have hm8 := s8 _ _ hm7
            refine ⟨_, hm8, ?_, fun b o h => ?_, ?_, ?_⟩
            · rw [hv.1]
              refine small1000 (Nat.le_trans (m := 60) ?_ (by decide))
              unfold xsOf
              rw [List.length_map]
              exact Nat.le_trans (List.length_filter_le _ _) (by rw [List.length_take]; omega)
            · rw [upd_ne (ne_of_none h nm0)]; exact s8 _ _ (sm7 b o h)
            · rw [upd_ne m2.symm]; exact s8 _ _ h57
            · exact ((hv7.im (Im.of s8)).snoc (t := (n, wt ts n)) ⟨q, rfl, e8⟩).im (Im.lst hm8)
      · rintro σ' H5 ⟨vs, y5, y6, rfl, sm5, h5, hm5, hv⟩
        rw [List.length_map, List.take_length] at hv
        simp only [tDNotIn, tDIn, tDGet, Option.isSome_some, Option.isSome_none, rIsO, isO_int, isO_str, isO_bl, isO_non, isO_ref, isOO_ins, isOO_lst, isOO_tup, isOO_dK, tMethR, StX.tMakeR, cxOf_K, tDNewK, tCallR, tNever, tSeq, tAsg, gName, tPar, tVar, tC, tOp, rI0, rI, rU, tUn, rEq, rNe, tTest, tB, tAnd, tOr, tNot, tAndV, tOrV, tNotV, tIf, tIfS, tRet, tRetN, tNext, tDrop, tCons, tNil, tCB, tCall, tTup, tLst, rIxLH, rIxTH, gSub, rSetL, tPart, tNoPart, tSl, tBM, tBM0, L2.start, sc_ii, sc_ss, sc_bb, sc_nn, sc_ni, sc_in, sc_ns, sc_sn, sc_is, sc_si, eq_self, tChain, List.map_cons, List.map_nil, List.replicate_succ, List.replicate_zero, List.length_cons, List.length_nil, Nat.reduceAdd, Nat.reduceSub, Nat.zero_add, Nat.sub_self, Nat.add_sub_cancel, List.cons_append, List.nil_append, List.append_nil, List.getElem?_cons_zero, List.getElem?_cons_succ, List.set_cons_zero, List.set_cons_succ, Option.some.injEq, V.int.injEq, V.ref.injEq, V.bl.injEq, V.str.injEq, List.cons.injEq, HO.lst.injEq, HO.tup.injEq, and_true, true_and, exists_eq_left', exists_eq_left, exists_eq', exists_eq, exists_eq_right, exists_eq_right', exists_and_left, exists_and_right, and_assoc, upd_same, reduceCtorEq, false_and, and_false, exists_false, or_false, false_or, at0, at1, atM1, sg_inj, dot_eq, plus_eq, minus_eq, rIxS, at2, at3, at4, at5, ix0, ix1, ix2, ix3, upd_upd, decide_eq_true_eq, Int.reduceLT, Int.reduceLE, Int.reduceAdd, Int.reduceSub, Int.reduceNeg, Int.reduceMul, Int.reducePow, Int.reduceEq, decide_true, decide_false, Int.cast_ofNat_Int, Int.natCast_zero, Int.natCast_one, Nat.reduceEqDiff, Nat.reduceLeDiff, rIsB, tyN_non, tyN_bl, tyN_int, tyN_str, tyN_ref, tyO_lst, tyO_tup, tyO_dK, tyO_dT, V.ty.injEq, ite_true, ite_false, if_true, if_false, Bool.not_true, Bool.not_false, Bool.false_eq_true, kb_int_int, kb_int_bool, kb_int_str, kb_int_tuple, kb_int_list, kb_int_dict, kb_bool_int, kb_bool_bool, kb_bool_str, kb_bool_tuple, kb_bool_list, kb_bool_dict, kb_str_int, kb_str_bool, kb_str_str, kb_str_tuple, kb_str_list, kb_str_dict, kb_NoneType_int, kb_NoneType_bool, kb_NoneType_str, kb_NoneType_tuple, kb_NoneType_list, kb_NoneType_dict, kb_list_int, kb_list_bool, kb_list_str, kb_list_tuple, kb_list_list, kb_list_dict, kb_tuple_int, kb_tuple_bool, kb_tuple_str, kb_tuple_tuple, kb_tuple_list, kb_tuple_dict, kb_dict_int, kb_dict_bool, kb_dict_str, kb_dict_tuple, kb_dict_list, kb_dict_dict, cp_2_53, pw_2_53, cp_10_9, pw_10_9, cp_10_10, pw_10_10, cp_10_18, pw_10_18, cp_10_20, pw_10_20, cp_10_29, pw_10_29, cp_10_30, pw_10_30]
        refine ⟨vs, .inl ⟨.inl (.inl hm5), ?_⟩⟩
        (intro q nq; (obtain ⟨H6, eqH, s6, e6⟩ := new_upd (o := .tup vs) nq); rw [← eqH]; clear eqH)
        refine ⟨size_le (by simp), ?_⟩
        (intro r nr; (obtain ⟨H7, eqH, s7, e7⟩ := new_upd (o := .tup [V.ref q, V.int c]) nr); rw [← eqH]; clear eqH)
        have s57 := sm5.trans (s6.trans s7)
        exact k r H7 (xsOf ts ys) ((sm5.trans s6).free nr) s57 (xsOf_canon up) (fun n => xsOf_wt up hm n) ⟨q, vs, e7, s7 _ _ e6, hv.im (Im.of (s6.trans s7))⟩
end
end K0
namespace K0
open PySem PySem.Spec PyProof.Rows L2
section
variable {P : Program} {w : World} {K : PySem.W.Frag} {mg : Str → Option Value} {base : Heap}
def spAdded : Sp := fun vs H Q _ => ∃ (a b : Addr) (ts us : List Trm) (c d f : Int), vs = [.ref a, .ref b, .int f] ∧ DueAt H a ts c ∧ DueAt H b us d ∧ ts.length ≤ 24 ∧ us.length ≤ 24 ∧ Sm 3000 f ∧ (∀ t ∈ us, Sm 3000 t.2) ∧ Sm 3000 d ∧
  ∀ r H' xs, H r = none → Same H H' → Canon xs → (∀ n, wt xs n = wt ts n + f * wt us n) → DueAt H' r xs (c + f * d) → Q (.ref r) H'
theorem sc_l_added : FnScope ["_law_one", "_law_two", "_law_factor", "_law_pairs_here", "_law_pair"] ["_law_one", "_law_two", "_law_factor"] (defScope s_l_added) := ⟨rfl, rfl, rfl, by decide +kernel, rfl, by decide +kernel, by decide +kernel⟩
theorem ok_l_added (T : Txt K mg) : FnOk P w K mg base CX0 2 (He.ga K "_law_added") (fdOf K (He.ga K "_law_added")) ["_law_one", "_law_two", "_law_factor"] (spAdded) := by
  refine T.F_l_added.ok sc_l_added (fun vs H Q E h => ?_) (fun cdv A outer s H vs Q E hr h => ?_)
  · obtain ⟨_, _, _, _, _, _, _, rfl, _⟩ := h
    rfl
  · obtain ⟨a, b, ts, us, c, d, f, rfl, ⟨q1, vs1, ha, hq1, ht⟩, ⟨q2, vs2, hb, hq2, hu⟩, l1, l2, sf, su, sd, k⟩ := h
    refine ⟨_, PSs.nox (pss_cons (ps_set (i := 3) sc_l_added.nd rfl (Or.inl rfl) (pe_op (op_cat) (pe_callTy call_list_of (by rfl) T.z_list (by decide +kernel) (pa_cons (pe_ix ixT (pv 0) pe_int (fun _ _ => rfl)) pa_nil)) (pe_lc (own := [("_law_pair", 4)]) (g := gName 4) (tt := tYes) (by rfl) sc_l_added.nd (pi_tup (pe_ix ixT (pv 1) pe_int (fun _ _ => rfl))) (blkOk_by (own := [("_law_pair", 4)]) (N := ["_law_one", "_law_two", "_law_factor", "_law_pairs_here", "_law_pair"]) (sc := defScope s_l_added) (by decide +kernel)) (fun _ _ _ _ _ => pg_name (i := 4) sc_l_added.nd rfl (Or.inl rfl)) (fun _ _ _ _ _ => pts_nil) (fun _ _ _ _ _ => (pe_tup (pa_cons (pe_ix ixT (pv 4) pe_int (fun _ _ => rfl)) (pa_cons (pe_op op_mulX (pv 2) (pe_ix ixT (pv 4) pe_int (fun _ _ => rfl))) pa_nil)))))))
      (pss_one (ps_ret (pe_call (ok_l_tidy T) (hr.mono (by decide)) (by rfl) T.g_l_tidy T.k_l_tidy T.b_l_tidy .nil pass0 (pa_cons (pv 3) (pa_cons (pe_op op_add (pe_ix ixT (pv 0) pe_int (fun _ _ => rfl)) (pe_op op_mulX (pv 2) (pe_ix ixT (pv 1) pe_int (fun _ _ => rfl)))) pa_nil)))))), ?_⟩
    simp only [tDNotIn, tDIn, tDGet, Option.isSome_some, Option.isSome_none, rIsO, isO_int, isO_str, isO_bl, isO_non, isO_ref, isOO_ins, isOO_lst, isOO_tup, isOO_dK, tMethR, StX.tMakeR, cxOf_K, tDNewK, tCallR, tNever, tSeq, tAsg, gName, tPar, tVar, tC, tOp, rI0, rI, rU, tUn, rEq, rNe, tTest, tB, tAnd, tOr, tNot, tAndV, tOrV, tNotV, tIf, tIfS, tRet, tRetN, tNext, tDrop, tCons, tNil, tCB, tCall, tTup, tLst, rIxLH, rIxTH, gSub, rSetL, tPart, tNoPart, tSl, tBM, tBM0, L2.start, sc_ii, sc_ss, sc_bb, sc_nn, sc_ni, sc_in, sc_ns, sc_sn, sc_is, sc_si, eq_self, tChain, List.map_cons, List.map_nil, List.replicate_succ, List.replicate_zero, List.length_cons, List.length_nil, Nat.reduceAdd, Nat.reduceSub, Nat.zero_add, Nat.sub_self, Nat.add_sub_cancel, List.cons_append, List.nil_append, List.append_nil, List.getElem?_cons_zero, List.getElem?_cons_succ, List.set_cons_zero, List.set_cons_succ, Option.some.injEq, V.int.injEq, V.ref.injEq, V.bl.injEq, V.str.injEq, List.cons.injEq, HO.lst.injEq, HO.tup.injEq, and_true, true_and, exists_eq_left', exists_eq_left, exists_eq', exists_eq, exists_eq_right, exists_eq_right', exists_and_left, exists_and_right, and_assoc, upd_same, reduceCtorEq, false_and, and_false, exists_false, or_false, false_or, at0, at1, atM1, sg_inj, dot_eq, plus_eq, minus_eq, rIxS, at2, at3, at4, at5, ix0, ix1, ix2, ix3, upd_upd, decide_eq_true_eq, Int.reduceLT, Int.reduceLE, Int.reduceAdd, Int.reduceSub, Int.reduceNeg, Int.reduceMul, Int.reducePow, Int.reduceEq, decide_true, decide_false, Int.cast_ofNat_Int, Int.natCast_zero, Int.natCast_one, Nat.reduceEqDiff, Nat.reduceLeDiff, rIsB, tyN_non, tyN_bl, tyN_int, tyN_str, tyN_ref, tyO_lst, tyO_tup, tyO_dK, tyO_dT, V.ty.injEq, ite_true, ite_false, if_true, if_false, Bool.not_true, Bool.not_false, Bool.false_eq_true, kb_int_int, kb_int_bool, kb_int_str, kb_int_tuple, kb_int_list, kb_int_dict, kb_bool_int, kb_bool_bool, kb_bool_str, kb_bool_tuple, kb_bool_list, kb_bool_dict, kb_str_int, kb_str_bool, kb_str_str, kb_str_tuple, kb_str_list, kb_str_dict, kb_NoneType_int, kb_NoneType_bool, kb_NoneType_str, kb_NoneType_tuple, kb_NoneType_list, kb_NoneType_dict, kb_list_int, kb_list_bool, kb_list_str, kb_list_tuple, kb_list_list, kb_list_dict, kb_tuple_int, kb_tuple_bool, kb_tuple_str, kb_tuple_tuple, kb_tuple_list, kb_tuple_dict, kb_dict_int, kb_dict_bool, kb_dict_str, kb_dict_tuple, kb_dict_list, kb_dict_dict, cp_2_53, pw_2_53, cp_10_9, pw_10_9, cp_10_10, pw_10_10, cp_10_18, pw_10_18, cp_10_20, pw_10_20, cp_10_29, pw_10_29, cp_10_30, pw_10_30, ha]
    refine ⟨vs1, .inr (.inl (.inl hq1)), ?_⟩
    (intro l nl; (obtain ⟨H1, eqH, s1, e1⟩ := new_upd (o := .lst vs1) nl); rw [← eqH]; clear eqH)
    have hb1 := s1 _ _ hb
    have hq21 := s1 _ _ hq2
    refine ⟨_, rfl, b, _, 0, .ref q2, rfl, rfl, hb1, rfl, q2, rfl, ⟨_, .inl (.inl hq21)⟩, fun D nD => lc_new walk_tup (fun j => (us.take j).map fun t => (t.1, f * t.2)) (vs := vs2) (fun H7 s7 => .inl (.inl (s7 _ _ hq21))) nD rfl (fun j hj => ?_) (fun j x H7 hx s7 A B hA hB => ?_) fun ws H2 s2 hD hw => ?_⟩
    · rw [List.length_map, List.length_take]; omega
    · obtain ⟨t, q, ht', rfl, hq⟩ := hu.at hx
      have hq7 := s7 _ _ (s1 _ _ hq)
      refine ⟨rfl, ?_⟩
      simp only [tYes, if_true, tDNotIn, tDIn, tDGet, Option.isSome_some, Option.isSome_none, rIsO, isO_int, isO_str, isO_bl, isO_non, isO_ref, isOO_ins, isOO_lst, isOO_tup, isOO_dK, tMethR, StX.tMakeR, cxOf_K, tDNewK, tCallR, tNever, tSeq, tAsg, gName, tPar, tVar, tC, tOp, rI0, rI, rU, tUn, rEq, rNe, tTest, tB, tAnd, tOr, tNot, tAndV, tOrV, tNotV, tIf, tIfS, tRet, tRetN, tNext, tDrop, tCons, tNil, tCB, tCall, tTup, tLst, rIxLH, rIxTH, gSub, rSetL, tPart, tNoPart, tSl, tBM, tBM0, L2.start, sc_ii, sc_ss, sc_bb, sc_nn, sc_ni, sc_in, sc_ns, sc_sn, sc_is, sc_si, eq_self, tChain, List.map_cons, List.map_nil, List.replicate_succ, List.replicate_zero, List.length_cons, List.length_nil, Nat.reduceAdd, Nat.reduceSub, Nat.zero_add, Nat.sub_self, Nat.add_sub_cancel, List.cons_append, List.nil_append, List.append_nil, List.getElem?_cons_zero, List.getElem?_cons_succ, List.set_cons_zero, List.set_cons_succ, Option.some.injEq, V.int.injEq, V.ref.injEq, V.bl.injEq, V.str.injEq, List.cons.injEq, HO.lst.injEq, HO.tup.injEq, and_true, true_and, exists_eq_left', exists_eq_left, exists_eq', exists_eq, exists_eq_right, exists_eq_right', exists_and_left, exists_and_right, and_assoc, upd_same, reduceCtorEq, false_and, and_false, exists_false, or_false, false_or, at0, at1, atM1, sg_inj, dot_eq, plus_eq, minus_eq, rIxS, at2, at3, at4, at5, ix0, ix1, ix2, ix3, upd_upd, decide_eq_true_eq, Int.reduceLT, Int.reduceLE, Int.reduceAdd, Int.reduceSub, Int.reduceNeg, Int.reduceMul, Int.reducePow, Int.reduceEq, decide_true, decide_false, Int.cast_ofNat_Int, Int.natCast_zero, Int.natCast_one, Nat.reduceEqDiff, Nat.reduceLeDiff, rIsB, tyN_non, tyN_bl, tyN_int, tyN_str, tyN_ref, tyO_lst, tyO_tup, tyO_dK, tyO_dT, V.ty.injEq, ite_true, ite_false, if_true, if_false, Bool.not_true, Bool.not_false, Bool.false_eq_true, kb_int_int, kb_int_bool, kb_int_str, kb_int_tuple, kb_int_list, kb_int_dict, kb_bool_int, kb_bool_bool, kb_bool_str, kb_bool_tuple, kb_bool_list, kb_bool_dict, kb_str_int, kb_str_bool, kb_str_str, kb_str_tuple, kb_str_list, kb_str_dict, kb_NoneType_int, kb_NoneType_bool, kb_NoneType_str, kb_NoneType_tuple, kb_NoneType_list, kb_NoneType_dict, kb_list_int, kb_list_bool, kb_list_str, kb_list_tuple, kb_list_list, kb_list_dict, kb_tuple_int, kb_tuple_bool, kb_tuple_str, kb_tuple_tuple, kb_tuple_list, kb_tuple_dict, kb_dict_int, kb_dict_bool, kb_dict_str, kb_dict_tuple, kb_dict_list, kb_dict_dict, cp_2_53, pw_2_53, cp_10_9, pw_10_9, cp_10_10, pw_10_10, cp_10_18, pw_10_18, cp_10_20, pw_10_20, cp_10_29, pw_10_29, cp_10_30, pw_10_30, hq7, wipe]
      refine ⟨sf.mulok (su t (List.mem_of_getElem? ht')), size_le (by simp), fun p np => ?_⟩
      exact hA p _ (t.1, f * t.2) (same_upd np) (by rw [take_s ht', List.map_append]; rfl) upd_same
    · rw [hu.1, List.take_length] at hw
      have s02 := s1.trans s2
      refine ⟨l, D, vs1, ws, rfl, rfl, s2 _ _ e1, hD, ?_, ?_⟩
      · rw [ht.1, hw.1, List.length_map]; exact size_le (by omega)
      · (intro m nm; (obtain ⟨H3, eqH, s3, e3⟩ := new_upd (o := .lst (vs1 ++ ws)) nm); rw [← eqH]; clear eqH)
        have s03 := s02.trans s3
        have ha3 := s03 _ _ ha
        have hb3 := s03 _ _ hb
        simp only [tDNotIn, tDIn, tDGet, Option.isSome_some, Option.isSome_none, rIsO, isO_int, isO_str, isO_bl, isO_non, isO_ref, isOO_ins, isOO_lst, isOO_tup, isOO_dK, tMethR, StX.tMakeR, cxOf_K, tDNewK, tCallR, tNever, tSeq, tAsg, gName, tPar, tVar, tC, tOp, rI0, rI, rU, tUn, rEq, rNe, tTest, tB, tAnd, tOr, tNot, tAndV, tOrV, tNotV, tIf, tIfS, tRet, tRetN, tNext, tDrop, tCons, tNil, tCB, tCall, tTup, tLst, rIxLH, rIxTH, gSub, rSetL, tPart, tNoPart, tSl, tBM, tBM0, L2.start, sc_ii, sc_ss, sc_bb, sc_nn, sc_ni, sc_in, sc_ns, sc_sn, sc_is, sc_si, eq_self, tChain, List.map_cons, List.map_nil, List.replicate_succ, List.replicate_zero, List.length_cons, List.length_nil, Nat.reduceAdd, Nat.reduceSub, Nat.zero_add, Nat.sub_self, Nat.add_sub_cancel, List.cons_append, List.nil_append, List.append_nil, List.getElem?_cons_zero, List.getElem?_cons_succ, List.set_cons_zero, List.set_cons_succ, Option.some.injEq, V.int.injEq, V.ref.injEq, V.bl.injEq, V.str.injEq, List.cons.injEq, HO.lst.injEq, HO.tup.injEq, and_true, true_and, exists_eq_left', exists_eq_left, exists_eq', exists_eq, exists_eq_right, exists_eq_right', exists_and_left, exists_and_right, and_assoc, upd_same, reduceCtorEq, false_and, and_false, exists_false, or_false, false_or, at0, at1, atM1, sg_inj, dot_eq, plus_eq, minus_eq, rIxS, at2, at3, at4, at5, ix0, ix1, ix2, ix3, upd_upd, decide_eq_true_eq, Int.reduceLT, Int.reduceLE, Int.reduceAdd, Int.reduceSub, Int.reduceNeg, Int.reduceMul, Int.reducePow, Int.reduceEq, decide_true, decide_false, Int.cast_ofNat_Int, Int.natCast_zero, Int.natCast_one, Nat.reduceEqDiff, Nat.reduceLeDiff, rIsB, tyN_non, tyN_bl, tyN_int, tyN_str, tyN_ref, tyO_lst, tyO_tup, tyO_dK, tyO_dT, V.ty.injEq, ite_true, ite_false, if_true, if_false, Bool.not_true, Bool.not_false, Bool.false_eq_true, kb_int_int, kb_int_bool, kb_int_str, kb_int_tuple, kb_int_list, kb_int_dict, kb_bool_int, kb_bool_bool, kb_bool_str, kb_bool_tuple, kb_bool_list, kb_bool_dict, kb_str_int, kb_str_bool, kb_str_str, kb_str_tuple, kb_str_list, kb_str_dict, kb_NoneType_int, kb_NoneType_bool, kb_NoneType_str, kb_NoneType_tuple, kb_NoneType_list, kb_NoneType_dict, kb_list_int, kb_list_bool, kb_list_str, kb_list_tuple, kb_list_list, kb_list_dict, kb_tuple_int, kb_tuple_bool, kb_tuple_str, kb_tuple_tuple, kb_tuple_list, kb_tuple_dict, kb_dict_int, kb_dict_bool, kb_dict_str, kb_dict_tuple, kb_dict_list, kb_dict_dict, cp_2_53, pw_2_53, cp_10_9, pw_10_9, cp_10_10, pw_10_10, cp_10_18, pw_10_18, cp_10_20, pw_10_20, cp_10_29, pw_10_29, cp_10_30, pw_10_30, ha3, hb3]
        refine ⟨sf.mulok sd, m, vs1 ++ ws, ts ++ us.map (fun t => (t.1, f * t.2)), c + f * d, rfl, e3, (ht.im (Im.of s03)).append (hw.im (Im.of s3)), ?_, fun r H4 xs nr s4 cn hwt du => k r H4 xs (s03.free nr) (s03.trans s4) cn (fun n => ?_) du⟩
        · rw [List.length_append, List.length_map]; omega
        · have := wt_scale f us n
          rw [hwt, wt_append, Int.mul_comm f, ← this]
          congr 2
          exact List.map_congr_left fun t _ => by rw [Int.mul_comm]
theorem Trms.cons0 {H : Hp} {vs : List V} {ts : List Trm} {i : Nat} {t : Trm} (h : Trms H vs ts) (e : ts[i]? = some t) : ∃ r, vs[i]? = some (.ref r) ∧ H r = some (.tup [.str t.1, .int t.2]) := by
  have hi : i < vs.length := by rw [h.1]; exact (List.getElem?_eq_some_iff.mp e).1
  obtain ⟨r, e1, e2⟩ := h.2 i vs[i] t (List.getElem?_eq_getElem hi) e
  exact ⟨r, by rw [List.getElem?_eq_getElem hi, e1], e2⟩
theorem wt_filter (n : Str) : ∀ (l : List Trm) (m : Str), wt (l.filter fun t => decide (t.1 ≠ n)) m = if m = n then 0 else wt l m := by
  intro l m
  induction l with
  | nil => simp [wt]
  | cons t u ih =>
    by_cases e : t.1 = n
    · rw [List.filter_cons, if_neg (by simp [e]), ih]
      by_cases e2 : m = n
      · rw [if_pos e2, if_pos e2]
      · rw [if_neg e2, if_neg e2]
        simp only [wt]; rw [if_neg (by rw [e]; exact fun z => e2 z.symm)]; omega
    · rw [List.filter_cons, if_pos (by simp [e])]
      simp only [wt, ih]
      by_cases e2 : m = n
      · rw [if_pos e2, if_pos e2, if_neg (by rw [e2]; exact e)]; rfl
      · rw [if_neg e2, if_neg e2]
def spLPut : Sp := fun vs H Q _ => ∃ (a b : Addr) (N : List Str) (ts us : List Trm) (c d : Int) (n : Str), vs = [.ref a, .str n, .ref b] ∧ DueAt H a ts c ∧ DueAt H b us d ∧ Pool N ∧ FB N 1000 ts c ∧ FB N 1000 us d ∧
  ∀ r H' xs, H r = none → Same H H' → Canon xs → (∀ m, wt xs m = (if m = n then 0 else wt ts m) + wt us m * wt ts n) → DueAt H' r xs (c + d * wt ts n) → Q (.ref r) H'
theorem sc_l_put : FnScope ["_law_one", "_law_text", "_law_other", "_law_weight_here", "_law_pair", "_law_rest"] ["_law_one", "_law_text", "_law_other"] (defScope s_l_put) := ⟨rfl, rfl, rfl, by decide +kernel, rfl, by decide +kernel, by decide +kernel⟩
theorem ok_l_put (T : Txt K mg) : FnOk P w K mg base CX0 3 (He.ga K "_law_put") (fdOf K (He.ga K "_law_put")) ["_law_one", "_law_text", "_law_other"] (spLPut) := by
  refine T.F_l_put.ok sc_l_put (fun vs H Q E h => ?_) (fun cdv A outer s H vs Q E hr h => ?_)
  · obtain ⟨_, _, _, _, _, _, _, _, rfl, _⟩ := h
    rfl
  · obtain ⟨a, b, N, ts, us, c, d, n, rfl, ⟨q1, vs1, ha, hq1, ht⟩, hB, pl, fb, gb, k⟩ := h
    refine ⟨_, PSs.nox (pss_cons (ps_set (i := 3) sc_l_put.nd rfl (Or.inl rfl) (pe_callB (cr_sum rfl) (by rfl) T.z_sum (by decide +kernel) (pa_cons (pe_lc (own := [("_law_pair", 4)]) (g := gName 4) (by rfl) sc_l_put.nd (pi_tup (pe_ix ixT (pv 0) pe_int (fun _ _ => rfl))) (blkOk_by (own := [("_law_pair", 4)]) (N := ["_law_one", "_law_text", "_law_other", "_law_weight_here", "_law_pair", "_law_rest"]) (sc := defScope s_l_put) (by decide +kernel)) (fun _ _ _ _ _ => pg_name (i := 4) sc_l_put.nd rfl (Or.inl rfl)) (fun _ _ _ _ _ => pts_one (pt_cmpR op_eq (pe_ix ixT (pv 4) pe_int (fun _ _ => rfl)) (pv 1) (nomark _))) (fun _ _ _ _ _ => (pe_ix ixT (pv 4) pe_int (fun _ _ => rfl)))) pa_nil)))
      (pss_cons (ps_set (i := 5) sc_l_put.nd rfl (Or.inl rfl) (pe_call (ok_l_tidy T) (hr.mono (by decide)) (by rfl) T.g_l_tidy T.k_l_tidy T.b_l_tidy .nil pass0 (pa_cons (pe_lc (own := [("_law_pair", 4)]) (g := gName 4) (by rfl) sc_l_put.nd (pi_tup (pe_ix ixT (pv 0) pe_int (fun _ _ => rfl))) (blkOk_by (own := [("_law_pair", 4)]) (N := ["_law_one", "_law_text", "_law_other", "_law_weight_here", "_law_pair", "_law_rest"]) (sc := defScope s_l_put) (by decide +kernel)) (fun _ _ _ _ _ => pg_name (i := 4) sc_l_put.nd rfl (Or.inl rfl)) (fun _ _ _ _ _ => pts_one (pt_cmpR op_ne (pe_ix ixT (pv 4) pe_int (fun _ _ => rfl)) (pv 1) (nomark _))) (fun _ _ _ _ _ => (pv 4))) (pa_cons (pe_ix ixT (pv 0) pe_int (fun _ _ => rfl)) pa_nil))))
      (pss_one (ps_ret (pe_call (ok_l_added T) (hr.mono (by decide)) (by rfl) T.g_l_added T.k_l_added T.b_l_added .nil pass0 (pa_cons (pv 5) (pa_cons (pv 2) (pa_cons (pv 3) pa_nil)))))))), ?_⟩
    simp only [tDNotIn, tDIn, tDGet, Option.isSome_some, Option.isSome_none, rIsO, isO_int, isO_str, isO_bl, isO_non, isO_ref, isOO_ins, isOO_lst, isOO_tup, isOO_dK, tMethR, StX.tMakeR, cxOf_K, tDNewK, tCallR, tNever, tSeq, tAsg, gName, tPar, tVar, tC, tOp, rI0, rI, rU, tUn, rEq, rNe, tTest, tB, tAnd, tOr, tNot, tAndV, tOrV, tNotV, tIf, tIfS, tRet, tRetN, tNext, tDrop, tCons, tNil, tCB, tCall, tTup, tLst, rIxLH, rIxTH, gSub, rSetL, tPart, tNoPart, tSl, tBM, tBM0, L2.start, sc_ii, sc_ss, sc_bb, sc_nn, sc_ni, sc_in, sc_ns, sc_sn, sc_is, sc_si, eq_self, tChain, List.map_cons, List.map_nil, List.replicate_succ, List.replicate_zero, List.length_cons, List.length_nil, Nat.reduceAdd, Nat.reduceSub, Nat.zero_add, Nat.sub_self, Nat.add_sub_cancel, List.cons_append, List.nil_append, List.append_nil, List.getElem?_cons_zero, List.getElem?_cons_succ, List.set_cons_zero, List.set_cons_succ, Option.some.injEq, V.int.injEq, V.ref.injEq, V.bl.injEq, V.str.injEq, List.cons.injEq, HO.lst.injEq, HO.tup.injEq, and_true, true_and, exists_eq_left', exists_eq_left, exists_eq', exists_eq, exists_eq_right, exists_eq_right', exists_and_left, exists_and_right, and_assoc, upd_same, reduceCtorEq, false_and, and_false, exists_false, or_false, false_or, at0, at1, atM1, sg_inj, dot_eq, plus_eq, minus_eq, rIxS, at2, at3, at4, at5, ix0, ix1, ix2, ix3, upd_upd, decide_eq_true_eq, Int.reduceLT, Int.reduceLE, Int.reduceAdd, Int.reduceSub, Int.reduceNeg, Int.reduceMul, Int.reducePow, Int.reduceEq, decide_true, decide_false, Int.cast_ofNat_Int, Int.natCast_zero, Int.natCast_one, Nat.reduceEqDiff, Nat.reduceLeDiff, rIsB, tyN_non, tyN_bl, tyN_int, tyN_str, tyN_ref, tyO_lst, tyO_tup, tyO_dK, tyO_dT, V.ty.injEq, ite_true, ite_false, if_true, if_false, Bool.not_true, Bool.not_false, Bool.false_eq_true, kb_int_int, kb_int_bool, kb_int_str, kb_int_tuple, kb_int_list, kb_int_dict, kb_bool_int, kb_bool_bool, kb_bool_str, kb_bool_tuple, kb_bool_list, kb_bool_dict, kb_str_int, kb_str_bool, kb_str_str, kb_str_tuple, kb_str_list, kb_str_dict, kb_NoneType_int, kb_NoneType_bool, kb_NoneType_str, kb_NoneType_tuple, kb_NoneType_list, kb_NoneType_dict, kb_list_int, kb_list_bool, kb_list_str, kb_list_tuple, kb_list_list, kb_list_dict, kb_tuple_int, kb_tuple_bool, kb_tuple_str, kb_tuple_tuple, kb_tuple_list, kb_tuple_dict, kb_dict_int, kb_dict_bool, kb_dict_str, kb_dict_tuple, kb_dict_list, kb_dict_dict, cp_2_53, pw_2_53, cp_10_9, pw_10_9, cp_10_10, pw_10_10, cp_10_18, pw_10_18, cp_10_20, pw_10_20, cp_10_29, pw_10_29, cp_10_30, pw_10_30]
    have l1 : ts.length ≤ 12 := by have := fb.len; have := pl.l; omega
    have l2 : us.length ≤ 12 := by have := gb.len; have := pl.l; omega
    refine ⟨_, rfl, a, _, 0, .ref q1, rfl, rfl, ha, rfl, q1, rfl, ⟨_, .inl (.inl hq1)⟩, fun D nD => lc_pure walk_tup (fun j => (pk (ts.take j) n).map V.int) (vs := vs1) (fun H7 s7 => .inl (.inl (s7 _ _ hq1))) nD rfl (fun j hj => ?_) (fun j x H7 hx s7 A B hA hB => ?_) fun H1 s1 hD => ?_⟩
    · rw [List.length_map]
      refine Nat.le_trans (pk_len _ _) ?_
      rw [List.length_take]; omega
    · obtain ⟨t, q, ht', rfl, hq⟩ := ht.at hx
      have hq7 := s7 _ _ hq
      refine ⟨rfl, ?_⟩
      simp only [tDNotIn, tDIn, tDGet, Option.isSome_some, Option.isSome_none, rIsO, isO_int, isO_str, isO_bl, isO_non, isO_ref, isOO_ins, isOO_lst, isOO_tup, isOO_dK, tMethR, StX.tMakeR, cxOf_K, tDNewK, tCallR, tNever, tSeq, tAsg, gName, tPar, tVar, tC, tOp, rI0, rI, rU, tUn, rEq, rNe, tTest, tB, tAnd, tOr, tNot, tAndV, tOrV, tNotV, tIf, tIfS, tRet, tRetN, tNext, tDrop, tCons, tNil, tCB, tCall, tTup, tLst, rIxLH, rIxTH, gSub, rSetL, tPart, tNoPart, tSl, tBM, tBM0, L2.start, sc_ii, sc_ss, sc_bb, sc_nn, sc_ni, sc_in, sc_ns, sc_sn, sc_is, sc_si, eq_self, tChain, List.map_cons, List.map_nil, List.replicate_succ, List.replicate_zero, List.length_cons, List.length_nil, Nat.reduceAdd, Nat.reduceSub, Nat.zero_add, Nat.sub_self, Nat.add_sub_cancel, List.cons_append, List.nil_append, List.append_nil, List.getElem?_cons_zero, List.getElem?_cons_succ, List.set_cons_zero, List.set_cons_succ, Option.some.injEq, V.int.injEq, V.ref.injEq, V.bl.injEq, V.str.injEq, List.cons.injEq, HO.lst.injEq, HO.tup.injEq, and_true, true_and, exists_eq_left', exists_eq_left, exists_eq', exists_eq, exists_eq_right, exists_eq_right', exists_and_left, exists_and_right, and_assoc, upd_same, reduceCtorEq, false_and, and_false, exists_false, or_false, false_or, at0, at1, atM1, sg_inj, dot_eq, plus_eq, minus_eq, rIxS, at2, at3, at4, at5, ix0, ix1, ix2, ix3, upd_upd, decide_eq_true_eq, Int.reduceLT, Int.reduceLE, Int.reduceAdd, Int.reduceSub, Int.reduceNeg, Int.reduceMul, Int.reducePow, Int.reduceEq, decide_true, decide_false, Int.cast_ofNat_Int, Int.natCast_zero, Int.natCast_one, Nat.reduceEqDiff, Nat.reduceLeDiff, rIsB, tyN_non, tyN_bl, tyN_int, tyN_str, tyN_ref, tyO_lst, tyO_tup, tyO_dK, tyO_dT, V.ty.injEq, ite_true, ite_false, if_true, if_false, Bool.not_true, Bool.not_false, Bool.false_eq_true, kb_int_int, kb_int_bool, kb_int_str, kb_int_tuple, kb_int_list, kb_int_dict, kb_bool_int, kb_bool_bool, kb_bool_str, kb_bool_tuple, kb_bool_list, kb_bool_dict, kb_str_int, kb_str_bool, kb_str_str, kb_str_tuple, kb_str_list, kb_str_dict, kb_NoneType_int, kb_NoneType_bool, kb_NoneType_str, kb_NoneType_tuple, kb_NoneType_list, kb_NoneType_dict, kb_list_int, kb_list_bool, kb_list_str, kb_list_tuple, kb_list_list, kb_list_dict, kb_tuple_int, kb_tuple_bool, kb_tuple_str, kb_tuple_tuple, kb_tuple_list, kb_tuple_dict, kb_dict_int, kb_dict_bool, kb_dict_str, kb_dict_tuple, kb_dict_list, kb_dict_dict, cp_2_53, pw_2_53, cp_10_9, pw_10_9, cp_10_10, pw_10_10, cp_10_18, pw_10_18, cp_10_20, pw_10_20, cp_10_29, pw_10_29, cp_10_30, pw_10_30, hq7, wipe]
      rw [pk_take n ht', List.map_append] at hA hB
      refine ite2 (fun e => hA _ ?_) fun e => hB ?_
      · rw [if_pos e]; rfl
      · rw [if_neg e]; simp
    · rw [ht.1, List.take_length] at hD
      refine ⟨D, _, rfl, .inl (.inl hD), ?_⟩
      rw [pk_sum]
      have ha1 := s1 _ _ ha
      have hq11 := s1 _ _ hq1
      refine ⟨_, rfl, a, _, 0, .ref q1, rfl, rfl, ha1, rfl, q1, rfl, ⟨_, .inl (.inl hq11)⟩, fun E nE => lc_new walk_tup (fun j => (ts.take j).filter fun t => decide (t.1 ≠ n)) (vs := vs1) (fun H7 s7 => .inl (.inl (s7 _ _ hq11))) nE rfl (fun j hj => ?_) (fun j x H7 hx s7 A B hA hB => ?_) fun ws H2 s2 hE hw => ?_⟩
      · refine Nat.le_trans (List.length_filter_le _ _) ?_
        rw [List.length_take]; omega
      · obtain ⟨t, q, ht', rfl, hq⟩ := ht.at hx
        have hq7 := s7 _ _ (s1 _ _ hq)
        refine ⟨rfl, ?_⟩
        simp only [tDNotIn, tDIn, tDGet, Option.isSome_some, Option.isSome_none, rIsO, isO_int, isO_str, isO_bl, isO_non, isO_ref, isOO_ins, isOO_lst, isOO_tup, isOO_dK, tMethR, StX.tMakeR, cxOf_K, tDNewK, tCallR, tNever, tSeq, tAsg, gName, tPar, tVar, tC, tOp, rI0, rI, rU, tUn, rEq, rNe, tTest, tB, tAnd, tOr, tNot, tAndV, tOrV, tNotV, tIf, tIfS, tRet, tRetN, tNext, tDrop, tCons, tNil, tCB, tCall, tTup, tLst, rIxLH, rIxTH, gSub, rSetL, tPart, tNoPart, tSl, tBM, tBM0, L2.start, sc_ii, sc_ss, sc_bb, sc_nn, sc_ni, sc_in, sc_ns, sc_sn, sc_is, sc_si, eq_self, tChain, List.map_cons, List.map_nil, List.replicate_succ, List.replicate_zero, List.length_cons, List.length_nil, Nat.reduceAdd, Nat.reduceSub, Nat.zero_add, Nat.sub_self, Nat.add_sub_cancel, List.cons_append, List.nil_append, List.append_nil, List.getElem?_cons_zero, List.getElem?_cons_succ, List.set_cons_zero, List.set_cons_succ, Option.some.injEq, V.int.injEq, V.ref.injEq, V.bl.injEq, V.str.injEq, List.cons.injEq, HO.lst.injEq, HO.tup.injEq, and_true, true_and, exists_eq_left', exists_eq_left, exists_eq', exists_eq, exists_eq_right, exists_eq_right', exists_and_left, exists_and_right, and_assoc, upd_same, reduceCtorEq, false_and, and_false, exists_false, or_false, false_or, at0, at1, atM1, sg_inj, dot_eq, plus_eq, minus_eq, rIxS, at2, at3, at4, at5, ix0, ix1, ix2, ix3, upd_upd, decide_eq_true_eq, Int.reduceLT, Int.reduceLE, Int.reduceAdd, Int.reduceSub, Int.reduceNeg, Int.reduceMul, Int.reducePow, Int.reduceEq, decide_true, decide_false, Int.cast_ofNat_Int, Int.natCast_zero, Int.natCast_one, Nat.reduceEqDiff, Nat.reduceLeDiff, rIsB, tyN_non, tyN_bl, tyN_int, tyN_str, tyN_ref, tyO_lst, tyO_tup, tyO_dK, tyO_dT, V.ty.injEq, ite_true, ite_false, if_true, if_false, Bool.not_true, Bool.not_false, Bool.false_eq_true, kb_int_int, kb_int_bool, kb_int_str, kb_int_tuple, kb_int_list, kb_int_dict, kb_bool_int, kb_bool_bool, kb_bool_str, kb_bool_tuple, kb_bool_list, kb_bool_dict, kb_str_int, kb_str_bool, kb_str_str, kb_str_tuple, kb_str_list, kb_str_dict, kb_NoneType_int, kb_NoneType_bool, kb_NoneType_str, kb_NoneType_tuple, kb_NoneType_list, kb_NoneType_dict, kb_list_int, kb_list_bool, kb_list_str, kb_list_tuple, kb_list_list, kb_list_dict, kb_tuple_int, kb_tuple_bool, kb_tuple_str, kb_tuple_tuple, kb_tuple_list, kb_tuple_dict, kb_dict_int, kb_dict_bool, kb_dict_str, kb_dict_tuple, kb_dict_list, kb_dict_dict, cp_2_53, pw_2_53, cp_10_9, pw_10_9, cp_10_10, pw_10_10, cp_10_18, pw_10_18, cp_10_20, pw_10_20, cp_10_29, pw_10_29, cp_10_30, pw_10_30, hq7, wipe]
        rw [take_s ht', List.filter_append] at hA hB
        by_cases e : t.1 = n
        · rw [if_neg (by simp [e])]
          exact hB (by simp [e])
        · rw [if_pos (by simp [e])]
          exact hA q H7 t (Same.refl _) (by simp [e]) hq7
      · rw [ht.1, List.take_length] at hw
        have s02 := s1.trans s2
        have ha2 := s02 _ _ ha
        simp only [tDNotIn, tDIn, tDGet, Option.isSome_some, Option.isSome_none, rIsO, isO_int, isO_str, isO_bl, isO_non, isO_ref, isOO_ins, isOO_lst, isOO_tup, isOO_dK, tMethR, StX.tMakeR, cxOf_K, tDNewK, tCallR, tNever, tSeq, tAsg, gName, tPar, tVar, tC, tOp, rI0, rI, rU, tUn, rEq, rNe, tTest, tB, tAnd, tOr, tNot, tAndV, tOrV, tNotV, tIf, tIfS, tRet, tRetN, tNext, tDrop, tCons, tNil, tCB, tCall, tTup, tLst, rIxLH, rIxTH, gSub, rSetL, tPart, tNoPart, tSl, tBM, tBM0, L2.start, sc_ii, sc_ss, sc_bb, sc_nn, sc_ni, sc_in, sc_ns, sc_sn, sc_is, sc_si, eq_self, tChain, List.map_cons, List.map_nil, List.replicate_succ, List.replicate_zero, List.length_cons, List.length_nil, Nat.reduceAdd, Nat.reduceSub, Nat.zero_add, Nat.sub_self, Nat.add_sub_cancel, List.cons_append, List.nil_append, List.append_nil, List.getElem?_cons_zero, List.getElem?_cons_succ, List.set_cons_zero, List.set_cons_succ, Option.some.injEq, V.int.injEq, V.ref.injEq, V.bl.injEq, V.str.injEq, List.cons.injEq, HO.lst.injEq, HO.tup.injEq, and_true, true_and, exists_eq_left', exists_eq_left, exists_eq', exists_eq, exists_eq_right, exists_eq_right', exists_and_left, exists_and_right, and_assoc, upd_same, reduceCtorEq, false_and, and_false, exists_false, or_false, false_or, at0, at1, atM1, sg_inj, dot_eq, plus_eq, minus_eq, rIxS, at2, at3, at4, at5, ix0, ix1, ix2, ix3, upd_upd, decide_eq_true_eq, Int.reduceLT, Int.reduceLE, Int.reduceAdd, Int.reduceSub, Int.reduceNeg, Int.reduceMul, Int.reducePow, Int.reduceEq, decide_true, decide_false, Int.cast_ofNat_Int, Int.natCast_zero, Int.natCast_one, Nat.reduceEqDiff, Nat.reduceLeDiff, rIsB, tyN_non, tyN_bl, tyN_int, tyN_str, tyN_ref, tyO_lst, tyO_tup, tyO_dK, tyO_dT, V.ty.injEq, ite_true, ite_false, if_true, if_false, Bool.not_true, Bool.not_false, Bool.false_eq_true, kb_int_int, kb_int_bool, kb_int_str, kb_int_tuple, kb_int_list, kb_int_dict, kb_bool_int, kb_bool_bool, kb_bool_str, kb_bool_tuple, kb_bool_list, kb_bool_dict, kb_str_int, kb_str_bool, kb_str_str, kb_str_tuple, kb_str_list, kb_str_dict, kb_NoneType_int, kb_NoneType_bool, kb_NoneType_str, kb_NoneType_tuple, kb_NoneType_list, kb_NoneType_dict, kb_list_int, kb_list_bool, kb_list_str, kb_list_tuple, kb_list_list, kb_list_dict, kb_tuple_int, kb_tuple_bool, kb_tuple_str, kb_tuple_tuple, kb_tuple_list, kb_tuple_dict, kb_dict_int, kb_dict_bool, kb_dict_str, kb_dict_tuple, kb_dict_list, kb_dict_dict, cp_2_53, pw_2_53, cp_10_9, pw_10_9, cp_10_10, pw_10_10, cp_10_18, pw_10_18, cp_10_20, pw_10_20, cp_10_29, pw_10_29, cp_10_30, pw_10_30, ha2]
        have fl : ∀ t ∈ ts.filter (fun t => decide (t.1 ≠ n)), t ∈ ts := fun t h => (List.mem_filter.mp h).1
        have hlf := List.length_filter_le (fun t : Trm => decide (t.1 ≠ n)) ts
        refine ⟨E, ws, _, c, rfl, hE, hw, by omega, fun r H3 xs nr s3 cn hwt du => ?_⟩
        have hw' : ∀ m, wt xs m = if m = n then 0 else wt ts m := fun m => by rw [hwt, wt_filter]
        have s03 := s02.trans s3
        have f1 : ∀ m, (if m = n then 0 else wt ts m) ≠ 0 → m ∈ N := by
          intro m hm
          by_cases e : m = n
          · rw [if_pos e] at hm; exact absurd rfl hm
          · rw [if_neg e] at hm; exact fb.wn hm
        have f2 : ∀ m, Sm 3000 (if m = n then 0 else wt ts m) := by
          intro m
          by_cases e : m = n
          · rw [if_pos e]; exact Sm.zero
          · rw [if_neg e]; exact (fb.wb m).mono (by decide)
        have fx : FB N 3000 xs c := FB.of cn hw' f1 f2 (fb.bc.mono (by decide))
        have l3 : xs.length ≤ 12 := by have := fx.len; have := pl.l; omega
        refine ⟨r, b, xs, us, c, d, wt ts n, rfl, du, hB.im (Im.of s03), by omega, by omega, (fb.wb n).mono (by decide), fun t h => (gb.bw t h).mono (by decide), gb.bc.mono (by decide), fun r2 H4 zs nr2 s4 cn4 hw4 du4 => ?_⟩
        refine k r2 H4 zs (s03.free nr2) (s03.trans s4) cn4 (fun m => by rw [hw4, hw', Int.mul_comm]) ?_
        rw [Int.mul_comm d]; exact du4
end
end K0
namespace K0
open PySem PySem.Spec PyProof.Rows L2
/-- a world whose levels are ratios of at most n digits -/
def WorldB (H : Hp) (d : Addr) (N : List Str) (lv : Str → Rat) : Prop := ∃ kvs, H d = some (.dK kvs) ∧ kvs.length ≤ 200 ∧ ∀ n ∈ N, RB 1100 (lv n) ∧ ∃ r, valV kvs (Sum.inr n : Key) = some (.ref r) ∧ H r = some (prT (lv n))
theorem m3ok {n m : Nat} {x y : Int} (h : Sm n x) (k : Sm m y) (h1 : 0 < n) (h2 : n + m ≤ 1000000) (h3 : 0 < m := by omega) : CMulX x y := h.mulok k h1 h3 h2
section
variable {P : Program} {w : World} {K : PySem.W.Frag} {mg : Str → Option Value} {base : Heap}
def spPairIs : Sp := fun vs H Q _ => ∃ (p q : Addr) (a b : Int), vs = [.ref p, .ref q] ∧ H p = some (.tup [.int a, .int b]) ∧ H q = some (.tup [.int a, .int b]) ∧ Q (.bl true) H
theorem sc_l_pair_is : FnScope ["_law_found", "_law_pair"] ["_law_found", "_law_pair"] (defScope s_l_pair_is) := ⟨rfl, rfl, rfl, by decide +kernel, rfl, by decide +kernel, by decide +kernel⟩
theorem ok_l_pair_is (T : Txt K mg) : FnOk P w K mg base CX0 2 (He.ga K "_law_pair_is") (fdOf K (He.ga K "_law_pair_is")) ["_law_found", "_law_pair"] (spPairIs) := by
  refine T.F_l_pair_is.ok sc_l_pair_is (fun vs H Q E h => ?_) (fun cdv A outer s H vs Q E hr h => ?_)
  · obtain ⟨_, _, _, _, rfl, _⟩ := h
    rfl
  · obtain ⟨p, q, a, b, rfl, hp, hq, k⟩ := h
    refine ⟨_, PSs.nox (pss_cons (ps_if (PW.pt (pw_or (pt_not (pt_val (pe_callB call_isiB (by rfl) T.z_isinstance (by decide +kernel) (pa_cons (pv 0) (pa_cons (pe_bltn (v := .ty "tuple") (by rfl) T.z_tuple (by decide +kernel) rfl) pa_nil))))) (pw_or1 (pt_cmpR op_ne (pe_callB call_lenT (by rfl) T.z_len PySem.boot_len (pa_cons (pv 0) pa_nil)) pe_int (nomark _))))) (pss_one (ps_ret pe_bl)) pss_nil)
      (pss_cons (ps_if (PW.pt (pw_or (pt_not (pt_val (pe_call (ok_l_whole T) (hr.mono (by decide)) (by rfl) T.g_l_whole T.k_l_whole T.b_l_whole .nil pass0 (pa_cons (pe_ix ixT (pv 0) pe_int (fun _ _ => rfl)) pa_nil)))) (pw_or1 (pt_not (pt_val (pe_call (ok_l_whole T) (hr.mono (by decide)) (by rfl) T.g_l_whole T.k_l_whole T.b_l_whole .nil pass0 (pa_cons (pe_ix ixT (pv 0) pe_int (fun _ _ => rfl)) pa_nil))))))) (pss_one (ps_ret pe_bl)) pss_nil)
      (pss_one (ps_ret (pe_and (pe_cmpR op_eq (pe_ix ixT (pv 0) pe_int (fun _ _ => rfl)) (pe_ix ixT (pv 1) pe_int (fun _ _ => rfl)) (nomark _)) (pe_one (pe_cmpR op_eq (pe_ix ixT (pv 0) pe_int (fun _ _ => rfl)) (pe_ix ixT (pv 1) pe_int (fun _ _ => rfl)) (nomark _)))))))), ?_⟩
    simp only [tDNotIn, tDIn, tDGet, Option.isSome_some, Option.isSome_none, rIsO, isO_int, isO_str, isO_bl, isO_non, isO_ref, isOO_ins, isOO_lst, isOO_tup, isOO_dK, tMethR, StX.tMakeR, cxOf_K, tDNewK, tCallR, tNever, tSeq, tAsg, gName, tPar, tVar, tC, tOp, rI0, rI, rU, tUn, rEq, rNe, tTest, tB, tAnd, tOr, tNot, tAndV, tOrV, tNotV, tIf, tIfS, tRet, tRetN, tNext, tDrop, tCons, tNil, tCB, tCall, tTup, tLst, rIxLH, rIxTH, gSub, rSetL, tPart, tNoPart, tSl, tBM, tBM0, L2.start, sc_ii, sc_ss, sc_bb, sc_nn, sc_ni, sc_in, sc_ns, sc_sn, sc_is, sc_si, eq_self, tChain, List.map_cons, List.map_nil, List.replicate_succ, List.replicate_zero, List.length_cons, List.length_nil, Nat.reduceAdd, Nat.reduceSub, Nat.zero_add, Nat.sub_self, Nat.add_sub_cancel, List.cons_append, List.nil_append, List.append_nil, List.getElem?_cons_zero, List.getElem?_cons_succ, List.set_cons_zero, List.set_cons_succ, Option.some.injEq, V.int.injEq, V.ref.injEq, V.bl.injEq, V.str.injEq, List.cons.injEq, HO.lst.injEq, HO.tup.injEq, and_true, true_and, exists_eq_left', exists_eq_left, exists_eq', exists_eq, exists_eq_right, exists_eq_right', exists_and_left, exists_and_right, and_assoc, upd_same, reduceCtorEq, false_and, and_false, exists_false, or_false, false_or, at0, at1, atM1, sg_inj, dot_eq, plus_eq, minus_eq, rIxS, at2, at3, at4, at5, ix0, ix1, ix2, ix3, upd_upd, decide_eq_true_eq, Int.reduceLT, Int.reduceLE, Int.reduceAdd, Int.reduceSub, Int.reduceNeg, Int.reduceMul, Int.reducePow, Int.reduceEq, decide_true, decide_false, Int.cast_ofNat_Int, Int.natCast_zero, Int.natCast_one, Nat.reduceEqDiff, Nat.reduceLeDiff, rIsB, tyN_non, tyN_bl, tyN_int, tyN_str, tyN_ref, tyO_lst, tyO_tup, tyO_dK, tyO_dT, V.ty.injEq, ite_true, ite_false, if_true, if_false, Bool.not_true, Bool.not_false, Bool.false_eq_true, kb_int_int, kb_int_bool, kb_int_str, kb_int_tuple, kb_int_list, kb_int_dict, kb_bool_int, kb_bool_bool, kb_bool_str, kb_bool_tuple, kb_bool_list, kb_bool_dict, kb_str_int, kb_str_bool, kb_str_str, kb_str_tuple, kb_str_list, kb_str_dict, kb_NoneType_int, kb_NoneType_bool, kb_NoneType_str, kb_NoneType_tuple, kb_NoneType_list, kb_NoneType_dict, kb_list_int, kb_list_bool, kb_list_str, kb_list_tuple, kb_list_list, kb_list_dict, kb_tuple_int, kb_tuple_bool, kb_tuple_str, kb_tuple_tuple, kb_tuple_list, kb_tuple_dict, kb_dict_int, kb_dict_bool, kb_dict_str, kb_dict_tuple, kb_dict_list, kb_dict_dict, cp_2_53, pw_2_53, cp_10_9, pw_10_9, cp_10_10, pw_10_10, cp_10_18, pw_10_18, cp_10_20, pw_10_20, cp_10_29, pw_10_29, cp_10_30, pw_10_30, hp, hq, spWhole]
    exact k
def spFormIs (C : Addr) : Sp := fun vs H Q _ => ∃ (a b : Addr) (ts : List Trm) (c : Int), vs = [.ref a, .ref b] ∧ FormAt C H a ts c ∧ DueAt H b ts c ∧ ts.length ≤ 100 ∧ Q (.bl true) H
theorem sc_l_form_is : FnScope ["_law_found", "_law_due", "_law_k", "_law_pair"] ["_law_found", "_law_due"] (defScope s_l_form_is) := ⟨rfl, rfl, rfl, by decide +kernel, rfl, by decide +kernel, by decide +kernel⟩
theorem ok_l_form_is (T : Txt K mg) : FnOk P w K mg base CX0 2 (He.ga K "_law_form_is") (fdOf K (He.ga K "_law_form_is")) ["_law_found", "_law_due"] (spFormIs (He.ga K "Form")) := by
  refine T.F_l_form_is.ok sc_l_form_is (fun vs H Q E h => ?_) (fun cdv A outer s H vs Q E hr h => ?_)
  · obtain ⟨_, _, _, _, rfl, _⟩ := h
    rfl
  · obtain ⟨a, b, ts, c, rfl, ⟨dx, r, vs, ha, hr1, ht⟩, ⟨q, ws, hb, hq, hu⟩, hl, k⟩ := h
    refine ⟨_, PSs.nox (pss_cons (ps_if (PW.pt (pw_or (pt_not (pt_val (pe_callB (call_isiO T.is_Form) (by rfl) T.z_isinstance (by decide +kernel) (pa_cons (pv 0) (pa_cons (pe_glob (v := .ref (He.ga K "Form")) (by rfl) T.g_Form rfl) pa_nil))))) (pw_or (pt_not (pt_val (pe_callB call_isiB (by rfl) T.z_isinstance (by decide +kernel) (pa_cons (pe_fld (pv 0) rfl) (pa_cons (pe_bltn (v := .ty "tuple") (by rfl) T.z_tuple (by decide +kernel) rfl) pa_nil))))) (pw_or1 (pt_cmpR op_ne (pe_callB call_lenT (by rfl) T.z_len PySem.boot_len (pa_cons (pe_fld (pv 0) rfl) pa_nil)) (pe_callB call_lenT (by rfl) T.z_len PySem.boot_len (pa_cons (pe_ix ixT (pv 1) pe_int (fun _ _ => rfl)) pa_nil)) (nomark _)))))) (pss_one (ps_ret pe_bl)) pss_nil)
      (pss_cons (ps_for PassesOwn.never rfl (pi_range1 (by rfl) T.z_range (pa_cons (pe_callB call_lenT (by rfl) T.z_len PySem.boot_len (pa_cons (pe_ix ixT (pv 1) pe_int (fun _ _ => rfl)) pa_nil)) pa_nil)) (pg_name (i := 2) sc_l_form_is.nd rfl (Or.inl rfl)) (pss_cons (ps_set (i := 3) sc_l_form_is.nd rfl (Or.inl rfl) (pe_ix ixT (pe_fld (pv 0) rfl) (pv 2) (fun _ _ => rfl)))
      (pss_cons (ps_if (PW.pt (pw_or (pt_not (pt_val (pe_callB call_isiB (by rfl) T.z_isinstance (by decide +kernel) (pa_cons (pv 3) (pa_cons (pe_bltn (v := .ty "tuple") (by rfl) T.z_tuple (by decide +kernel) rfl) pa_nil))))) (pw_or1 (pt_cmpR op_ne (pe_callB call_lenT (by rfl) T.z_len PySem.boot_len (pa_cons (pv 3) pa_nil)) pe_int (nomark _))))) (pss_one (ps_ret pe_bl)) pss_nil)
      (pss_cons (ps_if (PW.pt (pw_or (pt_not (pt_val (pe_callB call_isiB (by rfl) T.z_isinstance (by decide +kernel) (pa_cons (pe_ix ixT (pv 3) pe_int (fun _ _ => rfl)) (pa_cons (pe_bltn (v := .ty "str") (by rfl) T.z_str (by decide +kernel) rfl) pa_nil))))) (pw_or1 (pt_not (pt_val (pe_call (ok_l_whole T) (hr.mono (by decide)) (by rfl) T.g_l_whole T.k_l_whole T.b_l_whole .nil pass0 (pa_cons (pe_ix ixT (pv 3) pe_int (fun _ _ => rfl)) pa_nil))))))) (pss_one (ps_ret pe_bl)) pss_nil)
      (pss_one (ps_if (PW.pt (pw_or (pt_cmpR op_ne (pe_ix ixT (pv 3) pe_int (fun _ _ => rfl)) (pe_ix ixT (pe_ix ixT (pe_ix ixT (pv 1) pe_int (fun _ _ => rfl)) (pv 2) (fun _ _ => rfl)) pe_int (fun _ _ => rfl)) (nomark _)) (pw_or1 (pt_cmpR op_ne (pe_ix ixT (pv 3) pe_int (fun _ _ => rfl)) (pe_ix ixT (pe_ix ixT (pe_ix ixT (pv 1) pe_int (fun _ _ => rfl)) (pv 2) (fun _ _ => rfl)) pe_int (fun _ _ => rfl)) (nomark _))))) (pss_one (ps_ret pe_bl)) pss_nil))))))
      (pss_one (ps_ret (pe_and (pe_call (ok_l_whole T) (hr.mono (by decide)) (by rfl) T.g_l_whole T.k_l_whole T.b_l_whole .nil pass0 (pa_cons (pe_fld (pv 0) rfl) pa_nil)) (pe_one (pe_cmpR op_eq (pe_fld (pv 0) rfl) (pe_ix ixT (pv 1) pe_int (fun _ _ => rfl)) (nomark _)))))))), ?_⟩
    simp only [tDNotIn, tDIn, tDGet, Option.isSome_some, Option.isSome_none, rIsO, isO_int, isO_str, isO_bl, isO_non, isO_ref, isOO_ins, isOO_lst, isOO_tup, isOO_dK, tMethR, StX.tMakeR, cxOf_K, tDNewK, tCallR, tNever, tSeq, tAsg, gName, tPar, tVar, tC, tOp, rI0, rI, rU, tUn, rEq, rNe, tTest, tB, tAnd, tOr, tNot, tAndV, tOrV, tNotV, tIf, tIfS, tRet, tRetN, tNext, tDrop, tCons, tNil, tCB, tCall, tTup, tLst, rIxLH, rIxTH, gSub, rSetL, tPart, tNoPart, tSl, tBM, tBM0, L2.start, sc_ii, sc_ss, sc_bb, sc_nn, sc_ni, sc_in, sc_ns, sc_sn, sc_is, sc_si, eq_self, tChain, List.map_cons, List.map_nil, List.replicate_succ, List.replicate_zero, List.length_cons, List.length_nil, Nat.reduceAdd, Nat.reduceSub, Nat.zero_add, Nat.sub_self, Nat.add_sub_cancel, List.cons_append, List.nil_append, List.append_nil, List.getElem?_cons_zero, List.getElem?_cons_succ, List.set_cons_zero, List.set_cons_succ, Option.some.injEq, V.int.injEq, V.ref.injEq, V.bl.injEq, V.str.injEq, List.cons.injEq, HO.lst.injEq, HO.tup.injEq, and_true, true_and, exists_eq_left', exists_eq_left, exists_eq', exists_eq, exists_eq_right, exists_eq_right', exists_and_left, exists_and_right, and_assoc, upd_same, reduceCtorEq, false_and, and_false, exists_false, or_false, false_or, at0, at1, atM1, sg_inj, dot_eq, plus_eq, minus_eq, rIxS, at2, at3, at4, at5, ix0, ix1, ix2, ix3, upd_upd, decide_eq_true_eq, Int.reduceLT, Int.reduceLE, Int.reduceAdd, Int.reduceSub, Int.reduceNeg, Int.reduceMul, Int.reducePow, Int.reduceEq, decide_true, decide_false, Int.cast_ofNat_Int, Int.natCast_zero, Int.natCast_one, Nat.reduceEqDiff, Nat.reduceLeDiff, rIsB, tyN_non, tyN_bl, tyN_int, tyN_str, tyN_ref, tyO_lst, tyO_tup, tyO_dK, tyO_dT, V.ty.injEq, ite_true, ite_false, if_true, if_false, Bool.not_true, Bool.not_false, Bool.false_eq_true, kb_int_int, kb_int_bool, kb_int_str, kb_int_tuple, kb_int_list, kb_int_dict, kb_bool_int, kb_bool_bool, kb_bool_str, kb_bool_tuple, kb_bool_list, kb_bool_dict, kb_str_int, kb_str_bool, kb_str_str, kb_str_tuple, kb_str_list, kb_str_dict, kb_NoneType_int, kb_NoneType_bool, kb_NoneType_str, kb_NoneType_tuple, kb_NoneType_list, kb_NoneType_dict, kb_list_int, kb_list_bool, kb_list_str, kb_list_tuple, kb_list_list, kb_list_dict, kb_tuple_int, kb_tuple_bool, kb_tuple_str, kb_tuple_tuple, kb_tuple_list, kb_tuple_dict, kb_dict_int, kb_dict_bool, kb_dict_str, kb_dict_tuple, kb_dict_list, kb_dict_dict, cp_2_53, pw_2_53, cp_10_9, pw_10_9, cp_10_10, pw_10_10, cp_10_18, pw_10_18, cp_10_20, pw_10_20, cp_10_29, pw_10_29, cp_10_30, pw_10_30, tFld, HO.ins.injEq, look_t, look_c, T.cl_Form, T.nt_Form, T.nc_Form, ha, hb, hr1, hq]
    have e : vs.length = ws.length := ht.1.trans hu.1.symm
    rw [if_neg (by simp [e])]
    refine ⟨_, rfl, b, _, 0, .ref q, rfl, rfl, hb, rfl, q, rfl, ws, hq, ws.length, rfl, by have := hu.1; omega, by have := hu.1; omega, for_range (fun i σ' H' => ∃ y z, σ' = [some (.ref a), some (.ref b), y, z] ∧ H' = H) ⟨none, none, rfl, rfl⟩ ?_ ?_⟩
    · rintro i σ' H2 hi ⟨y, z, rfl, rfl⟩
      have hi2 : i < ts.length := by have := hu.1; omega
      obtain ⟨r1, h1, h2⟩ := ht.cons0 (List.getElem?_eq_getElem hi2)
      obtain ⟨r2, h3, h4⟩ := hu.cons0 (List.getElem?_eq_getElem hi2)
      simp only [tDNotIn, tDIn, tDGet, Option.isSome_some, Option.isSome_none, rIsO, isO_int, isO_str, isO_bl, isO_non, isO_ref, isOO_ins, isOO_lst, isOO_tup, isOO_dK, tMethR, StX.tMakeR, cxOf_K, tDNewK, tCallR, tNever, tSeq, tAsg, gName, tPar, tVar, tC, tOp, rI0, rI, rU, tUn, rEq, rNe, tTest, tB, tAnd, tOr, tNot, tAndV, tOrV, tNotV, tIf, tIfS, tRet, tRetN, tNext, tDrop, tCons, tNil, tCB, tCall, tTup, tLst, rIxLH, rIxTH, gSub, rSetL, tPart, tNoPart, tSl, tBM, tBM0, L2.start, sc_ii, sc_ss, sc_bb, sc_nn, sc_ni, sc_in, sc_ns, sc_sn, sc_is, sc_si, eq_self, tChain, List.map_cons, List.map_nil, List.replicate_succ, List.replicate_zero, List.length_cons, List.length_nil, Nat.reduceAdd, Nat.reduceSub, Nat.zero_add, Nat.sub_self, Nat.add_sub_cancel, List.cons_append, List.nil_append, List.append_nil, List.getElem?_cons_zero, List.getElem?_cons_succ, List.set_cons_zero, List.set_cons_succ, Option.some.injEq, V.int.injEq, V.ref.injEq, V.bl.injEq, V.str.injEq, List.cons.injEq, HO.lst.injEq, HO.tup.injEq, and_true, true_and, exists_eq_left', exists_eq_left, exists_eq', exists_eq, exists_eq_right, exists_eq_right', exists_and_left, exists_and_right, and_assoc, upd_same, reduceCtorEq, false_and, and_false, exists_false, or_false, false_or, at0, at1, atM1, sg_inj, dot_eq, plus_eq, minus_eq, rIxS, at2, at3, at4, at5, ix0, ix1, ix2, ix3, upd_upd, decide_eq_true_eq, Int.reduceLT, Int.reduceLE, Int.reduceAdd, Int.reduceSub, Int.reduceNeg, Int.reduceMul, Int.reducePow, Int.reduceEq, decide_true, decide_false, Int.cast_ofNat_Int, Int.natCast_zero, Int.natCast_one, Nat.reduceEqDiff, Nat.reduceLeDiff, rIsB, tyN_non, tyN_bl, tyN_int, tyN_str, tyN_ref, tyO_lst, tyO_tup, tyO_dK, tyO_dT, V.ty.injEq, ite_true, ite_false, if_true, if_false, Bool.not_true, Bool.not_false, Bool.false_eq_true, kb_int_int, kb_int_bool, kb_int_str, kb_int_tuple, kb_int_list, kb_int_dict, kb_bool_int, kb_bool_bool, kb_bool_str, kb_bool_tuple, kb_bool_list, kb_bool_dict, kb_str_int, kb_str_bool, kb_str_str, kb_str_tuple, kb_str_list, kb_str_dict, kb_NoneType_int, kb_NoneType_bool, kb_NoneType_str, kb_NoneType_tuple, kb_NoneType_list, kb_NoneType_dict, kb_list_int, kb_list_bool, kb_list_str, kb_list_tuple, kb_list_list, kb_list_dict, kb_tuple_int, kb_tuple_bool, kb_tuple_str, kb_tuple_tuple, kb_tuple_list, kb_tuple_dict, kb_dict_int, kb_dict_bool, kb_dict_str, kb_dict_tuple, kb_dict_list, kb_dict_dict, cp_2_53, pw_2_53, cp_10_9, pw_10_9, cp_10_10, pw_10_10, cp_10_18, pw_10_18, cp_10_20, pw_10_20, cp_10_29, pw_10_29, cp_10_30, pw_10_30, tFld, HO.ins.injEq, look_t, look_c, T.cl_Form, T.nt_Form, T.nc_Form, ha, hb, hr1, hq, spWhole, Int.zero_add, at_nat, h1, h2, h3, h4]
    · rintro σ' H2 ⟨y, z, rfl, rfl⟩
      simp only [tDNotIn, tDIn, tDGet, Option.isSome_some, Option.isSome_none, rIsO, isO_int, isO_str, isO_bl, isO_non, isO_ref, isOO_ins, isOO_lst, isOO_tup, isOO_dK, tMethR, StX.tMakeR, cxOf_K, tDNewK, tCallR, tNever, tSeq, tAsg, gName, tPar, tVar, tC, tOp, rI0, rI, rU, tUn, rEq, rNe, tTest, tB, tAnd, tOr, tNot, tAndV, tOrV, tNotV, tIf, tIfS, tRet, tRetN, tNext, tDrop, tCons, tNil, tCB, tCall, tTup, tLst, rIxLH, rIxTH, gSub, rSetL, tPart, tNoPart, tSl, tBM, tBM0, L2.start, sc_ii, sc_ss, sc_bb, sc_nn, sc_ni, sc_in, sc_ns, sc_sn, sc_is, sc_si, eq_self, tChain, List.map_cons, List.map_nil, List.replicate_succ, List.replicate_zero, List.length_cons, List.length_nil, Nat.reduceAdd, Nat.reduceSub, Nat.zero_add, Nat.sub_self, Nat.add_sub_cancel, List.cons_append, List.nil_append, List.append_nil, List.getElem?_cons_zero, List.getElem?_cons_succ, List.set_cons_zero, List.set_cons_succ, Option.some.injEq, V.int.injEq, V.ref.injEq, V.bl.injEq, V.str.injEq, List.cons.injEq, HO.lst.injEq, HO.tup.injEq, and_true, true_and, exists_eq_left', exists_eq_left, exists_eq', exists_eq, exists_eq_right, exists_eq_right', exists_and_left, exists_and_right, and_assoc, upd_same, reduceCtorEq, false_and, and_false, exists_false, or_false, false_or, at0, at1, atM1, sg_inj, dot_eq, plus_eq, minus_eq, rIxS, at2, at3, at4, at5, ix0, ix1, ix2, ix3, upd_upd, decide_eq_true_eq, Int.reduceLT, Int.reduceLE, Int.reduceAdd, Int.reduceSub, Int.reduceNeg, Int.reduceMul, Int.reducePow, Int.reduceEq, decide_true, decide_false, Int.cast_ofNat_Int, Int.natCast_zero, Int.natCast_one, Nat.reduceEqDiff, Nat.reduceLeDiff, rIsB, tyN_non, tyN_bl, tyN_int, tyN_str, tyN_ref, tyO_lst, tyO_tup, tyO_dK, tyO_dT, V.ty.injEq, ite_true, ite_false, if_true, if_false, Bool.not_true, Bool.not_false, Bool.false_eq_true, kb_int_int, kb_int_bool, kb_int_str, kb_int_tuple, kb_int_list, kb_int_dict, kb_bool_int, kb_bool_bool, kb_bool_str, kb_bool_tuple, kb_bool_list, kb_bool_dict, kb_str_int, kb_str_bool, kb_str_str, kb_str_tuple, kb_str_list, kb_str_dict, kb_NoneType_int, kb_NoneType_bool, kb_NoneType_str, kb_NoneType_tuple, kb_NoneType_list, kb_NoneType_dict, kb_list_int, kb_list_bool, kb_list_str, kb_list_tuple, kb_list_list, kb_list_dict, kb_tuple_int, kb_tuple_bool, kb_tuple_str, kb_tuple_tuple, kb_tuple_list, kb_tuple_dict, kb_dict_int, kb_dict_bool, kb_dict_str, kb_dict_tuple, kb_dict_list, kb_dict_dict, cp_2_53, pw_2_53, cp_10_9, pw_10_9, cp_10_10, pw_10_10, cp_10_18, pw_10_18, cp_10_20, pw_10_20, cp_10_29, pw_10_29, cp_10_30, pw_10_30, tFld, HO.ins.injEq, look_t, look_c, T.cl_Form, T.nt_Form, T.nc_Form, ha, hb, spWhole]
      exact k
def spValue : Sp := fun vs H Q _ => ∃ (b d : Addr) (N : List Str) (ts : List Trm) (c : Int) (lv : Str → Rat), vs = [.ref b, .ref d] ∧ DueAt H b ts c ∧ N.length ≤ 4 ∧ FB N 500 ts c ∧ WorldB H d N lv ∧
  ∀ r H', H r = none → Same H H' → H' r = some (prT (c + lin lv ts)) → Q (.ref r) H'
theorem sc_l_value : FnScope ["_law_due", "_law_world", "_law_top", "_law_bottom", "_law_pair", "_law_level_here"] ["_law_due", "_law_world"] (defScope s_l_value) := ⟨rfl, rfl, rfl, by decide +kernel, rfl, by decide +kernel, by decide +kernel⟩
theorem ok_l_value (T : Txt K mg) : FnOk P w K mg base CX0 2 (He.ga K "_law_value") (fdOf K (He.ga K "_law_value")) ["_law_due", "_law_world"] (spValue) := by
  refine T.F_l_value.ok sc_l_value (fun vs H Q E h => ?_) (fun cdv A outer s H vs Q E hr h => ?_)
  · obtain ⟨_, _, _, _, _, _, rfl, _⟩ := h
    rfl
  · obtain ⟨b, d, N, ts, c, lv, rfl, ⟨q, ws, hb, hq, ht⟩, pl, fb, ⟨kvs, hd, hk, hw⟩, k⟩ := h
    have hu := hu_of hr
    refine ⟨_, PSs.nox (pss_cons (ps_set (i := 2) sc_l_value.nd rfl (Or.inl rfl) (pe_ix ixT (pv 0) pe_int (fun _ _ => rfl)))
      (pss_cons (ps_set (i := 3) sc_l_value.nd rfl (Or.inl rfl) pe_int)
      (pss_cons (ps_for PassesOwn.never rfl (pi_tup (pe_ix ixT (pv 0) pe_int (fun _ _ => rfl))) (pg_name (i := 4) sc_l_value.nd rfl (Or.inl rfl)) (pss_cons (ps_set (i := 5) sc_l_value.nd rfl (Or.inl rfl) (pe_dget hu (pv 1) (pe_ix ixT (pv 4) pe_int (fun _ _ => rfl)) (fun _ _ => rfl)))
      (pss_cons (ps_set (i := 2) sc_l_value.nd rfl (Or.inl rfl) (pe_op op_add (pe_op op_mulX (pv 2) (pe_ix ixT (pv 5) pe_int (fun _ _ => rfl))) (pe_op op_mulX (pe_op op_mulX (pe_ix ixT (pv 4) pe_int (fun _ _ => rfl)) (pe_ix ixT (pv 5) pe_int (fun _ _ => rfl))) (pv 3))))
      (pss_one (ps_set (i := 3) sc_l_value.nd rfl (Or.inl rfl) (pe_op op_mulX (pv 3) (pe_ix ixT (pv 5) pe_int (fun _ _ => rfl))))))))
      (pss_one (ps_ret (pe_call (ok_l_lowest T) (hr.mono (by decide)) (by rfl) T.g_l_lowest T.k_l_lowest T.b_l_lowest .nil pass0 (pa_cons (pv 2) (pa_cons (pv 3) pa_nil)))))))), ?_⟩
    simp only [tDNotIn, tDIn, tDGet, Option.isSome_some, Option.isSome_none, rIsO, isO_int, isO_str, isO_bl, isO_non, isO_ref, isOO_ins, isOO_lst, isOO_tup, isOO_dK, tMethR, StX.tMakeR, cxOf_K, tDNewK, tCallR, tNever, tSeq, tAsg, gName, tPar, tVar, tC, tOp, rI0, rI, rU, tUn, rEq, rNe, tTest, tB, tAnd, tOr, tNot, tAndV, tOrV, tNotV, tIf, tIfS, tRet, tRetN, tNext, tDrop, tCons, tNil, tCB, tCall, tTup, tLst, rIxLH, rIxTH, gSub, rSetL, tPart, tNoPart, tSl, tBM, tBM0, L2.start, sc_ii, sc_ss, sc_bb, sc_nn, sc_ni, sc_in, sc_ns, sc_sn, sc_is, sc_si, eq_self, tChain, List.map_cons, List.map_nil, List.replicate_succ, List.replicate_zero, List.length_cons, List.length_nil, Nat.reduceAdd, Nat.reduceSub, Nat.zero_add, Nat.sub_self, Nat.add_sub_cancel, List.cons_append, List.nil_append, List.append_nil, List.getElem?_cons_zero, List.getElem?_cons_succ, List.set_cons_zero, List.set_cons_succ, Option.some.injEq, V.int.injEq, V.ref.injEq, V.bl.injEq, V.str.injEq, List.cons.injEq, HO.lst.injEq, HO.tup.injEq, and_true, true_and, exists_eq_left', exists_eq_left, exists_eq', exists_eq, exists_eq_right, exists_eq_right', exists_and_left, exists_and_right, and_assoc, upd_same, reduceCtorEq, false_and, and_false, exists_false, or_false, false_or, at0, at1, atM1, sg_inj, dot_eq, plus_eq, minus_eq, rIxS, at2, at3, at4, at5, ix0, ix1, ix2, ix3, upd_upd, decide_eq_true_eq, Int.reduceLT, Int.reduceLE, Int.reduceAdd, Int.reduceSub, Int.reduceNeg, Int.reduceMul, Int.reducePow, Int.reduceEq, decide_true, decide_false, Int.cast_ofNat_Int, Int.natCast_zero, Int.natCast_one, Nat.reduceEqDiff, Nat.reduceLeDiff, rIsB, tyN_non, tyN_bl, tyN_int, tyN_str, tyN_ref, tyO_lst, tyO_tup, tyO_dK, tyO_dT, V.ty.injEq, ite_true, ite_false, if_true, if_false, Bool.not_true, Bool.not_false, Bool.false_eq_true, kb_int_int, kb_int_bool, kb_int_str, kb_int_tuple, kb_int_list, kb_int_dict, kb_bool_int, kb_bool_bool, kb_bool_str, kb_bool_tuple, kb_bool_list, kb_bool_dict, kb_str_int, kb_str_bool, kb_str_str, kb_str_tuple, kb_str_list, kb_str_dict, kb_NoneType_int, kb_NoneType_bool, kb_NoneType_str, kb_NoneType_tuple, kb_NoneType_list, kb_NoneType_dict, kb_list_int, kb_list_bool, kb_list_str, kb_list_tuple, kb_list_list, kb_list_dict, kb_tuple_int, kb_tuple_bool, kb_tuple_str, kb_tuple_tuple, kb_tuple_list, kb_tuple_dict, kb_dict_int, kb_dict_bool, kb_dict_str, kb_dict_tuple, kb_dict_list, kb_dict_dict, cp_2_53, pw_2_53, cp_10_9, pw_10_9, cp_10_10, pw_10_10, cp_10_18, pw_10_18, cp_10_20, pw_10_20, cp_10_29, pw_10_29, cp_10_30, pw_10_30, hb, hq]
    have hl : ts.length ≤ 4 := by have := fb.len; omega
    refine ⟨_, rfl, b, _, 0, .ref q, rfl, rfl, hb, rfl, q, rfl, ⟨_, .inl (.inl hq)⟩, for_it (walk_tup (xs := ws)) (fun i σ' H' => ∃ (tp bt : Int) (y z : Option V), σ' = [some (.ref b), some (.ref d), some (.int tp), some (.int bt), y, z] ∧ H' = H ∧ 0 < bt ∧ Sm (1 + i * 1100) bt ∧ Sm (2000 + i * 1101) tp ∧ Rat.divInt tp bt = c + lin lv (ts.take i)) ?_ ?_ ?_ ?_⟩
    · refine ⟨c, 1, none, none, rfl, rfl, by decide, by unfold Sm; decide, fb.bc.mono (by decide), ?_⟩
      rw [Rat.divInt_eq_div]; simp [lin]; grind
    · rintro i σ' H' _ ⟨tp, bt, y, z, rfl, rfl, _⟩
      exact .inl (.inl hq)
    · rintro i x σ' H2 H3 hi ⟨tp, bt, y, z, rfl, rfl, b0, sb, st, er⟩ ⟨rfl, hx⟩
      obtain ⟨t, p, ht', rfl, hp⟩ := ht.at hx
      have hmt : t ∈ ts := List.mem_of_getElem? ht'
      obtain ⟨bl, r3, hval, hr3⟩ := hw t.1 (fb.nm t hmt)
      have hi4 : i < 4 := by rw [ht.1] at hi; omega
      have g : DGet H3 d (.str t.1) (some (.ref r3)) := by
        have := DGet.k (k := Sum.inr t.1) hd
        rw [hval] at this; exact this
      unfold prT at hr3
      simp only [tDNotIn, tDIn, tDGet, Option.isSome_some, Option.isSome_none, rIsO, isO_int, isO_str, isO_bl, isO_non, isO_ref, isOO_ins, isOO_lst, isOO_tup, isOO_dK, tMethR, StX.tMakeR, cxOf_K, tDNewK, tCallR, tNever, tSeq, tAsg, gName, tPar, tVar, tC, tOp, rI0, rI, rU, tUn, rEq, rNe, tTest, tB, tAnd, tOr, tNot, tAndV, tOrV, tNotV, tIf, tIfS, tRet, tRetN, tNext, tDrop, tCons, tNil, tCB, tCall, tTup, tLst, rIxLH, rIxTH, gSub, rSetL, tPart, tNoPart, tSl, tBM, tBM0, L2.start, sc_ii, sc_ss, sc_bb, sc_nn, sc_ni, sc_in, sc_ns, sc_sn, sc_is, sc_si, eq_self, tChain, List.map_cons, List.map_nil, List.replicate_succ, List.replicate_zero, List.length_cons, List.length_nil, Nat.reduceAdd, Nat.reduceSub, Nat.zero_add, Nat.sub_self, Nat.add_sub_cancel, List.cons_append, List.nil_append, List.append_nil, List.getElem?_cons_zero, List.getElem?_cons_succ, List.set_cons_zero, List.set_cons_succ, Option.some.injEq, V.int.injEq, V.ref.injEq, V.bl.injEq, V.str.injEq, List.cons.injEq, HO.lst.injEq, HO.tup.injEq, and_true, true_and, exists_eq_left', exists_eq_left, exists_eq', exists_eq, exists_eq_right, exists_eq_right', exists_and_left, exists_and_right, and_assoc, upd_same, reduceCtorEq, false_and, and_false, exists_false, or_false, false_or, at0, at1, atM1, sg_inj, dot_eq, plus_eq, minus_eq, rIxS, at2, at3, at4, at5, ix0, ix1, ix2, ix3, upd_upd, decide_eq_true_eq, Int.reduceLT, Int.reduceLE, Int.reduceAdd, Int.reduceSub, Int.reduceNeg, Int.reduceMul, Int.reducePow, Int.reduceEq, decide_true, decide_false, Int.cast_ofNat_Int, Int.natCast_zero, Int.natCast_one, Nat.reduceEqDiff, Nat.reduceLeDiff, rIsB, tyN_non, tyN_bl, tyN_int, tyN_str, tyN_ref, tyO_lst, tyO_tup, tyO_dK, tyO_dT, V.ty.injEq, ite_true, ite_false, if_true, if_false, Bool.not_true, Bool.not_false, Bool.false_eq_true, kb_int_int, kb_int_bool, kb_int_str, kb_int_tuple, kb_int_list, kb_int_dict, kb_bool_int, kb_bool_bool, kb_bool_str, kb_bool_tuple, kb_bool_list, kb_bool_dict, kb_str_int, kb_str_bool, kb_str_str, kb_str_tuple, kb_str_list, kb_str_dict, kb_NoneType_int, kb_NoneType_bool, kb_NoneType_str, kb_NoneType_tuple, kb_NoneType_list, kb_NoneType_dict, kb_list_int, kb_list_bool, kb_list_str, kb_list_tuple, kb_list_list, kb_list_dict, kb_tuple_int, kb_tuple_bool, kb_tuple_str, kb_tuple_tuple, kb_tuple_list, kb_tuple_dict, kb_dict_int, kb_dict_bool, kb_dict_str, kb_dict_tuple, kb_dict_list, kb_dict_dict, cp_2_53, pw_2_53, cp_10_9, pw_10_9, cp_10_10, pw_10_10, cp_10_18, pw_10_18, cp_10_20, pw_10_20, cp_10_29, pw_10_29, cp_10_30, pw_10_30, hp]
      refine ⟨_, g, ?_⟩
      simp only [tDNotIn, tDIn, tDGet, Option.isSome_some, Option.isSome_none, rIsO, isO_int, isO_str, isO_bl, isO_non, isO_ref, isOO_ins, isOO_lst, isOO_tup, isOO_dK, tMethR, StX.tMakeR, cxOf_K, tDNewK, tCallR, tNever, tSeq, tAsg, gName, tPar, tVar, tC, tOp, rI0, rI, rU, tUn, rEq, rNe, tTest, tB, tAnd, tOr, tNot, tAndV, tOrV, tNotV, tIf, tIfS, tRet, tRetN, tNext, tDrop, tCons, tNil, tCB, tCall, tTup, tLst, rIxLH, rIxTH, gSub, rSetL, tPart, tNoPart, tSl, tBM, tBM0, L2.start, sc_ii, sc_ss, sc_bb, sc_nn, sc_ni, sc_in, sc_ns, sc_sn, sc_is, sc_si, eq_self, tChain, List.map_cons, List.map_nil, List.replicate_succ, List.replicate_zero, List.length_cons, List.length_nil, Nat.reduceAdd, Nat.reduceSub, Nat.zero_add, Nat.sub_self, Nat.add_sub_cancel, List.cons_append, List.nil_append, List.append_nil, List.getElem?_cons_zero, List.getElem?_cons_succ, List.set_cons_zero, List.set_cons_succ, Option.some.injEq, V.int.injEq, V.ref.injEq, V.bl.injEq, V.str.injEq, List.cons.injEq, HO.lst.injEq, HO.tup.injEq, and_true, true_and, exists_eq_left', exists_eq_left, exists_eq', exists_eq, exists_eq_right, exists_eq_right', exists_and_left, exists_and_right, and_assoc, upd_same, reduceCtorEq, false_and, and_false, exists_false, or_false, false_or, at0, at1, atM1, sg_inj, dot_eq, plus_eq, minus_eq, rIxS, at2, at3, at4, at5, ix0, ix1, ix2, ix3, upd_upd, decide_eq_true_eq, Int.reduceLT, Int.reduceLE, Int.reduceAdd, Int.reduceSub, Int.reduceNeg, Int.reduceMul, Int.reducePow, Int.reduceEq, decide_true, decide_false, Int.cast_ofNat_Int, Int.natCast_zero, Int.natCast_one, Nat.reduceEqDiff, Nat.reduceLeDiff, rIsB, tyN_non, tyN_bl, tyN_int, tyN_str, tyN_ref, tyO_lst, tyO_tup, tyO_dK, tyO_dT, V.ty.injEq, ite_true, ite_false, if_true, if_false, Bool.not_true, Bool.not_false, Bool.false_eq_true, kb_int_int, kb_int_bool, kb_int_str, kb_int_tuple, kb_int_list, kb_int_dict, kb_bool_int, kb_bool_bool, kb_bool_str, kb_bool_tuple, kb_bool_list, kb_bool_dict, kb_str_int, kb_str_bool, kb_str_str, kb_str_tuple, kb_str_list, kb_str_dict, kb_NoneType_int, kb_NoneType_bool, kb_NoneType_str, kb_NoneType_tuple, kb_NoneType_list, kb_NoneType_dict, kb_list_int, kb_list_bool, kb_list_str, kb_list_tuple, kb_list_list, kb_list_dict, kb_tuple_int, kb_tuple_bool, kb_tuple_str, kb_tuple_tuple, kb_tuple_list, kb_tuple_dict, kb_dict_int, kb_dict_bool, kb_dict_str, kb_dict_tuple, kb_dict_list, kb_dict_dict, cp_2_53, pw_2_53, cp_10_9, pw_10_9, cp_10_10, pw_10_10, cp_10_18, pw_10_18, cp_10_20, pw_10_20, cp_10_29, pw_10_29, cp_10_30, pw_10_30, hr3, hp]
      have sw := fb.bw t hmt
      have m1 : Sm (500 + 1100) (t.2 * (lv t.1).num) := sw.mul bl.a
      have m2 := m1.mul sb
      have m3 := st.mul bl.b
      refine ⟨m3ok st bl.b (by omega) (by omega), sw.mulok bl.a, m3ok m1 sb (by omega) (by omega), m3ok sb bl.b (by omega) (by omega), ?_, (sb.mul bl.b).mono (by omega), (m3.add m2).mono (by omega), ?_⟩
      · exact Int.mul_pos b0 (by have := (lv t.1).den_pos; omega)
      · rw [lin_take ht', ← Rat.add_assoc, ← er, w_rat, Rat.divInt_add_divInt _ _ (by omega) (den0 _)]
    · rintro σ' H2 ⟨tp, bt, y, z, rfl, rfl, b0, sb, st, er⟩
      rw [ht.1, List.take_length] at er
      rw [ht.1] at sb
      simp only [tDNotIn, tDIn, tDGet, Option.isSome_some, Option.isSome_none, rIsO, isO_int, isO_str, isO_bl, isO_non, isO_ref, isOO_ins, isOO_lst, isOO_tup, isOO_dK, tMethR, StX.tMakeR, cxOf_K, tDNewK, tCallR, tNever, tSeq, tAsg, gName, tPar, tVar, tC, tOp, rI0, rI, rU, tUn, rEq, rNe, tTest, tB, tAnd, tOr, tNot, tAndV, tOrV, tNotV, tIf, tIfS, tRet, tRetN, tNext, tDrop, tCons, tNil, tCB, tCall, tTup, tLst, rIxLH, rIxTH, gSub, rSetL, tPart, tNoPart, tSl, tBM, tBM0, L2.start, sc_ii, sc_ss, sc_bb, sc_nn, sc_ni, sc_in, sc_ns, sc_sn, sc_is, sc_si, eq_self, tChain, List.map_cons, List.map_nil, List.replicate_succ, List.replicate_zero, List.length_cons, List.length_nil, Nat.reduceAdd, Nat.reduceSub, Nat.zero_add, Nat.sub_self, Nat.add_sub_cancel, List.cons_append, List.nil_append, List.append_nil, List.getElem?_cons_zero, List.getElem?_cons_succ, List.set_cons_zero, List.set_cons_succ, Option.some.injEq, V.int.injEq, V.ref.injEq, V.bl.injEq, V.str.injEq, List.cons.injEq, HO.lst.injEq, HO.tup.injEq, and_true, true_and, exists_eq_left', exists_eq_left, exists_eq', exists_eq, exists_eq_right, exists_eq_right', exists_and_left, exists_and_right, and_assoc, upd_same, reduceCtorEq, false_and, and_false, exists_false, or_false, false_or, at0, at1, atM1, sg_inj, dot_eq, plus_eq, minus_eq, rIxS, at2, at3, at4, at5, ix0, ix1, ix2, ix3, upd_upd, decide_eq_true_eq, Int.reduceLT, Int.reduceLE, Int.reduceAdd, Int.reduceSub, Int.reduceNeg, Int.reduceMul, Int.reducePow, Int.reduceEq, decide_true, decide_false, Int.cast_ofNat_Int, Int.natCast_zero, Int.natCast_one, Nat.reduceEqDiff, Nat.reduceLeDiff, rIsB, tyN_non, tyN_bl, tyN_int, tyN_str, tyN_ref, tyO_lst, tyO_tup, tyO_dK, tyO_dT, V.ty.injEq, ite_true, ite_false, if_true, if_false, Bool.not_true, Bool.not_false, Bool.false_eq_true, kb_int_int, kb_int_bool, kb_int_str, kb_int_tuple, kb_int_list, kb_int_dict, kb_bool_int, kb_bool_bool, kb_bool_str, kb_bool_tuple, kb_bool_list, kb_bool_dict, kb_str_int, kb_str_bool, kb_str_str, kb_str_tuple, kb_str_list, kb_str_dict, kb_NoneType_int, kb_NoneType_bool, kb_NoneType_str, kb_NoneType_tuple, kb_NoneType_list, kb_NoneType_dict, kb_list_int, kb_list_bool, kb_list_str, kb_list_tuple, kb_list_list, kb_list_dict, kb_tuple_int, kb_tuple_bool, kb_tuple_str, kb_tuple_tuple, kb_tuple_list, kb_tuple_dict, kb_dict_int, kb_dict_bool, kb_dict_str, kb_dict_tuple, kb_dict_list, kb_dict_dict, cp_2_53, pw_2_53, cp_10_9, pw_10_9, cp_10_10, pw_10_10, cp_10_18, pw_10_18, cp_10_20, pw_10_20, cp_10_29, pw_10_29, cp_10_30, pw_10_30, spLowP]
      exact ⟨b0, sb.mono (by omega), fun p H4 np s4 e4 => k p H4 np s4 (by rw [← er]; exact e4)⟩
end
end K0
namespace K0
open PySem PySem.Spec PyProof.Rows L2
def pc (t : Trm) : Int × List Nat := (t.2, szL t.2 (Lz t.1))
theorem fin_snoc {l : List (Int × List Nat)} (p : Int × List Nat) (h : l ≠ []) : fin (l ++ [p]) = fin l ++ 32 :: seg p := by
  cases l with
  | nil => exact absurd rfl h
  | cons a r =>
    show (if a.1 < 0 then [45] else []) ++ (a.2 ++ (r ++ [p]).flatMap fun q => 32 :: seg q) = ((if a.1 < 0 then [45] else []) ++ (a.2 ++ r.flatMap fun q => 32 :: seg q)) ++ 32 :: seg p
    rw [List.flatMap_append]
    simp
theorem fin_one (p : Int × List Nat) : fin [p] = (if p.1 < 0 then [45] else []) ++ p.2 := by
  show _ ++ (p.2 ++ []) = _
  rw [List.append_nil]
theorem fin_ne {a : Int × List Nat} {r : List (Int × List Nat)} (h : a.2 ≠ []) : fin (a :: r) ≠ [] := by
  show (if a.1 < 0 then [45] else []) ++ (a.2 ++ r.flatMap fun q => 32 :: seg q) ≠ []
  intro e
  exact h (List.append_eq_nil_iff.mp (List.append_eq_nil_iff.mp e).2).1
theorem szL_ne {w : Int} {n : List Nat} (h : n ≠ []) : szL w n ≠ [] := by
  unfold szL
  split
  · exact h
  · intro e; exact h (List.append_eq_nil_iff.mp e).2
theorem Lz_nil {z : Str} (h : Lz z = []) : z = Str.ofString "" := str_ext (by
  show Lz z = Lz (Str.ofString ""); rw [h]; decide +kernel)
theorem isQ_ne {z : Str} (h : isQ z = true) : Lz z ≠ [] := by
  obtain ⟨a, r, e, _⟩ := isQ_un h
  rw [e]; simp
theorem ofS_app (a b : String) : Str.ofString (a ++ b) = Str.ofString a ++ Str.ofString b := str_ext (by
  show (Str.ofString (a ++ b)).cps.toList = ((Str.ofString a).cps ++ (Str.ofString b).cps).toList
  rw [Str.ofString_eq_toList, Str.ofString_eq_toList, Str.ofString_eq_toList]
  simp)
theorem num_neg {c : Int} (h : c < 0) : Lz (Str.ofString (toString c)) = 45 :: dgt c.natAbs := by
  cases c with
  | ofNat m => exact absurd h (by simp)
  | negSucc m =>
    show Lz (Str.ofString ("-" ++ toString (m + 1))) = _
    rw [ofS_app, Lz_app, mi1]; rfl
theorem num_pos {c : Int} (h : ¬ c < 0) : Lz (Str.ofString (toString c)) = dgt c.natAbs := by
  cases c with
  | ofNat m => rfl
  | negSucc m => exact absurd (Int.negSucc_lt_zero m) h
theorem spp : Lz (Str.ofString " + ") = [32, 43, 32] := by decide +kernel
theorem spm : Lz (Str.ofString " - ") = [32, 45, 32] := by decide +kernel
section
variable {P : Program} {w : World} {K : PySem.W.Frag} {mg : Str → Option Value} {base : Heap}
theorem sc_l_part : FnScope ["_law_weight_here", "_law_text"] ["_law_weight_here", "_law_text"] (defScope s_l_part) := ⟨rfl, rfl, rfl, by decide +kernel, rfl, by decide +kernel, by decide +kernel⟩
theorem ok_l_part (T : Txt K mg) : FnOk P w K mg base CX0 1 (He.ga K "_law_part") (fdOf K (He.ga K "_law_part")) ["_law_weight_here", "_law_text"] (spSize) := by
  refine T.F_l_part.ok sc_l_part (fun vs H Q E h => ?_) (fun cdv A outer s H vs Q E hr h => ?_)
  · obtain ⟨_, _, rfl, _⟩ := h
    rfl
  · obtain ⟨x, n, rfl, hn, sw, k⟩ := h
    refine ⟨_, PSs.nox (pss_cons (ps_if (pt_cmpR op_eq (pe_callB call_abs (by rfl) T.z_abs (by decide +kernel) (pa_cons (pv 0) pa_nil)) pe_int (nomark _)) (pss_one (ps_ret (pv 1))) pss_nil)
      (pss_one (ps_ret (pe_op op_add_str (pe_op op_add_str (pe_callTy call_str_int (by rfl) T.z_str (by decide +kernel) (pa_cons (pe_callB call_abs (by rfl) T.z_abs (by decide +kernel) (pa_cons (pv 0) pa_nil)) pa_nil)) pe_str) (pv 1))))), ?_⟩
    simp only [tDNotIn, tDIn, tDGet, Option.isSome_some, Option.isSome_none, rIsO, isO_int, isO_str, isO_bl, isO_non, isO_ref, isOO_ins, isOO_lst, isOO_tup, isOO_dK, tMethR, StX.tMakeR, cxOf_K, tDNewK, tCallR, tNever, tSeq, tAsg, gName, tPar, tVar, tC, tOp, rI0, rI, rU, tUn, rEq, rNe, tTest, tB, tAnd, tOr, tNot, tAndV, tOrV, tNotV, tIf, tIfS, tRet, tRetN, tNext, tDrop, tCons, tNil, tCB, tCall, tTup, tLst, rIxLH, rIxTH, gSub, rSetL, tPart, tNoPart, tSl, tBM, tBM0, L2.start, sc_ii, sc_ss, sc_bb, sc_nn, sc_ni, sc_in, sc_ns, sc_sn, sc_is, sc_si, eq_self, tChain, List.map_cons, List.map_nil, List.replicate_succ, List.replicate_zero, List.length_cons, List.length_nil, Nat.reduceAdd, Nat.reduceSub, Nat.zero_add, Nat.sub_self, Nat.add_sub_cancel, List.cons_append, List.nil_append, List.append_nil, List.getElem?_cons_zero, List.getElem?_cons_succ, List.set_cons_zero, List.set_cons_succ, Option.some.injEq, V.int.injEq, V.ref.injEq, V.bl.injEq, V.str.injEq, List.cons.injEq, HO.lst.injEq, HO.tup.injEq, and_true, true_and, exists_eq_left', exists_eq_left, exists_eq', exists_eq, exists_eq_right, exists_eq_right', exists_and_left, exists_and_right, and_assoc, upd_same, reduceCtorEq, false_and, and_false, exists_false, or_false, false_or, at0, at1, atM1, sg_inj, dot_eq, plus_eq, minus_eq, rIxS, at2, at3, at4, at5, ix0, ix1, ix2, ix3, upd_upd, decide_eq_true_eq, Int.reduceLT, Int.reduceLE, Int.reduceAdd, Int.reduceSub, Int.reduceNeg, Int.reduceMul, Int.reducePow, Int.reduceEq, decide_true, decide_false, Int.cast_ofNat_Int, Int.natCast_zero, Int.natCast_one, Nat.reduceEqDiff, Nat.reduceLeDiff, rIsB, tyN_non, tyN_bl, tyN_int, tyN_str, tyN_ref, tyO_lst, tyO_tup, tyO_dK, tyO_dT, V.ty.injEq, ite_true, ite_false, if_true, if_false, Bool.not_true, Bool.not_false, Bool.false_eq_true, kb_int_int, kb_int_bool, kb_int_str, kb_int_tuple, kb_int_list, kb_int_dict, kb_bool_int, kb_bool_bool, kb_bool_str, kb_bool_tuple, kb_bool_list, kb_bool_dict, kb_str_int, kb_str_bool, kb_str_str, kb_str_tuple, kb_str_list, kb_str_dict, kb_NoneType_int, kb_NoneType_bool, kb_NoneType_str, kb_NoneType_tuple, kb_NoneType_list, kb_NoneType_dict, kb_list_int, kb_list_bool, kb_list_str, kb_list_tuple, kb_list_list, kb_list_dict, kb_tuple_int, kb_tuple_bool, kb_tuple_str, kb_tuple_tuple, kb_tuple_list, kb_tuple_dict, kb_dict_int, kb_dict_bool, kb_dict_str, kb_dict_tuple, kb_dict_list, kb_dict_dict, cp_2_53, pw_2_53, cp_10_9, pw_10_9, cp_10_10, pw_10_10, cp_10_18, pw_10_18, cp_10_20, pw_10_20, cp_10_29, pw_10_29, cp_10_30, pw_10_30, abs_nat]
    have l1 : (Str.ofString " ").length = 1 := congrArg List.length sp1
    have l2 := num_len sw.abs
    refine ite2 (fun e => ?_) fun e => ?_
    · exact k n (by unfold szL; rw [if_pos (by omega)]) (by omega)
    · refine ⟨sw.abs.log1920, size_big (by omega), size_big (by rw [len_app]; omega), k _ ?_ (by rw [len_app, len_app]; omega)⟩
      rw [Lz_app, Lz_app, sp1]
      unfold szL
      rw [if_neg (by omega)]; rfl
def spWritten : Sp := fun vs H Q _ => ∃ (b : Addr) (N : List Str) (ts : List Trm) (c : Int), vs = [.ref b] ∧ DueAt H b ts c ∧ Pool N ∧ FB N 1000 ts c ∧ ∀ z H', Same H H' → Lz z = fin (pcs ts c) → Q (.str z) H'
theorem sc_l_written : FnScope ["_law_due", "_law_line", "_law_pair", "_law_sign"] ["_law_due"] (defScope s_l_written) := ⟨rfl, rfl, rfl, by decide +kernel, rfl, by decide +kernel, by decide +kernel⟩
theorem ok_l_written (T : Txt K mg) : FnOk P w K mg base CX0 2 (He.ga K "_law_written") (fdOf K (He.ga K "_law_written")) ["_law_due"] (spWritten) := by
  refine T.F_l_written.ok sc_l_written (fun vs H Q E h => ?_) (fun cdv A outer s H vs Q E hr h => ?_)
  · obtain ⟨_, _, _, _, rfl, _⟩ := h
    rfl
  · obtain ⟨b, N, ts, c, rfl, ⟨q, ws, hb, hq, ht⟩, pl, fb, k⟩ := h
    have hu := hu_of hr
    refine ⟨_, PSs.nox (pss_cons (ps_if (pt_cmpR (op_eqD hr.units) (pe_ix ixT (pv 0) pe_int (fun _ _ => rfl)) (pe_tup pa_nil) (nomark _)) (pss_one (ps_ret (pe_callTy call_str_int (by rfl) T.z_str (by decide +kernel) (pa_cons (pe_ix ixT (pv 0) pe_int (fun _ _ => rfl)) pa_nil)))) pss_nil)
      (pss_cons (ps_set (i := 1) sc_l_written.nd rfl (Or.inl rfl) pe_str)
      (pss_cons (ps_for PassesOwn.never rfl (pi_tup (pe_ix ixT (pv 0) pe_int (fun _ _ => rfl))) (pg_name (i := 2) sc_l_written.nd rfl (Or.inl rfl)) (pss_cons (ps_set (i := 3) sc_l_written.nd rfl (Or.inl rfl) pe_str)
      (Evl.pss_cut (ps_if (pt_cmpR op_lt (pe_ix ixT (pv 2) pe_int (fun _ _ => rfl)) pe_int (nomark _)) (pss_one (ps_set (i := 3) sc_l_written.nd rfl (Or.inl rfl) pe_str)) pss_nil)
      (Evl.pss_cut (ps_if (pt_cmpR op_ne (pv 1) pe_str (nomark _)) (pss_one (ps_set (i := 1) sc_l_written.nd rfl (Or.inl rfl) (pe_op op_add_str (pe_op op_add_str (pe_op op_add_str (pv 1) pe_str) (pv 3)) pe_str))) (pss_one (ps_if (pt_cmpR op_eq (pv 3) pe_str (nomark _)) (pss_one (ps_set (i := 1) sc_l_written.nd rfl (Or.inl rfl) pe_str)) pss_nil)))
      (pss_one (ps_set (i := 1) sc_l_written.nd rfl (Or.inl rfl) (pe_op op_add_str (pv 1) (pe_call (ok_l_part T) (hr.mono (by decide)) (by rfl) T.g_l_part T.k_l_part T.b_l_part .nil pass0 (pa_cons (pe_ix ixT (pv 2) pe_int (fun _ _ => rfl)) (pa_cons (pe_ix ixT (pv 2) pe_int (fun _ _ => rfl)) pa_nil))))))))))
      (pss_cons (ps_if (pt_cmpR op_gt (pe_ix ixT (pv 0) pe_int (fun _ _ => rfl)) pe_int (nomark _)) (pss_one (ps_ret (pe_op op_add_str (pe_op op_add_str (pv 1) pe_str) (pe_callTy call_str_int (by rfl) T.z_str (by decide +kernel) (pa_cons (pe_ix ixT (pv 0) pe_int (fun _ _ => rfl)) pa_nil))))) pss_nil)
      (pss_cons (ps_if (pt_cmpR op_lt (pe_ix ixT (pv 0) pe_int (fun _ _ => rfl)) pe_int (nomark _)) (pss_one (ps_ret (pe_op op_add_str (pe_op op_add_str (pv 1) pe_str) (pe_callTy call_str_int (by rfl) T.z_str (by decide +kernel) (pa_cons (pe_un un_neg (pe_ix ixT (pv 0) pe_int (fun _ _ => rfl))) pa_nil))))) pss_nil)
      (pss_one (ps_ret (pv 1)))))))), ?_⟩
    simp only [tDNotIn, tDIn, tDGet, Option.isSome_some, Option.isSome_none, rIsO, isO_int, isO_str, isO_bl, isO_non, isO_ref, isOO_ins, isOO_lst, isOO_tup, isOO_dK, tMethR, StX.tMakeR, cxOf_K, tDNewK, tCallR, tNever, tSeq, tAsg, gName, tPar, tVar, tC, tOp, rI0, rI, rU, tUn, rEq, rNe, tTest, tB, tAnd, tOr, tNot, tAndV, tOrV, tNotV, tIf, tIfS, tRet, tRetN, tNext, tDrop, tCons, tNil, tCB, tCall, tTup, tLst, rIxLH, rIxTH, gSub, rSetL, tPart, tNoPart, tSl, tBM, tBM0, L2.start, sc_ii, sc_ss, sc_bb, sc_nn, sc_ni, sc_in, sc_ns, sc_sn, sc_is, sc_si, eq_self, tChain, List.map_cons, List.map_nil, List.replicate_succ, List.replicate_zero, List.length_cons, List.length_nil, Nat.reduceAdd, Nat.reduceSub, Nat.zero_add, Nat.sub_self, Nat.add_sub_cancel, List.cons_append, List.nil_append, List.append_nil, List.getElem?_cons_zero, List.getElem?_cons_succ, List.set_cons_zero, List.set_cons_succ, Option.some.injEq, V.int.injEq, V.ref.injEq, V.bl.injEq, V.str.injEq, List.cons.injEq, HO.lst.injEq, HO.tup.injEq, and_true, true_and, exists_eq_left', exists_eq_left, exists_eq', exists_eq, exists_eq_right, exists_eq_right', exists_and_left, exists_and_right, and_assoc, upd_same, reduceCtorEq, false_and, and_false, exists_false, or_false, false_or, at0, at1, atM1, sg_inj, dot_eq, plus_eq, minus_eq, rIxS, at2, at3, at4, at5, ix0, ix1, ix2, ix3, upd_upd, decide_eq_true_eq, Int.reduceLT, Int.reduceLE, Int.reduceAdd, Int.reduceSub, Int.reduceNeg, Int.reduceMul, Int.reducePow, Int.reduceEq, decide_true, decide_false, Int.cast_ofNat_Int, Int.natCast_zero, Int.natCast_one, Nat.reduceEqDiff, Nat.reduceLeDiff, rIsB, tyN_non, tyN_bl, tyN_int, tyN_str, tyN_ref, tyO_lst, tyO_tup, tyO_dK, tyO_dT, V.ty.injEq, ite_true, ite_false, if_true, if_false, Bool.not_true, Bool.not_false, Bool.false_eq_true, kb_int_int, kb_int_bool, kb_int_str, kb_int_tuple, kb_int_list, kb_int_dict, kb_bool_int, kb_bool_bool, kb_bool_str, kb_bool_tuple, kb_bool_list, kb_bool_dict, kb_str_int, kb_str_bool, kb_str_str, kb_str_tuple, kb_str_list, kb_str_dict, kb_NoneType_int, kb_NoneType_bool, kb_NoneType_str, kb_NoneType_tuple, kb_NoneType_list, kb_NoneType_dict, kb_list_int, kb_list_bool, kb_list_str, kb_list_tuple, kb_list_list, kb_list_dict, kb_tuple_int, kb_tuple_bool, kb_tuple_str, kb_tuple_tuple, kb_tuple_list, kb_tuple_dict, kb_dict_int, kb_dict_bool, kb_dict_str, kb_dict_tuple, kb_dict_list, kb_dict_dict, cp_2_53, pw_2_53, cp_10_9, pw_10_9, cp_10_10, pw_10_10, cp_10_18, pw_10_18, cp_10_20, pw_10_20, cp_10_29, pw_10_29, cp_10_30, pw_10_30, hb, hq]
    have hl : ts.length ≤ 12 := by have := fb.len; have := pl.l; omega
    refine ⟨size_le (by simp), fun p np => ?_⟩
    have lp0 : Trms (upd H p (.tup [])) [] [] := Trms.nil
    have s1 : Same H (upd H p (.tup [])) := same_upd np
    refine ⟨_, _, dp_tm (s1 _ _ hq) (ht.im (Im.of s1)), dp_tm upd_same lp0, shaped_tm fun t h => isQ_ok (fb.isq pl t h), shaped_tm (fun t h => by cases h), ?_⟩
    rw [eqv_tm]
    have hb1 := s1 _ _ hb
    have hq1 := s1 _ _ hq
    have ht1 := ht.im (Im.of s1)
    generalize upd H p (.tup []) = H1 at s1 hb1 hq1 ht1
    simp only [tDNotIn, tDIn, tDGet, Option.isSome_some, Option.isSome_none, rIsO, isO_int, isO_str, isO_bl, isO_non, isO_ref, isOO_ins, isOO_lst, isOO_tup, isOO_dK, tMethR, StX.tMakeR, cxOf_K, tDNewK, tCallR, tNever, tSeq, tAsg, gName, tPar, tVar, tC, tOp, rI0, rI, rU, tUn, rEq, rNe, tTest, tB, tAnd, tOr, tNot, tAndV, tOrV, tNotV, tIf, tIfS, tRet, tRetN, tNext, tDrop, tCons, tNil, tCB, tCall, tTup, tLst, rIxLH, rIxTH, gSub, rSetL, tPart, tNoPart, tSl, tBM, tBM0, L2.start, sc_ii, sc_ss, sc_bb, sc_nn, sc_ni, sc_in, sc_ns, sc_sn, sc_is, sc_si, eq_self, tChain, List.map_cons, List.map_nil, List.replicate_succ, List.replicate_zero, List.length_cons, List.length_nil, Nat.reduceAdd, Nat.reduceSub, Nat.zero_add, Nat.sub_self, Nat.add_sub_cancel, List.cons_append, List.nil_append, List.append_nil, List.getElem?_cons_zero, List.getElem?_cons_succ, List.set_cons_zero, List.set_cons_succ, Option.some.injEq, V.int.injEq, V.ref.injEq, V.bl.injEq, V.str.injEq, List.cons.injEq, HO.lst.injEq, HO.tup.injEq, and_true, true_and, exists_eq_left', exists_eq_left, exists_eq', exists_eq, exists_eq_right, exists_eq_right', exists_and_left, exists_and_right, and_assoc, upd_same, reduceCtorEq, false_and, and_false, exists_false, or_false, false_or, at0, at1, atM1, sg_inj, dot_eq, plus_eq, minus_eq, rIxS, at2, at3, at4, at5, ix0, ix1, ix2, ix3, upd_upd, decide_eq_true_eq, Int.reduceLT, Int.reduceLE, Int.reduceAdd, Int.reduceSub, Int.reduceNeg, Int.reduceMul, Int.reducePow, Int.reduceEq, decide_true, decide_false, Int.cast_ofNat_Int, Int.natCast_zero, Int.natCast_one, Nat.reduceEqDiff, Nat.reduceLeDiff, rIsB, tyN_non, tyN_bl, tyN_int, tyN_str, tyN_ref, tyO_lst, tyO_tup, tyO_dK, tyO_dT, V.ty.injEq, ite_true, ite_false, if_true, if_false, Bool.not_true, Bool.not_false, Bool.false_eq_true, kb_int_int, kb_int_bool, kb_int_str, kb_int_tuple, kb_int_list, kb_int_dict, kb_bool_int, kb_bool_bool, kb_bool_str, kb_bool_tuple, kb_bool_list, kb_bool_dict, kb_str_int, kb_str_bool, kb_str_str, kb_str_tuple, kb_str_list, kb_str_dict, kb_NoneType_int, kb_NoneType_bool, kb_NoneType_str, kb_NoneType_tuple, kb_NoneType_list, kb_NoneType_dict, kb_list_int, kb_list_bool, kb_list_str, kb_list_tuple, kb_list_list, kb_list_dict, kb_tuple_int, kb_tuple_bool, kb_tuple_str, kb_tuple_tuple, kb_tuple_list, kb_tuple_dict, kb_dict_int, kb_dict_bool, kb_dict_str, kb_dict_tuple, kb_dict_list, kb_dict_dict, cp_2_53, pw_2_53, cp_10_9, pw_10_9, cp_10_10, pw_10_10, cp_10_18, pw_10_18, cp_10_20, pw_10_20, cp_10_29, pw_10_29, cp_10_30, pw_10_30, hb1, hq1]
    have lg := (fb.bc.mono (m := 1500) (by decide)).log1920
    have nl := num_len (fb.bc.mono (m := 1500) (by decide))
    have nl2 := num_len (fb.bc.mono (m := 1500) (by decide)).neg
    refine ite2 (fun e => ?_) fun e => ?_
    · subst e
      refine ⟨lg, k _ _ s1 ?_⟩
      show _ = fin ([] ++ (if c = 0 ∧ ([] : List Trm) ≠ [] then [] else [(c, dgt c.natAbs)]))
      rw [if_neg (by simp), List.nil_append, fin_one]
      by_cases hc : c < 0
      · rw [num_neg hc]; simp only [if_pos hc]; rfl
      · rw [num_pos hc]; simp only [if_neg hc]; rfl
    · refine ⟨_, rfl, b, _, 0, .ref q, rfl, rfl, hb1, rfl, q, rfl, ⟨_, .inl (.inl hq1)⟩, for_it (walk_tup (xs := ws)) (fun i σ' H' => ∃ (z : Str) (y u : Option V), σ' = [some (.ref b), some (.str z), y, u] ∧ H' = H1 ∧ Lz z = fin ((ts.take i).map pc) ∧ z.length ≤ i * 2010) ⟨_, none, none, rfl, rfl, show Lz (Str.ofString "") = [] by decide +kernel, by show (Str.ofString "").length ≤ _; rw [show (Str.ofString "").length = 0 by decide +kernel]; omega⟩ ?_ ?_ ?_⟩
      · rintro i σ' H' _ ⟨z, y, u, rfl, rfl, _⟩
        exact .inl (.inl hq1)
      · rintro i x σ' H2 H3 hi ⟨z, y, u, rfl, rfl, ez, lz⟩ ⟨rfl, hx⟩
        obtain ⟨t, p, ht', rfl, hp⟩ := ht1.at hx
        have hi12 : i < 12 := by rw [ht.1] at hi; omega
        have hmt : t ∈ ts := List.mem_of_getElem? ht'
        have hqt := fb.isq pl t hmt
        have hl12 := isQ_12 hqt
        have hpc : ∀ t ∈ ts, (pc t).2 ≠ [] := fun t h => szL_ne (isQ_ne (fb.isq pl t h))
        simp only [tDNotIn, tDIn, tDGet, Option.isSome_some, Option.isSome_none, rIsO, isO_int, isO_str, isO_bl, isO_non, isO_ref, isOO_ins, isOO_lst, isOO_tup, isOO_dK, tMethR, StX.tMakeR, cxOf_K, tDNewK, tCallR, tNever, tSeq, tAsg, gName, tPar, tVar, tC, tOp, rI0, rI, rU, tUn, rEq, rNe, tTest, tB, tAnd, tOr, tNot, tAndV, tOrV, tNotV, tIf, tIfS, tRet, tRetN, tNext, tDrop, tCons, tNil, tCB, tCall, tTup, tLst, rIxLH, rIxTH, gSub, rSetL, tPart, tNoPart, tSl, tBM, tBM0, L2.start, sc_ii, sc_ss, sc_bb, sc_nn, sc_ni, sc_in, sc_ns, sc_sn, sc_is, sc_si, eq_self, tChain, List.map_cons, List.map_nil, List.replicate_succ, List.replicate_zero, List.length_cons, List.length_nil, Nat.reduceAdd, Nat.reduceSub, Nat.zero_add, Nat.sub_self, Nat.add_sub_cancel, List.cons_append, List.nil_append, List.append_nil, List.getElem?_cons_zero, List.getElem?_cons_succ, List.set_cons_zero, List.set_cons_succ, Option.some.injEq, V.int.injEq, V.ref.injEq, V.bl.injEq, V.str.injEq, List.cons.injEq, HO.lst.injEq, HO.tup.injEq, and_true, true_and, exists_eq_left', exists_eq_left, exists_eq', exists_eq, exists_eq_right, exists_eq_right', exists_and_left, exists_and_right, and_assoc, upd_same, reduceCtorEq, false_and, and_false, exists_false, or_false, false_or, at0, at1, atM1, sg_inj, dot_eq, plus_eq, minus_eq, rIxS, at2, at3, at4, at5, ix0, ix1, ix2, ix3, upd_upd, decide_eq_true_eq, Int.reduceLT, Int.reduceLE, Int.reduceAdd, Int.reduceSub, Int.reduceNeg, Int.reduceMul, Int.reducePow, Int.reduceEq, decide_true, decide_false, Int.cast_ofNat_Int, Int.natCast_zero, Int.natCast_one, Nat.reduceEqDiff, Nat.reduceLeDiff, rIsB, tyN_non, tyN_bl, tyN_int, tyN_str, tyN_ref, tyO_lst, tyO_tup, tyO_dK, tyO_dT, V.ty.injEq, ite_true, ite_false, if_true, if_false, Bool.not_true, Bool.not_false, Bool.false_eq_true, kb_int_int, kb_int_bool, kb_int_str, kb_int_tuple, kb_int_list, kb_int_dict, kb_bool_int, kb_bool_bool, kb_bool_str, kb_bool_tuple, kb_bool_list, kb_bool_dict, kb_str_int, kb_str_bool, kb_str_str, kb_str_tuple, kb_str_list, kb_str_dict, kb_NoneType_int, kb_NoneType_bool, kb_NoneType_str, kb_NoneType_tuple, kb_NoneType_list, kb_NoneType_dict, kb_list_int, kb_list_bool, kb_list_str, kb_list_tuple, kb_list_list, kb_list_dict, kb_tuple_int, kb_tuple_bool, kb_tuple_str, kb_tuple_tuple, kb_tuple_list, kb_tuple_dict, kb_dict_int, kb_dict_bool, kb_dict_str, kb_dict_tuple, kb_dict_list, kb_dict_dict, cp_2_53, pw_2_53, cp_10_9, pw_10_9, cp_10_10, pw_10_10, cp_10_18, pw_10_18, cp_10_20, pw_10_20, cp_10_29, pw_10_29, cp_10_30, pw_10_30]
        refine ⟨fun σ' H' => ∃ sg : Str, σ' = [some (.ref b), some (.str z), some (.ref p), some (.str sg)] ∧ H' = H3 ∧ sg = (if t.2 < 0 then (⟨#[45]⟩ : Str) else ⟨#[43]⟩), ?_, ?_⟩
        · simp only [tDNotIn, tDIn, tDGet, Option.isSome_some, Option.isSome_none, rIsO, isO_int, isO_str, isO_bl, isO_non, isO_ref, isOO_ins, isOO_lst, isOO_tup, isOO_dK, tMethR, StX.tMakeR, cxOf_K, tDNewK, tCallR, tNever, tSeq, tAsg, gName, tPar, tVar, tC, tOp, rI0, rI, rU, tUn, rEq, rNe, tTest, tB, tAnd, tOr, tNot, tAndV, tOrV, tNotV, tIf, tIfS, tRet, tRetN, tNext, tDrop, tCons, tNil, tCB, tCall, tTup, tLst, rIxLH, rIxTH, gSub, rSetL, tPart, tNoPart, tSl, tBM, tBM0, L2.start, sc_ii, sc_ss, sc_bb, sc_nn, sc_ni, sc_in, sc_ns, sc_sn, sc_is, sc_si, eq_self, tChain, List.map_cons, List.map_nil, List.replicate_succ, List.replicate_zero, List.length_cons, List.length_nil, Nat.reduceAdd, Nat.reduceSub, Nat.zero_add, Nat.sub_self, Nat.add_sub_cancel, List.cons_append, List.nil_append, List.append_nil, List.getElem?_cons_zero, List.getElem?_cons_succ, List.set_cons_zero, List.set_cons_succ, Option.some.injEq, V.int.injEq, V.ref.injEq, V.bl.injEq, V.str.injEq, List.cons.injEq, HO.lst.injEq, HO.tup.injEq, and_true, true_and, exists_eq_left', exists_eq_left, exists_eq', exists_eq, exists_eq_right, exists_eq_right', exists_and_left, exists_and_right, and_assoc, upd_same, reduceCtorEq, false_and, and_false, exists_false, or_false, false_or, at0, at1, atM1, sg_inj, dot_eq, plus_eq, minus_eq, rIxS, at2, at3, at4, at5, ix0, ix1, ix2, ix3, upd_upd, decide_eq_true_eq, Int.reduceLT, Int.reduceLE, Int.reduceAdd, Int.reduceSub, Int.reduceNeg, Int.reduceMul, Int.reducePow, Int.reduceEq, decide_true, decide_false, Int.cast_ofNat_Int, Int.natCast_zero, Int.natCast_one, Nat.reduceEqDiff, Nat.reduceLeDiff, rIsB, tyN_non, tyN_bl, tyN_int, tyN_str, tyN_ref, tyO_lst, tyO_tup, tyO_dK, tyO_dT, V.ty.injEq, ite_true, ite_false, if_true, if_false, Bool.not_true, Bool.not_false, Bool.false_eq_true, kb_int_int, kb_int_bool, kb_int_str, kb_int_tuple, kb_int_list, kb_int_dict, kb_bool_int, kb_bool_bool, kb_bool_str, kb_bool_tuple, kb_bool_list, kb_bool_dict, kb_str_int, kb_str_bool, kb_str_str, kb_str_tuple, kb_str_list, kb_str_dict, kb_NoneType_int, kb_NoneType_bool, kb_NoneType_str, kb_NoneType_tuple, kb_NoneType_list, kb_NoneType_dict, kb_list_int, kb_list_bool, kb_list_str, kb_list_tuple, kb_list_list, kb_list_dict, kb_tuple_int, kb_tuple_bool, kb_tuple_str, kb_tuple_tuple, kb_tuple_list, kb_tuple_dict, kb_dict_int, kb_dict_bool, kb_dict_str, kb_dict_tuple, kb_dict_list, kb_dict_dict, cp_2_53, pw_2_53, cp_10_9, pw_10_9, cp_10_10, pw_10_10, cp_10_18, pw_10_18, cp_10_20, pw_10_20, cp_10_29, pw_10_29, cp_10_30, pw_10_30, hp]
          refine ite2 (fun e => ?_) fun e => ?_
          · rw [if_pos e]
          · rw [if_neg e]
        · rintro σ' H4 ⟨sg, rfl, rfl, esg⟩
          refine ⟨fun σ' H' => ∃ z2 : Str, σ' = [some (.ref b), some (.str z2), some (.ref p), some (.str sg)] ∧ H' = H4 ∧ fin ((ts.take (i + 1)).map pc) = Lz z2 ++ (pc t).2 ∧ z2.length ≤ z.length + 3, ?_, ?_⟩
          · simp only [tDNotIn, tDIn, tDGet, Option.isSome_some, Option.isSome_none, rIsO, isO_int, isO_str, isO_bl, isO_non, isO_ref, isOO_ins, isOO_lst, isOO_tup, isOO_dK, tMethR, StX.tMakeR, cxOf_K, tDNewK, tCallR, tNever, tSeq, tAsg, gName, tPar, tVar, tC, tOp, rI0, rI, rU, tUn, rEq, rNe, tTest, tB, tAnd, tOr, tNot, tAndV, tOrV, tNotV, tIf, tIfS, tRet, tRetN, tNext, tDrop, tCons, tNil, tCB, tCall, tTup, tLst, rIxLH, rIxTH, gSub, rSetL, tPart, tNoPart, tSl, tBM, tBM0, L2.start, sc_ii, sc_ss, sc_bb, sc_nn, sc_ni, sc_in, sc_ns, sc_sn, sc_is, sc_si, eq_self, tChain, List.map_cons, List.map_nil, List.replicate_succ, List.replicate_zero, List.length_cons, List.length_nil, Nat.reduceAdd, Nat.reduceSub, Nat.zero_add, Nat.sub_self, Nat.add_sub_cancel, List.cons_append, List.nil_append, List.append_nil, List.getElem?_cons_zero, List.getElem?_cons_succ, List.set_cons_zero, List.set_cons_succ, Option.some.injEq, V.int.injEq, V.ref.injEq, V.bl.injEq, V.str.injEq, List.cons.injEq, HO.lst.injEq, HO.tup.injEq, and_true, true_and, exists_eq_left', exists_eq_left, exists_eq', exists_eq, exists_eq_right, exists_eq_right', exists_and_left, exists_and_right, and_assoc, upd_same, reduceCtorEq, false_and, and_false, exists_false, or_false, false_or, at0, at1, atM1, sg_inj, dot_eq, plus_eq, minus_eq, rIxS, at2, at3, at4, at5, ix0, ix1, ix2, ix3, upd_upd, decide_eq_true_eq, Int.reduceLT, Int.reduceLE, Int.reduceAdd, Int.reduceSub, Int.reduceNeg, Int.reduceMul, Int.reducePow, Int.reduceEq, decide_true, decide_false, Int.cast_ofNat_Int, Int.natCast_zero, Int.natCast_one, Nat.reduceEqDiff, Nat.reduceLeDiff, rIsB, tyN_non, tyN_bl, tyN_int, tyN_str, tyN_ref, tyO_lst, tyO_tup, tyO_dK, tyO_dT, V.ty.injEq, ite_true, ite_false, if_true, if_false, Bool.not_true, Bool.not_false, Bool.false_eq_true, kb_int_int, kb_int_bool, kb_int_str, kb_int_tuple, kb_int_list, kb_int_dict, kb_bool_int, kb_bool_bool, kb_bool_str, kb_bool_tuple, kb_bool_list, kb_bool_dict, kb_str_int, kb_str_bool, kb_str_str, kb_str_tuple, kb_str_list, kb_str_dict, kb_NoneType_int, kb_NoneType_bool, kb_NoneType_str, kb_NoneType_tuple, kb_NoneType_list, kb_NoneType_dict, kb_list_int, kb_list_bool, kb_list_str, kb_list_tuple, kb_list_list, kb_list_dict, kb_tuple_int, kb_tuple_bool, kb_tuple_str, kb_tuple_tuple, kb_tuple_list, kb_tuple_dict, kb_dict_int, kb_dict_bool, kb_dict_str, kb_dict_tuple, kb_dict_list, kb_dict_dict, cp_2_53, pw_2_53, cp_10_9, pw_10_9, cp_10_10, pw_10_10, cp_10_18, pw_10_18, cp_10_20, pw_10_20, cp_10_29, pw_10_29, cp_10_30, pw_10_30]
            have l1 : (Str.ofString " ").length = 1 := congrArg List.length sp1
            have l2 : sg.length = 1 := by rw [esg]; split <;> rfl
            have lsg : Lz sg = sgL t.2 := by rw [esg]; unfold sgL; split <;> rfl
            have et : (ts.take (i + 1)).map pc = (ts.take i).map pc ++ [pc t] := by rw [take_s ht', List.map_append]; rfl
            by_cases hz : Lz z = []
            · have hl0 : (ts.take i).map pc = [] := by
                cases h : ts.take i with
                | nil => rfl
                | cons a r =>
                  rw [h, List.map_cons] at ez
                  exact absurd (ez.symm.trans hz) (fin_ne (hpc a (List.mem_of_mem_take (i := i) (by rw [h]; exact List.mem_cons_self ..))))
              rw [if_neg (by simp [Lz_nil hz]), et, hl0, List.nil_append, fin_one, hz]
              by_cases hn : t.2 < 0
              · rw [if_pos (by rw [esg, if_pos hn])]
                refine ⟨?_, by show 1 ≤ _; omega⟩
                show (if t.2 < 0 then [45] else []) ++ _ = _
                rw [if_pos hn]; rfl
              · rw [if_neg (by rw [esg, if_neg hn]; decide)]
                refine ⟨?_, by omega⟩
                show (if t.2 < 0 then [45] else []) ++ _ = _
                rw [if_neg hn]
            · have hl0 : (ts.take i).map pc ≠ [] := fun h => hz (by rw [ez, h]; rfl)
              have zn : ¬ z = Str.ofString "" := fun h => hz (by rw [h]; decide +kernel)
              rw [if_pos (by simp [zn]), et, fin_snoc _ hl0]
              simp only [len_app, Lz_app, sp1, l1, l2, lsg]
              refine ⟨size_big (by omega), size_big (by omega), size_big (by omega), ?_, by omega⟩
              rw [ez]
              show _ ++ 32 :: (sgL t.2 ++ 32 :: (pc t).2) = _
              simp
          · rintro σ' H5 ⟨z2, rfl, rfl, e2, l2⟩
            simp only [tDNotIn, tDIn, tDGet, Option.isSome_some, Option.isSome_none, rIsO, isO_int, isO_str, isO_bl, isO_non, isO_ref, isOO_ins, isOO_lst, isOO_tup, isOO_dK, tMethR, StX.tMakeR, cxOf_K, tDNewK, tCallR, tNever, tSeq, tAsg, gName, tPar, tVar, tC, tOp, rI0, rI, rU, tUn, rEq, rNe, tTest, tB, tAnd, tOr, tNot, tAndV, tOrV, tNotV, tIf, tIfS, tRet, tRetN, tNext, tDrop, tCons, tNil, tCB, tCall, tTup, tLst, rIxLH, rIxTH, gSub, rSetL, tPart, tNoPart, tSl, tBM, tBM0, L2.start, sc_ii, sc_ss, sc_bb, sc_nn, sc_ni, sc_in, sc_ns, sc_sn, sc_is, sc_si, eq_self, tChain, List.map_cons, List.map_nil, List.replicate_succ, List.replicate_zero, List.length_cons, List.length_nil, Nat.reduceAdd, Nat.reduceSub, Nat.zero_add, Nat.sub_self, Nat.add_sub_cancel, List.cons_append, List.nil_append, List.append_nil, List.getElem?_cons_zero, List.getElem?_cons_succ, List.set_cons_zero, List.set_cons_succ, Option.some.injEq, V.int.injEq, V.ref.injEq, V.bl.injEq, V.str.injEq, List.cons.injEq, HO.lst.injEq, HO.tup.injEq, and_true, true_and, exists_eq_left', exists_eq_left, exists_eq', exists_eq, exists_eq_right, exists_eq_right', exists_and_left, exists_and_right, and_assoc, upd_same, reduceCtorEq, false_and, and_false, exists_false, or_false, false_or, at0, at1, atM1, sg_inj, dot_eq, plus_eq, minus_eq, rIxS, at2, at3, at4, at5, ix0, ix1, ix2, ix3, upd_upd, decide_eq_true_eq, Int.reduceLT, Int.reduceLE, Int.reduceAdd, Int.reduceSub, Int.reduceNeg, Int.reduceMul, Int.reducePow, Int.reduceEq, decide_true, decide_false, Int.cast_ofNat_Int, Int.natCast_zero, Int.natCast_one, Nat.reduceEqDiff, Nat.reduceLeDiff, rIsB, tyN_non, tyN_bl, tyN_int, tyN_str, tyN_ref, tyO_lst, tyO_tup, tyO_dK, tyO_dT, V.ty.injEq, ite_true, ite_false, if_true, if_false, Bool.not_true, Bool.not_false, Bool.false_eq_true, kb_int_int, kb_int_bool, kb_int_str, kb_int_tuple, kb_int_list, kb_int_dict, kb_bool_int, kb_bool_bool, kb_bool_str, kb_bool_tuple, kb_bool_list, kb_bool_dict, kb_str_int, kb_str_bool, kb_str_str, kb_str_tuple, kb_str_list, kb_str_dict, kb_NoneType_int, kb_NoneType_bool, kb_NoneType_str, kb_NoneType_tuple, kb_NoneType_list, kb_NoneType_dict, kb_list_int, kb_list_bool, kb_list_str, kb_list_tuple, kb_list_list, kb_list_dict, kb_tuple_int, kb_tuple_bool, kb_tuple_str, kb_tuple_tuple, kb_tuple_list, kb_tuple_dict, kb_dict_int, kb_dict_bool, kb_dict_str, kb_dict_tuple, kb_dict_list, kb_dict_dict, cp_2_53, pw_2_53, cp_10_9, pw_10_9, cp_10_10, pw_10_10, cp_10_18, pw_10_18, cp_10_20, pw_10_20, cp_10_29, pw_10_29, cp_10_30, pw_10_30, hp, spSize]
            refine ⟨hl12.2, (fb.bw t hmt).mono (by decide), fun z3 e3 l3 => ⟨size_big (by omega), ?_, by rw [len_app]; omega⟩⟩
            rw [Lz_app, e2, e3]; rfl
      · rintro σ' H2 ⟨z, y, u, rfl, rfl, ez, lz⟩
        rw [ht.1, List.take_length] at ez
        rw [ht.1] at lz
        simp only [tDNotIn, tDIn, tDGet, Option.isSome_some, Option.isSome_none, rIsO, isO_int, isO_str, isO_bl, isO_non, isO_ref, isOO_ins, isOO_lst, isOO_tup, isOO_dK, tMethR, StX.tMakeR, cxOf_K, tDNewK, tCallR, tNever, tSeq, tAsg, gName, tPar, tVar, tC, tOp, rI0, rI, rU, tUn, rEq, rNe, tTest, tB, tAnd, tOr, tNot, tAndV, tOrV, tNotV, tIf, tIfS, tRet, tRetN, tNext, tDrop, tCons, tNil, tCB, tCall, tTup, tLst, rIxLH, rIxTH, gSub, rSetL, tPart, tNoPart, tSl, tBM, tBM0, L2.start, sc_ii, sc_ss, sc_bb, sc_nn, sc_ni, sc_in, sc_ns, sc_sn, sc_is, sc_si, eq_self, tChain, List.map_cons, List.map_nil, List.replicate_succ, List.replicate_zero, List.length_cons, List.length_nil, Nat.reduceAdd, Nat.reduceSub, Nat.zero_add, Nat.sub_self, Nat.add_sub_cancel, List.cons_append, List.nil_append, List.append_nil, List.getElem?_cons_zero, List.getElem?_cons_succ, List.set_cons_zero, List.set_cons_succ, Option.some.injEq, V.int.injEq, V.ref.injEq, V.bl.injEq, V.str.injEq, List.cons.injEq, HO.lst.injEq, HO.tup.injEq, and_true, true_and, exists_eq_left', exists_eq_left, exists_eq', exists_eq, exists_eq_right, exists_eq_right', exists_and_left, exists_and_right, and_assoc, upd_same, reduceCtorEq, false_and, and_false, exists_false, or_false, false_or, at0, at1, atM1, sg_inj, dot_eq, plus_eq, minus_eq, rIxS, at2, at3, at4, at5, ix0, ix1, ix2, ix3, upd_upd, decide_eq_true_eq, Int.reduceLT, Int.reduceLE, Int.reduceAdd, Int.reduceSub, Int.reduceNeg, Int.reduceMul, Int.reducePow, Int.reduceEq, decide_true, decide_false, Int.cast_ofNat_Int, Int.natCast_zero, Int.natCast_one, Nat.reduceEqDiff, Nat.reduceLeDiff, rIsB, tyN_non, tyN_bl, tyN_int, tyN_str, tyN_ref, tyO_lst, tyO_tup, tyO_dK, tyO_dT, V.ty.injEq, ite_true, ite_false, if_true, if_false, Bool.not_true, Bool.not_false, Bool.false_eq_true, kb_int_int, kb_int_bool, kb_int_str, kb_int_tuple, kb_int_list, kb_int_dict, kb_bool_int, kb_bool_bool, kb_bool_str, kb_bool_tuple, kb_bool_list, kb_bool_dict, kb_str_int, kb_str_bool, kb_str_str, kb_str_tuple, kb_str_list, kb_str_dict, kb_NoneType_int, kb_NoneType_bool, kb_NoneType_str, kb_NoneType_tuple, kb_NoneType_list, kb_NoneType_dict, kb_list_int, kb_list_bool, kb_list_str, kb_list_tuple, kb_list_list, kb_list_dict, kb_tuple_int, kb_tuple_bool, kb_tuple_str, kb_tuple_tuple, kb_tuple_list, kb_tuple_dict, kb_dict_int, kb_dict_bool, kb_dict_str, kb_dict_tuple, kb_dict_list, kb_dict_dict, cp_2_53, pw_2_53, cp_10_9, pw_10_9, cp_10_10, pw_10_10, cp_10_18, pw_10_18, cp_10_20, pw_10_20, cp_10_29, pw_10_29, cp_10_30, pw_10_30, hb1]
        have hm0 : ts.map pc ≠ [] := by simpa using e
        have ep : pcs ts c = ts.map pc ++ (if c = 0 ∧ ts ≠ [] then [] else [(c, dgt c.natAbs)]) := rfl
        have lpp : (Str.ofString " + ").length = 3 := congrArg List.length spp
        have lpm : (Str.ofString " - ").length = 3 := congrArg List.length spm
        have lg2 := (fb.bc.mono (m := 1500) (by decide)).neg.log1920
        refine ite2 (fun h => ?_) fun h => ite2 (fun h2 => ?_) fun h2 => ?_
        · refine ⟨size_big (by omega), lg, size_big (by rw [len_app]; omega), k _ _ s1 ?_⟩
          rw [ep, if_neg (by omega), fin_snoc _ hm0, Lz_app, Lz_app, spp, ez, num_pos (by omega), List.append_assoc]
          congr 1
          show _ = 32 :: (sgL c ++ 32 :: dgt c.natAbs)
          unfold sgL; rw [if_neg (by omega)]; rfl
        · refine ⟨size_big (by omega), lg2, size_big (by rw [len_app]; omega), k _ _ s1 ?_⟩
          rw [ep, if_neg (by omega), fin_snoc _ hm0, Lz_app, Lz_app, spm, ez, num_pos (by omega), List.append_assoc]
          congr 1
          show _ = 32 :: (sgL c ++ 32 :: dgt c.natAbs)
          unfold sgL; rw [if_pos (by omega), show (-c).natAbs = c.natAbs by omega]; rfl
        · refine k _ _ s1 ?_
          rw [ep, if_pos ⟨by omega, e⟩, List.append_nil]; exact ez
def spRight (C : Addr) : Sp := fun vs H Q _ => ∃ (a b : Addr) (N : List Str) (ts : List Trm) (c : Int), vs = [.ref a, .ref b] ∧ FormAt C H a ts c ∧ DueAt H b ts c ∧ Pool N ∧ FB N 1000 ts c ∧ ∀ H', Same H H' → Q (.bl true) H'
theorem sc_l_right : FnScope ["_law_found", "_law_due", "_law_line"] ["_law_found", "_law_due"] (defScope s_l_right) := ⟨rfl, rfl, rfl, by decide +kernel, rfl, by decide +kernel, by decide +kernel⟩
theorem ok_l_right (T : Txt K mg) : FnOk P w K mg base CX0 6 (He.ga K "_law_right") (fdOf K (He.ga K "_law_right")) ["_law_found", "_law_due"] (spRight (He.ga K "Form")) := by
  refine T.F_l_right.ok sc_l_right (fun vs H Q E h => ?_) (fun cdv A outer s H vs Q E hr h => ?_)
  · obtain ⟨_, _, _, _, _, rfl, _⟩ := h
    rfl
  · obtain ⟨a, b, N, ts, c, rfl, fa, du, pl, fb, k⟩ := h
    have hl : ts.length ≤ 12 := by have := fb.len; have := pl.l; omega
    refine ⟨_, PSs.nox (pss_cons (ps_if (pt_not (pt_val (pe_call (ok_l_form_is T) (hr.mono (by decide)) (by rfl) T.g_l_form_is T.k_l_form_is T.b_l_form_is .nil pass0 (pa_cons (pv 0) (pa_cons (pv 1) pa_nil))))) (pss_one (ps_ret pe_bl)) pss_nil)
      (pss_cons (ps_set (i := 2) sc_l_right.nd rfl (Or.inl rfl) (pe_callTy (call_strO T.o_str (rawN (ok_Form___str__ T) T.b_Form___str__) (hr.mono (by decide)) pass0) (by rfl) T.z_str (by decide +kernel) (pa_cons (pv 0) pa_nil)))
      (pss_one (ps_ret (pe_and (pe_callB call_isiB (by rfl) T.z_isinstance (by decide +kernel) (pa_cons (pv 2) (pa_cons (pe_bltn (v := .ty "str") (by rfl) T.z_str (by decide +kernel) rfl) pa_nil))) (pe_one (pe_cmpR op_eq (pv 2) (pe_call (ok_l_written T) (hr.mono (by decide)) (by rfl) T.g_l_written T.k_l_written T.b_l_written .nil pass0 (pa_cons (pv 1) pa_nil)) (nomark _)))))))), ?_⟩
    simp only [tDNotIn, tDIn, tDGet, Option.isSome_some, Option.isSome_none, rIsO, isO_int, isO_str, isO_bl, isO_non, isO_ref, isOO_ins, isOO_lst, isOO_tup, isOO_dK, tMethR, StX.tMakeR, cxOf_K, tDNewK, tCallR, tNever, tSeq, tAsg, gName, tPar, tVar, tC, tOp, rI0, rI, rU, tUn, rEq, rNe, tTest, tB, tAnd, tOr, tNot, tAndV, tOrV, tNotV, tIf, tIfS, tRet, tRetN, tNext, tDrop, tCons, tNil, tCB, tCall, tTup, tLst, rIxLH, rIxTH, gSub, rSetL, tPart, tNoPart, tSl, tBM, tBM0, L2.start, sc_ii, sc_ss, sc_bb, sc_nn, sc_ni, sc_in, sc_ns, sc_sn, sc_is, sc_si, eq_self, tChain, List.map_cons, List.map_nil, List.replicate_succ, List.replicate_zero, List.length_cons, List.length_nil, Nat.reduceAdd, Nat.reduceSub, Nat.zero_add, Nat.sub_self, Nat.add_sub_cancel, List.cons_append, List.nil_append, List.append_nil, List.getElem?_cons_zero, List.getElem?_cons_succ, List.set_cons_zero, List.set_cons_succ, Option.some.injEq, V.int.injEq, V.ref.injEq, V.bl.injEq, V.str.injEq, List.cons.injEq, HO.lst.injEq, HO.tup.injEq, and_true, true_and, exists_eq_left', exists_eq_left, exists_eq', exists_eq, exists_eq_right, exists_eq_right', exists_and_left, exists_and_right, and_assoc, upd_same, reduceCtorEq, false_and, and_false, exists_false, or_false, false_or, at0, at1, atM1, sg_inj, dot_eq, plus_eq, minus_eq, rIxS, at2, at3, at4, at5, ix0, ix1, ix2, ix3, upd_upd, decide_eq_true_eq, Int.reduceLT, Int.reduceLE, Int.reduceAdd, Int.reduceSub, Int.reduceNeg, Int.reduceMul, Int.reducePow, Int.reduceEq, decide_true, decide_false, Int.cast_ofNat_Int, Int.natCast_zero, Int.natCast_one, Nat.reduceEqDiff, Nat.reduceLeDiff, rIsB, tyN_non, tyN_bl, tyN_int, tyN_str, tyN_ref, tyO_lst, tyO_tup, tyO_dK, tyO_dT, V.ty.injEq, ite_true, ite_false, if_true, if_false, Bool.not_true, Bool.not_false, Bool.false_eq_true, kb_int_int, kb_int_bool, kb_int_str, kb_int_tuple, kb_int_list, kb_int_dict, kb_bool_int, kb_bool_bool, kb_bool_str, kb_bool_tuple, kb_bool_list, kb_bool_dict, kb_str_int, kb_str_bool, kb_str_str, kb_str_tuple, kb_str_list, kb_str_dict, kb_NoneType_int, kb_NoneType_bool, kb_NoneType_str, kb_NoneType_tuple, kb_NoneType_list, kb_NoneType_dict, kb_list_int, kb_list_bool, kb_list_str, kb_list_tuple, kb_list_list, kb_list_dict, kb_tuple_int, kb_tuple_bool, kb_tuple_str, kb_tuple_tuple, kb_tuple_list, kb_tuple_dict, kb_dict_int, kb_dict_bool, kb_dict_str, kb_dict_tuple, kb_dict_list, kb_dict_dict, cp_2_53, pw_2_53, cp_10_9, pw_10_9, cp_10_10, pw_10_10, cp_10_18, pw_10_18, cp_10_20, pw_10_20, cp_10_29, pw_10_29, cp_10_30, pw_10_30, spFormIs]
    obtain ⟨dx, r, vs, ha, _⟩ := id fa
    refine ⟨ts, c, fa, du, by omega, ⟨_, _, ha⟩, a, N, ts, c, rfl, fa, pl, fb, fun z H1 s1 ez lz => ⟨⟨_, rfl⟩, _, rfl, _, rfl, ?_⟩⟩
    rw [if_pos rfl]
    refine ⟨b, N, ts, c, rfl, du.im (Im.of s1), pl, fb, fun z2 H2 s2 e2 => ⟨rfl, ?_⟩⟩
    have : z = z2 := str_ext (ez.trans e2.symm)
    rw [this]
    have := k H2 (s1.trans s2)
    simpa using this
end
end K0
namespace K0
open PySem PySem.Spec PyProof.Rows L2
/-! == and a call by own methods -/
section
variable {X : Cx} {CX : CXT} {k : Nat} {C f : Addr} {sp : Sp} {E : XK}
/-- x == y, both of the class -/
theorem op_eqO (c : OpC X.K C "__eq__" f) (F : FnR X.prog X.w X.K X.mg X.base CX k f sp) (hr : Room k X.A) (hx : Passes CX X E) :
    OpR X (compareOp .Eq) (fun x y H Q => ∃ a b dx dy fs gs, x = .ref a ∧ y = .ref b ∧ H a = some (.ins C dx fs) ∧ H b = some (.ins C dy gs) ∧ sp [.ref a, .ref b] H Q E) := by
  intro pins s σ H x y v u Q I rx ry h
  obtain ⟨a, b, dx, dy, fs, gs, rfl, rfl, ha, hb, h⟩ := h
  cases rx
  cases ry
  obtain ⟨ox, od, J⟩ := inst_at I ha
  obtain ⟨oy, oe, J'⟩ := inst_at I hb
  obtain ⟨m, hF⟩ := I.fr
  exact PySem.W.cmp_K (op := .Eq) (by have := hr.un; omega) hF I.ok.mod.kin J J'.type (by simp [PySem.W.notFirst]) c.at_ c.fn (wpAny_mono (run_in (vs := [.ref a, .ref b]) F hr rfl hx I (.cons rfl (.cons rfl .nil)) h) (fun _ _ z => not_ni z) fun _ _ z => z)
/-- x(e, ..), x a name of an instance -/
theorem callWith_inst {M : Model} {A : Around} {Q : Value → Shared → Prop} {Ex : Value → Shared → Prop} {s : Shared} {x : Addr} {pos : Pos} {args : List (Bool × Sem Value)} (hplain : args.any (·.1) = false)
    (h : wpAny M A (evalArgs (.ref x) true args []) (fun a s₁ => (∃ ox od, PySem.W.InstAt s₁.heap x ox C od ∧ ox.data = .plain) ∧ wpAny M A (call (.ref x) a.pos a.kw) Q Ex s₁) Ex s) : wpAny M A (callWith pos (.ref x) [] args []) Q Ex s := by
  unfold callWith
  refine wpAny_bind (wpAny_holding (wpAny_mono h (fun a s₁ h₁ => wpAny_bind (wpAny_standAt ?_)) fun _ _ y => y))
  obtain ⟨⟨ox, od, J, hd⟩, h₁⟩ := h₁
  have L := PySem.W.kco_keeper (M := M) J hd
  simp only [hplain]
  refine wpAny_bind (L.here ?_)
  have tail : ∀ {t : Sem Value}, wpAny M A t Q Ex s₁ → wpAny M A (t >>= fun r => holding [r] point >>= fun _ => pure r) Q Ex s₁ :=
    fun ht => wpAny_bind (wpAny_mono ht (fun r s₂ hr => wpAny_bind (wpAny_holding (wpAny_point (wpAny_pure hr)))) fun _ _ y => y)
  exact tail (wpAny_operateT h₁)
theorem pe_callO {x : Str} {nm pos : Pos} {e : Expr} {es : List Expr} {tf : TE} {t : TA} (c : OpC X.K C "__call__" f) (hfi : PySem.W.fnIn X.K f = true) (F : FnR X.prog X.w X.K X.mg X.base CX k f sp) (hr : Room k X.A) (hx : Passes CX X E) (hf : PE X (.Name x nm) tf) (ha : PA X (e :: es) t)
    (he : starEach (e :: es) X.env = (false, eval e X.env) :: starEach es X.env := by rfl) (hpl : (backTo pos (starEach es X.env)).any (·.1) = false := by rfl) :
    PE X (.Call (.Name x nm) (e :: es) [] pos) (fun σ H Q => tf σ H fun v H1 => ∃ a, v = .ref a ∧ t σ H1 fun vs H2 => ∃ dx fs, H2 a = some (.ins C dx fs) ∧ sp (.ref a :: vs) H2 Q E) := by
  refine ⟨fun pins s σ H Q I h => ?_⟩
  refine wpAny_Call_Name_kw (thn (hf.run pins s σ H _ I h) fun g s0 ⟨v, H0, I0, r0, a, ev, q0⟩ => ?_)
  subst ev
  obtain rfl : g = Value.ref a := r0
  have hp : (backTo pos (starEach (e :: es) X.env)).any (·.1) = false := by
    rw [he]
    show (false || (backTo pos (starEach es X.env)).any (·.1)) = false
    rw [hpl]; rfl
  refine callWith_inst (C := C) hp ?_
  have q1 := thn (ha.run pos pins s0 σ H0 _ I0 q0) fun us s1 (z : ∃ vs H1, Inv X pins σ H1 s1 ∧ Vals vs us ∧ ∃ dx fs, H1 a = some (.ins C dx fs) ∧ sp (.ref a :: vs) H1 Q E) => (show (∃ ox od, PySem.W.InstAt s1.heap a ox C od ∧ ox.data = .plain) ∧ wpAny (model X.prog X.w) X.A (call (.ref a) us) (EP X pins σ Q) X.xe s1 from by
    obtain ⟨vs, H1, I1, r1, dx, fs, hi, q⟩ := z
    obtain ⟨mA, O, _⟩ := ins_get I1.hok hi
    obtain ⟨od, J, _⟩ := O.look
    exact ⟨⟨_, _, J, rfl⟩, wpAny_call (PySem.W.kco_code I1.kIn J rfl c.at_ c.fn hfi (run_fnR (us := .ref a :: us) (vs := .ref a :: vs) F hr hx I1 (.cons rfl r1) q))⟩)
  rw [he] at q1 ⊢
  exact Calls.evalArgs_plain q1
end
end K0
namespace K0
open PySem PySem.Spec PyProof.Rows L2
theorem rb_lin {lv : Str → Rat} {d : Int} (hd : Sm 120 d) : ∀ us : List Trm, (∀ t ∈ us, Sm 120 t.2 ∧ RB 120 (lv t.1)) → RB (120 + us.length * 241) (d + lin lv us) := by
  intro us
  induction us with
  | nil =>
    intro _
    have e : (d : Rat) + lin lv [] = d := by simp [lin]; grind
    rw [e]
    exact ⟨hd, Sm.mono (n := 1) (by show Sm 1 ((1 : Nat) : Int); unfold Sm; decide) (by decide)⟩
  | cons t r ih =>
    intro h
    have h1 := ih fun u hu => h u (List.mem_cons_of_mem _ hu)
    obtain ⟨sw, bl⟩ := h t (List.mem_cons_self ..)
    have h2 : RB 240 ((t.2 : Rat) * lv t.1) := by
      rw [w_rat]
      exact rb_div (den0 _) ((sw.mul bl.a).mono (by decide)) (bl.b.mono (by decide))
    have h3 := rb_add h1 h2
    have e : (d : Rat) + lin lv (t :: r) = d + lin lv r + (t.2 : Rat) * lv t.1 := by
      show (d : Rat) + ((t.2 : Rat) * lv t.1 + lin lv r) = _
      grind
    rw [e]
    exact h3.mono (by rw [List.length_cons]; omega)
theorem lin_split {f g : Str → Rat} {n : Str} (h : ∀ m, m ≠ n → g m = f m) : ∀ ts : List Trm, lin g ts = lin f (ts.filter fun t => decide (t.1 ≠ n)) + (wt ts n : Rat) * g n := by
  intro ts
  induction ts with
  | nil => simp [lin, wt]; grind
  | cons t r ih =>
    show (t.2 : Rat) * g t.1 + lin g r = _
    by_cases e : t.1 = n
    · rw [List.filter_cons, if_neg (by simp [e]), ih]
      simp only [wt]
      rw [if_pos e, e, Rat.intCast_add]; grind
    · rw [List.filter_cons, if_pos (by simp [e]), ih]
      simp only [wt]
      rw [if_neg e]
      show _ = ((t.2 : Rat) * f t.1 + _) + _
      rw [h _ e]
      grind
theorem put_value {lv lw : Str → Rat} {n : Str} {ts us xs : List Trm} {c d : Int} (h : ∀ m, m ≠ n → lw m = lv m) (h' : lw n = d + lin lv us) (hw : ∀ m, wt xs m = (if m = n then 0 else wt ts m) + wt us m * wt ts n) :
    ((c + d * wt ts n : Int) : Rat) + lin lv xs = c + lin lw ts := by
  have e1 : lin lv xs = lin lv ((ts.filter fun t => decide (t.1 ≠ n)) ++ us.map fun p => (p.1, p.2 * wt ts n)) := lin_same lv fun m => by rw [hw, wt_append, wt_filter, wt_scale]
  rw [e1, lin_append, lin_scale, lin_split h ts, h', Rat.intCast_add, Rat.intCast_mul]
  grind
theorem Txt.o_eq {K : PySem.W.Frag} {mg : Str → Option Value} (T : Txt K mg) : OpC K (He.ga K "Form") "__eq__" (He.ma K (He.ga K "Form") "__eq__") := opC (He.meth_ok T.f_meth_Form_eq)
theorem Txt.o_call {K : PySem.W.Frag} {mg : Str → Option Value} (T : Txt K mg) : OpC K (He.ga K "Form") "__call__" (He.ma K (He.ga K "Form") "__call__") := opC (He.meth_ok T.f_meth_Form_call)
section
variable {P : Program} {w : World} {K : PySem.W.Frag} {mg : Str → Option Value} {base : Heap}
def spPutRight (C : Addr) : Sp := fun vs H Q _ => ∃ (a a1 b b1 x : Addr) (N : List Str) (ts us : List Trm) (c d : Int) (n : Str) (lv : Str → Rat), vs = [.ref a, .ref a1, .str n, .ref b, .ref b1, .ref x] ∧ FormAt C H a ts c ∧ DueAt H a1 ts c ∧ FormAt C H b us d ∧ DueAt H b1 us d ∧ N.length ≤ 4 ∧ Pool N ∧ FB N 250 ts c ∧ FB N 120 us d ∧ n ∈ N ∧ WorldAt H x N lv ∧ ∀ H', Same H H' → Q (.bl true) H'
theorem sc_l_put_right : FnScope ["_law_first", "_law_one", "_law_text", "_law_other", "_law_due_other", "_law_world", "_law_due", "_law_found", "_law_moved", "_law_held", "_law_pair"] ["_law_first", "_law_one", "_law_text", "_law_other", "_law_due_other", "_law_world"] (defScope s_l_put_right) := ⟨rfl, rfl, rfl, by decide +kernel, rfl, by decide +kernel, by decide +kernel⟩
theorem ok_l_put_right (T : Txt K mg) : FnOk P w K mg base CX0 8 (He.ga K "_law_put_right") (fdOf K (He.ga K "_law_put_right")) ["_law_first", "_law_one", "_law_text", "_law_other", "_law_due_other", "_law_world"] (spPutRight (He.ga K "Form")) := by
  refine T.F_l_put_right.ok sc_l_put_right (fun vs H Q E h => ?_) (fun cdv A outer s H vs Q E hr h => ?_)
  · obtain ⟨_, _, _, _, _, _, _, _, _, _, _, _, rfl, _⟩ := h
    rfl
  · obtain ⟨a, a1, b, b1, x, N, ts, us, c, d, n, lv, rfl, fa, da, fb', db, hN4, pl, fb, gb, hn, hw, k⟩ := h
    have hu := hu_of hr
    refine ⟨_, PSs.nox (pss_cons (ps_set (i := 6) sc_l_put_right.nd rfl (Or.inl rfl) (pe_call (ok_l_put T) (hr.mono (by decide)) (by rfl) T.g_l_put T.k_l_put T.b_l_put .nil pass0 (pa_cons (pv 1) (pa_cons (pv 2) (pa_cons (pv 4) pa_nil)))))
      (pss_cons (ps_set (i := 7) sc_l_put_right.nd rfl (Or.inl rfl) (pe_methR (pv 0) T.cl_Form T.m_Form_put (rawN (ok_Form_put T) T.b_Form_put) (hr.mono (by decide)) pass0 (pa_cons (pv 2) (pa_cons (pv 3) pa_nil))))
      (pss_cons (ps_if (PW.pt (pw_or (pt_not (pt_val (pe_call (ok_l_right T) (hr.mono (by decide)) (by rfl) T.g_l_right T.k_l_right T.b_l_right .nil pass0 (pa_cons (pv 7) (pa_cons (pv 6) pa_nil))))) (pw_or (pt_not (pt_val (pe_call (ok_l_right T) (hr.mono (by decide)) (by rfl) T.g_l_right T.k_l_right T.b_l_right .nil pass0 (pa_cons (pv 0) (pa_cons (pv 1) pa_nil))))) (pw_or1 (pt_not (pt_val (pe_call (ok_l_right T) (hr.mono (by decide)) (by rfl) T.g_l_right T.k_l_right T.b_l_right .nil pass0 (pa_cons (pv 3) (pa_cons (pv 4) pa_nil))))))))) (pss_one (ps_ret pe_bl)) pss_nil)
      (pss_cons (ps_set (i := 8) sc_l_put_right.nd rfl (Or.inl rfl) (pe_callTy call_dictD (by rfl) T.z_dict (by decide +kernel) (pa_cons (pv 5) pa_nil)))
      (pss_cons (ps_dput hu (pv 8) (pv 2) (pe_call (ok_l_value T) (hr.mono (by decide)) (by rfl) T.g_l_value T.k_l_value T.b_l_value .nil pass0 (pa_cons (pv 4) (pa_cons (pv 5) pa_nil))) rfl)
      (pss_cons (ps_if (pt_not (pt_val (pe_call (ok_l_pair_is T) (hr.mono (by decide)) (by rfl) T.g_l_pair_is T.k_l_pair_is T.b_l_pair_is .nil pass0 (pa_cons (pe_callO T.o_call T.x_fncall (rawN (ok_Form___call__ T) T.b_Form___call__) (hr.mono (by decide)) pass0 (pv 7) (pa_cons (pv 5) pa_nil)) (pa_cons (pe_call (ok_l_value T) (hr.mono (by decide)) (by rfl) T.g_l_value T.k_l_value T.b_l_value .nil pass0 (pa_cons (pv 1) (pa_cons (pv 8) pa_nil))) pa_nil))))) (pss_one (ps_ret pe_bl)) pss_nil)
      (pss_cons (ps_set (i := 9) sc_l_put_right.nd rfl (Or.inl rfl) (pe_cmpR op_in_seq (pv 2) (pe_lc (own := [("_law_pair", 10)]) (g := gName 10) (tt := tYes) (by rfl) sc_l_put_right.nd (pi_tup (pe_ix ixT (pv 1) pe_int (fun _ _ => rfl))) (blkOk_by (own := [("_law_pair", 10)]) (N := ["_law_first", "_law_one", "_law_text", "_law_other", "_law_due_other", "_law_world", "_law_due", "_law_found", "_law_moved", "_law_held", "_law_pair"]) (sc := defScope s_l_put_right) (by decide +kernel)) (fun _ _ _ _ _ => pg_name (i := 10) sc_l_put_right.nd rfl (Or.inl rfl)) (fun _ _ _ _ _ => pts_nil) (fun _ _ _ _ _ => (pe_ix ixT (pv 10) pe_int (fun _ _ => rfl)))) (by rfl)))
      (pss_one (ps_ret (pe_or (pv 9) (pe_one (pe_cmpR (op_eqO T.o_eq (rawN (ok_Form___eq__ T) T.b_Form___eq__) (hr.mono (by decide)) pass0) (pv 7) (pv 0) (nomark _))))))))))))), ?_⟩
    simp only [tDNotIn, tDIn, tDGet, Option.isSome_some, Option.isSome_none, rIsO, isO_int, isO_str, isO_bl, isO_non, isO_ref, isOO_ins, isOO_lst, isOO_tup, isOO_dK, tMethR, StX.tMakeR, cxOf_K, tDNewK, tCallR, tNever, tSeq, tAsg, gName, tPar, tVar, tC, tOp, rI0, rI, rU, tUn, rEq, rNe, tTest, tB, tAnd, tOr, tNot, tAndV, tOrV, tNotV, tIf, tIfS, tRet, tRetN, tNext, tDrop, tCons, tNil, tCB, tCall, tTup, tLst, rIxLH, rIxTH, gSub, rSetL, tPart, tNoPart, tSl, tBM, tBM0, L2.start, sc_ii, sc_ss, sc_bb, sc_nn, sc_ni, sc_in, sc_ns, sc_sn, sc_is, sc_si, eq_self, tChain, List.map_cons, List.map_nil, List.replicate_succ, List.replicate_zero, List.length_cons, List.length_nil, Nat.reduceAdd, Nat.reduceSub, Nat.zero_add, Nat.sub_self, Nat.add_sub_cancel, List.cons_append, List.nil_append, List.append_nil, List.getElem?_cons_zero, List.getElem?_cons_succ, List.set_cons_zero, List.set_cons_succ, Option.some.injEq, V.int.injEq, V.ref.injEq, V.bl.injEq, V.str.injEq, List.cons.injEq, HO.lst.injEq, HO.tup.injEq, and_true, true_and, exists_eq_left', exists_eq_left, exists_eq', exists_eq, exists_eq_right, exists_eq_right', exists_and_left, exists_and_right, and_assoc, upd_same, reduceCtorEq, false_and, and_false, exists_false, or_false, false_or, at0, at1, atM1, sg_inj, dot_eq, plus_eq, minus_eq, rIxS, at2, at3, at4, at5, ix0, ix1, ix2, ix3, upd_upd, decide_eq_true_eq, Int.reduceLT, Int.reduceLE, Int.reduceAdd, Int.reduceSub, Int.reduceNeg, Int.reduceMul, Int.reducePow, Int.reduceEq, decide_true, decide_false, Int.cast_ofNat_Int, Int.natCast_zero, Int.natCast_one, Nat.reduceEqDiff, Nat.reduceLeDiff, rIsB, tyN_non, tyN_bl, tyN_int, tyN_str, tyN_ref, tyO_lst, tyO_tup, tyO_dK, tyO_dT, V.ty.injEq, ite_true, ite_false, if_true, if_false, Bool.not_true, Bool.not_false, Bool.false_eq_true, kb_int_int, kb_int_bool, kb_int_str, kb_int_tuple, kb_int_list, kb_int_dict, kb_bool_int, kb_bool_bool, kb_bool_str, kb_bool_tuple, kb_bool_list, kb_bool_dict, kb_str_int, kb_str_bool, kb_str_str, kb_str_tuple, kb_str_list, kb_str_dict, kb_NoneType_int, kb_NoneType_bool, kb_NoneType_str, kb_NoneType_tuple, kb_NoneType_list, kb_NoneType_dict, kb_list_int, kb_list_bool, kb_list_str, kb_list_tuple, kb_list_list, kb_list_dict, kb_tuple_int, kb_tuple_bool, kb_tuple_str, kb_tuple_tuple, kb_tuple_list, kb_tuple_dict, kb_dict_int, kb_dict_bool, kb_dict_str, kb_dict_tuple, kb_dict_list, kb_dict_dict, cp_2_53, pw_2_53, cp_10_9, pw_10_9, cp_10_10, pw_10_10, cp_10_18, pw_10_18, cp_10_20, pw_10_20, cp_10_29, pw_10_29, cp_10_30, pw_10_30]
    refine ⟨a1, b1, N, ts, us, c, d, n, rfl, da, db, pl, fb.mono (by decide), gb.mono (by decide), fun r1 H1 xs1 nr1 s1 cn1 hw1 du1 => ?_⟩
    obtain ⟨dx, r, vs, ha, _⟩ := id fa
    obtain ⟨dy, r', vs', hb, _⟩ := id fb'
    refine ⟨_, _, s1 _ _ ha, look_n _ _ _ (by decide +kernel) (by decide +kernel), a, b, N, ts, us, c, d, n, rfl, fa.im (Im.of s1), fb'.im (Im.of s1), pl, fb.mono (by decide), gb.mono (by decide), fun r2 H2 xs nr2 s2 cn2 hw2 fo => ?_⟩
    have exs : xs1 = xs := cn1.same cn2 fun m => by rw [hw1, hw2]
    subst exs
    have fx : FB N 400 xs1 (c + d * wt ts n) := by
      refine FB.of cn1 hw1 (fun m hm => ?_) (fun m => ?_) ?_
      · by_cases h1 : wt us m = 0
        · rw [h1, Int.zero_mul, Int.add_zero] at hm
          by_cases e : m = n
          · rw [if_pos e] at hm; exact absurd rfl hm
          · rw [if_neg e] at hm; exact fb.wn hm
        · exact gb.wn h1
      · have h2 := (gb.wb m).mul (fb.wb n)
        have h3 : Sm 250 (if m = n then 0 else wt ts m) := by
          by_cases e : m = n
          · rw [if_pos e]; exact Sm.zero
          · rw [if_neg e]; exact fb.wb m
        exact (h3.add h2).mono (by decide)
      · exact (fb.bc.add (gb.bc.mul (fb.wb n))).mono (by decide)
    refine ⟨r2, r1, N, xs1, _, rfl, fo, du1.im (Im.of s2), pl, fx.mono (by decide), fun H3 s3 => ⟨_, rfl, ?_⟩⟩
    rw [if_neg (by decide)]
    have s13 := (s1.trans s2).trans s3
    refine ⟨a, a1, N, ts, c, rfl, fa.im (Im.of s13), da.im (Im.of s13), pl, fb.mono (by decide), fun H4 s4 => ⟨_, rfl, ?_⟩⟩
    rw [if_neg (by decide)]
    have s14 := s13.trans s4
    refine ⟨b, b1, N, us, d, rfl, fb'.im (Im.of s14), db.im (Im.of s14), pl, gb.mono (by decide), fun H5 s5 => ⟨_, rfl, ?_⟩⟩
    rw [if_neg (by decide)]
    have s15 := s14.trans s5
    obtain ⟨kvs, hx, hk, hlv⟩ := id hw
    refine ⟨kvs, .inl (s15 _ _ hx), ?_⟩
    (intro p np; (obtain ⟨H6, eqH, s6, e6⟩ := new_upd (o := .dK kvs) np); rw [← eqH]; clear eqH)
    have s16 := s15.trans s6
    have hx6 := s16 _ _ hx
    have wb6 : WorldB H6 x N lv := ⟨kvs, hx6, by omega, fun m hm => by
      obtain ⟨bl, r3, hval, hr3⟩ := hlv m hm
      exact ⟨bl.mono (by decide), r3, hval, s16 _ _ hr3⟩⟩
    refine ⟨_, rfl, _, rfl, b1, x, N, us, d, lv, rfl, db.im (Im.of s16), hN4, gb.mono (by decide), wb6, fun q7 H7 n7 s7 e7 => ?_⟩
    have s17 := s16.trans s7
    have hp7 := s7 _ _ e6
    have np0 : H p = none := s15.free np
    refine ⟨_, rfl, _, rfl, p, _, rfl, DPut.k (k := Sum.inr n) hp7 (small1000 (by omega)), ?_⟩
    have hq7 : (upd H7 p (.dK (putK kvs (Sum.inr n : Key) (.ref q7)))) q7 = some (prT (d + lin lv us)) := by
      rw [upd_ne]; · exact e7
      rintro rfl; rw [e6] at n7; cases n7
    have s18 : Same H (upd H7 p (.dK (putK kvs (Sum.inr n : Key) (.ref q7)))) := fun b o h => by
      rw [upd_ne (ne_of_none h np0)]; exact s17 _ _ h
    have im8 : Im H7 (upd H7 p (.dK (putK kvs (Sum.inr n : Key) (.ref q7)))) := Im.dct hp7
    have hp8 : (upd H7 p (.dK (putK kvs (Sum.inr n : Key) (.ref q7)))) p = some (.dK (putK kvs (Sum.inr n : Key) (.ref q7))) := upd_same
    generalize upd H7 p (.dK (putK kvs (Sum.inr n : Key) (.ref q7))) = H8 at hq7 s18 im8 hp8
    have im28 : Im H2 H8 := ((((Im.of s3).trans (Im.of s4)).trans (Im.of s5)).trans ((Im.of s6).trans (Im.of s7))).trans im8
    have fo8 := fo.im im28
    obtain ⟨dz, r3, vs3, hz, _⟩ := id fo8
    have hx8 := s18 _ _ hx
    have wa8 : WorldAt H8 x N lv := ⟨kvs, hx8, hk, fun m hm => by
      obtain ⟨bl, r3, hval, hr3⟩ := hlv m hm
      exact ⟨bl, r3, hval, s18 _ _ hr3⟩⟩
    let lw : Str → Rat := fun m => if m = n then d + lin lv us else lv m
    have hlw : ∀ m, m ≠ n → lw m = lv m := fun m h => if_neg h
    have hlwn : lw n = d + lin lv us := if_pos rfl
    have hus : us.length ≤ 4 := by have := gb.len; omega
    have bval : RB 1100 (d + lin lv us) := (rb_lin (gb.bc) us fun t ht => ⟨gb.bw t ht, (hlv _ (gb.nm t ht)).1⟩).mono (by omega)
    simp only [tDNotIn, tDIn, tDGet, Option.isSome_some, Option.isSome_none, rIsO, isO_int, isO_str, isO_bl, isO_non, isO_ref, isOO_ins, isOO_lst, isOO_tup, isOO_dK, tMethR, StX.tMakeR, cxOf_K, tDNewK, tCallR, tNever, tSeq, tAsg, gName, tPar, tVar, tC, tOp, rI0, rI, rU, tUn, rEq, rNe, tTest, tB, tAnd, tOr, tNot, tAndV, tOrV, tNotV, tIf, tIfS, tRet, tRetN, tNext, tDrop, tCons, tNil, tCB, tCall, tTup, tLst, rIxLH, rIxTH, gSub, rSetL, tPart, tNoPart, tSl, tBM, tBM0, L2.start, sc_ii, sc_ss, sc_bb, sc_nn, sc_ni, sc_in, sc_ns, sc_sn, sc_is, sc_si, eq_self, tChain, List.map_cons, List.map_nil, List.replicate_succ, List.replicate_zero, List.length_cons, List.length_nil, Nat.reduceAdd, Nat.reduceSub, Nat.zero_add, Nat.sub_self, Nat.add_sub_cancel, List.cons_append, List.nil_append, List.append_nil, List.getElem?_cons_zero, List.getElem?_cons_succ, List.set_cons_zero, List.set_cons_succ, Option.some.injEq, V.int.injEq, V.ref.injEq, V.bl.injEq, V.str.injEq, List.cons.injEq, HO.lst.injEq, HO.tup.injEq, and_true, true_and, exists_eq_left', exists_eq_left, exists_eq', exists_eq, exists_eq_right, exists_eq_right', exists_and_left, exists_and_right, and_assoc, upd_same, reduceCtorEq, false_and, and_false, exists_false, or_false, false_or, at0, at1, atM1, sg_inj, dot_eq, plus_eq, minus_eq, rIxS, at2, at3, at4, at5, ix0, ix1, ix2, ix3, upd_upd, decide_eq_true_eq, Int.reduceLT, Int.reduceLE, Int.reduceAdd, Int.reduceSub, Int.reduceNeg, Int.reduceMul, Int.reducePow, Int.reduceEq, decide_true, decide_false, Int.cast_ofNat_Int, Int.natCast_zero, Int.natCast_one, Nat.reduceEqDiff, Nat.reduceLeDiff, rIsB, tyN_non, tyN_bl, tyN_int, tyN_str, tyN_ref, tyO_lst, tyO_tup, tyO_dK, tyO_dT, V.ty.injEq, ite_true, ite_false, if_true, if_false, Bool.not_true, Bool.not_false, Bool.false_eq_true, kb_int_int, kb_int_bool, kb_int_str, kb_int_tuple, kb_int_list, kb_int_dict, kb_bool_int, kb_bool_bool, kb_bool_str, kb_bool_tuple, kb_bool_list, kb_bool_dict, kb_str_int, kb_str_bool, kb_str_str, kb_str_tuple, kb_str_list, kb_str_dict, kb_NoneType_int, kb_NoneType_bool, kb_NoneType_str, kb_NoneType_tuple, kb_NoneType_list, kb_NoneType_dict, kb_list_int, kb_list_bool, kb_list_str, kb_list_tuple, kb_list_list, kb_list_dict, kb_tuple_int, kb_tuple_bool, kb_tuple_str, kb_tuple_tuple, kb_tuple_list, kb_tuple_dict, kb_dict_int, kb_dict_bool, kb_dict_str, kb_dict_tuple, kb_dict_list, kb_dict_dict, cp_2_53, pw_2_53, cp_10_9, pw_10_9, cp_10_10, pw_10_10, cp_10_18, pw_10_18, cp_10_20, pw_10_20, cp_10_29, pw_10_29, cp_10_30, pw_10_30, spCallF, spValue, spPairIs]
    refine ⟨⟨_, _, hz⟩, N, xs1, _, fo8, pl, fx.mono (by decide), lv, wa8, fun r9 H9 n9 s9 e9 => ?_⟩
    have s19 := s18.trans s9
    have hp9 := s9 _ _ hp8
    have wb9 : WorldB H9 p N lw := by
      refine ⟨_, hp9, ?_, fun m hm => ?_⟩
      · have : (putK kvs (Sum.inr n : Key) (.ref q7)).length ≤ kvs.length + 1 := by
          unfold putK; split
          · rw [List.length_map]; omega
          · rw [List.length_append]; simp
        omega
      · rw [valV_put]
        by_cases e : m = n
        · subst e
          rw [if_pos rfl, hlwn]
          exact ⟨bval, q7, rfl, s9 _ _ hq7⟩
        · rw [if_neg (fun z => e (Sum.inr.inj z)), hlw m e]
          obtain ⟨bl, r3, hval, hr3⟩ := hlv m hm
          exact ⟨bl.mono (by decide), r3, hval, s19 _ _ hr3⟩
    refine ⟨N, ts, c, da.im (Im.of s19), hN4, fb.mono (by decide), lw, wb9, fun r10 H10 n10 s10 e10 => ?_⟩
    rw [put_value hlw hlwn hw1] at e9
    have s110 := s19.trans s10
    refine ⟨_, _, s10 _ _ e9, e10, ?_⟩
    obtain ⟨q, ws, hq1, hq2, hq3⟩ := da.im (Im.of s110)
    have hts : ts.length ≤ 4 := by have := fb.len; omega
    refine ⟨_, rfl, a1, _, 0, .ref q, rfl, rfl, hq1, rfl, q, rfl, ⟨_, .inl (.inl hq2)⟩, fun D nD => lc_pure walk_tup (fun j => (ts.take j).map fun t => V.str t.1) (vs := ws) (fun H7 s7 => .inl (.inl (s7 _ _ hq2))) nD rfl (fun j hj => ?_) (fun j x H7 hx s7 A B hA hB => ?_) fun H11 s11 hD => ?_⟩
    · rw [List.length_map, List.length_take]; omega
    · obtain ⟨t, q, ht', rfl, hq⟩ := hq3.at hx
      have hq7 := s7 _ _ hq
      refine ⟨rfl, ?_⟩
      simp only [tYes, if_true, tDNotIn, tDIn, tDGet, Option.isSome_some, Option.isSome_none, rIsO, isO_int, isO_str, isO_bl, isO_non, isO_ref, isOO_ins, isOO_lst, isOO_tup, isOO_dK, tMethR, StX.tMakeR, cxOf_K, tDNewK, tCallR, tNever, tSeq, tAsg, gName, tPar, tVar, tC, tOp, rI0, rI, rU, tUn, rEq, rNe, tTest, tB, tAnd, tOr, tNot, tAndV, tOrV, tNotV, tIf, tIfS, tRet, tRetN, tNext, tDrop, tCons, tNil, tCB, tCall, tTup, tLst, rIxLH, rIxTH, gSub, rSetL, tPart, tNoPart, tSl, tBM, tBM0, L2.start, sc_ii, sc_ss, sc_bb, sc_nn, sc_ni, sc_in, sc_ns, sc_sn, sc_is, sc_si, eq_self, tChain, List.map_cons, List.map_nil, List.replicate_succ, List.replicate_zero, List.length_cons, List.length_nil, Nat.reduceAdd, Nat.reduceSub, Nat.zero_add, Nat.sub_self, Nat.add_sub_cancel, List.cons_append, List.nil_append, List.append_nil, List.getElem?_cons_zero, List.getElem?_cons_succ, List.set_cons_zero, List.set_cons_succ, Option.some.injEq, V.int.injEq, V.ref.injEq, V.bl.injEq, V.str.injEq, List.cons.injEq, HO.lst.injEq, HO.tup.injEq, and_true, true_and, exists_eq_left', exists_eq_left, exists_eq', exists_eq, exists_eq_right, exists_eq_right', exists_and_left, exists_and_right, and_assoc, upd_same, reduceCtorEq, false_and, and_false, exists_false, or_false, false_or, at0, at1, atM1, sg_inj, dot_eq, plus_eq, minus_eq, rIxS, at2, at3, at4, at5, ix0, ix1, ix2, ix3, upd_upd, decide_eq_true_eq, Int.reduceLT, Int.reduceLE, Int.reduceAdd, Int.reduceSub, Int.reduceNeg, Int.reduceMul, Int.reducePow, Int.reduceEq, decide_true, decide_false, Int.cast_ofNat_Int, Int.natCast_zero, Int.natCast_one, Nat.reduceEqDiff, Nat.reduceLeDiff, rIsB, tyN_non, tyN_bl, tyN_int, tyN_str, tyN_ref, tyO_lst, tyO_tup, tyO_dK, tyO_dT, V.ty.injEq, ite_true, ite_false, if_true, if_false, Bool.not_true, Bool.not_false, Bool.false_eq_true, kb_int_int, kb_int_bool, kb_int_str, kb_int_tuple, kb_int_list, kb_int_dict, kb_bool_int, kb_bool_bool, kb_bool_str, kb_bool_tuple, kb_bool_list, kb_bool_dict, kb_str_int, kb_str_bool, kb_str_str, kb_str_tuple, kb_str_list, kb_str_dict, kb_NoneType_int, kb_NoneType_bool, kb_NoneType_str, kb_NoneType_tuple, kb_NoneType_list, kb_NoneType_dict, kb_list_int, kb_list_bool, kb_list_str, kb_list_tuple, kb_list_list, kb_list_dict, kb_tuple_int, kb_tuple_bool, kb_tuple_str, kb_tuple_tuple, kb_tuple_list, kb_tuple_dict, kb_dict_int, kb_dict_bool, kb_dict_str, kb_dict_tuple, kb_dict_list, kb_dict_dict, cp_2_53, pw_2_53, cp_10_9, pw_10_9, cp_10_10, pw_10_10, cp_10_18, pw_10_18, cp_10_20, pw_10_20, cp_10_29, pw_10_29, cp_10_30, pw_10_30, hq7, wipe]
      exact hA _ (by rw [take_s ht', List.map_append]; rfl)
    · rw [hq3.1, List.take_length, show (ts.map fun t => V.str t.1) = (ts.map (·.1)).map V.str by rw [List.map_map]; rfl] at hD
      refine ⟨D, _, rfl, .inl (.inl (.inl hD)), rfl, flat_str, _, rfl, ?_⟩
      rw [inV_str]
      have s111 := s110.trans s11
      refine ite2 (fun e => k _ s111) fun e => ?_
      have e' : n ∉ ts.map (·.1) := by simpa using e
      have w0 : wt ts n = 0 := wt_none e'
      have exs : xs1 = ts := cn1.same fb.cn fun m => by
        rw [hw1, w0, Int.mul_zero, Int.add_zero]
        by_cases z : m = n
        · rw [if_pos z, z, w0]
        · rw [if_neg z]
      have im811 : Im H8 H11 := ((Im.of s9).trans (Im.of s10)).trans (Im.of s11)
      have fo11 := fo8.im im811
      rw [w0, Int.mul_zero, Int.add_zero, exs] at fo11
      obtain ⟨dz, r3, vs3, hz, _⟩ := id fo11
      refine ⟨⟨_, _, hz⟩, ⟨_, _, s111 _ _ ha⟩, r2, a, ts, ts, c, c, rfl, fo11, fa.im (Im.of s111), fb.isq pl, fb.isq pl, ?_⟩
      have := k _ s111
      simpa using this
end
end K0
namespace K0
open PySem PySem.Spec PyProof.Rows L2
/-! n * x, n an int, x of an own class with __mul__ and __rmul__ -/
theorem int_mul_ref (a : Int) (t : Tok) (l : Addr) (o : Obj) (C : Addr) (hc : o.cls = .ref C) (hp : o.data = .plain) :
    Meets (Builtin.«int.__mul__» ⟨[.int a t, .ref l], []⟩) (fun _ R s => s.heap.get? l = some o ∧ R (.ok (.ret Value.notImplemented)) s) :=
  .of_wp fun prog w A R s h => by
    obtain ⟨hp', g, d, tk, os⟩ := s
    obtain ⟨hl, h⟩ := h
    obtain ⟨oc, od, dt, sl⟩ := o
    simp only at hc hp
    subst hc hp
    wp_walk
    exact ⟨_, rfl, h⟩
section
variable {prog : Program} {w : World} {M : Model} {A : Around} {E : Value → Shared → Prop} {s : Shared} {K : PySem.W.Frag} {x C L f g : Addr} {h₀ : Heap} {m : Str → Option Value} {ox : Obj} {od : Option Obj}
theorem bin_right {Q : Value → Shared → Prop} {n : Int} {t : Tok} (F : Fr h₀ L s.heap m) (X₀ : K.In h₀) (I : PySem.W.InstAt s.heap x ox C od) (hox : s.heap.get? x = some ox) (hcl : ox.cls = .ref C) (hpl : ox.data = .plain) (hc : PySem.W.selfFirst K C = true)
    (hs : PySem.W.findIn K (.ref C) "__mul__" = some (some (.ref g))) (hr : PySem.W.findIn K (.ref C) "__rmul__" = some (some (.ref f))) (hf : PySem.W.isFn K (.ref f) = true) (hsub : PySem.W.subIn K (.ref C) (.type "int") = some false)
    (h : wpAny (model prog w) A (call (.ref f) [.ref x, .int n t]) (PySem.W.CmpBack Q) E s) : wpAny (model prog w) A (binaryOp .Mult (.int n t) (.ref x)) Q E s := by
  have X := X₀.keeps F.keep
  obtain ⟨cd, rest, hcd, hm⟩ := PySem.W.ksp_first hc
  have one := PySem.W.ksp_try (name := "__rmul__") X I hr hf h
  have two : ∀ Q' : Option Value → Shared → Prop, Q' none s → wpAny (model prog w) A (tryMethod (.int n t) "__mul__" (.ref x)) Q' E s := fun Q' q =>
    wpAny_tryMethod_declines (typeIs_int s n t) PySem.F.slot_int_mul (call_meets PySem.F.slot_int_mul (typeIs_int s n t) PySem.F.entry_int_mul (PySem.F.args_int_mul_2 _ _) (int_mul_ref n t x ox C hcl hpl) ⟨hox, rfl, q⟩)
  obtain ⟨hh, g', d, tt, os⟩ := s
  have L1 : PySem.W.Looks (model prog w) hh (typeOf (.ref x)) (.ref C) := I.type
  have L2 : PySem.W.Looks (model prog w) hh (typeOf (.int n t)) (.type "int") := PySem.W.Looks.of_pure rfl
  have L3 : PySem.W.Looks (model prog w) hh (fillsNumberSlot (.ref C) "mul") true := PySem.W.fills_K X hcd hm hs
  have L4 : PySem.W.Looks (model prog w) hh (fillsNumberSlot (.type "int") "mul") true := PySem.W.Looks.of_pure PySem.F.fills_int_mul
  have L5 : PySem.W.Looks (model prog w) hh (isSubtype (.ref C) (.type "int")) false := PySem.W.looks_subIn X hsub
  have L7 : PySem.W.Looks (model prog w) hh (numberSlotInPython (.type "int") "mul") false := PySem.W.Looks.of_pure rfl
  have hne : (Value.type "int" == Value.ref C) = false := Bool.eq_false_iff.mpr fun q => by cases beq_iff_eq.mp q
  unfold binaryOp
  refine wpAny_holding (wpAny_bind ?_)
  show wpAny (model prog w) A (binaryOp1 "mul" (.int n t) (.ref x)) _ E _
  unfold binaryOp1
  refine wpAny_bind (L2.at (wpAny_bind (L1.at (wpAny_bind (L4.at ?_)))))
  simp only [hne, Bool.false_eq_true, if_false]
  ksp_lk
  refine two _ ?_
  ksp_lk
  refine wpAny_mono one (fun r s' hr' => ?_) fun _ _ e => e
  obtain ⟨v, rfl, hq⟩ := hr'
  ksp_lk
  exact hq
end
section
variable {X : Cx} {CX : CXT} {k : Nat} {C f g : Addr} {sp : Sp} {E : XK}
theorem op_ownR (sf : PySem.W.selfFirst X.K C = true) (hs : PySem.W.findIn X.K (.ref C) "__mul__" = some (some (.ref g))) (c : OpC X.K C "__rmul__" f) (hsub : PySem.W.subIn X.K (.ref C) (.type "int") = some false)
    (F : FnR X.prog X.w X.K X.mg X.base CX k f sp) (hr : Room k X.A) (hx : Passes CX X E) :
    OpR X (binaryOp .Mult) (fun x y H Q => ∃ a n dx fs, x = .int n ∧ y = .ref a ∧ H a = some (.ins C dx fs) ∧ sp [.ref a, .int n] H Q E) := by
  intro pins s σ H x y v u Q I rx ry h
  obtain ⟨a, n, dx, fs, rfl, rfl, ha, h⟩ := h
  cases ry
  obtain ⟨t, rfl⟩ := rx
  obtain ⟨mA, O, _⟩ := ins_get I.hok ha
  obtain ⟨od, J, _⟩ := O.look
  obtain ⟨m, hF⟩ := I.fr
  exact bin_right hF I.ok.mod.kin J O.1 rfl rfl sf hs c.at_ c.fn hsub (wpAny_mono (run_in (vs := [.ref a, .int n]) F hr rfl hx I (.cons rfl (.cons ⟨t, rfl⟩ .nil)) h) (fun _ _ z => not_ni z) fun _ _ z => z)
end
end K0
namespace K0
open PySem PySem.Spec PyProof.Rows L2
theorem wt_le {B : Nat} (n : Str) : ∀ ts : List Trm, (∀ t ∈ ts, t.2.natAbs ≤ B) → (wt ts n).natAbs ≤ ts.length * B := by
  intro ts
  induction ts with
  | nil => intro _; simp [wt]
  | cons t r ih =>
    intro h
    have h1 := ih fun u hu => h u (List.mem_cons_of_mem _ hu)
    have h2 := h t (List.mem_cons_self ..)
    simp only [wt, List.length_cons, Nat.add_mul]
    split <;> omega
theorem fb_pairs {N : List Str} {ts xs : List Trm} {c : Int} (cn : Canon xs) (hw : ∀ n, wt xs n = wt ts n) (hl : ts.length ≤ 5) (ht : ∀ t ∈ ts, t.1 ∈ N ∧ Sm 110 t.2) (hc : Sm 110 c) : FB N 113 xs c := by
  refine FB.of cn hw (fun m hm => ?_) (fun m => ?_) (hc.mono (by decide))
  · obtain ⟨t, h1, h2⟩ := List.mem_map.mp (wt_mem hm)
    rw [← h2]; exact (ht t h1).1
  · have h := wt_le (B := 2 ^ 110) m ts fun t h => Nat.le_of_lt (ht t h).2
    unfold Sm
    refine Nat.lt_of_le_of_lt h (Nat.lt_of_le_of_lt (Nat.mul_le_mul_right _ hl) (by decide))
/-- the law's forms and the made ones, side by side -/
def Fms (C : Addr) (H : Hp) (N : List Str) (as bs : List V) (L : List (List Trm × Int)) : Prop := as.length = L.length ∧ bs.length = L.length ∧ ∀ (i : Nat) t, L[i]? = some t → ∃ a b, as[i]? = some (.ref a) ∧ bs[i]? = some (.ref b) ∧ DueAt H a t.1 t.2 ∧ FormAt C H b t.1 t.2 ∧ FB N 113 t.1 t.2
theorem Fms.im {C : Addr} {H H' : Hp} {N : List Str} {as bs : List V} {L : List (List Trm × Int)} (h : Fms C H N as bs L) (i : Im H H') : Fms C H' N as bs L := ⟨h.1, h.2.1, fun j t e => by
  obtain ⟨a, b, h1, h2, h3, h4, h5⟩ := h.2.2 j t e
  exact ⟨a, b, h1, h2, h3.im i, h4.im i, h5⟩⟩
theorem Fms.snoc {C : Addr} {H : Hp} {N : List Str} {as bs : List V} {L : List (List Trm × Int)} {a b : Addr} {t : List Trm × Int} (h : Fms C H N as bs L) (h3 : DueAt H a t.1 t.2) (h4 : FormAt C H b t.1 t.2) (h5 : FB N 113 t.1 t.2) : Fms C H N (as ++ [.ref a]) (bs ++ [.ref b]) (L ++ [t]) := by
  refine ⟨by simp [h.1], by simp [h.2.1], fun i u e => ?_⟩
  rcases Nat.lt_trichotomy i L.length with z | z | z
  · rw [List.getElem?_append_left z] at e
    obtain ⟨a', b', h1, h2, r⟩ := h.2.2 i u e
    exact ⟨a', b', by rw [List.getElem?_append_left (by rw [h.1]; exact z)]; exact h1, by rw [List.getElem?_append_left (by rw [h.2.1]; exact z)]; exact h2, r⟩
  · subst z
    rw [List.getElem?_append_right (Nat.le_refl _), Nat.sub_self] at e
    cases e
    exact ⟨a, b, by rw [← h.1, List.getElem?_append_right (Nat.le_refl _), Nat.sub_self]; rfl, by rw [← h.2.1, List.getElem?_append_right (Nat.le_refl _), Nat.sub_self]; rfl, h3, h4, h5⟩
  · rw [List.getElem?_eq_none (by simp; omega)] at e; cases e
theorem list3 {as : List V} {x y z : V} (h : as.length = 3) (h0 : as[0]? = some x) (h1 : as[1]? = some y) (h2 : as[2]? = some z) : as = [x, y, z] := by
  match as, h with
  | [p, q, r], _ => cases h0; cases h1; cases h2; rfl
structure LS (C p l D1 D2 a0 a1 a2 b0 b1 b2 : Addr) (N : List Str) (t0 t1 t2 : List Trm) (c0 c1 c2 : Int) (H : Hp) : Prop where
  pot : PotAt H p
  hl : H l = some (.lst (N.map V.str))
  h1 : H D1 = some (.lst [.ref a0, .ref a1, .ref a2])
  h2 : H D2 = some (.lst [.ref b0, .ref b1, .ref b2])
  d0 : DueAt H a0 t0 c0
  d1 : DueAt H a1 t1 c1
  d2 : DueAt H a2 t2 c2
  f0 : FormAt C H b0 t0 c0
  f1 : FormAt C H b1 t1 c1
  f2 : FormAt C H b2 t2 c2
section
variable {C p l D1 D2 a0 a1 a2 b0 b1 b2 : Addr} {N : List Str} {t0 t1 t2 : List Trm} {c0 c1 c2 : Int} {H H' : Hp}
theorem LS.same (h : LS C p l D1 D2 a0 a1 a2 b0 b1 b2 N t0 t1 t2 c0 c1 c2 H) (s : Same H H') : LS C p l D1 D2 a0 a1 a2 b0 b1 b2 N t0 t1 t2 c0 c1 c2 H' :=
  ⟨h.pot.same s, s _ _ h.hl, s _ _ h.h1, s _ _ h.h2, h.d0.im (Im.of s), h.d1.im (Im.of s), h.d2.im (Im.of s), h.f0.im (Im.of s), h.f1.im (Im.of s), h.f2.im (Im.of s)⟩
theorem LS.off (h : LS C p l D1 D2 a0 a1 a2 b0 b1 b2 N t0 t1 t2 c0 c1 c2 H) (o : Off p H H') (hp : PotAt H' p) (n : l ≠ p ∧ D1 ≠ p ∧ D2 ≠ p) : LS C p l D1 D2 a0 a1 a2 b0 b1 b2 N t0 t1 t2 c0 c1 c2 H' :=
  have i := Im.off h.pot o
  ⟨hp, o _ _ h.hl n.1, o _ _ h.h1 n.2.1, o _ _ h.h2 n.2.2, h.d0.im i, h.d1.im i, h.d2.im i, h.f0.im i, h.f1.im i, h.f2.im i⟩
theorem LS.dct {x : Addr} {xs ys : List (Key × V)} (h : LS C p l D1 D2 a0 a1 a2 b0 b1 b2 N t0 t1 t2 c0 c1 c2 H) (e : H x = some (.dK xs)) : LS C p l D1 D2 a0 a1 a2 b0 b1 b2 N t0 t1 t2 c0 c1 c2 (upd H x (.dK ys)) :=
  have i : Im H (upd H x (.dK ys)) := Im.dct e
  have n : ∀ {b : Addr} {vs : List V}, H b = some (.lst vs) → (upd H x (.dK ys)) b = some (.lst vs) := fun {b vs} hb => by
    rw [upd_ne]; · exact hb
    rintro rfl; rw [e] at hb; cases hb
  ⟨by obtain ⟨a, b, c, d, cs, hp, r⟩ := h.pot; exact ⟨a, b, c, d, cs, n hp, r⟩, n h.hl, n h.h1, n h.h2, h.d0.im i, h.d1.im i, h.d2.im i, h.f0.im i, h.f1.im i, h.f2.im i⟩
end
theorem fb_lin {N : List Str} {ts us xs : List Trm} {c d e f : Int} {B : Nat} (cn : Canon xs) (fa : FB N 113 ts c) (fb : FB N 113 us d) (sf : Sm 110 f) (hw : ∀ m, wt xs m = wt ts m + f * wt us m) (he : e = c + f * d) (hB : 300 ≤ B) : FB N B xs e := by
  subst he
  refine FB.of cn hw (fun m hm => ?_) (fun m => ?_) ?_
  · by_cases h1 : wt us m = 0
    · rw [h1, Int.mul_zero, Int.add_zero] at hm; exact fa.wn hm
    · exact fb.wn h1
  · exact ((fa.wb m).add (sf.mul (fb.wb m))).mono (by omega)
  · exact (fa.bc.add (sf.mul fb.bc)).mono (by omega)
section
variable {P : Program} {w : World} {K : PySem.W.Frag} {mg : Str → Option Value} {base : Heap}
def spLaw (K : PySem.W.Frag) : Sp := fun vs H Q _ => ∃ (a : Addr) (ns : List Int), vs = [.ref a] ∧ SqL K H a (ns.map V.int) ∧ ns.length ≤ 63 ∧ ∀ H', Q (.bl true) H'
theorem sc_law : FnScope ["_law_script", "_law_pot_here", "_law_pool_here", "_law_dues", "_law_forms", "_law_k", "_law_pairs_here", "_law_constant", "_law_none", "_law_number", "_law_world", "_law_text", "_law_again", "_law_once"] ["_law_script"] (defScope s_law) := ⟨rfl, rfl, rfl, by decide +kernel, rfl, by decide +kernel, by decide +kernel⟩
theorem ok_law (T : Txt K mg) : FnOk P w K mg base CX0 10 (He.ga K "law") (fdOf K (He.ga K "law")) ["_law_script"] (spLaw K) := by
  refine T.F_law.ok sc_law (fun vs H Q E h => ?_) (fun cdv A outer s H vs Q E hr h => ?_)
  · obtain ⟨_, _, rfl, _⟩ := h
    rfl
  · obtain ⟨a, ns, rfl, hq, hl, k⟩ := h
    have hu := hu_of hr
    refine ⟨_, PSs.nox (pss_cons (ps_set (i := 1) sc_law.nd rfl (Or.inl rfl) (pe_call (ok_l_pot T) (hr.mono (by decide)) (by rfl) T.g_l_pot T.k_l_pot T.b_l_pot .nil pass0 (pa_cons (pv 0) pa_nil)))
      (pss_cons (ps_set (i := 2) sc_law.nd rfl (Or.inl rfl) (pe_call (ok_l_pool T) (hr.mono (by decide)) (by rfl) T.g_l_pool T.k_l_pool T.b_l_pool .nil pass0 (pa_cons (pv 1) (pa_cons pe_int pa_nil))))
      (pss_cons (ps_set (i := 3) sc_law.nd rfl (Or.inl rfl) (pe_lst pa_nil))
      (pss_cons (ps_set (i := 4) sc_law.nd rfl (Or.inl rfl) (pe_lst pa_nil))
      (pss_cons (ps_for PassesOwn.never rfl (pi_range1 (by rfl) T.z_range (pa_cons pe_int pa_nil)) (pg_name (i := 5) sc_law.nd rfl (Or.inl rfl)) (pss_cons (ps_set (i := 6) sc_law.nd rfl (Or.inl rfl) (pe_call (ok_l_pairs T) (hr.mono (by decide)) (by rfl) T.g_l_pairs T.k_l_pairs T.b_l_pairs .nil pass0 (pa_cons (pv 1) (pa_cons (pv 2) pa_nil))))
      (pss_cons (ps_set (i := 7) sc_law.nd rfl (Or.inl rfl) (pe_call (ok_l_weight T) (hr.mono (by decide)) (by rfl) T.g_l_weight T.k_l_weight T.b_l_weight .nil pass0 (pa_cons (pv 1) pa_nil)))
      (pss_cons (ps_expr (pe_bm PySem.F.plainAttrs_list PySem.F.slot_list_append PySem.F.type_list_append mt_append (pv 3) (pa_cons (pe_call (ok_l_tidy T) (hr.mono (by decide)) (by rfl) T.g_l_tidy T.k_l_tidy T.b_l_tidy .nil pass0 (pa_cons (pv 6) (pa_cons (pv 7) pa_nil))) pa_nil)))
      (pss_cons (ps_expr (pe_bm PySem.F.plainAttrs_list PySem.F.slot_list_append PySem.F.type_list_append mt_append (pv 4) (pa_cons (StX.pe_makeR T.M_Form (ok_Form_mkL T) (hr.mono (by decide)) (by rfl) T.g_Form pass0 (pa_cons (pv 6) (pa_cons (pv 7) pa_nil))) pa_nil)))
      (pss_one (ps_if (pt_not (pt_val (pe_call (ok_l_right T) (hr.mono (by decide)) (by rfl) T.g_l_right T.k_l_right T.b_l_right .nil pass0 (pa_cons (pe_ix ixL (pv 4) (pv 5) (fun _ _ => rfl)) (pa_cons (pe_ix ixL (pv 3) (pv 5) (fun _ _ => rfl)) pa_nil))))) (pss_one (ps_ret pe_bl)) pss_nil)))))))
      (pss_cons (ps_set (i := 8) sc_law.nd rfl (Or.inl rfl) (pe_call (ok_l_tidy T) (hr.mono (by decide)) (by rfl) T.g_l_tidy T.k_l_tidy T.b_l_tidy .nil pass0 (pa_cons (pe_lst pa_nil) (pa_cons pe_int pa_nil))))
      (pss_cons (ps_set (i := 9) sc_law.nd rfl (Or.inl rfl) (pe_call (ok_l_weight T) (hr.mono (by decide)) (by rfl) T.g_l_weight T.k_l_weight T.b_l_weight .nil pass0 (pa_cons (pv 1) pa_nil)))
      (pss_cons (ps_if (pt_not (pt_val (pe_call (ok_l_right T) (hr.mono (by decide)) (by rfl) T.g_l_right T.k_l_right T.b_l_right .nil pass0 (pa_cons (pe_op (op_ownC (op := .Sub) T.o_sub T.x_selfFirst (rawN (ok_Form___sub__ T) T.b_Form___sub__) (hr.mono (by decide)) pass0) (pe_ix ixL (pv 4) pe_int (fun _ _ => rfl)) (pe_ix ixL (pv 4) pe_int (fun _ _ => rfl))) (pa_cons (pe_call (ok_l_added T) (hr.mono (by decide)) (by rfl) T.g_l_added T.k_l_added T.b_l_added .nil pass0 (pa_cons (pe_ix ixL (pv 3) pe_int (fun _ _ => rfl)) (pa_cons (pe_ix ixL (pv 3) pe_int (fun _ _ => rfl)) (pa_cons (pe_un un_neg pe_int) pa_nil)))) pa_nil))))) (pss_one (ps_ret pe_bl)) pss_nil)
      (pss_cons (ps_if (pt_not (pt_val (pe_call (ok_l_right T) (hr.mono (by decide)) (by rfl) T.g_l_right T.k_l_right T.b_l_right .nil pass0 (pa_cons (pe_op (op_ownC (op := .Add) T.o_add T.x_selfFirst (rawN (ok_Form___add__ T) T.b_Form___add__) (hr.mono (by decide)) pass0) (pe_ix ixL (pv 4) pe_int (fun _ _ => rfl)) (pe_ix ixL (pv 4) pe_int (fun _ _ => rfl))) (pa_cons (pe_call (ok_l_added T) (hr.mono (by decide)) (by rfl) T.g_l_added T.k_l_added T.b_l_added .nil pass0 (pa_cons (pe_ix ixL (pv 3) pe_int (fun _ _ => rfl)) (pa_cons (pe_ix ixL (pv 3) pe_int (fun _ _ => rfl)) (pa_cons pe_int pa_nil)))) pa_nil))))) (pss_one (ps_ret pe_bl)) pss_nil)
      (pss_cons (ps_if (pt_not (pt_val (pe_call (ok_l_right T) (hr.mono (by decide)) (by rfl) T.g_l_right T.k_l_right T.b_l_right .nil pass0 (pa_cons (pe_un (un_own T.o_neg (rawN (ok_Form___neg__ T) T.b_Form___neg__) (hr.mono (by decide)) pass0) (pe_ix ixL (pv 4) pe_int (fun _ _ => rfl))) (pa_cons (pe_call (ok_l_added T) (hr.mono (by decide)) (by rfl) T.g_l_added T.k_l_added T.b_l_added .nil pass0 (pa_cons (pv 8) (pa_cons (pe_ix ixL (pv 3) pe_int (fun _ _ => rfl)) (pa_cons (pe_un un_neg pe_int) pa_nil)))) pa_nil))))) (pss_one (ps_ret pe_bl)) pss_nil)
      (pss_cons (ps_if (pt_not (pt_val (pe_call (ok_l_right T) (hr.mono (by decide)) (by rfl) T.g_l_right T.k_l_right T.b_l_right .nil pass0 (pa_cons (pe_op (op_ownR T.x_selfFirst T.o_mul.at_ T.o_rmul (of_decide_eq_true T.x_subFI) (rawN (ok_Form___rmul__ T) T.b_Form___rmul__) (hr.mono (by decide)) pass0) (pv 9) (pe_ix ixL (pv 4) pe_int (fun _ _ => rfl))) (pa_cons (pe_call (ok_l_added T) (hr.mono (by decide)) (by rfl) T.g_l_added T.k_l_added T.b_l_added .nil pass0 (pa_cons (pv 8) (pa_cons (pe_ix ixL (pv 3) pe_int (fun _ _ => rfl)) (pa_cons (pv 9) pa_nil)))) pa_nil))))) (pss_one (ps_ret pe_bl)) pss_nil)
      (pss_cons (ps_if (pt_not (pt_val (pe_call (ok_l_right T) (hr.mono (by decide)) (by rfl) T.g_l_right T.k_l_right T.b_l_right .nil pass0 (pa_cons (StX.pe_makeR T.M_Form (ok_Form_mkL T) (hr.mono (by decide)) (by rfl) T.g_Form pass0 (pa_cons (pe_lst pa_nil) (pa_cons (pv 9) pa_nil))) (pa_cons (pe_call (ok_l_tidy T) (hr.mono (by decide)) (by rfl) T.g_l_tidy T.k_l_tidy T.b_l_tidy .nil pass0 (pa_cons (pe_lst pa_nil) (pa_cons (pv 9) pa_nil))) pa_nil))))) (pss_one (ps_ret pe_bl)) pss_nil)
      (pss_cons (ps_set (i := 10) sc_law.nd rfl (Or.inl rfl) pe_dnewK)
      (pss_cons (ps_for PassesOwn.never rfl (pi_list (pv 2)) (pg_name (i := 11) sc_law.nd rfl (Or.inl rfl)) (pss_one (ps_dput hu (pv 10) (pv 11) (pe_call (ok_l_level T) (hr.mono (by decide)) (by rfl) T.g_l_level T.k_l_level T.b_l_level .nil pass0 (pa_cons (pv 1) pa_nil)) rfl)))
      (pss_cons (ps_set (i := 11) sc_law.nd rfl (Or.inl rfl) (pe_ix ixL (pv 2) (pe_call (ok_l_take T) (hr.mono (by decide)) (by rfl) T.g_l_take T.k_l_take T.b_l_take .nil pass0 (pa_cons (pv 1) (pa_cons (pe_callB call_lenL (by rfl) T.z_len PySem.boot_len (pa_cons (pv 2) pa_nil)) pa_nil))) (fun _ _ => rfl)))
      (pss_cons (ps_set (i := 12) sc_law.nd rfl (Or.inl rfl) (pe_ix ixL (pv 2) (pe_call (ok_l_take T) (hr.mono (by decide)) (by rfl) T.g_l_take T.k_l_take T.b_l_take .nil pass0 (pa_cons (pv 1) (pa_cons (pe_callB call_lenL (by rfl) T.z_len PySem.boot_len (pa_cons (pv 2) pa_nil)) pa_nil))) (fun _ _ => rfl)))
      (pss_cons (ps_if (pt_not (pt_val (pe_call (ok_l_put_right T) (hr.mono (by decide)) (by rfl) T.g_l_put_right T.k_l_put_right T.b_l_put_right .nil pass0 (pa_cons (pe_ix ixL (pv 4) pe_int (fun _ _ => rfl)) (pa_cons (pe_ix ixL (pv 3) pe_int (fun _ _ => rfl)) (pa_cons (pv 11) (pa_cons (pe_ix ixL (pv 4) pe_int (fun _ _ => rfl)) (pa_cons (pe_ix ixL (pv 3) pe_int (fun _ _ => rfl)) (pa_cons (pv 10) pa_nil))))))))) (pss_one (ps_ret pe_bl)) pss_nil)
      (pss_cons (ps_if (pt_not (pt_val (pe_call (ok_l_put_right T) (hr.mono (by decide)) (by rfl) T.g_l_put_right T.k_l_put_right T.b_l_put_right .nil pass0 (pa_cons (pe_ix ixL (pv 4) pe_int (fun _ _ => rfl)) (pa_cons (pe_ix ixL (pv 3) pe_int (fun _ _ => rfl)) (pa_cons (pv 11) (pa_cons (pe_ix ixL (pv 4) pe_int (fun _ _ => rfl)) (pa_cons (pe_ix ixL (pv 3) pe_int (fun _ _ => rfl)) (pa_cons (pv 10) pa_nil))))))))) (pss_one (ps_ret pe_bl)) pss_nil)
      (pss_cons (ps_set (i := 13) sc_law.nd rfl (Or.inl rfl) (pe_methR (pe_ix ixL (pv 4) pe_int (fun _ _ => rfl)) T.cl_Form T.m_Form_put (rawN (ok_Form_put T) T.b_Form_put) (hr.mono (by decide)) pass0 (pa_cons (pv 11) (pa_cons (pe_ix ixL (pv 4) pe_int (fun _ _ => rfl)) pa_nil))))
      (pss_one (ps_ret (pe_call (ok_l_put_right T) (hr.mono (by decide)) (by rfl) T.g_l_put_right T.k_l_put_right T.b_l_put_right .nil pass0 (pa_cons (pv 13) (pa_cons (pe_call (ok_l_put T) (hr.mono (by decide)) (by rfl) T.g_l_put T.k_l_put T.b_l_put .nil pass0 (pa_cons (pe_ix ixL (pv 3) pe_int (fun _ _ => rfl)) (pa_cons (pv 11) (pa_cons (pe_ix ixL (pv 3) pe_int (fun _ _ => rfl)) pa_nil)))) (pa_cons (pv 12) (pa_cons (pe_ix ixL (pv 4) pe_int (fun _ _ => rfl)) (pa_cons (pe_ix ixL (pv 3) pe_int (fun _ _ => rfl)) (pa_cons (pv 10) pa_nil)))))))))))))))))))))))))))), ?_⟩
    simp only [tDNotIn, tDIn, tDGet, Option.isSome_some, Option.isSome_none, rIsO, isO_int, isO_str, isO_bl, isO_non, isO_ref, isOO_ins, isOO_lst, isOO_tup, isOO_dK, tMethR, StX.tMakeR, cxOf_K, tDNewK, tCallR, tNever, tSeq, tAsg, gName, tPar, tVar, tC, tOp, rI0, rI, rU, tUn, rEq, rNe, tTest, tB, tAnd, tOr, tNot, tAndV, tOrV, tNotV, tIf, tIfS, tRet, tRetN, tNext, tDrop, tCons, tNil, tCB, tCall, tTup, tLst, rIxLH, rIxTH, gSub, rSetL, tPart, tNoPart, tSl, tBM, tBM0, L2.start, sc_ii, sc_ss, sc_bb, sc_nn, sc_ni, sc_in, sc_ns, sc_sn, sc_is, sc_si, eq_self, tChain, List.map_cons, List.map_nil, List.replicate_succ, List.replicate_zero, List.length_cons, List.length_nil, Nat.reduceAdd, Nat.reduceSub, Nat.zero_add, Nat.sub_self, Nat.add_sub_cancel, List.cons_append, List.nil_append, List.append_nil, List.getElem?_cons_zero, List.getElem?_cons_succ, List.set_cons_zero, List.set_cons_succ, Option.some.injEq, V.int.injEq, V.ref.injEq, V.bl.injEq, V.str.injEq, List.cons.injEq, HO.lst.injEq, HO.tup.injEq, and_true, true_and, exists_eq_left', exists_eq_left, exists_eq', exists_eq, exists_eq_right, exists_eq_right', exists_and_left, exists_and_right, and_assoc, upd_same, reduceCtorEq, false_and, and_false, exists_false, or_false, false_or, at0, at1, atM1, sg_inj, dot_eq, plus_eq, minus_eq, rIxS, at2, at3, at4, at5, ix0, ix1, ix2, ix3, upd_upd, decide_eq_true_eq, Int.reduceLT, Int.reduceLE, Int.reduceAdd, Int.reduceSub, Int.reduceNeg, Int.reduceMul, Int.reducePow, Int.reduceEq, decide_true, decide_false, Int.cast_ofNat_Int, Int.natCast_zero, Int.natCast_one, Nat.reduceEqDiff, Nat.reduceLeDiff, rIsB, tyN_non, tyN_bl, tyN_int, tyN_str, tyN_ref, tyO_lst, tyO_tup, tyO_dK, tyO_dT, V.ty.injEq, ite_true, ite_false, if_true, if_false, Bool.not_true, Bool.not_false, Bool.false_eq_true, kb_int_int, kb_int_bool, kb_int_str, kb_int_tuple, kb_int_list, kb_int_dict, kb_bool_int, kb_bool_bool, kb_bool_str, kb_bool_tuple, kb_bool_list, kb_bool_dict, kb_str_int, kb_str_bool, kb_str_str, kb_str_tuple, kb_str_list, kb_str_dict, kb_NoneType_int, kb_NoneType_bool, kb_NoneType_str, kb_NoneType_tuple, kb_NoneType_list, kb_NoneType_dict, kb_list_int, kb_list_bool, kb_list_str, kb_list_tuple, kb_list_list, kb_list_dict, kb_tuple_int, kb_tuple_bool, kb_tuple_str, kb_tuple_tuple, kb_tuple_list, kb_tuple_dict, kb_dict_int, kb_dict_bool, kb_dict_str, kb_dict_tuple, kb_dict_list, kb_dict_dict, cp_2_53, pw_2_53, cp_10_9, pw_10_9, cp_10_10, pw_10_10, cp_10_18, pw_10_18, cp_10_20, pw_10_20, cp_10_29, pw_10_29, cp_10_30, pw_10_30, spPot, spPool]
    refine ⟨ns, hq, hl, fun H0 p hp0 => ⟨hp0, fun l N H1 pl hne hN4 nl hl1 hp1 o1 => ?_⟩⟩
    refine ⟨size_le (by simp), ?_⟩
    (intro D1 n2; (obtain ⟨H2, eqH, s2, e2⟩ := new_upd (o := .lst []) n2); rw [← eqH]; clear eqH)
    refine ⟨size_le (by simp), ?_⟩
    (intro D2 n3; (obtain ⟨H3, eqH, s3, e3⟩ := new_upd (o := .lst []) n3); rw [← eqH]; clear eqH)
    have d12 : D1 ≠ D2 := ne_of_none e2 n3
    have lD1 : l ≠ D1 := ne_of_none hl1 n2
    have lD2 : l ≠ D2 := ne_of_none (s2 _ _ hl1) n3
    have D1p : D1 ≠ p := hp1.ne n2
    have D2p : D2 ≠ p := (hp1.same s2).ne n3
    have lp : l ≠ p := hp0.ne nl
    have s23 := s2.trans s3
    refine ⟨3, rfl, by decide, by decide, for_range (fun i σ' H' => ∃ (as bs : List V) (L : List (List Trm × Int)) (y5 y6 y7 : Option V), σ' = [some (.ref a), some (.ref p), some (.ref l), some (.ref D1), some (.ref D2), y5, y6, y7, none, none, none, none, none, none] ∧ L.length = i ∧ PotAt H' p ∧ H' l = some (.lst (N.map V.str)) ∧ H' D1 = some (.lst as) ∧ H' D2 = some (.lst bs) ∧ Fms (He.ga K "Form") H' N as bs L) ⟨[], [], [], none, none, none, rfl, rfl, hp1.same s23, s23 _ _ hl1, s3 _ _ e2, e3, rfl, rfl, fun i t e => by simp at e⟩ ?_ ?_⟩
    · rintro i σ' H4 hi ⟨as, bs, L, y5, y6, y7, rfl, hL, hp4, hl4, h14, h24, fm⟩
      simp only [tDNotIn, tDIn, tDGet, Option.isSome_some, Option.isSome_none, rIsO, isO_int, isO_str, isO_bl, isO_non, isO_ref, isOO_ins, isOO_lst, isOO_tup, isOO_dK, tMethR, StX.tMakeR, cxOf_K, tDNewK, tCallR, tNever, tSeq, tAsg, gName, tPar, tVar, tC, tOp, rI0, rI, rU, tUn, rEq, rNe, tTest, tB, tAnd, tOr, tNot, tAndV, tOrV, tNotV, tIf, tIfS, tRet, tRetN, tNext, tDrop, tCons, tNil, tCB, tCall, tTup, tLst, rIxLH, rIxTH, gSub, rSetL, tPart, tNoPart, tSl, tBM, tBM0, L2.start, sc_ii, sc_ss, sc_bb, sc_nn, sc_ni, sc_in, sc_ns, sc_sn, sc_is, sc_si, eq_self, tChain, List.map_cons, List.map_nil, List.replicate_succ, List.replicate_zero, List.length_cons, List.length_nil, Nat.reduceAdd, Nat.reduceSub, Nat.zero_add, Nat.sub_self, Nat.add_sub_cancel, List.cons_append, List.nil_append, List.append_nil, List.getElem?_cons_zero, List.getElem?_cons_succ, List.set_cons_zero, List.set_cons_succ, Option.some.injEq, V.int.injEq, V.ref.injEq, V.bl.injEq, V.str.injEq, List.cons.injEq, HO.lst.injEq, HO.tup.injEq, and_true, true_and, exists_eq_left', exists_eq_left, exists_eq', exists_eq, exists_eq_right, exists_eq_right', exists_and_left, exists_and_right, and_assoc, upd_same, reduceCtorEq, false_and, and_false, exists_false, or_false, false_or, at0, at1, atM1, sg_inj, dot_eq, plus_eq, minus_eq, rIxS, at2, at3, at4, at5, ix0, ix1, ix2, ix3, upd_upd, decide_eq_true_eq, Int.reduceLT, Int.reduceLE, Int.reduceAdd, Int.reduceSub, Int.reduceNeg, Int.reduceMul, Int.reducePow, Int.reduceEq, decide_true, decide_false, Int.cast_ofNat_Int, Int.natCast_zero, Int.natCast_one, Nat.reduceEqDiff, Nat.reduceLeDiff, rIsB, tyN_non, tyN_bl, tyN_int, tyN_str, tyN_ref, tyO_lst, tyO_tup, tyO_dK, tyO_dT, V.ty.injEq, ite_true, ite_false, if_true, if_false, Bool.not_true, Bool.not_false, Bool.false_eq_true, kb_int_int, kb_int_bool, kb_int_str, kb_int_tuple, kb_int_list, kb_int_dict, kb_bool_int, kb_bool_bool, kb_bool_str, kb_bool_tuple, kb_bool_list, kb_bool_dict, kb_str_int, kb_str_bool, kb_str_str, kb_str_tuple, kb_str_list, kb_str_dict, kb_NoneType_int, kb_NoneType_bool, kb_NoneType_str, kb_NoneType_tuple, kb_NoneType_list, kb_NoneType_dict, kb_list_int, kb_list_bool, kb_list_str, kb_list_tuple, kb_list_list, kb_list_dict, kb_tuple_int, kb_tuple_bool, kb_tuple_str, kb_tuple_tuple, kb_tuple_list, kb_tuple_dict, kb_dict_int, kb_dict_bool, kb_dict_str, kb_dict_tuple, kb_dict_list, kb_dict_dict, cp_2_53, pw_2_53, cp_10_9, pw_10_9, cp_10_10, pw_10_10, cp_10_18, pw_10_18, cp_10_20, pw_10_20, cp_10_29, pw_10_29, cp_10_30, pw_10_30, spPairs, spNumber]
      refine ⟨hp4, N, hl4, hne, by omega, lp, fun d us ts H5 nd hd ht htl hts hp5 o5 => ⟨hp5, fun c H6 sc hp6 o6 => ?_⟩⟩
      have o46 := o5.trans o6
      have dp : d ≠ p := hp4.ne nd
      have hd6 := o6 _ _ hd dp
      have ht6 := ht.im (Im.off hp5 o6)
      have h16 := o46 _ _ h14 D1p
      have h26 := o46 _ _ h24 D2p
      have hl6 := o46 _ _ hl4 lp
      have fm6 := fm.im (Im.off hp4 o46)
      refine ⟨.inl ⟨rfl, _, .inl (.inl h16)⟩, d, us, ts, c, rfl, hd6, ht6, by omega, fun r7 H7 xs n7 s7 cn7 hw7 du7 => ?_⟩
      have h17 := s7 _ _ h16
      have h27 := s7 _ _ h26
      refine ⟨D1, _, _, rfl, rfl, h17, ?_, ?_⟩
      · rw [fm.1]; exact small1000 (by omega)
      have im78 : Im H7 (upd H7 D1 (.lst (as ++ [.ref r7]))) := Im.lst h17
      have h18 : (upd H7 D1 (.lst (as ++ [.ref r7]))) D1 = some (.lst (as ++ [.ref r7])) := upd_same
      have h28 : (upd H7 D1 (.lst (as ++ [.ref r7]))) D2 = some (.lst bs) := by rw [upd_ne d12.symm]; exact h27
      have hl8 : (upd H7 D1 (.lst (as ++ [.ref r7]))) l = some (.lst (N.map V.str)) := by rw [upd_ne lD1]; exact s7 _ _ hl6
      have hdD1 : d ≠ D1 := by rintro rfl; rw [h14] at nd; cases nd
      have hdD2 : d ≠ D2 := by rintro rfl; rw [h24] at nd; cases nd
      have hd8 : (upd H7 D1 (.lst (as ++ [.ref r7]))) d = some (.lst us) := by rw [upd_ne hdD1]; exact s7 _ _ hd6
      have hp8 : PotAt (upd H7 D1 (.lst (as ++ [.ref r7]))) p := (hp6.same s7).put D1p
      generalize upd H7 D1 (.lst (as ++ [.ref r7])) = H8 at im78 h18 h28 hl8 hd8 hp8
      have im68 := (Im.of s7).trans im78
      refine ⟨.inl ⟨rfl, _, .inl (.inl h28)⟩, mk_L hd8 (ht6.im im68) (by omega) (fun t h => pl.q _ (hts t h).1) fun x H9 xs' n9 s9 cn9 hw9 fo9 => ?_⟩
      have exs : xs' = xs := cn9.same cn7 fun m => by rw [hw7, hw9]
      subst exs
      have h29 := s9 _ _ h28
      refine ⟨D2, _, _, rfl, rfl, h29, ?_, ?_⟩
      · rw [fm.2.1]; exact small1000 (by omega)
      have im90 : Im H9 (upd H9 D2 (.lst (bs ++ [.ref x]))) := Im.lst h29
      have h10 : (upd H9 D2 (.lst (bs ++ [.ref x]))) D1 = some (.lst (as ++ [.ref r7])) := by rw [upd_ne d12]; exact s9 _ _ h18
      have h20 : (upd H9 D2 (.lst (bs ++ [.ref x]))) D2 = some (.lst (bs ++ [.ref x])) := upd_same
      have hl0 : (upd H9 D2 (.lst (bs ++ [.ref x]))) l = some (.lst (N.map V.str)) := by rw [upd_ne lD2]; exact s9 _ _ hl8
      have hp10 : PotAt (upd H9 D2 (.lst (bs ++ [.ref x]))) p := (hp8.same s9).put D2p
      generalize upd H9 D2 (.lst (bs ++ [.ref x])) = H10 at im90 h10 h20 hl0 hp10
      have im60 := (im68.trans (Im.of s9)).trans im90
      have fx := fb_pairs cn7 hw7 htl hts sc
      have du10 := du7.im ((im78.trans (Im.of s9)).trans im90)
      have fo10 := fo9.im im90
      have fm10 := (fm6.im im60).snoc (t := (xs', c)) du10 fo10 fx
      simp only [tDNotIn, tDIn, tDGet, Option.isSome_some, Option.isSome_none, rIsO, isO_int, isO_str, isO_bl, isO_non, isO_ref, isOO_ins, isOO_lst, isOO_tup, isOO_dK, tMethR, StX.tMakeR, cxOf_K, tDNewK, tCallR, tNever, tSeq, tAsg, gName, tPar, tVar, tC, tOp, rI0, rI, rU, tUn, rEq, rNe, tTest, tB, tAnd, tOr, tNot, tAndV, tOrV, tNotV, tIf, tIfS, tRet, tRetN, tNext, tDrop, tCons, tNil, tCB, tCall, tTup, tLst, rIxLH, rIxTH, gSub, rSetL, tPart, tNoPart, tSl, tBM, tBM0, L2.start, sc_ii, sc_ss, sc_bb, sc_nn, sc_ni, sc_in, sc_ns, sc_sn, sc_is, sc_si, eq_self, tChain, List.map_cons, List.map_nil, List.replicate_succ, List.replicate_zero, List.length_cons, List.length_nil, Nat.reduceAdd, Nat.reduceSub, Nat.zero_add, Nat.sub_self, Nat.add_sub_cancel, List.cons_append, List.nil_append, List.append_nil, List.getElem?_cons_zero, List.getElem?_cons_succ, List.set_cons_zero, List.set_cons_succ, Option.some.injEq, V.int.injEq, V.ref.injEq, V.bl.injEq, V.str.injEq, List.cons.injEq, HO.lst.injEq, HO.tup.injEq, and_true, true_and, exists_eq_left', exists_eq_left, exists_eq', exists_eq, exists_eq_right, exists_eq_right', exists_and_left, exists_and_right, and_assoc, upd_same, reduceCtorEq, false_and, and_false, exists_false, or_false, false_or, at0, at1, atM1, sg_inj, dot_eq, plus_eq, minus_eq, rIxS, at2, at3, at4, at5, ix0, ix1, ix2, ix3, upd_upd, decide_eq_true_eq, Int.reduceLT, Int.reduceLE, Int.reduceAdd, Int.reduceSub, Int.reduceNeg, Int.reduceMul, Int.reducePow, Int.reduceEq, decide_true, decide_false, Int.cast_ofNat_Int, Int.natCast_zero, Int.natCast_one, Nat.reduceEqDiff, Nat.reduceLeDiff, rIsB, tyN_non, tyN_bl, tyN_int, tyN_str, tyN_ref, tyO_lst, tyO_tup, tyO_dK, tyO_dT, V.ty.injEq, ite_true, ite_false, if_true, if_false, Bool.not_true, Bool.not_false, Bool.false_eq_true, kb_int_int, kb_int_bool, kb_int_str, kb_int_tuple, kb_int_list, kb_int_dict, kb_bool_int, kb_bool_bool, kb_bool_str, kb_bool_tuple, kb_bool_list, kb_bool_dict, kb_str_int, kb_str_bool, kb_str_str, kb_str_tuple, kb_str_list, kb_str_dict, kb_NoneType_int, kb_NoneType_bool, kb_NoneType_str, kb_NoneType_tuple, kb_NoneType_list, kb_NoneType_dict, kb_list_int, kb_list_bool, kb_list_str, kb_list_tuple, kb_list_list, kb_list_dict, kb_tuple_int, kb_tuple_bool, kb_tuple_str, kb_tuple_tuple, kb_tuple_list, kb_tuple_dict, kb_dict_int, kb_dict_bool, kb_dict_str, kb_dict_tuple, kb_dict_list, kb_dict_dict, cp_2_53, pw_2_53, cp_10_9, pw_10_9, cp_10_10, pw_10_10, cp_10_18, pw_10_18, cp_10_20, pw_10_20, cp_10_29, pw_10_29, cp_10_30, pw_10_30, h10, h20, Int.zero_add, at_nat]
      refine ⟨.ref x, by rw [List.getElem?_append_right (by rw [fm.2.1]; omega), fm.2.1, hL, Nat.sub_self]; rfl, .ref r7, by rw [List.getElem?_append_right (by rw [fm.1]; omega), fm.1, hL, Nat.sub_self]; rfl, x, r7, N, xs', c, rfl, fo10, du10, pl, fx.mono (by decide), fun H11 s11 => ⟨_, rfl, ?_⟩⟩
      rw [if_neg (by decide)]
      exact ⟨_, _, _, by simp [hL], hp10.same s11, s11 _ _ hl0, s11 _ _ h10, s11 _ _ h20, fm10.im (Im.of s11)⟩
    · rintro σ' H4 ⟨as, bs, L, y5, y6, y7, rfl, hL, hp4, hl4, h14, h24, fm⟩
      match L, hL with
      | [(t0, c0), (t1, c1), (t2, c2)], _ =>
        obtain ⟨a0, b0, ea0, eb0, du0, fo0, f0⟩ := fm.2.2 0 (t0, c0) rfl
        obtain ⟨a1, b1, ea1, eb1, du1, fo1, f1⟩ := fm.2.2 1 (t1, c1) rfl
        obtain ⟨a2, b2, ea2, eb2, du2, fo2, f2⟩ := fm.2.2 2 (t2, c2) rfl
        rw [list3 fm.1 ea0 ea1 ea2] at h14
        rw [list3 fm.2.1 eb0 eb1 eb2] at h24
        have L4 : LS (He.ga K "Form") p l D1 D2 a0 a1 a2 b0 b1 b2 N t0 t1 t2 c0 c1 c2 H4 := ⟨hp4, hl4, h14, h24, du0, du1, du2, fo0, fo1, fo2⟩
        have np3 : l ≠ p ∧ D1 ≠ p ∧ D2 ≠ p := ⟨lp, D1p, D2p⟩
        clear fm hp4 hl4 h14 h24 du0 du1 du2 fo0 fo1 fo2
        have f0 : FB N 113 t0 c0 := f0
        have l0 : t0.length ≤ 24 := by have := f0.len; omega
        have f1 : FB N 113 t1 c1 := f1
        have l1 : t1.length ≤ 24 := by have := f1.len; omega
        have f2 : FB N 113 t2 c2 := f2
        have l2 : t2.length ≤ 24 := by have := f2.len; omega
        have sm1 : Sm 110 (-1) := Sm.mono (n := 1) (by unfold Sm; decide) (by decide)
        have sp1 : Sm 110 1 := Sm.mono (n := 1) (by unfold Sm; decide) (by decide)
        have fnil : FB N 113 [] 0 := FB.of Canon.nil (fun _ => rfl) (fun m h => absurd rfl h) (fun _ => Sm.zero) Sm.zero
        simp only [tDNotIn, tDIn, tDGet, Option.isSome_some, Option.isSome_none, rIsO, isO_int, isO_str, isO_bl, isO_non, isO_ref, isOO_ins, isOO_lst, isOO_tup, isOO_dK, tMethR, StX.tMakeR, cxOf_K, tDNewK, tCallR, tNever, tSeq, tAsg, gName, tPar, tVar, tC, tOp, rI0, rI, rU, tUn, rEq, rNe, tTest, tB, tAnd, tOr, tNot, tAndV, tOrV, tNotV, tIf, tIfS, tRet, tRetN, tNext, tDrop, tCons, tNil, tCB, tCall, tTup, tLst, rIxLH, rIxTH, gSub, rSetL, tPart, tNoPart, tSl, tBM, tBM0, L2.start, sc_ii, sc_ss, sc_bb, sc_nn, sc_ni, sc_in, sc_ns, sc_sn, sc_is, sc_si, eq_self, tChain, List.map_cons, List.map_nil, List.replicate_succ, List.replicate_zero, List.length_cons, List.length_nil, Nat.reduceAdd, Nat.reduceSub, Nat.zero_add, Nat.sub_self, Nat.add_sub_cancel, List.cons_append, List.nil_append, List.append_nil, List.getElem?_cons_zero, List.getElem?_cons_succ, List.set_cons_zero, List.set_cons_succ, Option.some.injEq, V.int.injEq, V.ref.injEq, V.bl.injEq, V.str.injEq, List.cons.injEq, HO.lst.injEq, HO.tup.injEq, and_true, true_and, exists_eq_left', exists_eq_left, exists_eq', exists_eq, exists_eq_right, exists_eq_right', exists_and_left, exists_and_right, and_assoc, upd_same, reduceCtorEq, false_and, and_false, exists_false, or_false, false_or, at0, at1, atM1, sg_inj, dot_eq, plus_eq, minus_eq, rIxS, at2, at3, at4, at5, ix0, ix1, ix2, ix3, upd_upd, decide_eq_true_eq, Int.reduceLT, Int.reduceLE, Int.reduceAdd, Int.reduceSub, Int.reduceNeg, Int.reduceMul, Int.reducePow, Int.reduceEq, decide_true, decide_false, Int.cast_ofNat_Int, Int.natCast_zero, Int.natCast_one, Nat.reduceEqDiff, Nat.reduceLeDiff, rIsB, tyN_non, tyN_bl, tyN_int, tyN_str, tyN_ref, tyO_lst, tyO_tup, tyO_dK, tyO_dT, V.ty.injEq, ite_true, ite_false, if_true, if_false, Bool.not_true, Bool.not_false, Bool.false_eq_true, kb_int_int, kb_int_bool, kb_int_str, kb_int_tuple, kb_int_list, kb_int_dict, kb_bool_int, kb_bool_bool, kb_bool_str, kb_bool_tuple, kb_bool_list, kb_bool_dict, kb_str_int, kb_str_bool, kb_str_str, kb_str_tuple, kb_str_list, kb_str_dict, kb_NoneType_int, kb_NoneType_bool, kb_NoneType_str, kb_NoneType_tuple, kb_NoneType_list, kb_NoneType_dict, kb_list_int, kb_list_bool, kb_list_str, kb_list_tuple, kb_list_list, kb_list_dict, kb_tuple_int, kb_tuple_bool, kb_tuple_str, kb_tuple_tuple, kb_tuple_list, kb_tuple_dict, kb_dict_int, kb_dict_bool, kb_dict_str, kb_dict_tuple, kb_dict_list, kb_dict_dict, cp_2_53, pw_2_53, cp_10_9, pw_10_9, cp_10_10, pw_10_10, cp_10_18, pw_10_18, cp_10_20, pw_10_20, cp_10_29, pw_10_29, cp_10_30, pw_10_30]
        refine ⟨size_le (by simp), ?_⟩
        (intro E nE; (obtain ⟨H5, eqH, s5, e5⟩ := new_upd (o := .lst []) nE); rw [← eqH]; clear eqH)
        refine ⟨E, [], [], 0, rfl, e5, Trms.nil, by simp, fun r6 H6 xs6 n6 s6 cn6 hw6 du6 => ?_⟩
        have ex6 : xs6 = [] := cn6.same Canon.nil hw6
        subst ex6
        have L6 := (L4.same s5).same s6
        refine ⟨p, rfl, L6.pot, fun nb H7 snb hp7 o7 => ?_⟩
        have L7 := L6.off o7 hp7 np3
        have du7 := du6.im (Im.off L6.pot o7)
        obtain ⟨dx0, _, _, hb0, _⟩ := id L7.f0
        obtain ⟨dx1, _, _, hb1, _⟩ := id L7.f1
        simp only [tDNotIn, tDIn, tDGet, Option.isSome_some, Option.isSome_none, rIsO, isO_int, isO_str, isO_bl, isO_non, isO_ref, isOO_ins, isOO_lst, isOO_tup, isOO_dK, tMethR, StX.tMakeR, cxOf_K, tDNewK, tCallR, tNever, tSeq, tAsg, gName, tPar, tVar, tC, tOp, rI0, rI, rU, tUn, rEq, rNe, tTest, tB, tAnd, tOr, tNot, tAndV, tOrV, tNotV, tIf, tIfS, tRet, tRetN, tNext, tDrop, tCons, tNil, tCB, tCall, tTup, tLst, rIxLH, rIxTH, gSub, rSetL, tPart, tNoPart, tSl, tBM, tBM0, L2.start, sc_ii, sc_ss, sc_bb, sc_nn, sc_ni, sc_in, sc_ns, sc_sn, sc_is, sc_si, eq_self, tChain, List.map_cons, List.map_nil, List.replicate_succ, List.replicate_zero, List.length_cons, List.length_nil, Nat.reduceAdd, Nat.reduceSub, Nat.zero_add, Nat.sub_self, Nat.add_sub_cancel, List.cons_append, List.nil_append, List.append_nil, List.getElem?_cons_zero, List.getElem?_cons_succ, List.set_cons_zero, List.set_cons_succ, Option.some.injEq, V.int.injEq, V.ref.injEq, V.bl.injEq, V.str.injEq, List.cons.injEq, HO.lst.injEq, HO.tup.injEq, and_true, true_and, exists_eq_left', exists_eq_left, exists_eq', exists_eq, exists_eq_right, exists_eq_right', exists_and_left, exists_and_right, and_assoc, upd_same, reduceCtorEq, false_and, and_false, exists_false, or_false, false_or, at0, at1, atM1, sg_inj, dot_eq, plus_eq, minus_eq, rIxS, at2, at3, at4, at5, ix0, ix1, ix2, ix3, upd_upd, decide_eq_true_eq, Int.reduceLT, Int.reduceLE, Int.reduceAdd, Int.reduceSub, Int.reduceNeg, Int.reduceMul, Int.reducePow, Int.reduceEq, decide_true, decide_false, Int.cast_ofNat_Int, Int.natCast_zero, Int.natCast_one, Nat.reduceEqDiff, Nat.reduceLeDiff, rIsB, tyN_non, tyN_bl, tyN_int, tyN_str, tyN_ref, tyO_lst, tyO_tup, tyO_dK, tyO_dT, V.ty.injEq, ite_true, ite_false, if_true, if_false, Bool.not_true, Bool.not_false, Bool.false_eq_true, kb_int_int, kb_int_bool, kb_int_str, kb_int_tuple, kb_int_list, kb_int_dict, kb_bool_int, kb_bool_bool, kb_bool_str, kb_bool_tuple, kb_bool_list, kb_bool_dict, kb_str_int, kb_str_bool, kb_str_str, kb_str_tuple, kb_str_list, kb_str_dict, kb_NoneType_int, kb_NoneType_bool, kb_NoneType_str, kb_NoneType_tuple, kb_NoneType_list, kb_NoneType_dict, kb_list_int, kb_list_bool, kb_list_str, kb_list_tuple, kb_list_list, kb_list_dict, kb_tuple_int, kb_tuple_bool, kb_tuple_str, kb_tuple_tuple, kb_tuple_list, kb_tuple_dict, kb_dict_int, kb_dict_bool, kb_dict_str, kb_dict_tuple, kb_dict_list, kb_dict_dict, cp_2_53, pw_2_53, cp_10_9, pw_10_9, cp_10_10, pw_10_10, cp_10_18, pw_10_18, cp_10_20, pw_10_20, cp_10_29, pw_10_29, cp_10_30, pw_10_30, L7.h2]
        refine ⟨⟨_, _, hb0⟩, ⟨_, _, hb1⟩, b0, b1, N, t0, t1, c0, c1, rfl, L7.f0, L7.f1, pl, f0.mono (by decide), f1.mono (by decide), fun x8 H8 xs8 n8 s8 cn8 hw8 fo8 => ?_⟩
        have L8 := L7.same s8
        refine ⟨_, L8.h1, _, rfl, _, L8.h1, _, rfl, a0, a1, t0, t1, c0, c1, -1, rfl, L8.d0, L8.d1, l0, l1, sm1.mono (by decide), fun t h => (f1.bw t h).mono (by decide), f1.bc.mono (by decide), fun r9 H9 xs9 n9 s9 cn9 hw9 du9 => ?_⟩
        have L9 := L8.same s9
        have ex9 : xs9 = xs8 := cn9.same cn8 fun m => by rw [hw9, hw8]; omega
        rw [ex9, show c0 + -1 * c1 = c0 - c1 by omega] at du9
        refine ⟨x8, r9, N, xs8, _, rfl, fo8.im (Im.of s9), du9, pl, fb_lin cn8 f0 f1 sm1 (fun m => by rw [hw8]; omega) (by omega) (by decide), fun H10 s10 => ⟨_, rfl, ?_⟩⟩
        rw [if_neg (by decide)]
        have L10 := L9.same s10
        have im7a := ((Im.of s8).trans (Im.of s9)).trans (Im.of s10)
        clear hb0 hb1 L7 L8 L9 fo8 du9 ex9 hw8 hw9 cn8 cn9
        obtain ⟨dx0, _, _, hb0, _⟩ := id L10.f0
        obtain ⟨dx2, _, _, hb2, _⟩ := id L10.f2
        refine ⟨_, L10.h2, _, rfl, _, L10.h2, _, rfl, _, rfl, _, rfl, ⟨_, _, hb0⟩, ⟨_, _, hb2⟩, b0, b2, N, t0, t2, c0, c2, rfl, L10.f0, L10.f2, pl, f0.mono (by decide), f2.mono (by decide), fun x8 H8 xs8 n8 s8 cn8 hw8 fo8 => ?_⟩
        have L8 := L10.same s8
        refine ⟨_, L8.h1, _, rfl, _, L8.h1, _, rfl, a0, a2, t0, t2, c0, c2, 1, rfl, L8.d0, L8.d2, l0, l2, sp1.mono (by decide), fun t h => (f2.bw t h).mono (by decide), f2.bc.mono (by decide), fun r9 H9 xs9 n9 s9 cn9 hw9 du9 => ?_⟩
        have L9 := L8.same s9
        have ex9 : xs9 = xs8 := cn9.same cn8 fun m => by rw [hw9, hw8]; omega
        rw [ex9, show c0 + 1 * c2 = c0 + c2 by omega] at du9
        refine ⟨x8, r9, N, xs8, _, rfl, fo8.im (Im.of s9), du9, pl, fb_lin cn8 f0 f2 sp1 (fun m => by rw [hw8]; omega) (by omega) (by decide), fun H11 s11 => ⟨_, rfl, ?_⟩⟩
        rw [if_neg (by decide)]
        have L11 := L9.same s11
        have du11 := du7.im (im7a.trans (((Im.of s8).trans (Im.of s9)).trans (Im.of s11)))
        clear hb0 hb2 L10 L8 L9 fo8 du9 ex9 hw8 hw9 cn8 cn9
        obtain ⟨dx1, _, _, hb1, _⟩ := id L11.f1
        refine ⟨_, L11.h2, _, rfl, _, rfl, ⟨_, _, hb1⟩, b1, rfl, b1, N, t1, c1, -1, rfl, L11.f1, pl, f1.mono (by decide), sm1.mono (by decide), fun x8 H8 xs8 n8 s8 cn8 hw8 fo8 => ?_⟩
        have L8 := L11.same s8
        refine ⟨_, L8.h1, _, rfl, r6, a1, [], t1, 0, c1, -1, rfl, du11.im (Im.of s8), L8.d1, by simp, l1, sm1.mono (by decide), fun t h => (f1.bw t h).mono (by decide), f1.bc.mono (by decide), fun r9 H9 xs9 n9 s9 cn9 hw9 du9 => ?_⟩
        have L9 := L8.same s9
        have ex9 : xs9 = xs8 := cn9.same cn8 fun m => by rw [hw9, hw8]; simp only [wt]; omega
        rw [ex9, show 0 + -1 * c1 = c1 * -1 by omega] at du9
        refine ⟨x8, r9, N, xs8, _, rfl, fo8.im (Im.of s9), du9, pl, fb_lin cn8 fnil f1 sm1 (fun m => by rw [hw8]; simp only [wt]; omega) (by omega) (by decide), fun H12 s12 => ⟨_, rfl, ?_⟩⟩
        rw [if_neg (by decide)]
        have L12 := L9.same s12
        have du12 := du11.im (((Im.of s8).trans (Im.of s9)).trans (Im.of s12))
        clear hb1 L11 L8 L9 fo8 du9 ex9 hw8 hw9 cn8 cn9
        obtain ⟨dx2, _, _, hb2, _⟩ := id L12.f2
        simp only [tDNotIn, tDIn, tDGet, Option.isSome_some, Option.isSome_none, rIsO, isO_int, isO_str, isO_bl, isO_non, isO_ref, isOO_ins, isOO_lst, isOO_tup, isOO_dK, tMethR, StX.tMakeR, cxOf_K, tDNewK, tCallR, tNever, tSeq, tAsg, gName, tPar, tVar, tC, tOp, rI0, rI, rU, tUn, rEq, rNe, tTest, tB, tAnd, tOr, tNot, tAndV, tOrV, tNotV, tIf, tIfS, tRet, tRetN, tNext, tDrop, tCons, tNil, tCB, tCall, tTup, tLst, rIxLH, rIxTH, gSub, rSetL, tPart, tNoPart, tSl, tBM, tBM0, L2.start, sc_ii, sc_ss, sc_bb, sc_nn, sc_ni, sc_in, sc_ns, sc_sn, sc_is, sc_si, eq_self, tChain, List.map_cons, List.map_nil, List.replicate_succ, List.replicate_zero, List.length_cons, List.length_nil, Nat.reduceAdd, Nat.reduceSub, Nat.zero_add, Nat.sub_self, Nat.add_sub_cancel, List.cons_append, List.nil_append, List.append_nil, List.getElem?_cons_zero, List.getElem?_cons_succ, List.set_cons_zero, List.set_cons_succ, Option.some.injEq, V.int.injEq, V.ref.injEq, V.bl.injEq, V.str.injEq, List.cons.injEq, HO.lst.injEq, HO.tup.injEq, and_true, true_and, exists_eq_left', exists_eq_left, exists_eq', exists_eq, exists_eq_right, exists_eq_right', exists_and_left, exists_and_right, and_assoc, upd_same, reduceCtorEq, false_and, and_false, exists_false, or_false, false_or, at0, at1, atM1, sg_inj, dot_eq, plus_eq, minus_eq, rIxS, at2, at3, at4, at5, ix0, ix1, ix2, ix3, upd_upd, decide_eq_true_eq, Int.reduceLT, Int.reduceLE, Int.reduceAdd, Int.reduceSub, Int.reduceNeg, Int.reduceMul, Int.reducePow, Int.reduceEq, decide_true, decide_false, Int.cast_ofNat_Int, Int.natCast_zero, Int.natCast_one, Nat.reduceEqDiff, Nat.reduceLeDiff, rIsB, tyN_non, tyN_bl, tyN_int, tyN_str, tyN_ref, tyO_lst, tyO_tup, tyO_dK, tyO_dT, V.ty.injEq, ite_true, ite_false, if_true, if_false, Bool.not_true, Bool.not_false, Bool.false_eq_true, kb_int_int, kb_int_bool, kb_int_str, kb_int_tuple, kb_int_list, kb_int_dict, kb_bool_int, kb_bool_bool, kb_bool_str, kb_bool_tuple, kb_bool_list, kb_bool_dict, kb_str_int, kb_str_bool, kb_str_str, kb_str_tuple, kb_str_list, kb_str_dict, kb_NoneType_int, kb_NoneType_bool, kb_NoneType_str, kb_NoneType_tuple, kb_NoneType_list, kb_NoneType_dict, kb_list_int, kb_list_bool, kb_list_str, kb_list_tuple, kb_list_list, kb_list_dict, kb_tuple_int, kb_tuple_bool, kb_tuple_str, kb_tuple_tuple, kb_tuple_list, kb_tuple_dict, kb_dict_int, kb_dict_bool, kb_dict_str, kb_dict_tuple, kb_dict_list, kb_dict_dict, cp_2_53, pw_2_53, cp_10_9, pw_10_9, cp_10_10, pw_10_10, cp_10_18, pw_10_18, cp_10_20, pw_10_20, cp_10_29, pw_10_29, cp_10_30, pw_10_30, L12.h2]
        refine ⟨⟨_, _, hb2⟩, b2, N, t2, c2, nb, rfl, L12.f2, pl, f2.mono (by decide), snb.mono (by decide), fun x8 H8 xs8 n8 s8 cn8 hw8 fo8 => ?_⟩
        have L8 := L12.same s8
        refine ⟨_, L8.h1, _, rfl, r6, a2, [], t2, 0, c2, nb, rfl, du12.im (Im.of s8), L8.d2, by simp, l2, snb.mono (by decide), fun t h => (f2.bw t h).mono (by decide), f2.bc.mono (by decide), fun r9 H9 xs9 n9 s9 cn9 hw9 du9 => ?_⟩
        have L9 := L8.same s9
        have ex9 : xs9 = xs8 := cn9.same cn8 fun m => by rw [hw9, hw8, Int.mul_comm]; simp only [wt]; omega
        rw [ex9, show 0 + nb * c2 = c2 * nb by rw [Int.mul_comm]; omega] at du9
        refine ⟨x8, r9, N, xs8, _, rfl, fo8.im (Im.of s9), du9, pl, fb_lin cn8 fnil f2 snb (fun m => by rw [hw8, Int.mul_comm]; simp only [wt]; omega) (by rw [Int.mul_comm]; omega) (by decide), fun H13 s13 => ⟨_, rfl, ?_⟩⟩
        rw [if_neg (by decide)]
        have L13 := L9.same s13
        clear hb2 L12 L8 L9 fo8 du9 ex9 hw8 hw9 cn8 cn9
        refine ⟨size_le (by simp), ?_⟩
        (intro E1 nE1; (obtain ⟨H14, eqH, s14, e14⟩ := new_upd (o := .lst []) nE1); rw [← eqH]; clear eqH)
        refine mk_L e14 Trms.nil (by simp) (fun t h => by cases h) fun x8 H8 xs8 n8 s8 cn8 hw8 fo8 => ?_
        refine ⟨size_le (by simp), ?_⟩
        (intro E2 nE2; (obtain ⟨H15, eqH, s15, e15⟩ := new_upd (o := .lst []) nE2); rw [← eqH]; clear eqH)
        refine ⟨E2, [], [], nb, rfl, e15, Trms.nil, by simp, fun r9 H9 xs9 n9 s9 cn9 hw9 du9 => ?_⟩
        have ex8 : xs8 = [] := cn8.same Canon.nil hw8
        have ex9 : xs9 = [] := cn9.same Canon.nil hw9
        rw [ex9] at du9
        rw [ex8] at fo8
        have fnb : FB N 1000 [] nb := FB.of Canon.nil (fun _ => rfl) (fun m h => absurd rfl h) (fun _ => Sm.zero) (snb.mono (by decide))
        refine ⟨x8, r9, N, [], nb, rfl, fo8.im ((Im.of s15).trans (Im.of s9)), du9, pl, fnb, fun H16 s16 => ⟨_, rfl, ?_⟩⟩
        rw [if_neg (by decide)]
        have L16 := ((((L13.same s14).same s8).same s15).same s9).same s16
        clear L13 fo8 du9 ex8 ex9 hw8 hw9 cn8 cn9
        intro x nx
        obtain ⟨H17, eqH, s17, e17⟩ := new_upd (o := .dK []) nx
        rw [← eqH]; clear eqH
        have L17 := L16.same s17
        have xp : x ≠ p := L16.pot.ne nx
        refine ⟨_, rfl, l, rfl, ⟨_, .inl (.inl L17.hl)⟩, for_it (walk_list (xs := N.map V.str)) (fun i σ' H' => ∃ (kvs : List (Key × V)) (lv : Str → Rat) (y5 y6 y7 y11 : Option V), σ' = [some (.ref a), some (.ref p), some (.ref l), some (.ref D1), some (.ref D2), y5, y6, y7, some (.ref r6), some (.int nb), some (.ref x), y11, none, none] ∧ LS (He.ga K "Form") p l D1 D2 a0 a1 a2 b0 b1 b2 N t0 t1 t2 c0 c1 c2 H' ∧ H' x = some (.dK kvs) ∧ kvs.length ≤ i ∧ ∀ n ∈ N.take i, RB 120 (lv n) ∧ ∃ r, valV kvs (Sum.inr n : Key) = some (.ref r) ∧ H' r = some (prT (lv n))) ?_ ?_ ?_ ?_⟩
        · exact ⟨[], fun _ => 0, y5, y6, y7, none, rfl, L17, e17, by simp, by simp⟩
        · rintro i σ' H' _ ⟨kvs, lv, _, _, _, _, rfl, L', _⟩
          exact .inl (.inl L'.hl)
        · rintro i v σ' H' H18 hi ⟨kvs, lv, y5, y6, y7, y11, rfl, L', hx, hk, hlv⟩ ⟨rfl, hv⟩
          rw [List.getElem?_map] at hv
          obtain ⟨n, hn, rfl⟩ := Option.map_eq_some_iff.mp hv
          simp only [tDNotIn, tDIn, tDGet, Option.isSome_some, Option.isSome_none, rIsO, isO_int, isO_str, isO_bl, isO_non, isO_ref, isOO_ins, isOO_lst, isOO_tup, isOO_dK, tMethR, StX.tMakeR, cxOf_K, tDNewK, tCallR, tNever, tSeq, tAsg, gName, tPar, tVar, tC, tOp, rI0, rI, rU, tUn, rEq, rNe, tTest, tB, tAnd, tOr, tNot, tAndV, tOrV, tNotV, tIf, tIfS, tRet, tRetN, tNext, tDrop, tCons, tNil, tCB, tCall, tTup, tLst, rIxLH, rIxTH, gSub, rSetL, tPart, tNoPart, tSl, tBM, tBM0, L2.start, sc_ii, sc_ss, sc_bb, sc_nn, sc_ni, sc_in, sc_ns, sc_sn, sc_is, sc_si, eq_self, tChain, List.map_cons, List.map_nil, List.replicate_succ, List.replicate_zero, List.length_cons, List.length_nil, Nat.reduceAdd, Nat.reduceSub, Nat.zero_add, Nat.sub_self, Nat.add_sub_cancel, List.cons_append, List.nil_append, List.append_nil, List.getElem?_cons_zero, List.getElem?_cons_succ, List.set_cons_zero, List.set_cons_succ, Option.some.injEq, V.int.injEq, V.ref.injEq, V.bl.injEq, V.str.injEq, List.cons.injEq, HO.lst.injEq, HO.tup.injEq, and_true, true_and, exists_eq_left', exists_eq_left, exists_eq', exists_eq, exists_eq_right, exists_eq_right', exists_and_left, exists_and_right, and_assoc, upd_same, reduceCtorEq, false_and, and_false, exists_false, or_false, false_or, at0, at1, atM1, sg_inj, dot_eq, plus_eq, minus_eq, rIxS, at2, at3, at4, at5, ix0, ix1, ix2, ix3, upd_upd, decide_eq_true_eq, Int.reduceLT, Int.reduceLE, Int.reduceAdd, Int.reduceSub, Int.reduceNeg, Int.reduceMul, Int.reducePow, Int.reduceEq, decide_true, decide_false, Int.cast_ofNat_Int, Int.natCast_zero, Int.natCast_one, Nat.reduceEqDiff, Nat.reduceLeDiff, rIsB, tyN_non, tyN_bl, tyN_int, tyN_str, tyN_ref, tyO_lst, tyO_tup, tyO_dK, tyO_dT, V.ty.injEq, ite_true, ite_false, if_true, if_false, Bool.not_true, Bool.not_false, Bool.false_eq_true, kb_int_int, kb_int_bool, kb_int_str, kb_int_tuple, kb_int_list, kb_int_dict, kb_bool_int, kb_bool_bool, kb_bool_str, kb_bool_tuple, kb_bool_list, kb_bool_dict, kb_str_int, kb_str_bool, kb_str_str, kb_str_tuple, kb_str_list, kb_str_dict, kb_NoneType_int, kb_NoneType_bool, kb_NoneType_str, kb_NoneType_tuple, kb_NoneType_list, kb_NoneType_dict, kb_list_int, kb_list_bool, kb_list_str, kb_list_tuple, kb_list_list, kb_list_dict, kb_tuple_int, kb_tuple_bool, kb_tuple_str, kb_tuple_tuple, kb_tuple_list, kb_tuple_dict, kb_dict_int, kb_dict_bool, kb_dict_str, kb_dict_tuple, kb_dict_list, kb_dict_dict, cp_2_53, pw_2_53, cp_10_9, pw_10_9, cp_10_10, pw_10_10, cp_10_18, pw_10_18, cp_10_20, pw_10_20, cp_10_29, pw_10_29, cp_10_30, pw_10_30]
          refine ⟨_, rfl, p, rfl, L'.pot, fun q z H19 bz nq e19 hp19 o19 => ?_⟩
          have L19 := L'.off o19 hp19 np3
          have hx19 := o19 _ _ hx xp
          have hN' : i < 4 := by rw [List.length_map] at hi; omega
          refine ⟨_, rfl, _, rfl, x, _, rfl, DPut.k (k := Sum.inr n) hx19 (small1000 (by omega)), ?_⟩
          refine ⟨⟨_, _, _, _, rfl⟩, L19.dct hx19, _, upd_same, Nat.le_trans (length_putK _ _ _) (by omega), fun m => if m = n then z else lv m, fun m hm => ?_⟩
          have im := Im.off L'.pot o19
          have nx' : ∀ {r : Addr} {u : Rat}, H19 r = some (prT u) → (upd H19 x (.dK (putK kvs (Sum.inr n : Key) (.ref q)))) r = some (prT u) := fun {r u} h => by
            rw [upd_ne]; · exact h
            rintro rfl; rw [hx19] at h; cases h
          rw [valV_put]
          show RB 120 (if m = n then z else lv m) ∧ ∃ r, (if (Sum.inr m : Key) = Sum.inr n then some (V.ref q) else valV kvs (Sum.inr m)) = some (V.ref r) ∧ upd H19 x (HO.dK (putK kvs (Sum.inr n) (V.ref q))) r = some (prT (if m = n then z else lv m))
          by_cases e : m = n
          · rw [if_pos e, if_pos (by rw [e])]
            exact ⟨bz, q, rfl, nx' e19⟩
          · rw [if_neg e, if_neg (fun z => e (Sum.inr.inj z))]
            rw [take_s hn] at hm
            rcases List.mem_append.mp hm with hm | hm
            · obtain ⟨bl, r, hval, hr⟩ := hlv m hm
              exact ⟨bl, r, hval, nx' (im _ _ hr trivial)⟩
            · exact absurd (List.mem_singleton.mp hm) e
        · rintro σ' H18 ⟨kvs, lv, y5, y6, y7, y11, rfl, L18, hx, hk, hlv⟩
          rw [List.length_map, List.take_length] at hlv
          rw [List.length_map] at hk
          simp only [tDNotIn, tDIn, tDGet, Option.isSome_some, Option.isSome_none, rIsO, isO_int, isO_str, isO_bl, isO_non, isO_ref, isOO_ins, isOO_lst, isOO_tup, isOO_dK, tMethR, StX.tMakeR, cxOf_K, tDNewK, tCallR, tNever, tSeq, tAsg, gName, tPar, tVar, tC, tOp, rI0, rI, rU, tUn, rEq, rNe, tTest, tB, tAnd, tOr, tNot, tAndV, tOrV, tNotV, tIf, tIfS, tRet, tRetN, tNext, tDrop, tCons, tNil, tCB, tCall, tTup, tLst, rIxLH, rIxTH, gSub, rSetL, tPart, tNoPart, tSl, tBM, tBM0, L2.start, sc_ii, sc_ss, sc_bb, sc_nn, sc_ni, sc_in, sc_ns, sc_sn, sc_is, sc_si, eq_self, tChain, List.map_cons, List.map_nil, List.replicate_succ, List.replicate_zero, List.length_cons, List.length_nil, Nat.reduceAdd, Nat.reduceSub, Nat.zero_add, Nat.sub_self, Nat.add_sub_cancel, List.cons_append, List.nil_append, List.append_nil, List.getElem?_cons_zero, List.getElem?_cons_succ, List.set_cons_zero, List.set_cons_succ, Option.some.injEq, V.int.injEq, V.ref.injEq, V.bl.injEq, V.str.injEq, List.cons.injEq, HO.lst.injEq, HO.tup.injEq, and_true, true_and, exists_eq_left', exists_eq_left, exists_eq', exists_eq, exists_eq_right, exists_eq_right', exists_and_left, exists_and_right, and_assoc, upd_same, reduceCtorEq, false_and, and_false, exists_false, or_false, false_or, at0, at1, atM1, sg_inj, dot_eq, plus_eq, minus_eq, rIxS, at2, at3, at4, at5, ix0, ix1, ix2, ix3, upd_upd, decide_eq_true_eq, Int.reduceLT, Int.reduceLE, Int.reduceAdd, Int.reduceSub, Int.reduceNeg, Int.reduceMul, Int.reducePow, Int.reduceEq, decide_true, decide_false, Int.cast_ofNat_Int, Int.natCast_zero, Int.natCast_one, Nat.reduceEqDiff, Nat.reduceLeDiff, rIsB, tyN_non, tyN_bl, tyN_int, tyN_str, tyN_ref, tyO_lst, tyO_tup, tyO_dK, tyO_dT, V.ty.injEq, ite_true, ite_false, if_true, if_false, Bool.not_true, Bool.not_false, Bool.false_eq_true, kb_int_int, kb_int_bool, kb_int_str, kb_int_tuple, kb_int_list, kb_int_dict, kb_bool_int, kb_bool_bool, kb_bool_str, kb_bool_tuple, kb_bool_list, kb_bool_dict, kb_str_int, kb_str_bool, kb_str_str, kb_str_tuple, kb_str_list, kb_str_dict, kb_NoneType_int, kb_NoneType_bool, kb_NoneType_str, kb_NoneType_tuple, kb_NoneType_list, kb_NoneType_dict, kb_list_int, kb_list_bool, kb_list_str, kb_list_tuple, kb_list_list, kb_list_dict, kb_tuple_int, kb_tuple_bool, kb_tuple_str, kb_tuple_tuple, kb_tuple_list, kb_tuple_dict, kb_dict_int, kb_dict_bool, kb_dict_str, kb_dict_tuple, kb_dict_list, kb_dict_dict, cp_2_53, pw_2_53, cp_10_9, pw_10_9, cp_10_10, pw_10_10, cp_10_18, pw_10_18, cp_10_20, pw_10_20, cp_10_29, pw_10_29, cp_10_30, pw_10_30, spTake, L18.hl, List.length_map]
          have hpos : 0 < N.length := List.length_pos_iff.mpr hne
          refine ⟨L18.pot, by omega, by omega, fun k1 H19 k10 k11 hp19 o19 => ?_⟩
          have L19 := L18.off o19 hp19 np3
          have hk1 : k1.toNat < N.length := by omega
          refine ⟨_, L19.hl, .str N[k1.toNat], at_int k10 (by rw [List.getElem?_map, List.getElem?_eq_getElem hk1]; rfl), _, L19.hl, hp19, by rw [List.length_map]; omega, by rw [List.length_map]; omega, fun k2 H20 k20 k21 hp20 o20 => ?_⟩
          rw [List.length_map] at k21
          have L20 := L19.off o20 hp20 np3
          have hk2 : k2.toNat < N.length := by omega
          refine ⟨_, L20.hl, .str N[k2.toNat], at_int k20 (by rw [List.getElem?_map, List.getElem?_eq_getElem hk2]; rfl), ?_⟩
          have o1820 := o19.trans o20
          have im20 := Im.off L18.pot o1820
          have wa20 : WorldAt H20 x N lv := ⟨kvs, o1820 _ _ hx xp, by omega, fun m hm => by
            obtain ⟨bl, r, hval, hr⟩ := hlv m hm
            exact ⟨bl, r, hval, im20 _ _ hr trivial⟩⟩
          have hm1 : N[k1.toNat] ∈ N := List.getElem_mem hk1
          have hm2 : N[k2.toNat] ∈ N := List.getElem_mem hk2
          generalize N[k1.toNat] = z1 at hm1
          generalize N[k2.toNat] = z2 at hm2
          have ws : ∀ {Ha Hb : Hp}, WorldAt Ha x N lv → Same Ha Hb → WorldAt Hb x N lv := fun {Ha Hb} h sm => by
            obtain ⟨kv, h1, h2, h3⟩ := h
            exact ⟨kv, sm _ _ h1, h2, fun m hm => by
              obtain ⟨bl, r, hval, hr⟩ := h3 m hm
              exact ⟨bl, r, hval, sm _ _ hr⟩⟩
          refine ⟨_, L20.h2, _, rfl, _, L20.h1, _, rfl, _, L20.h2, _, rfl, _, L20.h1, _, rfl, b0, a0, b1, a1, x, N, t0, t1, c0, c1, z1, lv, rfl, L20.f0, L20.d0, L20.f1, L20.d1, hN4, pl, f0.mono (by decide), f1.mono (by decide), hm1, wa20, fun H21 s21 => ⟨_, rfl, ?_⟩⟩
          rw [if_neg (by decide)]
          have L21 := L20.same s21
          have wa21 := ws wa20 s21
          refine ⟨_, L21.h2, _, rfl, _, L21.h1, _, rfl, _, L21.h2, _, rfl, _, L21.h1, _, rfl, b0, a0, b0, a0, x, N, t0, t0, c0, c0, z1, lv, rfl, L21.f0, L21.d0, L21.f0, L21.d0, hN4, pl, f0.mono (by decide), f0.mono (by decide), hm1, wa21, fun H22 s22 => ⟨_, rfl, ?_⟩⟩
          rw [if_neg (by decide)]
          have L22 := L21.same s22
          have wa22 := ws wa21 s22
          obtain ⟨dx0, _, _, hb0, _⟩ := id L22.f0
          refine ⟨_, L22.h2, _, rfl, _, rfl, _, _, hb0, look_n _ _ _ (by decide +kernel) (by decide +kernel), _, L22.h2, _, rfl, b0, b1, N, t0, t1, c0, c1, z1, rfl, L22.f0, L22.f1, pl, f0.mono (by decide), f1.mono (by decide), fun x23 H23 xs23 n23 s23 cn23 hw23 fo23 => ?_⟩
          have L23 := L22.same s23
          refine ⟨_, L23.h1, _, rfl, _, L23.h1, _, rfl, a0, a1, N, t0, t1, c0, c1, z1, rfl, L23.d0, L23.d1, pl, f0.mono (by decide), f1.mono (by decide), fun r24 H24 xs24 n24 s24 cn24 hw24 du24 => ?_⟩
          have L24 := L23.same s24
          have ex24 : xs24 = xs23 := cn24.same cn23 fun m => by rw [hw24, hw23]
          rw [ex24] at du24
          have wa24 := ws (ws wa22 s23) s24
          have fx : FB N 250 xs23 (c0 + c1 * wt t0 z1) := by
            refine FB.of cn23 hw23 (fun m hm => ?_) (fun m => ?_) ?_
            · by_cases h1 : wt t1 m = 0
              · rw [h1, Int.zero_mul, Int.add_zero] at hm
                by_cases e : m = z1
                · rw [if_pos e] at hm; exact absurd rfl hm
                · rw [if_neg e] at hm; exact f0.wn hm
              · exact f1.wn h1
            · have h2 := (f1.wb m).mul (f0.wb z1)
              have h3 : Sm 113 (if m = z1 then 0 else wt t0 m) := by
                by_cases e : m = z1
                · rw [if_pos e]; exact Sm.zero
                · rw [if_neg e]; exact f0.wb m
              exact (h3.add h2).mono (by decide)
            · exact (f0.bc.add (f1.bc.mul (f0.wb z1))).mono (by decide)
          exact ⟨_, L24.h2, _, rfl, _, L24.h1, _, rfl, x23, r24, b2, a2, x, N, xs23, t2, _, c2, z2, lv, rfl, fo23.im (Im.of s24), du24, L24.f2, L24.d2, hN4, pl, fx, f2.mono (by decide), hm2, wa24, fun H25 _ => k H25⟩
end
end K0
namespace K0
open PySem PySem.Spec PyProof.Rows L2
def loose : List Str := (["_wall", "MeteError", "BadName", "NoQuantity", "divisor_of", "ratio", "plus", "LETTERS", "QUANTITY_CHARACTERS", "LONGEST_QUANTITY", "is_quantity", "size_text", "signed", "Form", "_law_pot", "_law_take", "_law_whole", "_law_quantity", "_law_pool", "_law_weight", "_law_pairs", "_law_tidy", "_law_added", "_law_form_is", "_law_lowest", "_law_pair_is", "_law_value", "_law_part", "_law_written", "_law_right"] : List Str) ++ (["_law_put", "_law_level", "_law_put_right"] : List Str)
abbrev R : PySem.W.OpenRow := PySem.W.OpenLaw.row PySem.Challenge.rw_metehouse_k02_forms_written_and_put
abbrev hk : PySem.W.Hook := He.hookX 6 fa fn [] [] ex
def ob (s : PySem.W.SharedT) : He.AlX := He.obsX 6 fa fn [] [] ex (HandSHeadRun.getT s)
theorem ob_eq (s : PySem.W.SharedT) : ob s = hk.obs s.abs := He.obsX_eq (HandSHeadRun.getT_eq s)
theorem run (w : World) : HandSHeadRun.RunEq R (PySem.W.view R.prog [37]) hk ob 4000 loose w := by
  intro os
  kernel_rfl
end K0
open PySem PySem.W PySem.Calls PyProof.Rows
set_option maxRecDepth 100000 in
set_option maxHeartbeats 0 in
theorem PySem.Challenge.cw_metehouse_k02_forms_written_and_put_holds : PySem.Challenge.rw_metehouse_k02_forms_written_and_put.Holds := by
  w_on; o_law
  refine HandSHeadRun.head_any (r := OpenLaw.row PySem.Challenge.rw_metehouse_k02_forms_written_and_put) (q := view (OpenLaw.row PySem.Challenge.rw_metehouse_k02_forms_written_and_put).prog [37]) (H := K0.hk) (ob := K0.ob) (M := 4000) (loose := K0.loose) (d := HandSHeadRun.topDef (OpenLaw.row PySem.Challenge.rw_metehouse_k02_forms_written_and_put).prog 37) (kwd := []) K0.ob_eq
    (by kernel_rfl) (fun s => by kernel_rfl) K0.run (by kernel_rfl) (by kernel_rfl) (by kernel_rfl) (by rfl) (by first | assumption | decide +kernel) (by decide +kernel) ⟨rfl, rfl, rfl, rfl, rfl, by decide +kernel⟩ ?hw ?hc
  case hw => w_witness2
  case hc =>
    refine L2.walk_ofE (l := PySem.Challenge.rw_metehouse_k02_forms_written_and_put) (n := 63) (k := 10) (x := "_law_script") (CX := L2.CX0) rfl (by decide) (by kernel_rfl) ⟨rfl, by decide, by decide⟩ ?F (fun _ _ _ _ z => z)
    intro w mg fa h Y G hmg0
    obtain ⟨K, KX, c⟩ := Y
    have T : K0.Txt K mg := ⟨⟨h, KX, G⟩, c.t.d, c.more⟩
    have hmg : mg ("law" : PySem.Str) = some (.ref fa) := by
      have e : (HandSHeadRun.topDef (OpenLaw.row PySem.Challenge.rw_metehouse_k02_forms_written_and_put).prog 37).name = ("law" : PySem.Str) := by kernel_rfl
      rw [← e]
      exact hmg0
    have e := hmg.symm.trans T.g_law
    cases e
    have b := L2.FunD.bindsA (ps := ["_law_script"]) T.F_law fun _ _ _ _ _ _ us hl => match us, hl with | [_], _ => rfl
    exact ⟨K, K0.fdOf K (He.ga K "law"), K0.spLaw K, KX, fun s v => b s [v] rfl, fun H a ns hl _ hS => ⟨a, ns, rfl, hS, hl, fun _ => rfl⟩, fun base _ _ => K0.ok_law T⟩
