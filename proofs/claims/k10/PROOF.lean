import PyProof.Rows.All
import Wide.All
import OpenK.AllK
import Wide.FinOn
import HandS.ForMost
import HandS.Exc
import HandS.TryOnly
import HandS.ExcOwn
import HandS.WordsExc
import HandS.Lambda
import HandS.EndTab
import HandS.Wide
import HandS.IsInst
import HandS.ExcIs
import HandS.Defaults
import HandS.SortInts
import HandS.SortKw
import HandS.Strs
import PySem.Challenge.RW_wraptime_k10_rings_of_three
set_option Elab.async false
set_option linter.all false
set_option maxRecDepth 100000
set_option maxHeartbeats 4000000
set_option Elab.async false
set_option linter.all false
set_option maxRecDepth 100000
set_option maxHeartbeats 4000000
namespace My
open PySem PySem.Spec PyProof.Rows L2
open LamX (Tabs TabS CodeO ExtN)
/-! ### what is known of a def -/
structure Knows (P : Program) (w : World) (K : PySem.W.Frag) (mg : Str → Option Value) (base : Heap) (k : Nat) (x : Str) (ps : List Str) (sp : Sp) : Prop where
  ex : ∃ (f : Addr) (fd : FuncData), FnOk P w K mg base (L2.CX P w) k f fd ps sp ∧ mg x = some (.ref f) ∧ PySem.W.keepIn K (.ref f) = true ∧ Binds K fd ps []
structure DefAt (K : PySem.W.Frag) (mg : Str → Option Value) (x : Str) (st : Stmt) (f : Addr) (fd : FuncData) : Prop where
  fn : Fun K x x st f fd
  g : mg x = some (.ref f)
structure ExcAt (K : PySem.W.Frag) (mg : Str → Option Value) (x : Str) (C : Addr) : Prop where
  g : mg x = some (.ref C)
  x : PySem.W.excIn K C [.type "ValueError", .type "Exception", .type "BaseException", .type "object"] "ValueError.__new__" = true
  k : PySem.W.keepIn K (.ref C) = true
  b : PySem.W.subIn K (.ref C) (.type "BaseException") = some true
  t : PySem.W.typeIn K (.ref C) = some (.type "type")
theorem pe_callN {X : Cx} {k : Nat} {x : Str} {ps : List Str} {sp : Sp} {E : XK} {p pos : Pos} {e : Expr} {es : List Expr} {t : TA} (c : Knows X.prog X.w X.K X.mg X.base k x ps sp) (hr : Room k X.A) (hx : Passes (L2.CX X.prog X.w) X E)
    (ha : PA X (e :: es) t) (hg : Gl X x := by rfl) (hdb : (x == ("__debug__" : Str)) = false := by decide) (he : starEach (e :: es) X.env = (false, eval e X.env) :: starEach es X.env := by rfl) (hpl : (backTo pos (starEach es X.env)).any (·.1) = false := by rfl) :
    PE X (.Call (.Name x p) (e :: es) [] pos) (tCall sp [] E t) := by
  obtain ⟨f, fd, F, hm, hk, hb⟩ := c.ex
  exact pe_call F hr hg hm hk hb .nil hx ha hdb he hpl
section
variable {P : Program} {w : World} {K : PySem.W.Frag} {mg : Str → Option Value} {base : Heap} {N : List Str} {qual : Str} {scope : Scope} {f : Addr} {cd : Value} {A : Around} {outer : List Env} {s : Shared} {H : Hp} {E : XK}
theorem takesD : Takes (cxOf (L2.CX P w) P w K mg base N qual scope f cd A outer s H E) (fun cls d _ H => E cls d H) := takes_of rfl rfl rfl rfl
theorem passD : Passes (L2.CX P w) (cxOf (L2.CX P w) P w K mg base N qual scope f cd A outer s H E) E := passes_call takesD (fun _ _ _ _ h => h)
theorem passO : PassesOwn (model P w) (A.deeper (envOfC qual scope s.heap.objs.size f cd)) (envOfC qual scope s.heap.objs.size f cd) (cxOf (L2.CX P w) P w K mg base N qual scope f cd A outer s H E).xe := PassesOwn.leaving
theorem ps_raiseN {x m : Str} {C : Addr} {j : Nat} {p p2 pos pos2 : Pos} (e : ExcAt K mg x C) (hg : Gl (cxOf (L2.CX P w) P w K mg base N qual scope f cd A outer s H E) x := by rfl) (hdb : (x == ("__debug__" : Str)) = false := by decide) :
    PS (cxOf (L2.CX P w) P w K mg base N qual scope f cd A outer s H E) (.Raise (some (.Call (.Name x p) [.Constant (.str m) j p2] [] pos)) none pos2) (fun _ _ H' => E (.ref C) none H') :=
  ps_raise rfl takesD (pmk_own PySem.F.excBase_ValueError e.x e.g e.k (raises_own e.b e.t) hg hdb)
end
/-! ### rules by name -/
def rLenN (K : PySem.W.Frag) : List V → Hp → VK → Prop := fun xs H Q => ∃ (x : V) (n : Nat), xs = [x] ∧ LenV K x H n ∧ Q (.int n) H
theorem call_lenN {X : Cx} : CallR X (.builtin "len") (rLenN X.K) := call_len
def rMin2 : List V → Hp → VK → Prop := fun xs H Q => ∃ i j : Int, xs = [.int i, .int j] ∧ Q (.int (if j < i then j else i)) H
def rMax2 : List V → Hp → VK → Prop := fun xs H Q => ∃ i j : Int, xs = [.int i, .int j] ∧ Q (.int (if j > i then j else i)) H
theorem call_min2N {X : Cx} (hc : X.calm = true) : CallR X (.builtin "min") rMin2 := call_min2 hc
theorem call_max2N {X : Cx} (hc : X.calm = true) : CallR X (.builtin "max") rMax2 := call_max2 hc
def rAbs : List V → Hp → VK → Prop := fun xs H Q => ∃ i : Int, xs = [.int i] ∧ Q (.int (if i < 0 then -i else i)) H
theorem call_absN {X : Cx} : CallR X (.builtin "abs") rAbs := call_abs
def rInt1 : List V → Hp → VK → Prop := fun xs H Q => (∃ i : Int, xs = [.int i] ∧ Q (.int i) H) ∨ ∃ k : Bool, xs = [.bl k] ∧ Q (.int (if k then 1 else 0)) H
theorem call_intN {X : Cx} : CallR X (.type "int") rInt1 := call_int1
def rListOf (K : PySem.W.Frag) : List V → Hp → VK → Prop := fun xs H Q => ∃ (p : Addr) (ys : List V), xs = [.ref p] ∧ (SqL K H p ys ∨ SqT K H p ys) ∧ ∀ l, H l = none → Q (.ref l) (upd H l (.lst ys))
theorem call_listN {X : Cx} : CallR X (.type "list") (rListOf X.K) := call_list_of
def rIsN : R2 := fun x y H Q => y = .non ∧ Q (.bl (decide (x = .non))) H
def rNotN : R2 := fun x y H Q => y = .non ∧ Q (.bl (!decide (x = .non))) H
theorem op_isNN {X : Cx} : OpR X (compareOp .Is) rIsN := op_isN
theorem op_notNN {X : Cx} : OpR X (compareOp .IsNot) rNotN := op_notN
/-! ### a reading, step by step -/
section
variable {σ : L2.St} {H : Hp} {i : Nat} {v : V} {ta tb tc : TE} {t u : TT} {r r' : R2} {Q : VK} {QB : Bool → Hp → Prop} {QA : List V → Hp → Prop} {D : Ends} {g : TG} {a b : Int} {te : TE} {tl : TA} {s1 s2 : TS}
theorem g_var (h : σ[i]? = some (some v)) (q : Q v H) : tVar i σ H Q := ⟨v, h, q⟩
theorem g_var0 {r : L2.St} (q : Q v H) : tVar 0 (some v :: r) H Q := ⟨v, rfl, q⟩
theorem g_var1 {x0 : Option V} {r : L2.St} (q : Q v H) : tVar 1 (x0 :: some v :: r) H Q := ⟨v, rfl, q⟩
theorem g_var2 {x0 x1 : Option V} {r : L2.St} (q : Q v H) : tVar 2 (x0 :: x1 :: some v :: r) H Q := ⟨v, rfl, q⟩
theorem g_var3 {x0 x1 x2 : Option V} {r : L2.St} (q : Q v H) : tVar 3 (x0 :: x1 :: x2 :: some v :: r) H Q := ⟨v, rfl, q⟩
theorem g_var4 {x0 x1 x2 x3 : Option V} {r : L2.St} (q : Q v H) : tVar 4 (x0 :: x1 :: x2 :: x3 :: some v :: r) H Q := ⟨v, rfl, q⟩
theorem g_var5 {x0 x1 x2 x3 x4 : Option V} {r : L2.St} (q : Q v H) : tVar 5 (x0 :: x1 :: x2 :: x3 :: x4 :: some v :: r) H Q := ⟨v, rfl, q⟩
theorem g_var6 {x0 x1 x2 x3 x4 x5 : Option V} {r : L2.St} (q : Q v H) : tVar 6 (x0 :: x1 :: x2 :: x3 :: x4 :: x5 :: some v :: r) H Q := ⟨v, rfl, q⟩
theorem g_var7 {x0 x1 x2 x3 x4 x5 x6 : Option V} {r : L2.St} (q : Q v H) : tVar 7 (x0 :: x1 :: x2 :: x3 :: x4 :: x5 :: x6 :: some v :: r) H Q := ⟨v, rfl, q⟩
theorem g_var8 {x0 x1 x2 x3 x4 x5 x6 x7 : Option V} {r : L2.St} (q : Q v H) : tVar 8 (x0 :: x1 :: x2 :: x3 :: x4 :: x5 :: x6 :: x7 :: some v :: r) H Q := ⟨v, rfl, q⟩
theorem g_var9 {x0 x1 x2 x3 x4 x5 x6 x7 x8 : Option V} {r : L2.St} (q : Q v H) : tVar 9 (x0 :: x1 :: x2 :: x3 :: x4 :: x5 :: x6 :: x7 :: x8 :: some v :: r) H Q := ⟨v, rfl, q⟩
theorem g_var10 {x0 x1 x2 x3 x4 x5 x6 x7 x8 x9 : Option V} {r : L2.St} (q : Q v H) : tVar 10 (x0 :: x1 :: x2 :: x3 :: x4 :: x5 :: x6 :: x7 :: x8 :: x9 :: some v :: r) H Q := ⟨v, rfl, q⟩
theorem g_var11 {x0 x1 x2 x3 x4 x5 x6 x7 x8 x9 x10 : Option V} {r : L2.St} (q : Q v H) : tVar 11 (x0 :: x1 :: x2 :: x3 :: x4 :: x5 :: x6 :: x7 :: x8 :: x9 :: x10 :: some v :: r) H Q := ⟨v, rfl, q⟩
theorem g_var12 {x0 x1 x2 x3 x4 x5 x6 x7 x8 x9 x10 x11 : Option V} {r : L2.St} (q : Q v H) : tVar 12 (x0 :: x1 :: x2 :: x3 :: x4 :: x5 :: x6 :: x7 :: x8 :: x9 :: x10 :: x11 :: some v :: r) H Q := ⟨v, rfl, q⟩
theorem g_var13 {x0 x1 x2 x3 x4 x5 x6 x7 x8 x9 x10 x11 x12 : Option V} {r : L2.St} (q : Q v H) : tVar 13 (x0 :: x1 :: x2 :: x3 :: x4 :: x5 :: x6 :: x7 :: x8 :: x9 :: x10 :: x11 :: x12 :: some v :: r) H Q := ⟨v, rfl, q⟩
theorem g_var14 {x0 x1 x2 x3 x4 x5 x6 x7 x8 x9 x10 x11 x12 x13 : Option V} {r : L2.St} (q : Q v H) : tVar 14 (x0 :: x1 :: x2 :: x3 :: x4 :: x5 :: x6 :: x7 :: x8 :: x9 :: x10 :: x11 :: x12 :: x13 :: some v :: r) H Q := ⟨v, rfl, q⟩
theorem g_var15 {x0 x1 x2 x3 x4 x5 x6 x7 x8 x9 x10 x11 x12 x13 x14 : Option V} {r : L2.St} (q : Q v H) : tVar 15 (x0 :: x1 :: x2 :: x3 :: x4 :: x5 :: x6 :: x7 :: x8 :: x9 :: x10 :: x11 :: x12 :: x13 :: x14 :: some v :: r) H Q := ⟨v, rfl, q⟩
theorem g_var16 {x0 x1 x2 x3 x4 x5 x6 x7 x8 x9 x10 x11 x12 x13 x14 x15 : Option V} {r : L2.St} (q : Q v H) : tVar 16 (x0 :: x1 :: x2 :: x3 :: x4 :: x5 :: x6 :: x7 :: x8 :: x9 :: x10 :: x11 :: x12 :: x13 :: x14 :: x15 :: some v :: r) H Q := ⟨v, rfl, q⟩
theorem g_var17 {x0 x1 x2 x3 x4 x5 x6 x7 x8 x9 x10 x11 x12 x13 x14 x15 x16 : Option V} {r : L2.St} (q : Q v H) : tVar 17 (x0 :: x1 :: x2 :: x3 :: x4 :: x5 :: x6 :: x7 :: x8 :: x9 :: x10 :: x11 :: x12 :: x13 :: x14 :: x15 :: x16 :: some v :: r) H Q := ⟨v, rfl, q⟩
theorem g_var18 {x0 x1 x2 x3 x4 x5 x6 x7 x8 x9 x10 x11 x12 x13 x14 x15 x16 x17 : Option V} {r : L2.St} (q : Q v H) : tVar 18 (x0 :: x1 :: x2 :: x3 :: x4 :: x5 :: x6 :: x7 :: x8 :: x9 :: x10 :: x11 :: x12 :: x13 :: x14 :: x15 :: x16 :: x17 :: some v :: r) H Q := ⟨v, rfl, q⟩
theorem g_var19 {x0 x1 x2 x3 x4 x5 x6 x7 x8 x9 x10 x11 x12 x13 x14 x15 x16 x17 x18 : Option V} {r : L2.St} (q : Q v H) : tVar 19 (x0 :: x1 :: x2 :: x3 :: x4 :: x5 :: x6 :: x7 :: x8 :: x9 :: x10 :: x11 :: x12 :: x13 :: x14 :: x15 :: x16 :: x17 :: x18 :: some v :: r) H Q := ⟨v, rfl, q⟩
theorem g_var20 {x0 x1 x2 x3 x4 x5 x6 x7 x8 x9 x10 x11 x12 x13 x14 x15 x16 x17 x18 x19 : Option V} {r : L2.St} (q : Q v H) : tVar 20 (x0 :: x1 :: x2 :: x3 :: x4 :: x5 :: x6 :: x7 :: x8 :: x9 :: x10 :: x11 :: x12 :: x13 :: x14 :: x15 :: x16 :: x17 :: x18 :: x19 :: some v :: r) H Q := ⟨v, rfl, q⟩
theorem g_var21 {x0 x1 x2 x3 x4 x5 x6 x7 x8 x9 x10 x11 x12 x13 x14 x15 x16 x17 x18 x19 x20 : Option V} {r : L2.St} (q : Q v H) : tVar 21 (x0 :: x1 :: x2 :: x3 :: x4 :: x5 :: x6 :: x7 :: x8 :: x9 :: x10 :: x11 :: x12 :: x13 :: x14 :: x15 :: x16 :: x17 :: x18 :: x19 :: x20 :: some v :: r) H Q := ⟨v, rfl, q⟩
theorem g_var22 {x0 x1 x2 x3 x4 x5 x6 x7 x8 x9 x10 x11 x12 x13 x14 x15 x16 x17 x18 x19 x20 x21 : Option V} {r : L2.St} (q : Q v H) : tVar 22 (x0 :: x1 :: x2 :: x3 :: x4 :: x5 :: x6 :: x7 :: x8 :: x9 :: x10 :: x11 :: x12 :: x13 :: x14 :: x15 :: x16 :: x17 :: x18 :: x19 :: x20 :: x21 :: some v :: r) H Q := ⟨v, rfl, q⟩
theorem g_var23 {x0 x1 x2 x3 x4 x5 x6 x7 x8 x9 x10 x11 x12 x13 x14 x15 x16 x17 x18 x19 x20 x21 x22 : Option V} {r : L2.St} (q : Q v H) : tVar 23 (x0 :: x1 :: x2 :: x3 :: x4 :: x5 :: x6 :: x7 :: x8 :: x9 :: x10 :: x11 :: x12 :: x13 :: x14 :: x15 :: x16 :: x17 :: x18 :: x19 :: x20 :: x21 :: x22 :: some v :: r) H Q := ⟨v, rfl, q⟩
theorem g_var24 {x0 x1 x2 x3 x4 x5 x6 x7 x8 x9 x10 x11 x12 x13 x14 x15 x16 x17 x18 x19 x20 x21 x22 x23 : Option V} {r : L2.St} (q : Q v H) : tVar 24 (x0 :: x1 :: x2 :: x3 :: x4 :: x5 :: x6 :: x7 :: x8 :: x9 :: x10 :: x11 :: x12 :: x13 :: x14 :: x15 :: x16 :: x17 :: x18 :: x19 :: x20 :: x21 :: x22 :: x23 :: some v :: r) H Q := ⟨v, rfl, q⟩
theorem g_var25 {x0 x1 x2 x3 x4 x5 x6 x7 x8 x9 x10 x11 x12 x13 x14 x15 x16 x17 x18 x19 x20 x21 x22 x23 x24 : Option V} {r : L2.St} (q : Q v H) : tVar 25 (x0 :: x1 :: x2 :: x3 :: x4 :: x5 :: x6 :: x7 :: x8 :: x9 :: x10 :: x11 :: x12 :: x13 :: x14 :: x15 :: x16 :: x17 :: x18 :: x19 :: x20 :: x21 :: x22 :: x23 :: x24 :: some v :: r) H Q := ⟨v, rfl, q⟩
theorem g_c (q : Q v H) : tC v σ H Q := q
theorem g_op (q : ta σ H fun x H1 => tb σ H1 fun y H2 => r x y H2 Q) : tOp r ta tb σ H Q := q
theorem g_un {r1 : V → Hp → VK → Prop} (q : ta σ H fun x H1 => r1 x H1 Q) : tUn r1 ta σ H Q := q
theorem g_rI0 {k : Int → Int → V} (q : Q (k a b) H) : rI0 k (.int a) (.int b) H Q := ⟨a, b, rfl, rfl, q⟩
theorem g_rU {k : Int → V} (q : Q (k a) H) : rU k (.int a) H Q := ⟨a, rfl, q⟩
theorem g_rI {C : Int → Int → Prop} {k : Int → Int → V} (h : C a b) (q : Q (k a b) H) : rI C k (.int a) (.int b) H Q := ⟨a, b, rfl, rfl, h, q⟩
theorem g_eq {x y : V} (h : scal x y = true) (q : Q (.bl (decide (x = y))) H) : rEq x y H Q := ⟨h, q⟩
theorem g_ne {x y : V} (h : scal x y = true) (q : Q (.bl (!decide (x = y))) H) : rNe x y H Q := ⟨h, q⟩
theorem g_isN {x : V} (q : Q (.bl (decide (x = .non))) H) : rIsN x .non H Q := ⟨rfl, q⟩
theorem g_notN {x : V} (q : Q (.bl (!decide (x = .non))) H) : rNotN x .non H Q := ⟨rfl, q⟩
theorem g_test (q : ta σ H fun x H' => ∃ k, x = .bl k ∧ QB k H') : tTest ta σ H QB := q
theorem g_tB (q : ta σ H fun x H' => ∃ k, x = .bl k ∧ QB k H') : tB ta σ H QB := q
theorem g_bl {c : Bool} (q : QB c H) : ∃ k, V.bl c = .bl k ∧ QB k H := ⟨c, rfl, q⟩
theorem g_not (q : t σ H fun c H1 => QB (!c) H1) : tNot t σ H QB := q
theorem g_and (q : t σ H fun c H1 => if c = true then u σ H1 QB else QB false H1) : tAnd t u σ H QB := q
theorem g_or (q : t σ H fun c H1 => if c = true then QB true H1 else u σ H1 QB) : tOr t u σ H QB := q
theorem g_andV (q : ta σ H fun x H1 => ∃ c, x = .bl c ∧ if c = true then tb σ H1 Q else Q (.bl false) H1) : tAndV ta tb σ H Q := q
theorem g_orV (q : ta σ H fun x H1 => ∃ c, x = .bl c ∧ if c = true then Q (.bl true) H1 else tb σ H1 Q) : tOrV ta tb σ H Q := q
theorem g_notV (q : ta σ H fun x H1 => ∃ c, x = .bl c ∧ Q (.bl (!c)) H1) : tNotV ta σ H Q := q
theorem g_if (q : t σ H fun c H1 => if c = true then ta σ H1 Q else tb σ H1 Q) : tIf t ta tb σ H Q := q
theorem g_sub {to ti : TE} {st : TSet} {Qs : L2.St → Hp → Prop} (q : to σ H fun o H1 => ti σ H1 fun i H2 => st o i v H2 fun H3 => Qs σ H3) : gSub to ti st v σ H Qs := q
theorem g_sz {n : Nat} {B : Prop} (h : n ≤ 100000) (q : B) : n ≤ sizeLine ∧ B := ⟨Nat.le_trans h (by decide), q⟩
theorem g_lenL {K : PySem.W.Frag} {p : Addr} {xs : List V} (h : SqL K H p xs) (q : Q (.int (xs.length : Nat)) H) : rLenN K [V.ref p] H Q := ⟨_, _, rfl, Or.inl ⟨xs, h, rfl⟩, q⟩
theorem g_lenT {K : PySem.W.Frag} {p : Addr} {xs : List V} (h : SqT K H p xs) (q : Q (.int (xs.length : Nat)) H) : rLenN K [V.ref p] H Q := ⟨_, _, rfl, Or.inr ⟨xs, h, rfl⟩, q⟩
theorem g_min2 (q : Q (.int (if b < a then b else a)) H) : rMin2 [.int a, .int b] H Q := ⟨a, b, rfl, q⟩
theorem g_max2 (q : Q (.int (if b > a then b else a)) H) : rMax2 [.int a, .int b] H Q := ⟨a, b, rfl, q⟩
theorem g_abs (q : Q (.int (if a < 0 then -a else a)) H) : rAbs [.int a] H Q := ⟨a, rfl, q⟩
theorem g_intI (q : Q (.int a) H) : rInt1 [.int a] H Q := .inl ⟨a, rfl, q⟩
theorem g_intB {k : Bool} (q : Q (.int (if k then 1 else 0)) H) : rInt1 [.bl k] H Q := .inr ⟨k, rfl, q⟩
theorem g_listL {K : PySem.W.Frag} {p : Addr} {xs : List V} (h : SqL K H p xs) (q : ∀ l, H l = none → Q (.ref l) (upd H l (.lst xs))) : rListOf K [.ref p] H Q := ⟨p, xs, rfl, .inl h, q⟩
theorem g_set41 {p : Addr} {x0 x1 x2 x3 : V} {QS : Hp → Prop} (h : H p = some (.lst [x0, x1, x2, x3])) (q : QS (upd H p (.lst [x0, v, x2, x3]))) : rSetL (.ref p) (.int 1) v H QS := ⟨p, _, 1, 1, rfl, rfl, h, rfl, q⟩
theorem g_set42 {p : Addr} {x0 x1 x2 x3 : V} {QS : Hp → Prop} (h : H p = some (.lst [x0, x1, x2, x3])) (q : QS (upd H p (.lst [x0, x1, v, x3]))) : rSetL (.ref p) (.int 2) v H QS := ⟨p, _, 2, 2, rfl, rfl, h, rfl, q⟩
theorem g_set43 {p : Addr} {x0 x1 x2 x3 : V} {QS : Hp → Prop} (h : H p = some (.lst [x0, x1, x2, x3])) (q : QS (upd H p (.lst [x0, x1, x2, v]))) : rSetL (.ref p) (.int 3) v H QS := ⟨p, _, 3, 3, rfl, rfl, h, rfl, q⟩
theorem g_setL {p : Addr} {xs ys : List V} {j : Nat} {QS : Hp → Prop} (h : H p = some (.lst xs)) (h2 : ixN xs.length a = some j) (h3 : xs.set j v = ys) (q : QS (upd H p (.lst ys))) : rSetL (.ref p) (.int a) v H QS := ⟨p, xs, a, j, rfl, rfl, h, h2, h3 ▸ q⟩
theorem g_chain (q : ta σ H fun x H1 => tb σ H1 fun y H2 => r x y H2 fun z H3 => ∃ k, z = .bl k ∧ (if k = true then tc σ H3 fun w' H4 => r' y w' H4 Q else Q (.bl false) H3)) : tChain r r' ta tb tc σ H Q := q
theorem g_nil (q : QA [] H) : tNil σ H QA := q
theorem g_cons {tr : TA} (q : te σ H fun x H1 => tr σ H1 fun xs H2 => QA (x :: xs) H2) : tCons te tr σ H QA := q
theorem g_call {sp : Sp} {dvs : List V} {E : XK} (q : tl σ H fun vs H1 => sp (vs ++ dvs) H1 Q E) : tCall sp dvs E tl σ H Q := q
theorem g_callB {rc : List V → Hp → VK → Prop} (q : tl σ H fun vs H1 => rc vs H1 Q) : tCB rc tl σ H Q := q
theorem g_lst (q : tl σ H fun xs H1 => xs.length ≤ sizeLine ∧ ∀ p, H1 p = none → Q (.ref p) (upd H1 p (.lst xs))) : tLst tl σ H Q := q
theorem g_tup (q : tl σ H fun xs H1 => xs.length ≤ sizeLine ∧ ∀ p, H1 p = none → Q (.ref p) (upd H1 p (.tup xs))) : tTup tl σ H Q := q
theorem g_seq (q : s1 { D with nx := s2 D } σ H) : tSeq s1 s2 D σ H := q
theorem g_asg (q : te σ H fun x H1 => g x σ H1 D.nx) : tAsg te g D σ H := q
theorem g_name {Qs : L2.St → Hp → Prop} (q : Qs (σ.set i (some v)) H) : gName i v σ H Qs := q
theorem g_name0 {x0 : Option V} {r : L2.St} {Qs : L2.St → Hp → Prop} (q : Qs (some v :: r) H) : gName 0 v (x0 :: r) H Qs := q
theorem g_name1 {x0 x1 : Option V} {r : L2.St} {Qs : L2.St → Hp → Prop} (q : Qs (x0 :: some v :: r) H) : gName 1 v (x0 :: x1 :: r) H Qs := q
theorem g_name2 {x0 x1 x2 : Option V} {r : L2.St} {Qs : L2.St → Hp → Prop} (q : Qs (x0 :: x1 :: some v :: r) H) : gName 2 v (x0 :: x1 :: x2 :: r) H Qs := q
theorem g_name3 {x0 x1 x2 x3 : Option V} {r : L2.St} {Qs : L2.St → Hp → Prop} (q : Qs (x0 :: x1 :: x2 :: some v :: r) H) : gName 3 v (x0 :: x1 :: x2 :: x3 :: r) H Qs := q
theorem g_name4 {x0 x1 x2 x3 x4 : Option V} {r : L2.St} {Qs : L2.St → Hp → Prop} (q : Qs (x0 :: x1 :: x2 :: x3 :: some v :: r) H) : gName 4 v (x0 :: x1 :: x2 :: x3 :: x4 :: r) H Qs := q
theorem g_name5 {x0 x1 x2 x3 x4 x5 : Option V} {r : L2.St} {Qs : L2.St → Hp → Prop} (q : Qs (x0 :: x1 :: x2 :: x3 :: x4 :: some v :: r) H) : gName 5 v (x0 :: x1 :: x2 :: x3 :: x4 :: x5 :: r) H Qs := q
theorem g_name6 {x0 x1 x2 x3 x4 x5 x6 : Option V} {r : L2.St} {Qs : L2.St → Hp → Prop} (q : Qs (x0 :: x1 :: x2 :: x3 :: x4 :: x5 :: some v :: r) H) : gName 6 v (x0 :: x1 :: x2 :: x3 :: x4 :: x5 :: x6 :: r) H Qs := q
theorem g_name7 {x0 x1 x2 x3 x4 x5 x6 x7 : Option V} {r : L2.St} {Qs : L2.St → Hp → Prop} (q : Qs (x0 :: x1 :: x2 :: x3 :: x4 :: x5 :: x6 :: some v :: r) H) : gName 7 v (x0 :: x1 :: x2 :: x3 :: x4 :: x5 :: x6 :: x7 :: r) H Qs := q
theorem g_name8 {x0 x1 x2 x3 x4 x5 x6 x7 x8 : Option V} {r : L2.St} {Qs : L2.St → Hp → Prop} (q : Qs (x0 :: x1 :: x2 :: x3 :: x4 :: x5 :: x6 :: x7 :: some v :: r) H) : gName 8 v (x0 :: x1 :: x2 :: x3 :: x4 :: x5 :: x6 :: x7 :: x8 :: r) H Qs := q
theorem g_name9 {x0 x1 x2 x3 x4 x5 x6 x7 x8 x9 : Option V} {r : L2.St} {Qs : L2.St → Hp → Prop} (q : Qs (x0 :: x1 :: x2 :: x3 :: x4 :: x5 :: x6 :: x7 :: x8 :: some v :: r) H) : gName 9 v (x0 :: x1 :: x2 :: x3 :: x4 :: x5 :: x6 :: x7 :: x8 :: x9 :: r) H Qs := q
theorem g_name10 {x0 x1 x2 x3 x4 x5 x6 x7 x8 x9 x10 : Option V} {r : L2.St} {Qs : L2.St → Hp → Prop} (q : Qs (x0 :: x1 :: x2 :: x3 :: x4 :: x5 :: x6 :: x7 :: x8 :: x9 :: some v :: r) H) : gName 10 v (x0 :: x1 :: x2 :: x3 :: x4 :: x5 :: x6 :: x7 :: x8 :: x9 :: x10 :: r) H Qs := q
theorem g_name11 {x0 x1 x2 x3 x4 x5 x6 x7 x8 x9 x10 x11 : Option V} {r : L2.St} {Qs : L2.St → Hp → Prop} (q : Qs (x0 :: x1 :: x2 :: x3 :: x4 :: x5 :: x6 :: x7 :: x8 :: x9 :: x10 :: some v :: r) H) : gName 11 v (x0 :: x1 :: x2 :: x3 :: x4 :: x5 :: x6 :: x7 :: x8 :: x9 :: x10 :: x11 :: r) H Qs := q
theorem g_name12 {x0 x1 x2 x3 x4 x5 x6 x7 x8 x9 x10 x11 x12 : Option V} {r : L2.St} {Qs : L2.St → Hp → Prop} (q : Qs (x0 :: x1 :: x2 :: x3 :: x4 :: x5 :: x6 :: x7 :: x8 :: x9 :: x10 :: x11 :: some v :: r) H) : gName 12 v (x0 :: x1 :: x2 :: x3 :: x4 :: x5 :: x6 :: x7 :: x8 :: x9 :: x10 :: x11 :: x12 :: r) H Qs := q
theorem g_name13 {x0 x1 x2 x3 x4 x5 x6 x7 x8 x9 x10 x11 x12 x13 : Option V} {r : L2.St} {Qs : L2.St → Hp → Prop} (q : Qs (x0 :: x1 :: x2 :: x3 :: x4 :: x5 :: x6 :: x7 :: x8 :: x9 :: x10 :: x11 :: x12 :: some v :: r) H) : gName 13 v (x0 :: x1 :: x2 :: x3 :: x4 :: x5 :: x6 :: x7 :: x8 :: x9 :: x10 :: x11 :: x12 :: x13 :: r) H Qs := q
theorem g_name14 {x0 x1 x2 x3 x4 x5 x6 x7 x8 x9 x10 x11 x12 x13 x14 : Option V} {r : L2.St} {Qs : L2.St → Hp → Prop} (q : Qs (x0 :: x1 :: x2 :: x3 :: x4 :: x5 :: x6 :: x7 :: x8 :: x9 :: x10 :: x11 :: x12 :: x13 :: some v :: r) H) : gName 14 v (x0 :: x1 :: x2 :: x3 :: x4 :: x5 :: x6 :: x7 :: x8 :: x9 :: x10 :: x11 :: x12 :: x13 :: x14 :: r) H Qs := q
theorem g_name15 {x0 x1 x2 x3 x4 x5 x6 x7 x8 x9 x10 x11 x12 x13 x14 x15 : Option V} {r : L2.St} {Qs : L2.St → Hp → Prop} (q : Qs (x0 :: x1 :: x2 :: x3 :: x4 :: x5 :: x6 :: x7 :: x8 :: x9 :: x10 :: x11 :: x12 :: x13 :: x14 :: some v :: r) H) : gName 15 v (x0 :: x1 :: x2 :: x3 :: x4 :: x5 :: x6 :: x7 :: x8 :: x9 :: x10 :: x11 :: x12 :: x13 :: x14 :: x15 :: r) H Qs := q
theorem g_name16 {x0 x1 x2 x3 x4 x5 x6 x7 x8 x9 x10 x11 x12 x13 x14 x15 x16 : Option V} {r : L2.St} {Qs : L2.St → Hp → Prop} (q : Qs (x0 :: x1 :: x2 :: x3 :: x4 :: x5 :: x6 :: x7 :: x8 :: x9 :: x10 :: x11 :: x12 :: x13 :: x14 :: x15 :: some v :: r) H) : gName 16 v (x0 :: x1 :: x2 :: x3 :: x4 :: x5 :: x6 :: x7 :: x8 :: x9 :: x10 :: x11 :: x12 :: x13 :: x14 :: x15 :: x16 :: r) H Qs := q
theorem g_name17 {x0 x1 x2 x3 x4 x5 x6 x7 x8 x9 x10 x11 x12 x13 x14 x15 x16 x17 : Option V} {r : L2.St} {Qs : L2.St → Hp → Prop} (q : Qs (x0 :: x1 :: x2 :: x3 :: x4 :: x5 :: x6 :: x7 :: x8 :: x9 :: x10 :: x11 :: x12 :: x13 :: x14 :: x15 :: x16 :: some v :: r) H) : gName 17 v (x0 :: x1 :: x2 :: x3 :: x4 :: x5 :: x6 :: x7 :: x8 :: x9 :: x10 :: x11 :: x12 :: x13 :: x14 :: x15 :: x16 :: x17 :: r) H Qs := q
theorem g_name18 {x0 x1 x2 x3 x4 x5 x6 x7 x8 x9 x10 x11 x12 x13 x14 x15 x16 x17 x18 : Option V} {r : L2.St} {Qs : L2.St → Hp → Prop} (q : Qs (x0 :: x1 :: x2 :: x3 :: x4 :: x5 :: x6 :: x7 :: x8 :: x9 :: x10 :: x11 :: x12 :: x13 :: x14 :: x15 :: x16 :: x17 :: some v :: r) H) : gName 18 v (x0 :: x1 :: x2 :: x3 :: x4 :: x5 :: x6 :: x7 :: x8 :: x9 :: x10 :: x11 :: x12 :: x13 :: x14 :: x15 :: x16 :: x17 :: x18 :: r) H Qs := q
theorem g_name19 {x0 x1 x2 x3 x4 x5 x6 x7 x8 x9 x10 x11 x12 x13 x14 x15 x16 x17 x18 x19 : Option V} {r : L2.St} {Qs : L2.St → Hp → Prop} (q : Qs (x0 :: x1 :: x2 :: x3 :: x4 :: x5 :: x6 :: x7 :: x8 :: x9 :: x10 :: x11 :: x12 :: x13 :: x14 :: x15 :: x16 :: x17 :: x18 :: some v :: r) H) : gName 19 v (x0 :: x1 :: x2 :: x3 :: x4 :: x5 :: x6 :: x7 :: x8 :: x9 :: x10 :: x11 :: x12 :: x13 :: x14 :: x15 :: x16 :: x17 :: x18 :: x19 :: r) H Qs := q
theorem g_name20 {x0 x1 x2 x3 x4 x5 x6 x7 x8 x9 x10 x11 x12 x13 x14 x15 x16 x17 x18 x19 x20 : Option V} {r : L2.St} {Qs : L2.St → Hp → Prop} (q : Qs (x0 :: x1 :: x2 :: x3 :: x4 :: x5 :: x6 :: x7 :: x8 :: x9 :: x10 :: x11 :: x12 :: x13 :: x14 :: x15 :: x16 :: x17 :: x18 :: x19 :: some v :: r) H) : gName 20 v (x0 :: x1 :: x2 :: x3 :: x4 :: x5 :: x6 :: x7 :: x8 :: x9 :: x10 :: x11 :: x12 :: x13 :: x14 :: x15 :: x16 :: x17 :: x18 :: x19 :: x20 :: r) H Qs := q
theorem g_name21 {x0 x1 x2 x3 x4 x5 x6 x7 x8 x9 x10 x11 x12 x13 x14 x15 x16 x17 x18 x19 x20 x21 : Option V} {r : L2.St} {Qs : L2.St → Hp → Prop} (q : Qs (x0 :: x1 :: x2 :: x3 :: x4 :: x5 :: x6 :: x7 :: x8 :: x9 :: x10 :: x11 :: x12 :: x13 :: x14 :: x15 :: x16 :: x17 :: x18 :: x19 :: x20 :: some v :: r) H) : gName 21 v (x0 :: x1 :: x2 :: x3 :: x4 :: x5 :: x6 :: x7 :: x8 :: x9 :: x10 :: x11 :: x12 :: x13 :: x14 :: x15 :: x16 :: x17 :: x18 :: x19 :: x20 :: x21 :: r) H Qs := q
theorem g_name22 {x0 x1 x2 x3 x4 x5 x6 x7 x8 x9 x10 x11 x12 x13 x14 x15 x16 x17 x18 x19 x20 x21 x22 : Option V} {r : L2.St} {Qs : L2.St → Hp → Prop} (q : Qs (x0 :: x1 :: x2 :: x3 :: x4 :: x5 :: x6 :: x7 :: x8 :: x9 :: x10 :: x11 :: x12 :: x13 :: x14 :: x15 :: x16 :: x17 :: x18 :: x19 :: x20 :: x21 :: some v :: r) H) : gName 22 v (x0 :: x1 :: x2 :: x3 :: x4 :: x5 :: x6 :: x7 :: x8 :: x9 :: x10 :: x11 :: x12 :: x13 :: x14 :: x15 :: x16 :: x17 :: x18 :: x19 :: x20 :: x21 :: x22 :: r) H Qs := q
theorem g_name23 {x0 x1 x2 x3 x4 x5 x6 x7 x8 x9 x10 x11 x12 x13 x14 x15 x16 x17 x18 x19 x20 x21 x22 x23 : Option V} {r : L2.St} {Qs : L2.St → Hp → Prop} (q : Qs (x0 :: x1 :: x2 :: x3 :: x4 :: x5 :: x6 :: x7 :: x8 :: x9 :: x10 :: x11 :: x12 :: x13 :: x14 :: x15 :: x16 :: x17 :: x18 :: x19 :: x20 :: x21 :: x22 :: some v :: r) H) : gName 23 v (x0 :: x1 :: x2 :: x3 :: x4 :: x5 :: x6 :: x7 :: x8 :: x9 :: x10 :: x11 :: x12 :: x13 :: x14 :: x15 :: x16 :: x17 :: x18 :: x19 :: x20 :: x21 :: x22 :: x23 :: r) H Qs := q
theorem g_name24 {x0 x1 x2 x3 x4 x5 x6 x7 x8 x9 x10 x11 x12 x13 x14 x15 x16 x17 x18 x19 x20 x21 x22 x23 x24 : Option V} {r : L2.St} {Qs : L2.St → Hp → Prop} (q : Qs (x0 :: x1 :: x2 :: x3 :: x4 :: x5 :: x6 :: x7 :: x8 :: x9 :: x10 :: x11 :: x12 :: x13 :: x14 :: x15 :: x16 :: x17 :: x18 :: x19 :: x20 :: x21 :: x22 :: x23 :: some v :: r) H) : gName 24 v (x0 :: x1 :: x2 :: x3 :: x4 :: x5 :: x6 :: x7 :: x8 :: x9 :: x10 :: x11 :: x12 :: x13 :: x14 :: x15 :: x16 :: x17 :: x18 :: x19 :: x20 :: x21 :: x22 :: x23 :: x24 :: r) H Qs := q
theorem g_name25 {x0 x1 x2 x3 x4 x5 x6 x7 x8 x9 x10 x11 x12 x13 x14 x15 x16 x17 x18 x19 x20 x21 x22 x23 x24 x25 : Option V} {r : L2.St} {Qs : L2.St → Hp → Prop} (q : Qs (x0 :: x1 :: x2 :: x3 :: x4 :: x5 :: x6 :: x7 :: x8 :: x9 :: x10 :: x11 :: x12 :: x13 :: x14 :: x15 :: x16 :: x17 :: x18 :: x19 :: x20 :: x21 :: x22 :: x23 :: x24 :: some v :: r) H) : gName 25 v (x0 :: x1 :: x2 :: x3 :: x4 :: x5 :: x6 :: x7 :: x8 :: x9 :: x10 :: x11 :: x12 :: x13 :: x14 :: x15 :: x16 :: x17 :: x18 :: x19 :: x20 :: x21 :: x22 :: x23 :: x24 :: x25 :: r) H Qs := q
theorem g_start {t : TS} {σ' : L2.St} (h : σ' = σ) (q : t D σ H) : t D σ' H := h ▸ q
theorem g_ifS (q : t σ H fun b H1 => if b = true then s1 D σ H1 else s2 D σ H1) : tIfS t s1 s2 D σ H := q
theorem g_ret (q : te σ H D.rt) : tRet te D σ H := q
theorem g_retN (q : D.rt .non H) : tRetN D σ H := q
theorem g_drop (q : te σ H fun _ H1 => D.nx σ H1) : tDrop te D σ H := q
theorem g_next (q : D.nx σ H) : tNext D σ H := q
theorem g_ixL {K : PySem.W.Frag} {p : Addr} {xs : List V} (h : SqL K H p xs) (h2 : atI xs a = some v) (q : Q v H) : rIxL K (.ref p) (.int a) H Q := ⟨p, xs, a, v, rfl, rfl, h, h2, q⟩
theorem g_ixAny {K : PySem.W.Frag} {p : Addr} {xs : List V} (h : SqL K H p xs) (h0 : 0 ≤ a) (h1 : a < (xs.length : Int)) (q : ∀ v, v ∈ xs → Q v H) : rIxL K (.ref p) (.int a) H Q := by
  obtain ⟨j, rfl⟩ : ∃ j : Nat, a = (j : Int) := ⟨a.toNat, by omega⟩
  have hl : j < xs.length := by omega
  exact ⟨p, xs, _, xs[j], rfl, rfl, h, atI_nat (by simp [hl]), q _ (List.getElem_mem hl)⟩
theorem g_ixT {K : PySem.W.Frag} {p : Addr} {xs : List V} (h : SqT K H p xs) (h2 : atI xs a = some v) (q : Q v H) : rIxT K (.ref p) (.int a) H Q := ⟨p, xs, a, v, rfl, rfl, h, h2, q⟩
theorem ite_nT {A B : Prop} (h : B) : if (!true) = true then A else B := h
theorem ite_nF {A B : Prop} (h : A) : if (!false) = true then A else B := h
theorem ite_dec {c : Prop} [Decidable c] {A B : Prop} (h1 : c → A) (h2 : ¬ c → B) : if decide c = true then A else B := by
  by_cases h : c
  · rw [if_pos (decide_eq_true h)]
    exact h1 h
  · rw [if_neg (by rw [decide_eq_false h]; decide)]
    exact h2 h
theorem ite_ndec {c : Prop} [Decidable c] {A B : Prop} (h1 : ¬ c → A) (h2 : c → B) : if (!decide c) = true then A else B := by
  by_cases h : c
  · rw [if_neg (by rw [decide_eq_true h]; decide)]
    exact h2 h
  · rw [if_pos (by rw [decide_eq_false h]; decide)]
    exact h1 h
theorem ite_bool {c : Bool} {A B : Prop} (h1 : c = true → A) (h2 : c = false → B) : if c = true then A else B := by
  cases c with
  | true => exact iteT (h1 rfl)
  | false => exact iteF (h2 rfl)
end
/-! ### heaps -/
theorem Same.at {H H' : Hp} (e : Same H H') {b : Addr} {o : HO} (h : H b = some o) : H' b = some o := e b o h
theorem Same.new {H : Hp} {p : Addr} {o : HO} (h : H p = none) : Same H (upd H p o) := fun a u e => by
  rw [upd_ne (ne_of_none e h)]
  exact e
theorem Same.seqT {K : PySem.W.Frag} {H H' : Hp} {a : Addr} {xs : List V} (e : Same H H') (h : SqT K H a xs) : SqT K H' a xs := by
  rcases h with (h | ⟨o, h⟩) | h
  · exact .inl (.inl (e _ _ h))
  · exact .inl (.inr ⟨o, e _ _ h⟩)
  · exact .inr h
theorem upd_old {H : Hp} {a p : Addr} {o u : HO} (h : H a = some o) (hp : H p = none) : upd H p u a = some o := by
  rw [upd_ne (ne_of_none h hp)]
  exact h
theorem sz {n : Nat} (h : n ≤ 100000) : n ≤ sizeLine := Nat.le_trans h (by decide)
theorem szl {n : Nat} (h : n < 100000) : n < sizeLine := Nat.lt_of_lt_of_le h (by decide)
theorem int_at {ns : List Int} {i : Nat} {y : V} (h : (ns.map V.int)[i]? = some y) : ∃ z, y = V.int z ∧ ns[i]? = some z := by
  rw [List.getElem?_map] at h
  cases e : ns[i]? with
  | none => rw [e] at h; cases h
  | some z => rw [e] at h; exact ⟨z, (Option.some.inj h).symm, rfl⟩
/-- all that is tracked stays, but what stands at a -/
def Kp (a : Addr) (H H' : Hp) : Prop := ∀ b o, H b = some o → b ≠ a → H' b = some o
theorem Kp.refl {a : Addr} {H : Hp} : Kp a H H := fun _ _ h _ => h
theorem Kp.trans {a : Addr} {H H1 H2 : Hp} (x : Kp a H H1) (y : Kp a H1 H2) : Kp a H H2 := fun b o h n => y b o (x b o h n) n
theorem Kp.same {a : Addr} {H H' : Hp} (e : Same H H') : Kp a H H' := fun b o h _ => e b o h
theorem Kp.upd {a : Addr} {H : Hp} {o : HO} : Kp a H (upd H a o) := fun b u h n => by
  rw [upd_ne n]
  exact h
/-- the drawing state at a: the script at s, how many cells are begun, two numbers more -/
structure Dr (K : PySem.W.Frag) (a s : Addr) (H : Hp) : Prop where
  ex : ∃ (ns : List Int) (i m l : Int), H a = some (.lst [.ref s, .int i, .int m, .int l]) ∧ (∀ o, SqL K (upd H a o) s (ns.map V.int)) ∧ ns.length ≤ 63 ∧ 0 ≤ i
theorem Same.upd {H H' : Hp} (e : Same H H') (a : Addr) (o : HO) : Same (upd H a o) (upd H' a o) := fun b u h => by
  by_cases hb : b = a
  · subst hb
    rw [upd_same] at h ⊢
    exact h
  · rw [upd_ne hb] at h ⊢
    exact e b u h
theorem Dr.same {K : PySem.W.Frag} {a s : Addr} {H H' : Hp} (d : Dr K a s H) (e : Same H H') : Dr K a s H' := by
  obtain ⟨ns, i, m, l, h1, h2, h3, h4⟩ := d.ex
  exact ⟨ns, i, m, l, e _ _ h1, fun o => (Same.upd e a o).seq (h2 o), h3, h4⟩
theorem Dr.ne {K : PySem.W.Frag} {a s p : Addr} {H : Hp} (d : Dr K a s H) (h : H p = none) : p ≠ a := by
  obtain ⟨ns, i, m, l, h1, _⟩ := d.ex
  exact (ne_of_none h1 h).symm
theorem Dr.ne2 {K : PySem.W.Frag} {a s p : Addr} {H : Hp} (h : H p = none) (d : Dr K a s H) : p ≠ a := d.ne h
theorem upd_self {H : Hp} {a : Addr} {o : HO} (h : H a = some o) : L2.upd H a o = H := by
  funext b
  by_cases hb : b = a
  · subst hb
    rw [upd_same, h]
  · rw [upd_ne hb]
/-- a new thing, not known to H, is changed: the state stays one -/
theorem Dr.mut {K : PySem.W.Frag} {a s D : Addr} {H H' : Hp} {o : HO} (d : Dr K a s H) (d' : Dr K a s H') (h : H D = none) : Dr K a s (L2.upd H' D o) := by
  obtain ⟨ns, i, m, l, h1, h2, h3, h4⟩ := d.ex
  obtain ⟨ns', i', m', l', g1, g2, g3, g4⟩ := d'.ex
  have nDa : a ≠ D := ne_of_none h1 h
  rcases h2 (.tbl #[]) with hr | hk
  · have nDs : s ≠ D := fun e => by
      subst e
      have z : L2.upd H a (.tbl #[]) s = none := by rw [upd_ne nDa.symm]; exact h
      rcases hr with hr | ⟨_, hr⟩ <;> rw [z] at hr <;> cases hr
    refine ⟨ns', i', m', l', by rw [upd_ne nDa]; exact g1, fun o' => ?_, g3, g4⟩
    have e : L2.upd (L2.upd H' D o) a o' s = L2.upd H' a o' s := by
      by_cases z : s = a
      · subst z; rw [upd_same, upd_same]
      · rw [upd_ne z, upd_ne z, upd_ne nDs]
    rcases g2 o' with q | q
    · refine .inl ?_
      rcases q with q | ⟨u, q⟩
      · exact .inl (e.trans q)
      · exact .inr ⟨u, e.trans q⟩
    · exact .inr q
  · exact ⟨ns, i', m', l', by rw [upd_ne nDa]; exact g1, fun o' => .inr hk, h3, g4⟩
/-- a def that only draws: the state stays a state, all else stays -/
structure Go (K : PySem.W.Frag) (a s : Addr) (H H' : Hp) : Prop where
  dr : Dr K a s H'
  kp : Kp a H H'
section
variable {K : PySem.W.Frag} {a s b D : Addr} {H H1 H2 H' : Hp} {o : HO}
theorem Go.trans (x : Go K a s H H1) (y : Go K a s H1 H2) : Go K a s H H2 := ⟨y.dr, x.kp.trans y.kp⟩
theorem Go.same (d : Dr K a s H) (e : Same H H') : Go K a s H H' := ⟨d.same e, Kp.same e⟩
theorem Go.refl (d : Dr K a s H) : Go K a s H H := ⟨d, Kp.refl⟩
theorem Go.at (x : Go K a s H H') (h : H b = some o) (n : b ≠ a) : H' b = some o := x.kp b o h n
theorem Go.then (x : Go K a s H H1) (e : Same H1 H2) : Go K a s H H2 := ⟨x.dr.same e, x.kp.trans (Kp.same e)⟩
/-- behind a new thing -/
theorem Go.pre (x : Go K a s H1 H2) (e : Same H H1) : Go K a s H H2 := ⟨x.dr, (Kp.same e).trans x.kp⟩
theorem Go.new (x : Go K a s (upd H D o) H2) (h : H D = none) : Go K a s H H2 := x.pre (Same.new h)
theorem Go.mut (g : Go K a s H H') (d : Dr K a s H) (h : H D = none) : Go K a s H (L2.upd H' D o) := ⟨d.mut g.dr h, fun b u hb hn => by
  rw [upd_ne (ne_of_none hb h)]
  exact g.kp b u hb hn⟩
theorem Go.seq {xs : List V} {p : Addr} (g : Go K a s H H') (h : SqL K H p xs) (n : p ≠ a) : SqL K H' p xs := by
  rcases h with (h | ⟨o, h⟩) | h
  · exact .inl (.inl (g.kp _ _ h n))
  · exact .inl (.inr ⟨o, g.kp _ _ h n⟩)
  · exact .inr h
end
theorem Same.mut {H H' : Hp} {D : Addr} {o : HO} (e : Same H H') (h : H D = none) : Same H (L2.upd H' D o) := fun b u hb => by
  rw [upd_ne (ne_of_none hb h)]
  exact e b u hb
/-! ### comprehensions: J tells of the turn, of what is made so far, of the heap; it does not look at the new list D -/
def LcP (J : Nat → List V → Hp → Prop) (D : Addr) (i : Nat) (H : Hp) : Prop := ∃ acc, J i acc H ∧ H D = some (.lst acc) ∧ acc.length ≤ i
section
variable {K : PySem.W.Frag} {a : Addr} {xs : List V} {g : TG} {tt : TT} {te : TE} {vs : List Nat} {σ : L2.St} {H1 : Hp} {D : Addr} {Qd : Hp → Prop}
theorem lc_leaf {J : Nat → List V → Hp → Prop} {i : Nat} {acc : List V} {H : Hp} {y : V} (hI : ∀ i acc H o, J i acc H → J i acc (upd H D o)) (hD : H D = some (.lst acc)) (hl : acc.length ≤ i) (hi : i < 100000) (hJ : J (i + 1) (acc ++ [y]) H) :
    ∃ acc, H D = some (.lst acc) ∧ acc.length < sizeLine ∧ LcP J D (i + 1) (upd H D (.lst (acc ++ [y]))) :=
  ⟨acc, hD, szl (by omega), acc ++ [y], hI _ _ _ _ hJ, upd_same, by rw [List.length_append, List.length_singleton]; omega⟩
theorem lc_skip {J : Nat → List V → Hp → Prop} {i : Nat} {acc : List V} {H : Hp} (hD : H D = some (.lst acc)) (hl : acc.length ≤ i) (hJ : J (i + 1) acc H) : LcP J D (i + 1) H := ⟨acc, hJ, hD, by omega⟩
theorem lc_L (J : Nat → List V → Hp → Prop) (hI : ∀ i acc H o, J i acc H → J i acc (upd H D o)) (h0 : J 0 [] H1) (hl : ∀ i acc H, J i acc H → SqL K H a xs)
    (hs : ∀ i x acc H, xs[i]? = some x → J i acc H → H D = some (.lst acc) → acc.length ≤ i → g x (wipe σ vs) H fun σ2 H2 => wipe σ2 vs = wipe σ vs ∧ tt σ2 H2 fun b H3 =>
      if b = true then te σ2 H3 fun y H4 => ∃ acc, H4 D = some (.lst acc) ∧ acc.length < sizeLine ∧ LcP J D (i + 1) (upd H4 D (.lst (acc ++ [y]))) else LcP J D (i + 1) H3)
    (hd : ∀ acc H, J xs.length acc H → H D = some (.lst acc) → Qd H) :
    ∃ W : Nat → Nat → Hp → Prop, (∃ m, W 0 m (upd H1 D (.lst []))) ∧ ∀ i m H, W i m H →
      ((Itl K a).stop i H ∧ Qd H) ∨ ((Itl K a).go i H ∧ ∃ Nx : Hp → Prop, (∀ H', Nx H' → ∃ m', m' < m ∧ W (i + 1) m' H') ∧ ∀ x H', (Itl K a).yld i H x H' → g x (wipe σ vs) H' fun σ2 H2 => wipe σ2 vs = wipe σ vs ∧ tt σ2 H2 fun b H3 =>
        if b = true then te σ2 H3 fun y H4 => ∃ acc, H4 D = some (.lst acc) ∧ acc.length < sizeLine ∧ Nx (upd H4 D (.lst (acc ++ [y]))) else Nx H3) :=
  lc_list (K := K) (a := a) (xs := xs) (LcP J D) ⟨[], hI _ _ _ _ h0, upd_same, Nat.le_refl _⟩ (fun i H _ ⟨acc, h, _⟩ => hl i acc H h) (fun i x H hi ⟨acc, hJ, hD, hlen⟩ => hs i x acc H hi hJ hD hlen) (fun H ⟨acc, h1, h2, _⟩ => hd acc H h1 h2)
theorem lc_R (lo : Int) (n : Nat) (J : Nat → List V → Hp → Prop) (hI : ∀ i acc H o, J i acc H → J i acc (upd H D o)) (h0 : J 0 [] H1)
    (hs : ∀ i acc H, i < n → J i acc H → H D = some (.lst acc) → acc.length ≤ i → g (.int (lo + i)) (wipe σ vs) H fun σ2 H2 => wipe σ2 vs = wipe σ vs ∧ tt σ2 H2 fun b H3 =>
      if b = true then te σ2 H3 fun y H4 => ∃ acc, H4 D = some (.lst acc) ∧ acc.length < sizeLine ∧ LcP J D (i + 1) (upd H4 D (.lst (acc ++ [y]))) else LcP J D (i + 1) H3)
    (hd : ∀ acc H, J n acc H → H D = some (.lst acc) → Qd H) :
    ∃ W : Nat → Nat → Hp → Prop, (∃ m, W 0 m (upd H1 D (.lst []))) ∧ ∀ i m H, W i m H →
      ((Itr lo n).stop i H ∧ Qd H) ∨ ((Itr lo n).go i H ∧ ∃ Nx : Hp → Prop, (∀ H', Nx H' → ∃ m', m' < m ∧ W (i + 1) m' H') ∧ ∀ x H', (Itr lo n).yld i H x H' → g x (wipe σ vs) H' fun σ2 H2 => wipe σ2 vs = wipe σ vs ∧ tt σ2 H2 fun b H3 =>
        if b = true then te σ2 H3 fun y H4 => ∃ acc, H4 D = some (.lst acc) ∧ acc.length < sizeLine ∧ Nx (upd H4 D (.lst (acc ++ [y]))) else Nx H3) :=
  lc_range (lo := lo) (n := n) (LcP J D) ⟨[], hI _ _ _ _ h0, upd_same, Nat.le_refl _⟩ (fun i H hi ⟨acc, hJ, hD, hlen⟩ => hs i acc H hi hJ hD hlen) (fun H ⟨acc, h1, h2, _⟩ => hd acc H h1 h2)
theorem g_for {wi : TI} {tb : TS} {D : Ends} {H : Hp} (q : wi σ H fun J H1 => ∃ W : Nat → Nat → L2.St → Hp → Prop, (∃ m, W 0 m σ H1) ∧ ∀ i m σ H, W i m σ H →
  (J.stop i H ∧ D.nx σ H) ∨ (J.go i H ∧ ∃ N : L2.St → Hp → Prop, (∀ σ' H', N σ' H' → ∃ m', m' < m ∧ W (i + 1) m' σ' H') ∧ ∀ x H', J.yld i H x H' → g x σ H' fun σ2 H2 => tb { D with nx := N, ct := N, bk := D.nx } σ2 H2)) : tFor wi g tb D σ H := q
theorem g_lc {wi : TI} {H : Hp} {Q : VK} (q : wi σ H fun J H1 => ∀ D, H1 D = none → ∃ W : Nat → Nat → Hp → Prop, (∃ m, W 0 m (upd H1 D (.lst []))) ∧ ∀ i m H, W i m H →
  (J.stop i H ∧ Q (.ref D) H) ∨ (J.go i H ∧ ∃ Nx : Hp → Prop, (∀ H', Nx H' → ∃ m', m' < m ∧ W (i + 1) m' H') ∧ ∀ x H', J.yld i H x H' → g x (wipe σ vs) H' fun σ2 H2 => wipe σ2 vs = wipe σ vs ∧ tt σ2 H2 fun b H3 =>
    if b = true then te σ2 H3 fun y H4 => ∃ acc, H4 D = some (.lst acc) ∧ acc.length < sizeLine ∧ Nx (upd H4 D (.lst (acc ++ [y]))) else Nx H3)) : tLc wi g tt te vs σ H Q := q
theorem g_iL {tl : TE} {H : Hp} {R : It → Hp → Prop} (q : tl σ H fun x H1 => ∃ a, x = .ref a ∧ (∃ xs, SqL K H1 a xs) ∧ R (Itl K a) H1) : iList K tl σ H R := q
theorem g_iT {tl : TE} {H : Hp} {R : It → Hp → Prop} (q : tl σ H fun x H1 => ∃ a, x = .ref a ∧ (∃ xs, SqT K H1 a xs) ∧ R (Itt K a) H1) : iTup K tl σ H R := q
theorem g_iR1 {ta : TA} {H : Hp} {R : It → Hp → Prop} (q : ta σ H fun vs H1 => ∃ j : Int, vs = [.int j] ∧ -(2 ^ 62) ≤ j ∧ j < 2 ^ 62 ∧ R (Itr 0 j.toNat) H1) : iRng1 ta σ H R := q
theorem g_iR2 {ta : TA} {H : Hp} {R : It → Hp → Prop} (q : ta σ H fun vs H1 => ∃ i j : Int, vs = [.int i, .int j] ∧ (-(2 ^ 62) ≤ i ∧ i < 2 ^ 62 ∧ -(2 ^ 62) ≤ j ∧ j < 2 ^ 62) ∧ R (Itr i (j - i).toNat) H1) : iRng2 ta σ H R := q
theorem g_iE {ta : TA} {H : Hp} {R : It → Hp → Prop} (q : ta σ H fun vs H1 => ∃ a xs, vs = [.ref a] ∧ SqL K H1 a xs ∧ R (Ite K a) H1) : iEnum K ta σ H R := q
theorem g_bm {T : String} {r : V → List V → Hp → VK → Prop} {to : TE} {t : TA} {H : Hp} {Q : VK} (q : to σ H fun x H1 => tyV K T x H1 ∧ t σ H1 fun xs H2 => r x xs H2 Q) : tBM K T r to t σ H Q := q
theorem g_app {p : Addr} {xs : List V} {y : V} {H : Hp} {Q : VK} (h : H p = some (.lst xs)) (hl : xs.length < 100000) (q : Q .non (upd H p (.lst (xs ++ [y])))) : rAppend (.ref p) [y] H Q := ⟨p, xs, y, rfl, rfl, h, szl hl, q⟩
theorem g_tyL {p : Addr} {xs : List V} {H : Hp} {B : Prop} (h : SqL K H p xs) (q : B) : tyV K "list" (.ref p) H ∧ B := ⟨Or.inl ⟨rfl, xs, h⟩, q⟩
theorem g_cat {p r : Addr} {xs ys : List V} {H : Hp} {Q : VK} (h : H p = some (.lst xs)) (h2 : H r = some (.lst ys)) (hl : xs.length + ys.length ≤ 100000) (q : ∀ l, H l = none → Q (.ref l) (upd H l (.lst (xs ++ ys)))) : rCat (.ref p) (.ref r) H Q := ⟨p, r, xs, ys, rfl, rfl, h, h2, sz hl, q⟩
/-- what follows a test is shown once, from M -/
theorem g_cut {t : TT} {H : Hp} {QB : Bool → Hp → Prop} (M : Bool → Hp → Prop) (h : ∀ QB' : Bool → Hp → Prop, (∀ b H', M b H' → QB' b H') → t σ H QB') (q : ∀ b H', M b H' → QB b H') : t σ H QB := h QB q
/-- .. an expression -/
theorem g_cutE {t : TE} {H : Hp} {Q : VK} (M : V → Hp → Prop) (h : ∀ Q' : VK, (∀ v H', M v H' → Q' v H') → t σ H Q') (q : ∀ v H', M v H' → Q v H') : t σ H Q := h Q q
/-- .. a statement -/
theorem g_cutS {t : TS} {D : Ends} {H : Hp} (M : L2.St → Hp → Prop) (h : ∀ N : L2.St → Hp → Prop, (∀ σ' H', M σ' H' → N σ' H') → t { D with nx := N } σ H) (q : ∀ σ' H', M σ' H' → D.nx σ' H') : t D σ H := h D.nx q
theorem g_yes {QB : Bool → Hp → Prop} {H : Hp} (q : QB true H) : tYes σ H QB := q
theorem g_tup2 {g1 g2 : TG} {x y : V} {p : Addr} {H : Hp} {Qs : L2.St → Hp → Prop} (h : SqT K H p [x, y]) (q : g1 x σ H fun σ1 H2 => g2 y σ1 H2 Qs) : gTup K 2 (gCons g1 (gCons g2 gNil)) (.ref p) σ H Qs := by
  refine ⟨p, _, rfl, h, rfl, x, _, rfl, ?_⟩
  revert q
  intro q
  exact (show (g1 x σ H fun σ1 H2 => ∃ v r, [y] = v :: r ∧ g2 v σ1 H2 fun σ' H' => r = [] ∧ Qs σ' H') from by
    have e : (fun (σ1 : L2.St) (H2 : Hp) => ∃ (v : V) (r : List V), [y] = v :: r ∧ g2 v σ1 H2 fun σ' H' => r = [] ∧ Qs σ' H') = fun σ1 H2 => g2 y σ1 H2 Qs := by
      funext σ1 H2
      refine propext ⟨?_, ?_⟩
      · rintro ⟨v, r, e, h⟩
        cases e
        have e2 : (fun (σ' : L2.St) (H' : Hp) => ([] : List V) = [] ∧ Qs σ' H') = Qs := by
          funext σ' H'
          exact propext ⟨fun h => h.2, fun h => ⟨rfl, h⟩⟩
        rw [e2] at h
        exact h
      · intro h
        refine ⟨y, [], rfl, ?_⟩
        have e2 : (fun (σ' : L2.St) (H' : Hp) => ([] : List V) = [] ∧ Qs σ' H') = Qs := by
          funext σ' H'
          exact propext ⟨fun h => h.2, fun h => ⟨rfl, h⟩⟩
        rw [e2]
        exact h
    rw [e]
    exact q)
/-- loops, what follows and the body any way -/
theorem for_E {H : Hp} {B : (L2.St → Hp → Prop) → L2.St → Hp → Prop} {nx : L2.St → Hp → Prop} (Pv : Nat → L2.St → Hp → Prop) (h0 : Pv 0 σ H) (hl : ∀ i σ H, i ≤ xs.length → Pv i σ H → SqL K H a xs)
    (hs : ∀ i x σ H T, xs[i]? = some x → Pv i σ H → H T = none → g (.ref T) σ (upd H T (.tup [.int (i : Nat), x])) fun σ2 H2 => B (Pv (i + 1)) σ2 H2) (hd : ∀ σ H, Pv xs.length σ H → nx σ H) :
    ∃ W : Nat → Nat → L2.St → Hp → Prop, (∃ m, W 0 m σ H) ∧ ∀ i m σ H, W i m σ H →
      ((Ite K a).stop i H ∧ nx σ H) ∨ ((Ite K a).go i H ∧ ∃ N : L2.St → Hp → Prop, (∀ σ' H', N σ' H' → ∃ m', m' < m ∧ W (i + 1) m' σ' H') ∧ ∀ x H', (Ite K a).yld i H x H' → g x σ H' fun σ2 H2 => B N σ2 H2) := by
  refine ⟨fun i m σ H => m = xs.length - i ∧ i ≤ xs.length ∧ Pv i σ H, ⟨xs.length, by simp, Nat.zero_le _, h0⟩, ?_⟩
  rintro i m σ H ⟨rfl, hi, p⟩
  have q := hl i σ H hi p
  by_cases hlt : i < xs.length
  · refine .inr ⟨⟨xs, xs[i], q, by simp [hlt]⟩, Pv (i + 1), fun σ' H' p' => ⟨xs.length - (i + 1), by omega, rfl, hlt, p'⟩, fun x H' y => ?_⟩
    obtain ⟨T, z, e1, e2, e3, e4⟩ := y
    subst e1 e3
    exact hs i z σ H T (e4 xs q) p e2
  · have e : i = xs.length := by omega
    subst e
    exact .inl ⟨⟨xs, q, Nat.le_refl _⟩, hd σ H p⟩
theorem for_L {H : Hp} {B : (L2.St → Hp → Prop) → L2.St → Hp → Prop} {nx : L2.St → Hp → Prop} (Pv : Nat → L2.St → Hp → Prop) (h0 : Pv 0 σ H) (hl : ∀ i σ H, i ≤ xs.length → Pv i σ H → SqL K H a xs)
    (hs : ∀ i x σ H, xs[i]? = some x → Pv i σ H → g x σ H fun σ2 H2 => B (Pv (i + 1)) σ2 H2) (hd : ∀ σ H, Pv xs.length σ H → nx σ H) :
    ∃ W : Nat → Nat → L2.St → Hp → Prop, (∃ m, W 0 m σ H) ∧ ∀ i m σ H, W i m σ H →
      ((Itl K a).stop i H ∧ nx σ H) ∨ ((Itl K a).go i H ∧ ∃ N : L2.St → Hp → Prop, (∀ σ' H', N σ' H' → ∃ m', m' < m ∧ W (i + 1) m' σ' H') ∧ ∀ x H', (Itl K a).yld i H x H' → g x σ H' fun σ2 H2 => B N σ2 H2) := by
  refine ⟨fun i m σ H => m = xs.length - i ∧ i ≤ xs.length ∧ Pv i σ H, ⟨xs.length, by simp, Nat.zero_le _, h0⟩, ?_⟩
  rintro i m σ H ⟨rfl, hi, p⟩
  have q := hl i σ H hi p
  by_cases hlt : i < xs.length
  · refine .inr ⟨⟨xs, xs[i], q, by simp [hlt]⟩, Pv (i + 1), fun σ' H' p' => ⟨xs.length - (i + 1), by omega, rfl, hlt, p'⟩, fun x H' y => ?_⟩
    obtain ⟨e, y⟩ := y
    subst e
    exact hs i x σ _ (y xs q) p
  · have e : i = xs.length := by omega
    subst e
    exact .inl ⟨⟨xs, q, Nat.le_refl _⟩, hd σ H p⟩
theorem for_R {H : Hp} {lo : Int} {n : Nat} {B : (L2.St → Hp → Prop) → L2.St → Hp → Prop} {nx : L2.St → Hp → Prop} (Pv : Nat → L2.St → Hp → Prop) (h0 : Pv 0 σ H)
    (hs : ∀ i σ H, i < n → Pv i σ H → g (.int (lo + i)) σ H fun σ2 H2 => B (Pv (i + 1)) σ2 H2) (hd : ∀ σ H, Pv n σ H → nx σ H) :
    ∃ W : Nat → Nat → L2.St → Hp → Prop, (∃ m, W 0 m σ H) ∧ ∀ i m σ H, W i m σ H →
      ((Itr lo n).stop i H ∧ nx σ H) ∨ ((Itr lo n).go i H ∧ ∃ N : L2.St → Hp → Prop, (∀ σ' H', N σ' H' → ∃ m', m' < m ∧ W (i + 1) m' σ' H') ∧ ∀ x H', (Itr lo n).yld i H x H' → g x σ H' fun σ2 H2 => B N σ2 H2) := by
  refine ⟨fun i m σ H => m = n - i ∧ i ≤ n ∧ Pv i σ H, ⟨n, by simp, Nat.zero_le _, h0⟩, ?_⟩
  rintro i m σ H ⟨rfl, hi, p⟩
  by_cases hlt : i < n
  · refine .inr ⟨hlt, Pv (i + 1), fun σ' H' p' => ⟨n - (i + 1), by omega, rfl, hlt, p'⟩, fun x H' y => ?_⟩
    obtain ⟨e, y⟩ := y
    subst e y
    exact hs i σ _ hlt p
  · have e : i = n := by omega
    subst e
    exact .inl ⟨Nat.le_refl _, hd σ H p⟩
end
end My
namespace My
open PySem PySem.Spec PyProof.Rows L2
structure Fn (K : PySem.W.Frag) (mg : Str → Option Value) (x : Str) (st : Stmt) : Prop where
  ex : ∃ (f : Addr) (fd : FuncData), Fun K x x st f fd ∧ mg x = some (.ref f)
section
variable {P : Program} {w : World} {K : PySem.W.Frag} {mg : Str → Option Value} {base : Heap}
theorem Knows.mk' {x : Str} {st : Stmt} {N ps : List Str} {k : Nat} {sp : Sp} (D : Fn K mg x st) (S : FnScope N ps (defScope st))
    (hb : ∀ (kV doc pm : Value) (an : Option Addr) (cdv ct : Value) (us : List Value), us.length = ps.length → bindArgs (PySem.W.fnOf x x (defArgs st) (defBody st) (defScope st) .none kV doc pm an cdv ct) ⟨us, []⟩ = pure (ps.zip us))
    (len : ∀ vs H Q E, sp vs H Q E → vs.length = ps.length)
    (hbody : ∀ (f : Addr) (cdv : Value) (A : Around) (outer : List Env) (s : Shared) (H : Hp) (vs : List V) (Q : VK) (E : XK), Room k (A.deeper (envOfC x (defScope st) s.heap.objs.size f cdv)) → sp vs H Q E →
      ∃ t, PSs (cxOf (L2.CX P w) P w K mg base N x (defScope st) f cdv A outer s H E) (defBody st) t ∧ t { nx := fun _ H' => Q .non H', rt := Q } (start N vs) H) : Knows P w K mg base (k + 1) x ps sp := by
  obtain ⟨f, fd, F, g⟩ := D.ex
  exact ⟨f, fd, F.okX S len fun cdv A outer s H vs Q E hr h => hbody f cdv A outer s H vs Q E hr h, g, F.kp, F.binds hb⟩
theorem fnok_mk {x : Str} {st : Stmt} {f : Addr} {fd : FuncData} {N ps : List Str} {k : Nat} {sp : Sp} (F : Fun K x x st f fd) (S : FnScope N ps (defScope st)) (len : ∀ vs H Q E, sp vs H Q E → vs.length = ps.length)
    (hbody : ∀ (cdv : Value) (A : Around) (outer : List Env) (s : Shared) (H : Hp) (vs : List V) (Q : VK) (E : XK), Room k (A.deeper (envOfC x (defScope st) s.heap.objs.size f cdv)) → sp vs H Q E →
      ∃ t, PSs (cxOf (L2.CX P w) P w K mg base N x (defScope st) f cdv A outer s H E) (defBody st) t ∧ t { nx := fun _ H' => Q .non H', rt := Q } (start N vs) H) : FnOk P w K mg base (L2.CX P w) (k + 1) f fd ps sp :=
  F.okX S len fun cdv A outer s H vs Q E hr h => hbody cdv A outer s H vs Q E hr h
theorem Knows.mono {x : Str} {ps : List Str} {j k : Nat} {sp : Sp} (c : Knows P w K mg base j x ps sp) (h : j ≤ k) : Knows P w K mg base k x ps sp := by
  obtain ⟨f, fd, F, a, b, d⟩ := c.ex
  exact ⟨f, fd, F.mono h, a, b, d⟩
end
theorem pe_powc {X : Cx} {a b v : Int} {j1 j2 : Nat} {p1 p2 pos : Pos} (h : CPow a b) (e : a ^ b.toNat = v) : PE X (.BinOp (.Constant (.int a) j1 p1) .Pow (.Constant (.int b) j2 p2) pos) (tC (.int v)) :=
  ⟨fun pins s σ H Q I q => (pe_op op_pow pe_int pe_int).run pins s σ H Q I ⟨a, b, rfl, rfl, h, (show Q (.int (a ^ b.toNat)) H from e ▸ q)⟩⟩
theorem cdivw {i j : Int} (h0 : 0 < j) (h : j < 2 ^ 200) : CDivW i j := wide_div (b := 200) h0 (by omega) (by decide) (by decide)
theorem pe_gl {X : Cx} {x : Str} {i : Int} {pos : Pos} (hm : ∃ t, X.mg x = some (.int i t)) (hg : Gl X x := by rfl) (hd : (x == ("__debug__" : Str)) = false := by decide) : PE X (.Name x pos) (tC (.int i)) := by
  obtain ⟨t, h⟩ := hm
  exact pe_glob hg h ⟨t, rfl⟩ hd
structure Ec where
  (BadWheel BadRule BadSeen BadGaps BadSpan BadLong NoGap NoSpan WrapError : Addr)
/-! ### equality of lists of ints -/
section
variable {K : PySem.W.Frag} {H : Hp} {a b : Addr} {Q : VK}
theorem dpAll_ints : ∀ ns : List Int, DpAll K H (ns.map V.int) (ns.map PyData.int)
  | [] => .nil
  | n :: r => .cons (.int n) (dpAll_ints r)
theorem dp_ints {ns : List Int} (h : SqL K H a (ns.map V.int)) : Dp K H (.ref a) (.list (ns.map PyData.int)) := .lst h (dpAll_ints ns)
theorem eqvAll_ints : ∀ ns ms : List Int, PyData.eqvAll (ns.map PyData.int) (ms.map PyData.int) = decide (ns = ms)
  | [], [] => rfl
  | [], _ :: _ => rfl
  | _ :: _, [] => rfl
  | x :: r, y :: t => by
    simp only [List.map_cons, PyData.eqvAll, PyData.eqv, eqvAll_ints r t]
    by_cases h : x = y <;> by_cases h' : r = t <;> simp [h, h']
theorem eqv_ints (ns ms : List Int) : PyData.eqv (.list (ns.map PyData.int)) (.list (ms.map PyData.int)) = decide (ns = ms) := by
  rw [PyData.eqv]
  exact eqvAll_ints ns ms
theorem g_eqInts {ns ms : List Int} (h1 : SqL K H a (ns.map V.int)) (h2 : SqL K H b (ms.map V.int)) (q : Q (.bl (decide (ns = ms))) H) : rEqD K (.ref a) (.ref b) H Q :=
  ⟨_, _, dp_ints h1, dp_ints h2, PySem.W.ke_shaped_ints _, PySem.W.ke_shaped_ints _, by rw [eqv_ints]; exact q⟩
theorem g_neInts {ns ms : List Int} (h1 : SqL K H a (ns.map V.int)) (h2 : SqL K H b (ms.map V.int)) (q : Q (.bl (!decide (ns = ms))) H) : rNeD K (.ref a) (.ref b) H Q :=
  ⟨_, _, dp_ints h1, dp_ints h2, PySem.W.ke_shaped_ints _, PySem.W.ke_shaped_ints _, by rw [eqv_ints]; exact q⟩
theorem g_sortedI {ns : List Int} (h : SqL K H a (ns.map V.int)) (q : ∀ (ns' : List Int) (p : Addr), ns'.Perm ns → ns'.Pairwise (· ≤ ·) → H p = none → Q (.ref p) (upd H p (.lst (ns'.map V.int)))) : rSortedI K [.ref a] H Q := ⟨a, ns, rfl, h, q⟩
end
theorem take_more {α : Type} : ∀ {l : List α} {i : Nat} {x : α}, l[i]? = some x → l.take (i + 1) = l.take i ++ [x]
  | [], i, x, h => by simp at h
  | a :: l, 0, x, h => by
    have e : a = x := Option.some.inj h
    subst e
    rfl
  | a :: l, i + 1, x, h => by
    have ih := take_more (l := l) (i := i) (x := x) h
    show a :: l.take (i + 1) = a :: l.take i ++ [x]
    rw [ih]
    rfl
/-- sorted and of the same items: one list -/
theorem sorted_same : ∀ {l m : List Int}, l.Perm m → l.Pairwise (· ≤ ·) → m.Pairwise (· ≤ ·) → l = m := fun {l m} p h1 h2 =>
  List.Perm.eq_of_pairwise (le := fun a b => a ≤ b) (fun a b _ _ h1 h2 => Int.le_antisymm h1 h2) h1 h2 p
/-! ### like data: what the laws' own comparison is asked -/
inductive SD (H : Hp) : Nat → V → V → Prop
  | non {d : Nat} : SD H d .non .non
  | bl {d : Nat} (b : Bool) : SD H d (.bl b) (.bl b)
  | int {d : Nat} (i : Int) : SD H d (.int i) (.int i)
  | str {d : Nat} (x : Str) : SD H d (.str x) (.str x)
  | lst {d : Nat} {a b : Addr} {xs ys : List V} (h1 : H a = some (.lst xs)) (h2 : H b = some (.lst ys)) (hl : xs.length = ys.length) (hz : xs.length ≤ 100000) (hi : ∀ (i : Nat) x y, xs[i]? = some x → ys[i]? = some y → SD H d x y) : SD H (d + 1) (.ref a) (.ref b)
  | tup {d : Nat} {a b : Addr} {xs ys : List V} (h1 : H a = some (.tup xs)) (h2 : H b = some (.tup ys)) (hl : xs.length = ys.length) (hz : xs.length ≤ 100000) (hi : ∀ (i : Nat) x y, xs[i]? = some x → ys[i]? = some y → SD H d x y) : SD H (d + 1) (.ref a) (.ref b)
theorem SD.same {H H' : Hp} (e : Same H H') {d : Nat} {x y : V} (h : SD H d x y) : SD H' d x y := by
  induction h with
  | non => exact .non
  | bl b => exact .bl b
  | int i => exact .int i
  | str x => exact .str x
  | lst h1 h2 hl hz _ ih => exact .lst (e _ _ h1) (e _ _ h2) hl hz ih
  | tup h1 h2 hl hz _ ih => exact .tup (e _ _ h1) (e _ _ h2) hl hz ih
theorem SD.flat {H : Hp} {d : Nat} {xs ys : List V} (h : ∀ x ∈ xs, ∀ d, SD H d x x) (e : xs = ys) : ∀ (i : Nat) x y, xs[i]? = some x → ys[i]? = some y → SD H d x y := fun i x y hx hy => by
  subst e
  rw [hx] at hy
  cases hy
  exact h x (List.mem_of_getElem? hx) d
def sp_same (d : Nat) : Sp := fun vs H Q _ => ∃ x y : V, vs = [x, y] ∧ SD H d x y ∧ ∀ H', Same H H' → Q (.bl true) H'
/-- what the recursion may lean on -/
def sp_samep : Nat → Sp
  | 0 => fun _ _ _ _ => False
  | d + 1 => sp_same d
theorem knows_false {P : Program} {w : World} {K : PySem.W.Frag} {mg : Str → Option Value} {base : Heap} {x : Str} {st : Stmt} {ps : List Str} (D : Fn K mg x st)
    (hb : ∀ (kV doc pm : Value) (an : Option Addr) (cdv ct : Value) (us : List Value), us.length = ps.length → bindArgs (PySem.W.fnOf x x (defArgs st) (defBody st) (defScope st) .none kV doc pm an cdv ct) ⟨us, []⟩ = pure (ps.zip us)) :
    Knows P w K mg base 0 x ps (sp_samep 0) := by
  obtain ⟨f, fd, F, g⟩ := D.ex
  exact ⟨f, fd, ⟨fun _ _ _ _ h => h.elim, fun _ _ _ _ _ _ _ _ _ _ _ _ _ h => h.elim⟩, g, F.kp, F.binds hb⟩
section
variable {K : PySem.W.Frag} {H : Hp} {x : V} {a b : String} {r r1 r2 : Bool} {Q : VK} {tp p q : Addr}
theorem g_isi (ty : TyX K H x (.type a)) (e : kitB a b = some r) (k : Q (.bl r) H) : rIsi K [x, .ty b] H Q := ⟨x, .ty b, .type a, .type b, r, rfl, .ty b, ty, kit_ty e, k⟩
theorem g_isiTL (ty : TyX K H x (.type a)) (h : H tp = some (.tup [.ty "tuple", .ty "list"])) (e1 : kitB a "tuple" = some r1) (e2 : kitB a "list" = some r2) (hr : (r1 || r2) = r) (k : Q (.bl r) H) : rIsiT K [x, .ref tp] H Q := by
  subst hr
  refine ⟨x, tp, _, .type a, [.type "tuple", .type "list"], r1 || r2, rfl, h, .cons (.ty _) (.cons (.ty _) .nil), ty, ?_, k⟩
  refine kitAny_cons (kit_ty e1) (fun h1 => kitAny_cons (b := r2) (kit_ty e2) (fun h2 => ?_) (fun h2 => ?_)) (fun h1 => ?_)
  · rw [kitAny_nil, h1, h2]; rfl
  · rw [h2]; simp
  · rw [h1]; simp
theorem dpAll_strs : ∀ ns : List Str, DpAll K H (ns.map V.str) (ns.map PyData.str)
  | [] => .nil
  | n :: r => .cons (.str n) (dpAll_strs r)
theorem eqvAll_strs : ∀ ns ms : List Str, PyData.eqvAll (ns.map PyData.str) (ms.map PyData.str) = decide (ns = ms)
  | [], [] => rfl
  | [], _ :: _ => rfl
  | _ :: _, [] => rfl
  | x :: r, y :: t => by
    simp only [List.map_cons, PyData.eqvAll, PyData.eqv, eqvAll_strs r t]
    by_cases h : x = y <;> by_cases h' : r = t <;> simp [h, h']
theorem canAll_strs : ∀ ns : List Str, ns.all PyData.strOk = true → PyData.canLayAll0 (ns.map PyData.str) = true
  | [], _ => rfl
  | x :: r, h => by
    rw [List.all_cons, Bool.and_eq_true] at h
    simp [PyData.canLayAll0, PyData.canLay0, canAll_strs r h.2, h.1]
theorem depthAll_strs : ∀ ns : List Str, PyData.depthAll (ns.map PyData.str) = 0
  | [] => rfl
  | _ :: r => by simp [PyData.depthAll, PyData.depth, depthAll_strs r]
theorem shaped_strs {ns : List Str} (h : ns.all PyData.strOk = true) : SeqAt.shaped (.list (ns.map PyData.str)) = true := by
  simp [SeqAt.shaped, PyData.canLay0, PyData.depth, canAll_strs ns h, depthAll_strs]
theorem g_eqStrs {ns ms : List Str} (h1 : SqL K H p (ns.map V.str)) (h2 : SqL K H q (ms.map V.str)) (o1 : ns.all PyData.strOk = true) (o2 : ms.all PyData.strOk = true) (k : Q (.bl (decide (ns = ms))) H) : rEqD K (.ref p) (.ref q) H Q :=
  ⟨_, _, .lst h1 (dpAll_strs ns), .lst h2 (dpAll_strs ms), shaped_strs o1, shaped_strs o2, by rw [PyData.eqv, eqvAll_strs]; exact k⟩
theorem g_neStrs {ns ms : List Str} (h1 : SqL K H p (ns.map V.str)) (h2 : SqL K H q (ms.map V.str)) (o1 : ns.all PyData.strOk = true) (o2 : ms.all PyData.strOk = true) (k : Q (.bl (!decide (ns = ms))) H) : rNeD K (.ref p) (.ref q) H Q :=
  ⟨_, _, .lst h1 (dpAll_strs ns), .lst h2 (dpAll_strs ms), shaped_strs o1, shaped_strs o2, by rw [PyData.eqv, eqvAll_strs]; exact k⟩
end
def sp_law (K : PySem.W.Frag) : Sp := fun vs H Q _ => ∃ (s : Addr) (ns : List Int), vs = [.ref s] ∧ SqL K H s (ns.map V.int) ∧ ns.length ≤ 63 ∧ ∀ H', Q (.bl true) H'
theorem walk {l : PySem.W.OpenLaw} {k : Nat} {q : Program} {loose : List Str} {XP : (Str → Option Value) → Heap → Prop} {YP : World → Heap → Prop} {d : DefRec} {K : Params → PySem.W.Frag} (hn : l.most = some 63) (hdf : d.params.defaults = []) (hr : Room k callerA)
    (hY : ∀ (w : World) (h : Heap), YP w h → (K w.params).In h)
    (F : ∀ (w : World) (mg : Str → Option Value) (fa : Addr) (h : Heap), (K w.params).In h → h.Ns mainGlobals mg → mg d.name = some (.ref fa) →
      ∃ fd : FuncData, (∀ (s : Shared) (u : Value), BindsTo s fd ⟨[u], []⟩ [("_law_script", u)]) ∧ ∀ base : Heap, (K w.params).In base → base.Ns mainGlobals mg → FnOk l.prog w (K w.params) mg base (L2.CX l.prog w) k fa fd ["_law_script"] (sp_law (K w.params))) :
    PySem.W.WalkO q loose XP YP l.row.toRowW d [] (fun f vs => PySem.call f vs) :=
  L2.walk_of (n := 63) (k := k) (x := "_law_script") (CX := fun w => L2.CX l.prog w) (sp := fun w => sp_law (K w.params)) hn (by decide) hdf hr hY F (fun _ _ a ns hl _ hS => ⟨a, ns, rfl, hS, hl, fun _ => rfl⟩) fun _ _ _ _ _ h => by
    obtain ⟨_, _, _, _, _, _, _, _, _, _, _, _, z⟩ := h
    exact z
end My
local macro_rules | `(tactic| walk_at "go1") => `(tactic| first
  | with_reducible refine My.g_var0 ?_
  | with_reducible refine My.g_var1 ?_
  | with_reducible refine My.g_var2 ?_
  | with_reducible refine My.g_var3 ?_
  | with_reducible refine My.g_var4 ?_
  | with_reducible refine My.g_var5 ?_
  | with_reducible refine My.g_var6 ?_
  | with_reducible refine My.g_var7 ?_
  | with_reducible refine My.g_var8 ?_
  | with_reducible refine My.g_var9 ?_
  | with_reducible refine My.g_var10 ?_
  | with_reducible refine My.g_var11 ?_
  | with_reducible refine My.g_var12 ?_
  | with_reducible refine My.g_var13 ?_
  | with_reducible refine My.g_var14 ?_
  | with_reducible refine My.g_var15 ?_
  | with_reducible refine My.g_var16 ?_
  | with_reducible refine My.g_var17 ?_
  | with_reducible refine My.g_var18 ?_
  | with_reducible refine My.g_var19 ?_
  | with_reducible refine My.g_var20 ?_
  | with_reducible refine My.g_var21 ?_
  | with_reducible refine My.g_var22 ?_
  | with_reducible refine My.g_var23 ?_
  | with_reducible refine My.g_var24 ?_
  | with_reducible refine My.g_var25 ?_
  | with_reducible refine My.g_c ?_
  | with_reducible refine My.g_op ?_
  | with_reducible refine My.g_rI0 ?_
  | with_reducible refine My.g_test ?_
  | with_reducible refine My.g_tB ?_
  | with_reducible refine My.g_not ?_
  | with_reducible refine My.g_and ?_
  | with_reducible refine My.g_or ?_
  | with_reducible refine My.g_andV ?_
  | with_reducible refine My.g_orV ?_
  | with_reducible refine My.g_notV ?_
  | with_reducible refine My.g_if ?_
  | with_reducible refine My.g_chain ?_
  | with_reducible refine My.g_nil ?_
  | with_reducible refine My.g_cons ?_
  | with_reducible refine My.g_call ?_
  | with_reducible refine My.g_callB ?_
  | with_reducible refine My.g_lst ?_
  | with_reducible refine My.g_tup ?_
  | with_reducible refine My.g_seq ?_
  | with_reducible refine My.g_asg ?_
  | with_reducible refine My.g_name0 ?_
  | with_reducible refine My.g_name1 ?_
  | with_reducible refine My.g_name2 ?_
  | with_reducible refine My.g_name3 ?_
  | with_reducible refine My.g_name4 ?_
  | with_reducible refine My.g_name5 ?_
  | with_reducible refine My.g_name6 ?_
  | with_reducible refine My.g_name7 ?_
  | with_reducible refine My.g_name8 ?_
  | with_reducible refine My.g_name9 ?_
  | with_reducible refine My.g_name10 ?_
  | with_reducible refine My.g_name11 ?_
  | with_reducible refine My.g_name12 ?_
  | with_reducible refine My.g_name13 ?_
  | with_reducible refine My.g_name14 ?_
  | with_reducible refine My.g_name15 ?_
  | with_reducible refine My.g_name16 ?_
  | with_reducible refine My.g_name17 ?_
  | with_reducible refine My.g_name18 ?_
  | with_reducible refine My.g_name19 ?_
  | with_reducible refine My.g_name20 ?_
  | with_reducible refine My.g_name21 ?_
  | with_reducible refine My.g_name22 ?_
  | with_reducible refine My.g_name23 ?_
  | with_reducible refine My.g_name24 ?_
  | with_reducible refine My.g_name25 ?_
  | with_reducible refine L2.iteT ?_
  | with_reducible refine L2.iteF ?_
  | with_reducible refine My.ite_nT ?_
  | with_reducible refine My.ite_nF ?_
  | with_reducible refine My.g_ret ?_
  | with_reducible refine My.g_retN ?_
  | with_reducible refine My.g_drop ?_
  | with_reducible refine My.g_next ?_
  | with_reducible refine My.g_un ?_
  | with_reducible refine My.g_sub ?_
  | with_reducible refine My.g_for ?_
  | with_reducible refine My.g_lc ?_
  | with_reducible refine My.g_iL ?_
  | with_reducible refine My.g_iT ?_
  | with_reducible refine My.g_iR1 ?_
  | with_reducible refine My.g_iR2 ?_
  | with_reducible refine My.g_iE ?_
  | with_reducible refine My.g_bm ?_
  | with_reducible refine My.g_yes ?_
  | with_reducible refine My.g_isN ?_
  | with_reducible refine My.g_notN ?_
  | with_reducible refine My.g_min2 ?_
  | with_reducible refine My.g_max2 ?_
  | with_reducible refine My.g_abs ?_
  | with_reducible refine My.g_intI ?_
  | with_reducible refine My.g_intB ?_
  | ((with_reducible refine' My.g_sz ?gz ?_); (case gz => simp))
  | with_reducible refine My.g_rU ?_
  | ((with_reducible refine' My.g_rI ?gi ?_); (case gi => first
      | (show (0 : Int) < _; first | assumption | decide | omega)
      | exact My.cdivw (by omega) (by omega)
      | exact (show L2.CMul _ _ from Or.inl ⟨by omega, by omega⟩)
      | exact (show L2.CMul _ _ from Or.inr ⟨by omega, by omega⟩)))
  | ((with_reducible refine' My.g_eq ?ge ?_); (case ge => rfl))
  | ((with_reducible refine' My.g_ne ?ge ?_); (case ge => rfl))
  | with_reducible refine Exists.intro _ (And.intro rfl ?_))
local macro_rules | `(tactic| walk_at "go") => `(tactic| repeat (first | walk_at "go1" | with_reducible refine My.g_ifS ?_ | dsimp only))
local macro_rules | `(tactic| walk_at "goS") => `(tactic| repeat (first | walk_at "go1" | dsimp only))
local macro_rules | `(tactic| walk_at "dr") => `(tactic| first
  | assumption
  | exact My.Go.dr (by assumption)
  | (refine My.Dr.same ?_ (My.Same.new (by assumption)); walk_at "dr")
  | (refine My.Dr.same ?_ (by assumption); walk_at "dr")
  | (refine My.Dr.mut (by assumption) ?_ (by assumption); walk_at "dr"))
local macro_rules | `(tactic| walk_at "ne") => `(tactic| first
  | assumption
  | exact My.Dr.ne2 (by assumption) (by walk_at "dr")
  | exact Ne.symm (My.Dr.ne2 (by assumption) (by walk_at "dr"))
  | exact L2.ne_of_none (by walk_at "hp") (by assumption)
  | exact Ne.symm (L2.ne_of_none (by walk_at "hp") (by assumption)))
local macro_rules | `(tactic| walk_at "hp") => `(tactic| first
  | assumption
  | exact L2.upd_same
  | (refine My.upd_old ?_ (by assumption); walk_at "hp")
  | (refine My.Same.at (by assumption) ?_; walk_at "hp")
  | (refine My.Go.at (by assumption) ?_ ?_; ((walk_at "hp")); walk_at "ne"))
local macro_rules | `(tactic| walk_at "wp") => `(tactic| try simp only [List.map_cons, List.map_nil, L2.wipe, List.set_cons_succ, List.set_cons_zero])
namespace My
open PySem PySem.Spec PyProof.Rows L2
/-! ### promises: wheels -/
abbrev Wh (n : Int) : Prop := 2 ≤ n ∧ n ≤ 1000000000000
abbrev Se (n i : Int) : Prop := 0 ≤ i ∧ i < n
def sp_is_wheel : Sp := fun vs H Q _ => ∃ n : Int, vs = [.int n] ∧ Q (.bl (decide (Wh n))) H
def sp_need_wheel (ec : Ec) : Sp := fun vs H Q E => ∃ n : Int, vs = [.int n] ∧ (Wh n → Q .non H) ∧ (¬ Wh n → E (.ref ec.BadWheel) none H)
def sp_need_seen (ec : Ec) : Sp := fun vs H Q E => ∃ n i : Int, vs = [.int n, .int i] ∧ (Se n i → Q .non H) ∧ (¬ Se n i → E (.ref ec.BadSeen) none H)
def sp_since_of : Sp := fun vs H Q _ => ∃ n i j : Int, vs = [.int n, .int i, .int j] ∧ 0 < n ∧ Q (.int ((j - i) % n)) H
end My
namespace My
open PySem PySem.Spec PyProof.Rows L2
/-! ### promises: drawing -/
/-- how many there are to draw from -/
abbrev Mn (n : Int) : Prop := 0 < n ∧ n < 2 ^ 150
def sp_drawn (K : PySem.W.Frag) : Sp := fun vs H Q _ => ∃ (a s : Addr) (n : Int), vs = [.ref a, .int n] ∧ Dr K a s H ∧ Mn n ∧ ∀ r H', 0 ≤ r → r < n → Go K a s H H' → Q (.int r) H'
def sp_start (K : PySem.W.Frag) : Sp := fun vs H Q _ => ∃ (s : Addr) (ns : List Int), vs = [.ref s] ∧ SqL K H s (ns.map V.int) ∧ ns.length ≤ 63 ∧ ∀ a H', H a = none → Same H H' → Dr K a s H' → Q (.ref a) H'
end My
namespace My
open PySem PySem.Spec PyProof.Rows L2
def sp_wheel (K : PySem.W.Frag) : Sp := fun vs H Q _ => ∃ (a s : Addr), vs = [.ref a] ∧ Dr K a s H ∧ ∀ r H', Wh r → Go K a s H H' → Q (.int r) H'
/-- one of a list of ints -/
theorem one_int {zs : List Int} {v : V} (h : v ∈ zs.map V.int) : ∃ z, v = .int z ∧ z ∈ zs := by
  obtain ⟨z, h1, h2⟩ := List.mem_map.mp h
  exact ⟨z, h2.symm, h1⟩
end My
namespace My
open PySem PySem.Spec PyProof.Rows L2
def top (i : Nat) : Stmt := PySem.Challenge.pw_wraptime_k10_rings_of_three.main.body.getD i (.Pass ⟨0, 0, 0, 0⟩)
abbrev s_is_wheel : Stmt := top 6
abbrev s_need_wheel : Stmt := top 7
abbrev s_need_seen : Stmt := top 8
abbrev s_since_of : Stmt := top 9
abbrev s_order_of : Stmt := top 10
abbrev s_need_row : Stmt := top 13
abbrev s_goes_round : Stmt := top 14
abbrev s_ring : Stmt := top 15
abbrev s__law_start : Stmt := top 17
abbrev s__law_drawn : Stmt := top 18
abbrev s__law_same : Stmt := top 19
abbrev s__law_wheel : Stmt := top 20
abbrev s__law_rule : Stmt := top 21
abbrev s__law_time : Stmt := top 22
abbrev s__law_shown : Stmt := top 23
abbrev s__law_is_ahead : Stmt := top 24
abbrev s_law : Stmt := top 25
structure Txt (K : PySem.W.Frag) (mg : Str → Option Value) (ec : Ec) : Prop where
  g_MOST_WHEEL : ∃ t, mg "MOST_WHEEL" = some (.int 1000000000000 t)
  g_MOST_SEEN : ∃ t, mg "MOST_SEEN" = some (.int 60 t)
  ValueError : mg "ValueError" = none
  range : mg "range" = none
  isinstance : mg "isinstance" = none
  str : mg "str" = none
  len : mg "len" = none
  tuple : mg "tuple" = none
  list : mg "list" = none
  bool : mg "bool" = none
  int : mg "int" = none
  min : mg "min" = none
  x_BadWheel : ExcAt K mg "BadWheel" ec.BadWheel
  x_BadSeen : ExcAt K mg "BadSeen" ec.BadSeen
  x_WrapError : ExcAt K mg "WrapError" ec.WrapError

section
variable {P : Program} {w : World} {K : PySem.W.Frag} {mg : Str → Option Value} {base : Heap} {ec : Ec}
theorem sc_is_wheel : FnScope ["wheel"] ["wheel"] (defScope s_is_wheel) := ⟨rfl, rfl, rfl, by decide +kernel, rfl, by decide +kernel, by decide +kernel⟩
theorem ok_is_wheel (T : Txt K mg ec) (D : Fn K mg "is_wheel" s_is_wheel) : Knows P w K mg base 1 "is_wheel" ["wheel"] sp_is_wheel := by
  refine Knows.mk' D sc_is_wheel (fun _ _ _ _ _ _ us hl => match us, hl with | [_], _ => rfl) (fun vs H Q E h => ?_) (fun f cdv A outer s H vs Q E hr h => ?_)
  · obtain ⟨n, rfl, _⟩ := h; rfl
  · obtain ⟨n, rfl, k⟩ := h
    refine ⟨_, (pss_one (ps_ret (pe_chain op_le op_le pe_int (pv 0) (pe_gl T.g_MOST_WHEEL)))), ?_⟩
    refine g_start (σ := [some _]) rfl ?_
    try dsimp only [cxOf]
    walk_at "go"
    refine ite_dec (fun h1 => ?_) (fun h1 => ?_)
    · walk_at "go"
      rw [show decide (Wh n) = decide (n ≤ 1000000000000) from decide_eq_decide.mpr ⟨fun h => h.2, fun h => ⟨h1, h⟩⟩] at k
      exact k
    · rw [show decide (Wh n) = false from decide_eq_false fun h => h1 h.1] at k
      exact k
theorem sc_need_wheel : FnScope ["wheel"] ["wheel"] (defScope s_need_wheel) := ⟨rfl, rfl, rfl, by decide +kernel, rfl, by decide +kernel, by decide +kernel⟩
theorem ok_need_wheel (T : Txt K mg ec) (D : Fn K mg "need_wheel" s_need_wheel) (c_is_wheel : Knows P w K mg base 1 "is_wheel" ["wheel"] sp_is_wheel) : Knows P w K mg base 2 "need_wheel" ["wheel"] (sp_need_wheel ec) := by
  refine Knows.mk' D sc_need_wheel (fun _ _ _ _ _ _ us hl => match us, hl with | [_], _ => rfl) (fun vs H Q E h => ?_) (fun f cdv A outer s H vs Q E hr h => ?_)
  · obtain ⟨n, rfl, _⟩ := h; rfl
  · obtain ⟨n, rfl, k1, k2⟩ := h
    refine ⟨_, (pss_one (ps_if (pt_not (pt_val (pe_callN c_is_wheel (hr.mono (by first | decide | omega)) passD (pa_cons (pv 0) pa_nil)) (by intro _; rfl))) (pss_one (ps_raiseN T.x_BadWheel)) pss_nil)), ?_⟩
    refine g_start (σ := [some _]) rfl ?_
    try dsimp only [cxOf]
    walk_at "go"
    refine ⟨n, rfl, ?_⟩
    walk_at "go"
    refine ite_ndec (fun h1 => ?_) (fun h1 => ?_)
    · exact k2 h1
    · walk_at "go"
      exact k1 h1
theorem sc_need_seen : FnScope ["wheel", "seen"] ["wheel", "seen"] (defScope s_need_seen) := ⟨rfl, rfl, rfl, by decide +kernel, rfl, by decide +kernel, by decide +kernel⟩
theorem ok_need_seen (T : Txt K mg ec) (D : Fn K mg "need_seen" s_need_seen) : Knows P w K mg base 1 "need_seen" ["wheel", "seen"] (sp_need_seen ec) := by
  refine Knows.mk' D sc_need_seen (fun _ _ _ _ _ _ us hl => match us, hl with | [_, _], _ => rfl) (fun vs H Q E h => ?_) (fun f cdv A outer s H vs Q E hr h => ?_)
  · obtain ⟨n, i, rfl, _⟩ := h; rfl
  · obtain ⟨n, i, rfl, k1, k2⟩ := h
    refine ⟨_, (pss_one (ps_if (pt_not (pt_chain op_le op_lt pe_int (pv 1) (pv 0))) (pss_one (ps_raiseN T.x_BadSeen)) pss_nil)), ?_⟩
    refine g_start (σ := [some _, some _]) rfl ?_
    try dsimp only [cxOf]
    walk_at "go"
    refine ite_dec (fun h1 => ?_) (fun h1 => ?_)
    · walk_at "go"
      refine ite_ndec (fun h2 => ?_) (fun h2 => ?_)
      · exact k2 fun h => h2 h.2
      · walk_at "go"
        exact k1 ⟨h1, h2⟩
    · walk_at "go"
      exact k2 fun h => h1 h.1
theorem sc_since_of : FnScope ["wheel", "one", "other"] ["wheel", "one", "other"] (defScope s_since_of) := ⟨rfl, rfl, rfl, by decide +kernel, rfl, by decide +kernel, by decide +kernel⟩
theorem ok_since_of (T : Txt K mg ec) (D : Fn K mg "since_of" s_since_of) : Knows P w K mg base 1 "since_of" ["wheel", "one", "other"] sp_since_of := by
  refine Knows.mk' D sc_since_of (fun _ _ _ _ _ _ us hl => match us, hl with | [_, _, _], _ => rfl) (fun vs H Q E h => ?_) (fun f cdv A outer s H vs Q E hr h => ?_)
  · obtain ⟨n, i, j, rfl, _⟩ := h; rfl
  · obtain ⟨n, i, j, rfl, h0, k⟩ := h
    refine ⟨_, (pss_one (ps_ret (pe_op op_mod (pe_op op_sub (pv 2) (pv 1)) (pv 0)))), ?_⟩
    refine g_start (σ := [some _, some _, some _]) rfl ?_
    try dsimp only [cxOf]
    walk_at "go"
    exact k
theorem sc__law_start : FnScope ["_law_script", "_law_mixed", "_law_cell"] ["_law_script"] (defScope s__law_start) := ⟨rfl, rfl, rfl, by decide +kernel, rfl, by decide +kernel, by decide +kernel⟩
theorem ok_start (T : Txt K mg ec) (D : Fn K mg "_law_start" s__law_start) : Knows P w K mg base 1 "_law_start" ["_law_script"] (sp_start K) := by
  refine Knows.mk' D sc__law_start (fun _ _ _ _ _ _ us hl => match us, hl with | [_], _ => rfl) (fun vs H Q E h => ?_) (fun f cdv A outer s H vs Q E hr h => ?_)
  · obtain ⟨s, ns, rfl, _⟩ := h; rfl
  · obtain ⟨s, ns, rfl, hS, hl, k⟩ := h
    refine ⟨_, (pss_cons (ps_set (i := 1) sc__law_start.nd rfl (Or.inl rfl) pe_int)
    (pss_cons (ps_for passO rfl (pi_list (pv 0)) (pg_name (i := 2) sc__law_start.nd rfl (Or.inl rfl)) (pss_one (ps_set (i := 1) sc__law_start.nd rfl (Or.inl rfl) (pe_op op_mod (pe_op op_add (pe_op op_add (pe_op op_mul (pv 1) pe_int) (pv 2)) pe_int) pe_int))))
    (pss_one (ps_ret (pe_lst (pa_cons (pv 0) (pa_cons pe_int (pa_cons (pv 1) (pa_cons pe_int pa_nil))))))))), ?_⟩
    refine g_start (σ := [some _, none, none]) rfl ?_
    try dsimp only [cxOf]
    walk_at "go"
    refine ⟨⟨_, hS⟩, for_L (K := K) (a := s) (xs := ns.map V.int) (fun i σ H' => H' = H ∧ ∃ (m : Int) (c : Option V), σ = [some (.ref s), some (.int m), c]) ⟨rfl, 1, none, rfl⟩ (fun i σ H' _ h => h.1 ▸ hS) ?_ ?_⟩
    · rintro i y σ H' hi ⟨rfl, m, c, rfl⟩
      obtain ⟨z, hz, _⟩ := int_at hi
      subst hz
      walk_at "go"
      exact ⟨rfl, _, _, rfl⟩
    · rintro σ H' ⟨rfl, m, c, rfl⟩
      walk_at "go"
      intro p hp
      exact k p _ hp (Same.new hp) ⟨ns, 0, m, 0, upd_same, fun o => by rw [upd_upd]; exact (Same.new hp).seq hS, hl, Int.le_refl 0⟩
theorem sc__law_drawn : FnScope ["_law_state", "_law_many", "_law_found", "_law_cell"] ["_law_state", "_law_many"] (defScope s__law_drawn) := ⟨rfl, rfl, rfl, by decide +kernel, rfl, by decide +kernel, by decide +kernel⟩
theorem ok_drawn (T : Txt K mg ec) (D : Fn K mg "_law_drawn" s__law_drawn) : Knows P w K mg base 1 "_law_drawn" ["_law_state", "_law_many"] (sp_drawn K) := by
  refine Knows.mk' D sc__law_drawn (fun _ _ _ _ _ _ us hl => match us, hl with | [_, _], _ => rfl) (fun vs H Q E h => ?_) (fun f cdv A outer s H vs Q E hr h => ?_)
  · obtain ⟨a, sc, n, rfl, _⟩ := h; rfl
  · obtain ⟨a, sc, n, rfl, hD, ⟨hn0, hn1⟩, k⟩ := h
    refine ⟨_, (pss_cons (ps_if (pt_cmpR op_gt (pe_ix ix_list (pv 0) pe_int (fun _ _ => rfl)) pe_int (nomark _)) (pss_cons (ps_set (i := 2) sc__law_drawn.nd rfl (Or.inl rfl) (pe_op op_mod (pe_ix ix_list (pv 0) pe_int (fun _ _ => rfl)) (pv 1)))
    (pss_cons (ps_asg (pe_op op_fdivW (pe_ix ix_list (pv 0) pe_int (fun _ _ => rfl)) (pv 1)) (pg_sub (pv 0) pe_int set_list))
    (pss_one (ps_ret (pv 2))))) pss_nil)
    (pss_cons (ps_asg (pe_op op_add (pe_ix ix_list (pv 0) pe_int (fun _ _ => rfl)) pe_int) (pg_sub (pv 0) pe_int set_list))
    (pss_cons (ps_if (pt_cmpR op_le (pe_ix ix_list (pv 0) pe_int (fun _ _ => rfl)) (pe_callB call_lenN (by rfl) T.len PySem.boot_len (pa_cons (pe_ix ix_list (pv 0) pe_int (fun _ _ => rfl)) pa_nil)) (nomark _)) (pss_cons (ps_set (i := 3) sc__law_drawn.nd rfl (Or.inl rfl) (pe_ix ix_list (pe_ix ix_list (pv 0) pe_int (fun _ _ => rfl)) (pe_op op_sub (pe_ix ix_list (pv 0) pe_int (fun _ _ => rfl)) pe_int) (fun _ _ => rfl)))
    (pss_cons (ps_asg (pe_ifExp (pt_cmpR op_ge (pv 3) (pe_powc (v := 1000000000000000000) ⟨by decide, by decide, by decide⟩ (by decide)) (nomark _)) (pe_op op_fdivW (pv 3) (pv 1)) pe_int) (pg_sub (pv 0) pe_int set_list))
    (pss_one (ps_ret (pe_op op_mod (pv 3) (pv 1)))))) pss_nil)
    (pss_cons (ps_asg (pe_op op_mod (pe_op op_add (pe_op op_mul (pe_ix ix_list (pv 0) pe_int (fun _ _ => rfl)) pe_int) pe_int) pe_int) (pg_sub (pv 0) pe_int set_list))
    (pss_one (ps_ret (pe_op op_mod (pe_op op_fdivW (pe_ix ix_list (pv 0) pe_int (fun _ _ => rfl)) pe_int) (pv 1)))))))), ?_⟩
    refine g_start (σ := [some _, some _, none, none]) rfl ?_
    try dsimp only [cxOf]
    obtain ⟨ns, i, m, l, ha, hS, hl, hi⟩ := hD.ex
    have fin : ∀ i' m' l' : Int, 0 ≤ i' → Go K a sc H (upd H a (.lst [.ref sc, .int i', .int m', .int l'])) := fun i' m' l' h =>
      ⟨⟨ns, i', m', l', upd_same, fun o => by rw [upd_upd]; exact hS o, hl, h⟩, Kp.upd⟩
    walk_at "go"
    refine g_ixL (SqL.of ha) rfl ?_
    walk_at "go"
    refine ite_dec (fun h1 => ?_) (fun h1 => ?_)
    · walk_at "go"
      refine g_ixL (SqL.of ha) rfl ?_
      walk_at "go"
      refine g_ixL (SqL.of ha) rfl ?_
      walk_at "go"
      refine g_set43 ha ?_
      walk_at "go"
      exact k _ _ (Int.emod_nonneg _ (by omega)) (Int.emod_lt_of_pos _ hn0) (fin _ _ _ hi)
    · walk_at "go"
      refine g_ixL (SqL.of ha) rfl ?_
      walk_at "go"
      refine g_set41 ha ?_
      walk_at "go"
      refine g_ixL (SqL.of upd_same) rfl ?_
      walk_at "go"
      refine g_ixL (SqL.of upd_same) rfl ?_
      walk_at "go"
      refine g_lenL (hS _) ?_
      walk_at "go"
      rw [List.length_map]
      refine ite_dec (fun h2 => ?_) (fun h2 => ?_)
      · walk_at "go"
        refine g_ixL (SqL.of upd_same) rfl ?_
        walk_at "go"
        refine g_ixL (SqL.of upd_same) rfl ?_
        walk_at "go"
        refine g_ixAny (hS _) (by omega) (by rw [List.length_map]; omega) (fun v hv => ?_)
        obtain ⟨c, _, rfl⟩ := List.mem_map.mp hv
        walk_at "go"
        refine ite_dec (fun h3 => ?_) (fun h3 => ?_)
        · walk_at "go"
          refine g_set43 upd_same ?_
          rw [upd_upd]
          walk_at "go"
          exact k _ _ (Int.emod_nonneg _ (by omega)) (Int.emod_lt_of_pos _ hn0) (fin _ _ _ (by omega))
        · walk_at "go"
          refine g_set43 upd_same ?_
          rw [upd_upd]
          walk_at "go"
          exact k _ _ (Int.emod_nonneg _ (by omega)) (Int.emod_lt_of_pos _ hn0) (fin _ _ _ (by omega))
      · walk_at "go"
        refine g_ixL (SqL.of upd_same) rfl ?_
        walk_at "go"
        refine g_set42 upd_same ?_
        rw [upd_upd]
        walk_at "go"
        refine g_ixL (SqL.of upd_same) rfl ?_
        walk_at "go"
        exact k _ _ (Int.emod_nonneg _ (by omega)) (Int.emod_lt_of_pos _ hn0) (fin _ _ _ (by omega))
theorem sc__law_wheel : FnScope ["_law_state", "_law_wide"] ["_law_state"] (defScope s__law_wheel) := ⟨rfl, rfl, rfl, by decide +kernel, rfl, by decide +kernel, by decide +kernel⟩
theorem ok_wheel (T : Txt K mg ec) (D : Fn K mg "_law_wheel" s__law_wheel) (c__law_drawn : Knows P w K mg base 1 "_law_drawn" ["_law_state", "_law_many"] (sp_drawn K)) : Knows P w K mg base 2 "_law_wheel" ["_law_state"] (sp_wheel K) := by
  refine Knows.mk' D sc__law_wheel (fun _ _ _ _ _ _ us hl => match us, hl with | [_], _ => rfl) (fun vs H Q E h => ?_) (fun f cdv A outer s H vs Q E hr h => ?_)
  · obtain ⟨a, sc, rfl, _⟩ := h; rfl
  · obtain ⟨a, sc, rfl, hD, k⟩ := h
    refine ⟨_, (pss_cons (ps_set (i := 1) sc__law_wheel.nd rfl (Or.inl rfl) (pe_ix ix_list (pe_lst (pa_cons pe_int (pa_cons pe_int (pa_cons (pe_op op_sub (pe_powc (v := 1000000000000) ⟨by decide, by decide, by decide⟩ (by decide)) pe_int) pa_nil)))) (pe_callN c__law_drawn (hr.mono (by first | decide | omega)) passD (pa_cons (pv 0) (pa_cons pe_int pa_nil))) (fun _ _ => rfl)))
    (pss_cons (ps_if (pt_cmpR op_eq (pe_callN c__law_drawn (hr.mono (by first | decide | omega)) passD (pa_cons (pv 0) (pa_cons pe_int pa_nil))) pe_int (nomark _)) (pss_one (ps_ret (pe_ix ix_list (pe_lst (pa_cons pe_int (pa_cons pe_int (pa_cons pe_int (pa_cons pe_int (pa_cons pe_int (pa_cons (pe_powc (v := 65536) ⟨by decide, by decide, by decide⟩ (by decide)) (pa_cons (pe_powc (v := 4294967296) ⟨by decide, by decide, by decide⟩ (by decide)) (pa_cons (pe_powc (v := 549755813888) ⟨by decide, by decide, by decide⟩ (by decide)) pa_nil))))))))) (pe_callN c__law_drawn (hr.mono (by first | decide | omega)) passD (pa_cons (pv 0) (pa_cons pe_int pa_nil))) (fun _ _ => rfl)))) pss_nil)
    (pss_one (ps_ret (pe_op op_add pe_int (pe_callN c__law_drawn (hr.mono (by first | decide | omega)) passD (pa_cons (pv 0) (pa_cons (pv 1) pa_nil)))))))), ?_⟩
    refine g_start (σ := [some _, none]) rfl ?_
    try dsimp only [cxOf]
    walk_at "go"
    intro p hp
    walk_at "go"
    refine ⟨a, sc, 3, rfl, (by walk_at "dr"), (by decide), fun r1 H1 h0 h1 g1 => ?_⟩
    have hne : p ≠ a := by walk_at "ne"
    refine g_ixAny (SqL.of (by walk_at "hp")) h0 (by simpa using h1) (fun v hv => ?_)
    obtain ⟨z, rfl, hz⟩ := one_int (zs := [6, 60, 1000000000000 - 1]) hv
    have hz2 : 6 ≤ z ∧ z ≤ 999999999999 := by
      simp only [List.mem_cons, List.not_mem_nil, or_false] at hz
      omega
    have g1' := g1.new hp
    walk_at "go"
    refine ⟨a, sc, 4, rfl, (by walk_at "dr"), (by decide), fun r2 H2 h0 h1 g2 => ?_⟩
    walk_at "go"
    refine ite_dec (fun h2 => ?_) (fun h2 => ?_)
    · walk_at "go"
      intro q hq
      walk_at "go"
      refine ⟨a, sc, 8, rfl, (by walk_at "dr"), (by decide), fun r3 H3 h0 h1 g3 => ?_⟩
      have hne : q ≠ a := by walk_at "ne"
      refine g_ixAny (SqL.of (by walk_at "hp")) h0 (by simpa using h1) (fun v hv => ?_)
      obtain ⟨z, rfl, hz⟩ := one_int (zs := [2, 4, 8, 64, 256, 65536, 4294967296, 549755813888]) hv
      simp only [List.mem_cons, List.not_mem_nil, or_false] at hz
      exact k _ _ (by show 2 ≤ z ∧ z ≤ 1000000000000; omega) ((g1'.trans g2).trans (g3.new hq))
    · walk_at "go"
      refine ⟨a, sc, z, rfl, (by walk_at "dr"), (by omega), fun r3 H3 h0 h1 g3 => ?_⟩
      walk_at "go"
      exact k _ _ (by show 2 ≤ 2 + r3 ∧ 2 + r3 ≤ 1000000000000; omega) ((g1'.trans g2).trans g3)
end
end My
namespace My
open PySem PySem.Spec PyProof.Rows L2
section
variable {P : Program} {w : World} {K : PySem.W.Frag} {mg : Str → Option Value} {base : Heap} {ec : Ec}
theorem sc__law_same : FnScope ["_law_found", "_law_due", "_law_k"] ["_law_found", "_law_due"] (defScope s__law_same) := ⟨rfl, rfl, rfl, by decide +kernel, rfl, by decide +kernel, by decide +kernel⟩
theorem same_step (T : Txt K mg ec) (D : Fn K mg "_law_same" s__law_same) (d : Nat) (c__law_same : Knows P w K mg base d "_law_same" ["_law_found", "_law_due"] (sp_samep d)) : Knows P w K mg base (d + 1) "_law_same" ["_law_found", "_law_due"] (sp_same d) := by
  refine Knows.mk' D sc__law_same (fun _ _ _ _ _ _ us hl => match us, hl with | [_, _], _ => rfl) (fun vs H Q E h => ?_) (fun f cdv A outer s H vs Q E hr h => ?_)
  · obtain ⟨x, y, rfl, _⟩ := h; rfl
  · obtain ⟨x, y, rfl, hsd, k⟩ := h
    refine ⟨_, (pss_cons (ps_if (pt_val (pe_callB call_isiT (by rfl) T.isinstance (by decide +kernel) (pa_cons (pv 1) (pa_cons (pe_tup (pa_cons (pe_bltn (v := .ty "tuple") (u := .type "tuple") (by rfl) T.tuple (by decide +kernel) rfl) (pa_cons (pe_bltn (v := .ty "list") (u := .type "list") (by rfl) T.list (by decide +kernel) rfl) pa_nil))) pa_nil))) (by intro _; rfl)) (pss_cons (ps_if (PW.pt (pw_or (pt_not (pt_val (pe_callB call_isiT (by rfl) T.isinstance (by decide +kernel) (pa_cons (pv 0) (pa_cons (pe_tup (pa_cons (pe_bltn (v := .ty "tuple") (u := .type "tuple") (by rfl) T.tuple (by decide +kernel) rfl) (pa_cons (pe_bltn (v := .ty "list") (u := .type "list") (by rfl) T.list (by decide +kernel) rfl) pa_nil))) pa_nil))) (by intro _; rfl))) (pw_or1 (pt_cmpR op_ne (pe_callB call_isi (by rfl) T.isinstance (by decide +kernel) (pa_cons (pv 0) (pa_cons (pe_bltn (v := .ty "list") (u := .type "list") (by rfl) T.list (by decide +kernel) rfl) pa_nil))) (pe_callB call_isi (by rfl) T.isinstance (by decide +kernel) (pa_cons (pv 1) (pa_cons (pe_bltn (v := .ty "list") (u := .type "list") (by rfl) T.list (by decide +kernel) rfl) pa_nil))) (nomark _))))) (pss_one (ps_ret pe_bl)) pss_nil)
    (pss_cons (ps_if (pt_cmpR op_ne (pe_callB call_lenN (by rfl) T.len PySem.boot_len (pa_cons (pv 0) pa_nil)) (pe_callB call_lenN (by rfl) T.len PySem.boot_len (pa_cons (pv 1) pa_nil)) (nomark _)) (pss_one (ps_ret pe_bl)) pss_nil)
    (pss_one (ps_ret (pe_cmpR (op_eqD hr.units) (pe_lc (own := [("_law_k", 2)]) (g := gName 2) rfl sc__law_same.nd (pi_range1 (by rfl) T.range (pa_cons (pe_callB call_lenN (by rfl) T.len PySem.boot_len (pa_cons (pv 1) pa_nil)) pa_nil)) (blkOk_by (own := [("_law_k", 2)]) (N := ["_law_found", "_law_due", "_law_k"]) (sc := defScope s__law_same) (by decide +kernel)) (fun _ _ _ _ _ => (pg_name (i := 2) sc__law_same.nd rfl (Or.inl rfl))) (fun _ _ _ _ _ => (pts_one (pt_not (pt_val (pe_callN c__law_same (hr.mono (by first | decide | omega)) passL (pa_cons (pe_ix (r := rIx K) ix_seq (pv 0) (pv 2) (fun _ _ => rfl)) (pa_cons (pe_ix (r := rIx K) ix_seq (pv 1) (pv 2) (fun _ _ => rfl)) pa_nil))) (by intro _; rfl))))) (fun _ _ _ _ _ => (pv 2))) (pe_lst pa_nil) (nomark _)))))) pss_nil)
    (pss_cons (ps_if (pt_cmpR op_isNN (pv 1) pe_non (nomark _)) (pss_one (ps_ret (pe_cmpR op_isNN (pv 0) pe_non (nomark _)))) pss_nil)
    (pss_cons (ps_if (pt_val (pe_callB call_isi (by rfl) T.isinstance (by decide +kernel) (pa_cons (pv 1) (pa_cons (pe_bltn (v := .ty "str") (u := .type "str") (by rfl) T.str (by decide +kernel) rfl) pa_nil))) (by intro _; rfl)) (pss_one (ps_ret (pe_and (pe_callB call_isi (by rfl) T.isinstance (by decide +kernel) (pa_cons (pv 0) (pa_cons (pe_bltn (v := .ty "str") (u := .type "str") (by rfl) T.str (by decide +kernel) rfl) pa_nil))) (pe_one (pe_cmpR op_eq (pv 0) (pv 1) (nomark _)))))) pss_nil)
    (pss_cons (ps_if (PW.pt (pw_or (pt_val (pe_callB call_isi (by rfl) T.isinstance (by decide +kernel) (pa_cons (pv 1) (pa_cons (pe_bltn (v := .ty "bool") (u := .type "bool") (by rfl) T.bool (by decide +kernel) rfl) pa_nil))) (by intro _; rfl)) (pw_or1 (pt_val (pe_callB call_isi (by rfl) T.isinstance (by decide +kernel) (pa_cons (pv 0) (pa_cons (pe_bltn (v := .ty "bool") (u := .type "bool") (by rfl) T.bool (by decide +kernel) rfl) pa_nil))) (by intro _; rfl))))) (pss_one (ps_ret (pe_and (pe_callB call_isi (by rfl) T.isinstance (by decide +kernel) (pa_cons (pv 1) (pa_cons (pe_bltn (v := .ty "bool") (u := .type "bool") (by rfl) T.bool (by decide +kernel) rfl) pa_nil))) (pe_and (pe_callB call_isi (by rfl) T.isinstance (by decide +kernel) (pa_cons (pv 0) (pa_cons (pe_bltn (v := .ty "bool") (u := .type "bool") (by rfl) T.bool (by decide +kernel) rfl) pa_nil))) (pe_one (pe_cmpR op_eq (pv 0) (pv 1) (nomark _))))))) pss_nil)
    (pss_one (ps_ret (pe_and (pe_callB call_isi (by rfl) T.isinstance (by decide +kernel) (pa_cons (pv 0) (pa_cons (pe_bltn (v := .ty "int") (u := .type "int") (by rfl) T.int (by decide +kernel) rfl) pa_nil))) (pe_one (pe_cmpR op_eq (pv 0) (pv 1) (nomark _)))))))))), ?_⟩
    refine g_start (σ := [some _, some _, none]) rfl ?_
    try dsimp only [cxOf]
    walk_at "go"
    intro tp htp
    have e1 : Same H (upd H tp (.tup [.ty "tuple", .ty "list"])) := Same.new htp
    walk_at "go"
    cases hsd with
    | non =>
      refine g_isiTL (.base .non) upd_same (r1 := false) (r2 := false) (r := false) (by decide +kernel) (by decide +kernel) rfl ?_
      walk_at "go"
      refine ite_dec (fun _ => ?_) (fun z => (z rfl).elim)
      walk_at "go"
      rw [decide_eq_true rfl]
      exact k _ e1
    | str z =>
      refine g_isiTL (.base (.str z)) upd_same (r1 := false) (r2 := false) (r := false) (by decide +kernel) (by decide +kernel) rfl ?_
      walk_at "go"
      refine ite_dec (fun z => nomatch z) (fun _ => ?_)
      walk_at "go"
      refine g_isi (.base (.str z)) (r := true) (by decide +kernel) ?_
      walk_at "go"
      refine g_isi (.base (.str z)) (r := true) (by decide +kernel) ?_
      walk_at "go"
      rw [decide_eq_true rfl]
      exact k _ e1
    | bl z =>
      refine g_isiTL (.base (.bl z)) upd_same (r1 := false) (r2 := false) (r := false) (by decide +kernel) (by decide +kernel) rfl ?_
      walk_at "go"
      refine ite_dec (fun z => nomatch z) (fun _ => ?_)
      walk_at "go"
      refine g_isi (.base (.bl z)) (r := false) (by decide +kernel) ?_
      walk_at "go"
      refine g_isi (.base (.bl z)) (r := true) (by decide +kernel) ?_
      walk_at "go"
      refine g_isi (.base (.bl z)) (r := true) (by decide +kernel) ?_
      walk_at "go"
      refine g_isi (.base (.bl z)) (r := true) (by decide +kernel) ?_
      walk_at "go"
      rw [decide_eq_true rfl]
      exact k _ e1
    | int z =>
      refine g_isiTL (.base (.int z)) upd_same (r1 := false) (r2 := false) (r := false) (by decide +kernel) (by decide +kernel) rfl ?_
      walk_at "go"
      refine ite_dec (fun z => nomatch z) (fun _ => ?_)
      walk_at "go"
      refine g_isi (.base (.int z)) (r := false) (by decide +kernel) ?_
      walk_at "go"
      refine g_isi (.base (.int z)) (r := false) (by decide +kernel) ?_
      walk_at "go"
      refine g_isi (.base (.int z)) (r := false) (by decide +kernel) ?_
      walk_at "go"
      refine g_isi (.base (.int z)) (r := true) (by decide +kernel) ?_
      walk_at "go"
      rw [decide_eq_true rfl]
      exact k _ e1
    | @lst d a b xs ys h1 h2 hl hz hi =>
      refine g_isiTL (.base (.lst (e1 _ _ h2))) upd_same (r1 := false) (r2 := true) (r := true) (by decide +kernel) (by decide +kernel) rfl ?_
      walk_at "go"
      intro tq htq
      have e2 := e1.trans (Same.new (o := .tup [.ty "tuple", .ty "list"]) htq)
      walk_at "go"
      refine g_isiTL (.base (.lst (e2 _ _ h1))) upd_same (r1 := false) (r2 := true) (r := true) (by decide +kernel) (by decide +kernel) rfl ?_
      walk_at "go"
      refine g_isi (.base (.lst (e2 _ _ h1))) (r := true) (by decide +kernel) ?_
      walk_at "go"
      refine g_isi (.base (.lst (e2 _ _ h2))) (r := true) (by decide +kernel) ?_
      walk_at "go"
      refine ite_ndec (fun z => (z rfl).elim) (fun _ => ?_)
      walk_at "go"
      refine g_lenL (SqL.of (e2 _ _ h1)) ?_
      walk_at "go"
      refine g_lenL (SqL.of (e2 _ _ h2)) ?_
      walk_at "go"
      rw [hl]
      refine ite_ndec (fun z => (z rfl).elim) (fun _ => ?_)
      walk_at "go"
      refine g_lenL (SqL.of (e2 _ _ h2)) ?_
      walk_at "go"
      refine ⟨by omega, by omega, fun L hL => lc_R 0 _ (fun i acc H' => acc = [] ∧ Same H H' ∧ Same (upd (upd H tp (.tup [.ty "tuple", .ty "list"])) tq (.tup [.ty "tuple", .ty "list"])) H') (fun i acc H' o h => ⟨h.1, Same.mut h.2.1 (e2.free hL), Same.mut h.2.2 hL⟩) ⟨rfl, e2, Same.refl _⟩ ?_ ?_⟩
      · rintro i acc H3 hil ⟨rfl, e3, e3'⟩ hDl hal
        walk_at "wp"
        walk_at "go"
        refine ⟨rfl, ?_⟩
        walk_at "go"
        have hil2 : i < ys.length := by omega
        have hil1 : i < xs.length := by omega
        refine Or.inl (g_ixL (v := xs[i]) (SqL.of (e3 _ _ h1)) (by rw [Int.zero_add]; exact atI_nat (List.getElem?_eq_getElem hil1)) ?_)
        walk_at "go"
        refine Or.inl (g_ixL (v := ys[i]) (SqL.of (e3 _ _ h2)) (by rw [Int.zero_add]; exact atI_nat (List.getElem?_eq_getElem hil2)) ?_)
        walk_at "go"
        refine ⟨_, _, rfl, (hi i _ _ (List.getElem?_eq_getElem hil1) (List.getElem?_eq_getElem hil2)).same e3, fun H4 e4 => ?_⟩
        walk_at "go"
        exact lc_skip (e4 _ _ hDl) hal ⟨rfl, e3.trans e4, e3'.trans e4⟩
      · rintro acc H3 ⟨rfl, e3, _⟩ hDl
        walk_at "go"
        intro z hz
        refine g_eqInts (ns := []) (ms := []) (SqL.of (by walk_at "hp")) (SqL.of upd_same) ?_
        rw [decide_eq_true rfl]
        exact k _ (e3.trans (Same.new hz))
    | @tup d a b xs ys h1 h2 hl hz hi =>
      refine g_isiTL (.base (.tup (e1 _ _ h2))) upd_same (r1 := true) (r2 := false) (r := true) (by decide +kernel) (by decide +kernel) rfl ?_
      walk_at "go"
      intro tq htq
      have e2 := e1.trans (Same.new (o := .tup [.ty "tuple", .ty "list"]) htq)
      walk_at "go"
      refine g_isiTL (.base (.tup (e2 _ _ h1))) upd_same (r1 := true) (r2 := false) (r := true) (by decide +kernel) (by decide +kernel) rfl ?_
      walk_at "go"
      refine g_isi (.base (.tup (e2 _ _ h1))) (r := false) (by decide +kernel) ?_
      walk_at "go"
      refine g_isi (.base (.tup (e2 _ _ h2))) (r := false) (by decide +kernel) ?_
      walk_at "go"
      refine ite_ndec (fun z => (z rfl).elim) (fun _ => ?_)
      walk_at "go"
      refine g_lenT (SqT.of (e2 _ _ h1)) ?_
      walk_at "go"
      refine g_lenT (SqT.of (e2 _ _ h2)) ?_
      walk_at "go"
      rw [hl]
      refine ite_ndec (fun z => (z rfl).elim) (fun _ => ?_)
      walk_at "go"
      refine g_lenT (SqT.of (e2 _ _ h2)) ?_
      walk_at "go"
      refine ⟨by omega, by omega, fun L hL => lc_R 0 _ (fun i acc H' => acc = [] ∧ Same H H' ∧ Same (upd (upd H tp (.tup [.ty "tuple", .ty "list"])) tq (.tup [.ty "tuple", .ty "list"])) H') (fun i acc H' o h => ⟨h.1, Same.mut h.2.1 (e2.free hL), Same.mut h.2.2 hL⟩) ⟨rfl, e2, Same.refl _⟩ ?_ ?_⟩
      · rintro i acc H3 hil ⟨rfl, e3, e3'⟩ hDl hal
        walk_at "wp"
        walk_at "go"
        refine ⟨rfl, ?_⟩
        walk_at "go"
        have hil2 : i < ys.length := by omega
        have hil1 : i < xs.length := by omega
        refine Or.inr (Or.inl (g_ixT (v := xs[i]) (SqT.of (e3 _ _ h1)) (by rw [Int.zero_add]; exact atI_nat (List.getElem?_eq_getElem hil1)) ?_))
        walk_at "go"
        refine Or.inr (Or.inl (g_ixT (v := ys[i]) (SqT.of (e3 _ _ h2)) (by rw [Int.zero_add]; exact atI_nat (List.getElem?_eq_getElem hil2)) ?_))
        walk_at "go"
        refine ⟨_, _, rfl, (hi i _ _ (List.getElem?_eq_getElem hil1) (List.getElem?_eq_getElem hil2)).same e3, fun H4 e4 => ?_⟩
        walk_at "go"
        exact lc_skip (e4 _ _ hDl) hal ⟨rfl, e3.trans e4, e3'.trans e4⟩
      · rintro acc H3 ⟨rfl, e3, _⟩ hDl
        walk_at "go"
        intro z hz
        refine g_eqInts (ns := []) (ms := []) (SqL.of (by walk_at "hp")) (SqL.of upd_same) ?_
        rw [decide_eq_true rfl]
        exact k _ (e3.trans (Same.new hz))
theorem ok_same0 (T : Txt K mg ec) (D : Fn K mg "_law_same" s__law_same) : Knows P w K mg base 1 "_law_same" ["_law_found", "_law_due"] (sp_same 0) := same_step T D 0 (knows_false D (fun _ _ _ _ _ _ us hl => match us, hl with | [_, _], _ => rfl))
theorem ok_same1 (T : Txt K mg ec) (D : Fn K mg "_law_same" s__law_same) : Knows P w K mg base 2 "_law_same" ["_law_found", "_law_due"] (sp_same 1) := same_step T D 1 (ok_same0 T D)
end
end My
namespace My
open PySem PySem.Spec PyProof.Rows L2
/-! ### promises: order, rings -/
def far (n i j : Int) : Int := (j - i) % n
def ordS (n i j : Int) : Str := if 2 * far n i j = 0 then "same" else if 2 * far n i j = n then "opposite" else if 2 * far n i j < n then "ahead" else "behind"
def sp_order_of : Sp := fun vs H Q _ => ∃ n i j : Int, vs = [.int n, .int i, .int j] ∧ Wh n ∧ Q (.str (ordS n i j)) H
/-- i is ahead of j -/
abbrev Ah (n i j : Int) : Prop := 0 < far n i j ∧ 2 * far n i j < n
theorem ordS_ahead {n i j : Int} (h : Wh n) : (ordS n i j = "ahead") ↔ Ah n i j := by
  have hn : 0 < n := by have := h.1; omega
  have h0 : 0 ≤ far n i j := Int.emod_nonneg _ (by omega)
  unfold ordS
  by_cases a : 2 * far n i j = 0
  · rw [if_pos a]
    exact ⟨fun z => absurd z (by decide), fun z => by have := z.1; omega⟩
  · rw [if_neg a]
    by_cases b : 2 * far n i j = n
    · rw [if_pos b]
      exact ⟨fun z => absurd z (by decide), fun z => by have := z.2; omega⟩
    · rw [if_neg b]
      by_cases c : 2 * far n i j < n
      · rw [if_pos c]
        exact ⟨fun _ => ⟨by omega, c⟩, fun _ => rfl⟩
      · rw [if_neg c]
        exact ⟨fun z => absurd z (by decide), fun z => absurd z.2 c⟩
theorem ordS_ok (n i j : Int) : PyData.strOk (ordS n i j) = true := by
  unfold ordS
  split
  · decide +kernel
  · split
    · decide +kernel
    · split <;> decide +kernel
def RowOk (n : Int) (ns : List Int) : Prop := ns.length ≤ 60 ∧ ∀ x ∈ ns, Se n x
def sp_need_row (K : PySem.W.Frag) (ec : Ec) : Sp := fun vs H Q E => ∃ (n : Int) (a : Addr) (ns : List Int), vs = [.int n, .ref a] ∧ SqL K H a (ns.map V.int) ∧ (RowOk n ns → Q .non H) ∧ (¬ RowOk n ns → E (.ref ec.BadSeen) none H)
def Rg (n i j k : Int) : Prop := Ah n i j ∧ Ah n j k ∧ Ah n k i
instance {n i j k : Int} : Decidable (Rg n i j k) := inferInstanceAs (Decidable (_ ∧ _ ∧ _))
def sp_goes_round : Sp := fun vs H Q _ => ∃ n i j k : Int, vs = [.int n, .int i, .int j, .int k] ∧ Wh n ∧ ∀ H', Same H H' → Q (.bl (decide (Rg n i j k))) H'
/-- the place with the number m, three places below L -/
def rgAt (n : Int) (ns : List Int) (m : Nat) : Prop := Rg n (ns.getD (m / (ns.length * ns.length)) 0) (ns.getD (m / ns.length % ns.length) 0) (ns.getD (m % ns.length) 0)
def threeV (L m : Nat) : List V := [.int ((m / (L * L) : Nat) : Int), .int ((m / L % L : Nat) : Int), .int ((m % L : Nat) : Int)]
def FirstR (n : Int) (ns : List Int) (m : Nat) : Prop := m < ns.length * ns.length * ns.length ∧ rgAt n ns m ∧ ∀ m' < m, ¬ rgAt n ns m'
def NoR (n : Int) (ns : List Int) : Prop := ∀ m < ns.length * ns.length * ns.length, ¬ rgAt n ns m
def sp_ring (K : PySem.W.Frag) (ec : Ec) : Sp := fun vs H Q E => ∃ (n : Int) (a : Addr) (ns : List Int), vs = [.int n, .ref a] ∧ SqL K H a (ns.map V.int) ∧
  (Wh n → RowOk n ns → ∀ m, FirstR n ns m → ∀ p H', Same H H' → H p = none → H' p = some (.tup (threeV ns.length m)) → Q (.ref p) H') ∧ (Wh n → RowOk n ns → NoR n ns → ∀ H', Same H H' → Q .non H') ∧
  (¬ Wh n → E (.ref ec.BadWheel) none H) ∧ (Wh n → ¬ RowOk n ns → E (.ref ec.BadSeen) none H)
theorem three_div {L i j k : Nat} (hj : j < L) (hk : k < L) : ((i * L + j) * L + k) / (L * L) = i ∧ ((i * L + j) * L + k) / L % L = j ∧ ((i * L + j) * L + k) % L = k := by
  have hL : 0 < L := by omega
  have h1 : ((i * L + j) * L + k) / L = i * L + j := by
    rw [Nat.mul_comm, Nat.mul_add_div hL, Nat.div_eq_of_lt hk, Nat.add_zero]
  refine ⟨?_, ?_, ?_⟩
  · rw [← Nat.div_div_eq_div_mul, h1, Nat.mul_comm, Nat.mul_add_div hL, Nat.div_eq_of_lt hj, Nat.add_zero]
  · rw [h1, Nat.mul_comm, Nat.mul_add_mod, Nat.mod_eq_of_lt hj]
  · rw [Nat.mul_comm, Nat.mul_add_mod, Nat.mod_eq_of_lt hk]
end My
namespace My
open PySem PySem.Spec PyProof.Rows L2
section
variable {P : Program} {w : World} {K : PySem.W.Frag} {mg : Str → Option Value} {base : Heap} {ec : Ec}
theorem sc_order_of : FnScope ["wheel", "one", "other", "far"] ["wheel", "one", "other"] (defScope s_order_of) := ⟨rfl, rfl, rfl, by decide +kernel, rfl, by decide +kernel, by decide +kernel⟩
theorem ok_order_of (T : Txt K mg ec) (D : Fn K mg "order_of" s_order_of) (c_since_of : Knows P w K mg base 1 "since_of" ["wheel", "one", "other"] sp_since_of) : Knows P w K mg base 2 "order_of" ["wheel", "one", "other"] sp_order_of := by
  refine Knows.mk' D sc_order_of (fun _ _ _ _ _ _ us hl => match us, hl with | [_, _, _], _ => rfl) (fun vs H Q E h => ?_) (fun f cdv A outer s H vs Q E hr h => ?_)
  · obtain ⟨n, i, j, rfl, _⟩ := h; rfl
  · obtain ⟨n, i, j, rfl, hw, k⟩ := h
    have hn : 0 < n := by have := hw.1; omega
    refine ⟨_, (pss_cons (ps_set (i := 3) sc_order_of.nd rfl (Or.inl rfl) (pe_op op_mul pe_int (pe_callN c_since_of (hr.mono (by first | decide | omega)) passD (pa_cons (pv 0) (pa_cons (pv 1) (pa_cons (pv 2) pa_nil))))))
    (pss_cons (ps_if (pt_cmpR op_eq (pv 3) pe_int (nomark _)) (pss_one (ps_ret pe_str)) pss_nil)
    (pss_cons (ps_if (pt_cmpR op_eq (pv 3) (pv 0) (nomark _)) (pss_one (ps_ret pe_str)) pss_nil)
    (pss_one (ps_ret (pe_ifExp (pt_cmpR op_lt (pv 3) (pv 0) (nomark _)) pe_str pe_str)))))), ?_⟩
    refine g_start (σ := [some _, some _, some _, none]) rfl ?_
    try dsimp only [cxOf]
    walk_at "go"
    refine ⟨n, i, j, rfl, hn, ?_⟩
    walk_at "go"
    have h0 : 0 ≤ (j - i) % n := Int.emod_nonneg _ (by omega)
    unfold ordS far at k
    refine ite_dec (fun h1 => ?_) (fun h1 => ?_)
    · walk_at "go"
      rw [if_pos (V.int.inj h1)] at k
      exact k
    · rw [if_neg (fun z => h1 (congrArg V.int z))] at k
      walk_at "go"
      refine ite_dec (fun h2 => ?_) (fun h2 => ?_)
      · walk_at "go"
        rw [if_pos (V.int.inj h2)] at k
        exact k
      · rw [if_neg (fun z => h2 (congrArg V.int z))] at k
        walk_at "go"
        refine ite_dec (fun h3 => ?_) (fun h3 => ?_)
        · walk_at "go"
          rw [if_pos h3] at k
          exact k
        · walk_at "go"
          rw [if_neg h3] at k
          exact k
theorem sc_need_row : FnScope ["wheel", "seen", "one"] ["wheel", "seen"] (defScope s_need_row) := ⟨rfl, rfl, rfl, by decide +kernel, rfl, by decide +kernel, by decide +kernel⟩
theorem ok_need_row (T : Txt K mg ec) (D : Fn K mg "need_row" s_need_row) (c_need_seen : Knows P w K mg base 1 "need_seen" ["wheel", "seen"] (sp_need_seen ec)) : Knows P w K mg base 2 "need_row" ["wheel", "seen"] (sp_need_row K ec) := by
  refine Knows.mk' D sc_need_row (fun _ _ _ _ _ _ us hl => match us, hl with | [_, _], _ => rfl) (fun vs H Q E h => ?_) (fun f cdv A outer s H vs Q E hr h => ?_)
  · obtain ⟨n, a, ns, rfl, _⟩ := h; rfl
  · obtain ⟨n, a, ns, rfl, hS, k1, k2⟩ := h
    refine ⟨_, (pss_cons (ps_if (pt_cmpR op_gt (pe_callB call_lenN (by rfl) T.len PySem.boot_len (pa_cons (pv 1) pa_nil)) (pe_gl T.g_MOST_SEEN) (nomark _)) (pss_one (ps_raiseN T.x_BadSeen)) pss_nil)
    (pss_one (ps_for passO rfl (pi_list (pv 1)) (pg_name (i := 2) sc_need_row.nd rfl (Or.inl rfl)) (pss_one (ps_expr (pe_callN c_need_seen (hr.mono (by first | decide | omega)) passD (pa_cons (pv 0) (pa_cons (pv 2) pa_nil)))))))), ?_⟩
    refine g_start (σ := [some _, some _, none]) rfl ?_
    try dsimp only [cxOf]
    walk_at "go"
    refine g_lenL hS ?_
    walk_at "go"
    rw [List.length_map]
    refine ite_dec (fun h1 => ?_) (fun h1 => ?_)
    · exact k2 fun z => by have := z.1; omega
    · walk_at "go"
      refine ⟨⟨_, hS⟩, for_L (K := K) (a := a) (xs := ns.map V.int) (fun i σ H' => H' = H ∧ (∃ v, σ = [some (.int n), some (.ref a), v]) ∧ ∀ j x, j < i → ns[j]? = some x → Se n x) ⟨rfl, ⟨_, rfl⟩, fun j x h => absurd h (Nat.not_lt_zero _)⟩ (fun i σ H' _ h => h.1 ▸ hS) ?_ ?_⟩
      · rintro i y σ H' hi ⟨rfl, ⟨v, rfl⟩, hno⟩
        obtain ⟨x, rfl, hx⟩ := int_at hi
        walk_at "go"
        refine ⟨n, x, rfl, fun hs => ?_, fun hs => k2 fun z => hs (z.2 x (List.mem_of_getElem? hx))⟩
        walk_at "go"
        refine ⟨rfl, ⟨_, rfl⟩, fun j z hj hz => ?_⟩
        by_cases hji : j = i
        · subst hji
          rw [hx] at hz
          cases hz
          exact hs
        · exact hno j z (by omega) hz
      · rintro σ H' ⟨rfl, ⟨v, rfl⟩, hno⟩
        walk_at "go"
        refine k1 ⟨by omega, fun x hx => ?_⟩
        obtain ⟨j, hj⟩ := List.getElem?_of_mem hx
        exact hno j x (by rw [List.length_map]; exact (List.getElem?_eq_some_iff.mp hj).1) hj
theorem sc_goes_round : FnScope ["wheel", "one", "other", "last", "words"] ["wheel", "one", "other", "last"] (defScope s_goes_round) := ⟨rfl, rfl, rfl, by decide +kernel, rfl, by decide +kernel, by decide +kernel⟩
theorem ok_goes_round (T : Txt K mg ec) (D : Fn K mg "goes_round" s_goes_round) (c_order_of : Knows P w K mg base 2 "order_of" ["wheel", "one", "other"] sp_order_of) : Knows P w K mg base 3 "goes_round" ["wheel", "one", "other", "last"] sp_goes_round := by
  refine Knows.mk' D sc_goes_round (fun _ _ _ _ _ _ us hl => match us, hl with | [_, _, _, _], _ => rfl) (fun vs H Q E h => ?_) (fun f cdv A outer s H vs Q E hr h => ?_)
  · obtain ⟨n, i, j, l, rfl, _⟩ := h; rfl
  · obtain ⟨n, i, j, l, rfl, hw, k⟩ := h
    refine ⟨_, (pss_cons (ps_set (i := 4) sc_goes_round.nd rfl (Or.inl rfl) (pe_lst (pa_cons (pe_callN c_order_of (hr.mono (by first | decide | omega)) passD (pa_cons (pv 0) (pa_cons (pv 1) (pa_cons (pv 2) pa_nil)))) (pa_cons (pe_callN c_order_of (hr.mono (by first | decide | omega)) passD (pa_cons (pv 0) (pa_cons (pv 2) (pa_cons (pv 3) pa_nil)))) (pa_cons (pe_callN c_order_of (hr.mono (by first | decide | omega)) passD (pa_cons (pv 0) (pa_cons (pv 3) (pa_cons (pv 1) pa_nil)))) pa_nil)))))
    (pss_one (ps_ret (pe_cmpR (op_eqD hr.units) (pv 4) (pe_lst (pa_cons pe_str (pa_cons pe_str (pa_cons pe_str pa_nil)))) (nomark _))))), ?_⟩
    refine g_start (σ := [some _, some _, some _, some _, none]) rfl ?_
    try dsimp only [cxOf]
    walk_at "go"
    refine ⟨n, i, j, rfl, hw, ?_⟩
    walk_at "go"
    refine ⟨n, j, l, rfl, hw, ?_⟩
    walk_at "go"
    refine ⟨n, l, i, rfl, hw, ?_⟩
    walk_at "go"
    intro p hp
    walk_at "go"
    intro q hq
    refine g_eqStrs (ns := [ordS n i j, ordS n j l, ordS n l i]) (ms := ["ahead", "ahead", "ahead"]) (SqL.of (by walk_at "hp")) (SqL.of upd_same) (by simp only [List.all_cons, ordS_ok, List.all_nil]; rfl) (by decide +kernel) ?_
    have e : decide ([ordS n i j, ordS n j l, ordS n l i] = (["ahead", "ahead", "ahead"] : List Str)) = decide (Rg n i j l) := by
      refine decide_eq_decide.mpr ?_
      unfold Rg
      rw [← ordS_ahead hw, ← ordS_ahead hw, ← ordS_ahead hw]
      simp
    rw [e]
    exact k _ ((Same.new hp).trans (Same.new hq))
theorem sc_ring : FnScope ["wheel", "seen", "one", "other", "last"] ["wheel", "seen"] (defScope s_ring) := ⟨rfl, rfl, rfl, by decide +kernel, rfl, by decide +kernel, by decide +kernel⟩
theorem ok_ring (T : Txt K mg ec) (D : Fn K mg "ring" s_ring) (c_need_wheel : Knows P w K mg base 2 "need_wheel" ["wheel"] (sp_need_wheel ec)) (c_need_row : Knows P w K mg base 2 "need_row" ["wheel", "seen"] (sp_need_row K ec))
    (c_goes_round : Knows P w K mg base 3 "goes_round" ["wheel", "one", "other", "last"] sp_goes_round) : Knows P w K mg base 4 "ring" ["wheel", "seen"] (sp_ring K ec) := by
  refine Knows.mk' D sc_ring (fun _ _ _ _ _ _ us hl => match us, hl with | [_, _], _ => rfl) (fun vs H Q E h => ?_) (fun f cdv A outer s H vs Q E hr h => ?_)
  · obtain ⟨n, a, ns, rfl, _⟩ := h; rfl
  · obtain ⟨n, a, ns, rfl, hS, k1, k2, k3, k4⟩ := h
    refine ⟨_, (pss_cons (ps_expr (pe_callN c_need_wheel (hr.mono (by first | decide | omega)) passD (pa_cons (pv 0) pa_nil)))
    (pss_cons (ps_expr (pe_callN c_need_row (hr.mono (by first | decide | omega)) passD (pa_cons (pv 0) (pa_cons (pv 1) pa_nil))))
    (pss_cons (ps_for passO rfl (pi_range1 (by rfl) T.range (pa_cons (pe_callB call_lenN (by rfl) T.len PySem.boot_len (pa_cons (pv 1) pa_nil)) pa_nil)) (pg_name (i := 2) sc_ring.nd rfl (Or.inl rfl)) (pss_one (ps_for passO rfl (pi_range1 (by rfl) T.range (pa_cons (pe_callB call_lenN (by rfl) T.len PySem.boot_len (pa_cons (pv 1) pa_nil)) pa_nil)) (pg_name (i := 3) sc_ring.nd rfl (Or.inl rfl)) (pss_one (ps_for passO rfl (pi_range1 (by rfl) T.range (pa_cons (pe_callB call_lenN (by rfl) T.len PySem.boot_len (pa_cons (pv 1) pa_nil)) pa_nil)) (pg_name (i := 4) sc_ring.nd rfl (Or.inl rfl)) (pss_one (ps_if (pt_val (pe_callN c_goes_round (hr.mono (by first | decide | omega)) passD (pa_cons (pv 0) (pa_cons (pe_ix ix_list (pv 1) (pv 2) (fun _ _ => rfl)) (pa_cons (pe_ix ix_list (pv 1) (pv 3) (fun _ _ => rfl)) (pa_cons (pe_ix ix_list (pv 1) (pv 4) (fun _ _ => rfl)) pa_nil))))) (by intro _; rfl)) (pss_one (ps_ret (pe_tup (pa_cons (pv 2) (pa_cons (pv 3) (pa_cons (pv 4) pa_nil)))))) pss_nil)))))))
    (pss_one (ps_ret pe_non))))), ?_⟩
    refine g_start (σ := [some _, some _, none, none, none]) rfl ?_
    try dsimp only [cxOf]
    walk_at "go"
    refine ⟨n, rfl, fun hw => ?_, k3⟩
    walk_at "go"
    refine ⟨n, a, ns, rfl, hS, fun hrow => ?_, k4 hw⟩
    have hlen := hrow.1
    walk_at "go"
    refine g_lenL hS ?_
    walk_at "go"
    rw [List.length_map]
    have atj : ∀ j : Nat, j < ns.length → atI (ns.map V.int) (0 + (j : Int)) = some (.int (ns.getD j 0)) := fun j hj => by
      rw [Int.zero_add]
      refine atI_nat ?_
      rw [List.getElem?_map, List.getElem?_eq_getElem hj, List.getD_eq_getElem?_getD, List.getElem?_eq_getElem hj]
      rfl
    refine ⟨by omega, by omega, for_R (fun i σ H' => Same H H' ∧ (∃ v2 v3 v4, σ = [some (.int n), some (.ref a), v2, v3, v4]) ∧ ∀ m, m < i * ns.length * ns.length → ¬ rgAt n ns m) ⟨Same.refl _, ⟨_, _, _, rfl⟩, fun m h => by simp at h⟩ ?_ ?_⟩
    · rintro i σ H1 hi ⟨e1, ⟨v2, v3, v4, rfl⟩, hno⟩
      have hi : i < ns.length := by omega
      walk_at "go"
      refine g_lenL (e1.seq hS) ?_
      walk_at "go"
      rw [List.length_map]
      refine ⟨by omega, by omega, for_R (fun j σ H' => Same H H' ∧ (∃ v3 v4, σ = [some (.int n), some (.ref a), some (.int (0 + (i : Nat))), v3, v4]) ∧ ∀ m, m < (i * ns.length + j) * ns.length → ¬ rgAt n ns m) ⟨e1, ⟨_, _, rfl⟩, hno⟩ ?_ ?_⟩
      · rintro j σ H2 hj ⟨e2, ⟨v3, v4, rfl⟩, hno2⟩
        have hj : j < ns.length := by omega
        walk_at "go"
        refine g_lenL (e2.seq hS) ?_
        walk_at "go"
        rw [List.length_map]
        refine ⟨by omega, by omega, for_R (fun l σ H' => Same H H' ∧ (∃ v4, σ = [some (.int n), some (.ref a), some (.int (0 + (i : Nat))), some (.int (0 + (j : Nat))), v4]) ∧ ∀ m, m < (i * ns.length + j) * ns.length + l → ¬ rgAt n ns m) ⟨e2, ⟨_, rfl⟩, hno2⟩ ?_ ?_⟩
        · rintro l σ H3 hl ⟨e3, ⟨v4, rfl⟩, hno3⟩
          have hl : l < ns.length := by omega
          have hS3 := e3.seq hS
          walk_at "go"
          refine g_ixL hS3 (atj i hi) ?_
          walk_at "go"
          refine g_ixL hS3 (atj j hj) ?_
          walk_at "go"
          refine g_ixL hS3 (atj l hl) ?_
          walk_at "go"
          refine ⟨n, _, _, _, rfl, hw, fun H4 e4 => ?_⟩
          walk_at "go"
          obtain ⟨d1, d2, d3⟩ := three_div (i := i) hj hl
          have hrg : rgAt n ns ((i * ns.length + j) * ns.length + l) ↔ Rg n (ns.getD i 0) (ns.getD j 0) (ns.getD l 0) := by
            unfold rgAt
            rw [d1, d2, d3]
          refine ite_dec (fun h1 => ?_) (fun h1 => ?_)
          · walk_at "go"
            intro p hp
            refine k1 hw hrow _ ⟨?_, hrg.mpr h1, hno3⟩ p _ ((e3.trans e4).trans (Same.new hp)) ((e3.trans e4).free hp) ?_
            · have h2 : i * ns.length + j + 1 ≤ ns.length * ns.length := by
                have := Nat.mul_le_mul_right ns.length (show i + 1 ≤ ns.length from hi)
                rw [Nat.add_mul, Nat.one_mul] at this
                omega
              have h3 := Nat.mul_le_mul_right ns.length h2
              rw [Nat.add_mul, Nat.one_mul] at h3
              omega
            · unfold threeV
              rw [d1, d2, d3, upd_same, Int.zero_add, Int.zero_add, Int.zero_add]
          · walk_at "go"
            refine ⟨e3.trans e4, ⟨_, rfl⟩, fun m hm => ?_⟩
            by_cases q : m = (i * ns.length + j) * ns.length + l
            · rw [q]
              exact fun z => h1 (hrg.mp z)
            · exact hno3 m (by omega)
        · rintro σ H3 ⟨e3, ⟨v4, rfl⟩, hno3⟩
          refine ⟨e3, ⟨_, _, rfl⟩, fun m hm => hno3 m ?_⟩
          have : (i * ns.length + (j + 1)) * ns.length = (i * ns.length + j) * ns.length + ns.length := by
            rw [← Nat.add_assoc, Nat.add_mul, Nat.one_mul]
          omega
      · rintro σ H2 ⟨e2, ⟨v3, v4, rfl⟩, hno2⟩
        refine ⟨e2, ⟨_, _, _, rfl⟩, fun m hm => hno2 m ?_⟩
        have : (i + 1) * ns.length * ns.length = (i * ns.length + ns.length) * ns.length := by
          rw [Nat.add_mul, Nat.one_mul]
        have h2 : ((ns.length : Nat) : Int).toNat = ns.length := by omega
        rw [h2]
        omega
    · rintro σ H1 ⟨e1, ⟨v2, v3, v4, rfl⟩, hno⟩
      walk_at "go"
      have h2 : ((ns.length : Nat) : Int).toNat = ns.length := by omega
      rw [h2] at hno
      exact k2 hw hrow hno _ e1
end
end My
namespace My
open PySem PySem.Spec PyProof.Rows L2
section
variable {P : Program} {w : World} {K : PySem.W.Frag} {mg : Str → Option Value} {base : Heap} {ec : Ec}
def sp_is_ahead : Sp := fun vs H Q _ => ∃ n i j : Int, vs = [.int n, .int i, .int j] ∧ Wh n ∧ Q (.bl (decide (Ah n i j))) H
theorem sc__law_is_ahead : FnScope ["_law_wheel_here", "_law_one", "_law_other"] ["_law_wheel_here", "_law_one", "_law_other"] (defScope s__law_is_ahead) := ⟨rfl, rfl, rfl, by decide +kernel, rfl, by decide +kernel, by decide +kernel⟩
theorem ok_is_ahead (T : Txt K mg ec) (D : Fn K mg "_law_is_ahead" s__law_is_ahead) : Knows P w K mg base 1 "_law_is_ahead" ["_law_wheel_here", "_law_one", "_law_other"] sp_is_ahead := by
  refine Knows.mk' D sc__law_is_ahead (fun _ _ _ _ _ _ us hl => match us, hl with | [_, _, _], _ => rfl) (fun vs H Q E h => ?_) (fun f cdv A outer s H vs Q E hr h => ?_)
  · obtain ⟨n, i, j, rfl, _⟩ := h; rfl
  · obtain ⟨n, i, j, rfl, hw, k⟩ := h
    have hn : 0 < n := by have := hw.1; omega
    have hn1 := hw.2
    refine ⟨_, (pss_one (ps_ret (pe_chain op_lt op_lt pe_int (pe_op op_mod (pe_op op_sub (pv 2) (pv 1)) (pv 0)) (pe_op op_fdivW (pe_op op_add (pv 0) pe_int) pe_int)))), ?_⟩
    refine g_start (σ := [some _, some _, some _]) rfl ?_
    try dsimp only [cxOf]
    walk_at "go"
    refine ite_dec (fun h1 => ?_) (fun h1 => ?_)
    · walk_at "go"
      have e : decide ((j - i) % n < (n + 1) / 2) = decide (Ah n i j) := decide_eq_decide.mpr (by show (j - i) % n < (n + 1) / 2 ↔ 0 < (j - i) % n ∧ 2 * ((j - i) % n) < n; omega)
      rw [e]
      exact k
    · have e : false = decide (Ah n i j) := (decide_eq_false (by show ¬ (0 < (j - i) % n ∧ 2 * ((j - i) % n) < n); omega)).symm
      rw [e]
      exact k
theorem first_sd {H : Hp} {L m : Nat} {p q : Addr} (h1 : H p = some (.tup (threeV L m))) (h2 : H q = some (.tup (threeV L m))) : SD H 1 (.ref p) (.ref q) :=
  .tup h1 h2 rfl (by unfold threeV; simp) (SD.flat (fun x hx d => by
    unfold threeV at hx
    simp only [List.mem_cons, List.not_mem_nil, or_false] at hx
    rcases hx with rfl | rfl | rfl <;> exact .int _) rfl)
theorem sc_law : FnScope ["_law_script", "_law_state", "_law_turn", "_law_wheel_here", "_law_many", "_law_wide", "_law_seen", "_law_due", "_law_place", "_law_three", "_law_handed", "_law_k"] ["_law_script"] (defScope s_law) := ⟨rfl, rfl, rfl, by decide +kernel, rfl, by decide +kernel, by decide +kernel⟩
theorem ok_law {f0 : Addr} {fd0 : FuncData} (T : Txt K mg ec) (F : Fun K "law" "law" s_law f0 fd0) (c__law_start : Knows P w K mg base 1 "_law_start" ["_law_script"] (sp_start K)) (c__law_drawn : Knows P w K mg base 1 "_law_drawn" ["_law_state", "_law_many"] (sp_drawn K))
    (c__law_wheel : Knows P w K mg base 2 "_law_wheel" ["_law_state"] (sp_wheel K)) (c__law_is_ahead : Knows P w K mg base 1 "_law_is_ahead" ["_law_wheel_here", "_law_one", "_law_other"] sp_is_ahead)
    (c_ring : Knows P w K mg base 4 "ring" ["wheel", "seen"] (sp_ring K ec)) (c__law_same : Knows P w K mg base 2 "_law_same" ["_law_found", "_law_due"] (sp_same 1)) : FnOk P w K mg base (L2.CX P w) 5 f0 fd0 ["_law_script"] (sp_law K) := by
  refine fnok_mk F sc_law (fun vs H Q E h => ?_) (fun cdv A outer s H vs Q E hr h => ?_)
  · obtain ⟨s, ns, rfl, _⟩ := h; rfl
  · obtain ⟨s, ns, rfl, hS, hl, k⟩ := h
    refine ⟨_, (pss_cons (ps_set (i := 1) sc_law.nd rfl (Or.inr rfl) (pe_callN c__law_start (hr.mono (by first | decide | omega)) passD (pa_cons (pv 0) pa_nil)))
    (pss_cons (ps_for passO rfl (pi_range1 (by rfl) T.range (pa_cons pe_int pa_nil)) (pg_name (i := 2) sc_law.nd rfl (Or.inl rfl)) (pss_cons (ps_set (i := 3) sc_law.nd rfl (Or.inl rfl) (pe_callN c__law_wheel (hr.mono (by first | decide | omega)) passD (pa_cons (pv 1) pa_nil)))
    (pss_cons (ps_set (i := 4) sc_law.nd rfl (Or.inl rfl) (pe_callN c__law_drawn (hr.mono (by first | decide | omega)) passD (pa_cons (pv 1) (pa_cons (pe_ix ix_list (pe_lst (pa_cons pe_int (pa_cons pe_int (pa_cons pe_int (pa_cons pe_int (pa_cons pe_int (pa_cons pe_int (pa_cons pe_int (pa_cons pe_int pa_nil))))))))) (pe_callN c__law_drawn (hr.mono (by first | decide | omega)) passD (pa_cons (pv 1) (pa_cons pe_int pa_nil))) (fun _ _ => rfl)) pa_nil))))
    (pss_cons (ps_set (i := 5) sc_law.nd rfl (Or.inr rfl) (pe_ix ix_list (pe_lst (pa_cons (pv 3) (pa_cons (pv 3) (pa_cons (pe_op op_fdivW (pe_op op_add (pv 3) pe_int) pe_int) pa_nil)))) (pe_callN c__law_drawn (hr.mono (by first | decide | omega)) passD (pa_cons (pv 1) (pa_cons pe_int pa_nil))) (fun _ _ => rfl)))
    (pss_cons (ps_setLc (i := 6) (own := [("_law_k", 11)]) (g := gName 11) (tt := tYes) rfl sc_law.nd rfl rfl (sw_true rfl rfl rfl (by decide +kernel)) (pi_range1 (by rfl) T.range (pa_cons (pv 4) pa_nil)) (blkOk_by (own := [("_law_k", 11)]) (N := ["_law_script", "_law_state", "_law_turn", "_law_wheel_here", "_law_many", "_law_wide", "_law_seen", "_law_due", "_law_place", "_law_three", "_law_handed", "_law_k"]) (sc := defScope s_law) (by decide +kernel)) (fun _ _ _ _ _ => (pg_name (i := 11) sc_law.nd rfl (Or.inl rfl))) (fun _ _ _ _ _ => pts_nil) (fun _ _ _ _ _ => (pe_callN c__law_drawn (hr.mono (by first | decide | omega)) passL (pa_cons (pv 1) (pa_cons (pv 5) pa_nil)))))
    (pss_cons (ps_set (i := 7) sc_law.nd rfl (Or.inl rfl) pe_non)
    (pss_cons (ps_for passO rfl (pi_range1 (by rfl) T.range (pa_cons (pe_op op_mul (pe_op op_mul (pv 4) (pv 4)) (pv 4)) pa_nil)) (pg_name (i := 8) sc_law.nd rfl (Or.inl rfl)) (pss_cons (ps_set (i := 9) sc_law.nd rfl (Or.inl rfl) (pe_tup (pa_cons (pe_op op_fdivW (pv 8) (pe_op op_mul (pv 4) (pv 4))) (pa_cons (pe_op op_mod (pe_op op_fdivW (pv 8) (pv 4)) (pv 4)) (pa_cons (pe_op op_mod (pv 8) (pv 4)) pa_nil)))))
    (pss_one (ps_if (PW.pt (pw_and (pt_cmpR op_isNN (pv 7) pe_non (nomark _)) (pw_and1 (pt_val (pe_callN c__law_is_ahead (hr.mono (by first | decide | omega)) passD (pa_cons (pv 3) (pa_cons (pe_ix ix_list (pv 6) (pe_ix ix_tup (pv 9) pe_int (fun _ _ => rfl)) (fun _ _ => rfl)) (pa_cons (pe_ix ix_list (pv 6) (pe_ix ix_tup (pv 9) pe_int (fun _ _ => rfl)) (fun _ _ => rfl)) pa_nil)))) (by intro _; rfl))))) (pss_one (ps_if (pt_val (pe_callN c__law_is_ahead (hr.mono (by first | decide | omega)) passD (pa_cons (pv 3) (pa_cons (pe_ix ix_list (pv 6) (pe_ix ix_tup (pv 9) pe_int (fun _ _ => rfl)) (fun _ _ => rfl)) (pa_cons (pe_ix ix_list (pv 6) (pe_ix ix_tup (pv 9) pe_int (fun _ _ => rfl)) (fun _ _ => rfl)) pa_nil)))) (by intro _; rfl)) (pss_one (ps_if (pt_val (pe_callN c__law_is_ahead (hr.mono (by first | decide | omega)) passD (pa_cons (pv 3) (pa_cons (pe_ix ix_list (pv 6) (pe_ix ix_tup (pv 9) pe_int (fun _ _ => rfl)) (fun _ _ => rfl)) (pa_cons (pe_ix ix_list (pv 6) (pe_ix ix_tup (pv 9) pe_int (fun _ _ => rfl)) (fun _ _ => rfl)) pa_nil)))) (by intro _; rfl)) (pss_one (ps_set (i := 7) sc_law.nd rfl (Or.inl rfl) (pv 9))) pss_nil)) pss_nil)) pss_nil))))
    (pss_cons (ps_set (i := 10) sc_law.nd rfl (Or.inl rfl) (pe_callTy call_listN (by rfl) T.list (by decide +kernel) (pa_cons (pv 6) pa_nil)))
    (pss_one (ps_if (PW.pt (pw_or (pt_not (pt_val (pe_callN c__law_same (hr.mono (by first | decide | omega)) passD (pa_cons (pe_callN c_ring (hr.mono (by first | decide | omega)) passD (pa_cons (pv 3) (pa_cons (pv 10) pa_nil))) (pa_cons (pv 7) pa_nil))) (by intro _; rfl))) (pw_or1 (pt_cmpR (op_neD hr.units) (pv 10) (pv 6) (nomark _))))) (pss_one (ps_ret pe_bl)) pss_nil))))))))))
    (pss_one (ps_ret pe_bl)))), ?_⟩
    refine g_start (σ := [some _, none, none, none, none, none, none, none, none, none, none, none]) rfl ?_
    try dsimp only [cxOf]
    walk_at "go"
    refine ⟨s, ns, rfl, hS, hl, fun a H1 ha e1 hD1 => ?_⟩
    walk_at "go"
    refine ⟨by decide, by decide, for_R (fun i σ H' => Dr K a s H' ∧ ∃ v2 v3 v4 v5 v6 v7 v8 v9 v10 v11, σ = [some (.ref s), some (.ref a), v2, v3, v4, v5, v6, v7, v8, v9, v10, v11]) ⟨hD1, _, _, _, _, _, _, _, _, _, _, rfl⟩ ?_ ?_⟩
    · rintro i σ H2 hi ⟨hD2, v2, v3, v4, v5, v6, v7, v8, v9, v10, v11, rfl⟩
      walk_at "go"
      refine ⟨a, s, rfl, hD2, fun n H3 hn g3 => ?_⟩
      have hD3 := g3.dr
      have hn0 : 0 < n := by have := hn.1; omega
      have hn1 := hn.2
      walk_at "go"
      intro q hq
      have hqa : q ≠ a := by walk_at "ne"
      walk_at "go"
      refine ⟨a, s, 8, rfl, hD3.same (Same.new hq), (by decide), fun r1 H4 h40 h41 g4 => ?_⟩
      have hD4 := g4.dr
      refine g_ixAny (SqL.of (g4.at upd_same hqa)) h40 (by simpa using h41) (fun v hv => ?_)
      obtain ⟨z, rfl, hz⟩ := one_int (zs := [10, 10, 10, 10, 10, 10, 10, 61]) hv
      have hz2 : 0 < z ∧ z ≤ 61 := by
        simp only [List.mem_cons, List.not_mem_nil, or_false] at hz
        omega
      clear hz hv
      walk_at "go"
      refine ⟨a, s, z, rfl, hD4, ⟨hz2.1, by omega⟩, fun many H5 h50 h51 g5 => ?_⟩
      have hD5 := g5.dr
      obtain ⟨L, rfl⟩ : ∃ L : Nat, many = (L : Int) := ⟨many.toNat, by omega⟩
      have hL : L ≤ 60 := by omega
      walk_at "go"
      intro q2 hq2
      have hqa2 : q2 ≠ a := by walk_at "ne"
      walk_at "go"
      refine ⟨a, s, 3, rfl, hD5.same (Same.new hq2), (by decide), fun r2 H6 h60 h61 g6 => ?_⟩
      have hD6 := g6.dr
      refine g_ixAny (SqL.of (g6.at upd_same hqa2)) h60 (by simpa using h61) (fun v hv => ?_)
      obtain ⟨wide, rfl, hz⟩ := one_int (zs := [n, n, (n + 1) / 2]) hv
      have hwide : 0 < wide ∧ wide ≤ n := by
        simp only [List.mem_cons, List.not_mem_nil, or_false] at hz
        omega
      clear hz hv
      walk_at "go"
      refine ⟨by omega, by omega, fun D hDn => lc_R 0 _ (fun i acc H' => (∃ xs : List Int, acc = xs.map V.int ∧ xs.length = i ∧ ∀ x ∈ xs, Se n x) ∧ Go K a s H6 H') (fun i acc H' o h => ⟨h.1, h.2.mut hD6 hDn⟩) ⟨⟨[], rfl, rfl, fun x hx => by simp at hx⟩, Go.refl hD6⟩ ?_ ?_⟩
      · rintro j acc H7 hj ⟨⟨xs, rfl, hxl, hxs⟩, g7⟩ hDl hal
        walk_at "wp"
        walk_at "go"
        refine ⟨rfl, ?_⟩
        walk_at "go"
        refine ⟨a, s, wide, rfl, g7.dr, ⟨hwide.1, by omega⟩, fun r3 H8 h80 h81 g8 => ?_⟩
        have hDa : D ≠ a := by walk_at "ne"
        refine lc_leaf (fun i acc H' o h => ⟨h.1, h.2.mut hD6 hDn⟩) (g8.at hDl hDa) hal (by omega) ⟨⟨xs ++ [r3], by simp, by simp [hxl], fun x hx => ?_⟩, g7.trans g8⟩
        rcases List.mem_append.mp hx with q | q
        · exact hxs x q
        · have e : x = r3 := by simpa using q
          subst e
          exact ⟨h80, by omega⟩
      rintro acc H7 ⟨⟨xs, rfl, hxl, hxs⟩, g7⟩ hDl
      have hxl : xs.length = L := by omega
      have hD7 := g7.dr
      have hDa : D ≠ a := by walk_at "ne"
      walk_at "go"
      subst hxl
      have hL2 : xs.length * xs.length ≤ 3600 := Nat.mul_le_mul hL hL
      have hL3 : xs.length * xs.length * xs.length ≤ 216000 := Nat.mul_le_mul hL2 hL
      have e2 : (xs.length : Int) * (xs.length : Int) = ((xs.length * xs.length : Nat) : Int) := (Int.natCast_mul _ _).symm
      have e3 : (xs.length : Int) * (xs.length : Int) * (xs.length : Int) = ((xs.length * xs.length * xs.length : Nat) : Int) := by rw [e2]; exact (Int.natCast_mul _ _).symm
      rw [e3]
      have hrow : RowOk n xs := ⟨hL, hxs⟩
      refine ⟨by omega, by omega, for_R (fun m σ H' => Same H7 H' ∧ ∃ due u8 u9, σ = [some (.ref s), some (.ref a), some (.int (0 + (i : Nat))), some (.int n), some (.int (xs.length : Nat)), some (.int wide), some (.ref D), some due, u8, u9, v10, v11] ∧
        ((due = .non ∧ ∀ m' < m, ¬ rgAt n xs m') ∨ ∃ m0 p, due = .ref p ∧ H' p = some (.tup (threeV xs.length m0)) ∧ m0 < m ∧ rgAt n xs m0 ∧ ∀ m' < m0, ¬ rgAt n xs m')) ⟨Same.refl _, _, _, _, rfl, .inl ⟨rfl, fun m h => absurd h (Nat.not_lt_zero _)⟩⟩ ?_ ?_⟩
      · rintro m σ H8 hm ⟨e78, due, u8, u9, rfl, hdue⟩
        have hm : m < xs.length * xs.length * xs.length := by omega
        have hpos : 0 < xs.length := by
          rcases Nat.eq_zero_or_pos xs.length with z | z
          · rw [z] at hm; simp at hm
          · exact z
        have hpos2 : 0 < xs.length * xs.length := Nat.mul_pos hpos hpos
        have f1 : (0 : Int) < (xs.length : Int) * (xs.length : Int) := by rw [e2]; omega
        have f2 : (xs.length : Int) * (xs.length : Int) ≤ 3600 := by rw [e2]; omega
        have hpos1 : (0 : Int) < (xs.length : Int) := by omega
        walk_at "go"
        intro p hp
        have et : ([.int ((0 + (m : Int)) / ((xs.length : Int) * (xs.length : Int))), .int ((0 + (m : Int)) / (xs.length : Int) % (xs.length : Int)), .int ((0 + (m : Int)) % (xs.length : Int))] : List V) = threeV xs.length m := by
          unfold threeV
          rw [e2, Int.zero_add, Int.natCast_ediv, Int.natCast_emod, Int.natCast_ediv, Int.natCast_emod]
        rw [et]
        have e89 : Same H8 (upd H8 p (.tup (threeV xs.length m))) := Same.new hp
        have e79 := e78.trans e89
        have hp9 : (upd H8 p (.tup (threeV xs.length m))) p = some (.tup (threeV xs.length m)) := upd_same
        generalize upd H8 p (.tup (threeV xs.length m)) = H9 at e79 e89 hp9
        have hD9 := e79 _ _ hDl
        have b1 : m / (xs.length * xs.length) < xs.length := Nat.div_lt_of_lt_mul hm
        have b2 : m / xs.length % xs.length < xs.length := Nat.mod_lt _ hpos
        have b3 : m % xs.length < xs.length := Nat.mod_lt _ hpos
        have atj : ∀ j : Nat, j < xs.length → atI (xs.map V.int) ((j : Nat) : Int) = some (.int (xs.getD j 0)) := fun j hj => by
          refine atI_nat ?_
          rw [List.getElem?_map, List.getElem?_eq_getElem hj, List.getD_eq_getElem?_getD, List.getElem?_eq_getElem hj]
          rfl
        walk_at "go"
        rcases hdue with ⟨rfl, hno⟩ | ⟨m0, p0, rfl, hp0, hm0, hrg0, hno0⟩
        · have nxt : ¬ rgAt n xs m → ∀ m' < m + 1, ¬ rgAt n xs m' := fun hn m' hm' => by
            by_cases q : m' = m
            · rw [q]; exact hn
            · exact hno m' (by omega)
          refine ite_dec (fun _ => ?_) (fun z => (z rfl).elim)
          walk_at "go"
          refine g_ixT (SqT.of hp9) (show atI (threeV xs.length m) 0 = some _ from rfl) ?_
          refine g_ixL (SqL.of hD9) (atj _ b1) ?_
          walk_at "go"
          refine g_ixT (SqT.of hp9) (show atI (threeV xs.length m) 1 = some _ from rfl) ?_
          refine g_ixL (SqL.of hD9) (atj _ b2) ?_
          walk_at "go"
          refine ⟨n, _, _, rfl, hn, ?_⟩
          walk_at "go"
          refine ite_dec (fun h1 => ?_) (fun h1 => ?_)
          · walk_at "go"
            refine g_ixT (SqT.of hp9) (show atI (threeV xs.length m) 1 = some _ from rfl) ?_
            refine g_ixL (SqL.of hD9) (atj _ b2) ?_
            walk_at "go"
            refine g_ixT (SqT.of hp9) (show atI (threeV xs.length m) 2 = some _ from rfl) ?_
            refine g_ixL (SqL.of hD9) (atj _ b3) ?_
            walk_at "go"
            refine ⟨n, _, _, rfl, hn, ?_⟩
            walk_at "go"
            refine ite_dec (fun h2 => ?_) (fun h2 => ?_)
            · walk_at "go"
              refine g_ixT (SqT.of hp9) (show atI (threeV xs.length m) 2 = some _ from rfl) ?_
              refine g_ixL (SqL.of hD9) (atj _ b3) ?_
              walk_at "go"
              refine g_ixT (SqT.of hp9) (show atI (threeV xs.length m) 0 = some _ from rfl) ?_
              refine g_ixL (SqL.of hD9) (atj _ b1) ?_
              walk_at "go"
              refine ⟨n, _, _, rfl, hn, ?_⟩
              walk_at "go"
              refine ite_dec (fun h3 => ?_) (fun h3 => ?_)
              · walk_at "go"
                exact ⟨e79, _, _, _, rfl, .inr ⟨m, p, rfl, hp9, by omega, ⟨h1, h2, h3⟩, hno⟩⟩
              · walk_at "go"
                exact ⟨e79, _, _, _, rfl, .inl ⟨rfl, nxt fun z => h3 z.2.2⟩⟩
            · walk_at "go"
              exact ⟨e79, _, _, _, rfl, .inl ⟨rfl, nxt fun z => h2 z.2.1⟩⟩
          · walk_at "go"
            exact ⟨e79, _, _, _, rfl, .inl ⟨rfl, nxt fun z => h1 z.1⟩⟩
        · refine ite_dec (fun z => nomatch z) (fun _ => ?_)
          walk_at "go"
          exact ⟨e79, _, _, _, rfl, .inr ⟨m0, p0, rfl, e89 _ _ hp0, by omega, hrg0, hno0⟩⟩
      · rintro σ H8 ⟨e78, due, u8, u9, rfl, hdue⟩
        have eN : (((xs.length * xs.length * xs.length : Nat)) : Int).toNat = xs.length * xs.length * xs.length := by omega
        rw [eN] at hdue
        have hD8 := e78 _ _ hDl
        walk_at "go"
        refine g_listL (SqL.of hD8) (fun l hl => ?_)
        have e89 := Same.new (o := .lst (xs.map V.int)) hl
        have hl9 : (upd H8 l (.lst (xs.map V.int))) l = some (.lst (xs.map V.int)) := upd_same
        generalize upd H8 l (.lst (xs.map V.int)) = H9 at e89 hl9
        have hD9 := e89 _ _ hD8
        walk_at "go"
        have go_on : ∀ H11, Same H9 H11 → Dr K a s H11 ∧ H11 l = some (.lst (xs.map V.int)) ∧ H11 D = some (.lst (xs.map V.int)) := fun H11 e => ⟨hD7.same ((e78.trans e89).trans e), e _ _ hl9, e _ _ hD9⟩
        have hring : (due = .non ∧ NoR n xs) ∨ ∃ m0 p0, due = .ref p0 ∧ H9 p0 = some (.tup (threeV xs.length m0)) ∧ FirstR n xs m0 := by
          rcases hdue with ⟨rfl, hno⟩ | ⟨m0, p0, rfl, hp0, hm0, hrg0, hno0⟩
          · exact .inl ⟨rfl, hno⟩
          · exact .inr ⟨m0, p0, rfl, e89 _ _ hp0, hm0, hrg0, hno0⟩
        refine ⟨n, l, xs, rfl, SqL.of hl9, fun _ _ m hfm p H10 e10 hpn hp10 => ?_, fun _ _ hnr H10 e10 => ?_, fun z => (z hn).elim, fun _ z => (z hrow).elim⟩
        · rcases hring with ⟨rfl, hno⟩ | ⟨m0, p0, rfl, hp0, hf0⟩
          · exact (hno m hfm.1 hfm.2.1).elim
          · have em : m = m0 := by
              rcases Nat.lt_trichotomy m m0 with q | q | q
              · exact (hf0.2.2 m q hfm.2.1).elim
              · exact q
              · exact (hfm.2.2 m0 q hf0.2.1).elim
            subst em
            walk_at "go"
            refine ⟨_, _, rfl, first_sd hp10 (e10 _ _ hp0), fun H11 e11 => ?_⟩
            obtain ⟨d11, l11, D11⟩ := go_on H11 (e10.trans e11)
            walk_at "go"
            refine g_neInts (SqL.of l11) (SqL.of D11) ?_
            walk_at "go"
            refine ite_ndec (fun z => (z rfl).elim) (fun _ => ?_)
            walk_at "go"
            exact ⟨d11, _, _, _, _, _, _, _, _, _, _, rfl⟩
        · rcases hring with ⟨rfl, hno⟩ | ⟨m0, p0, rfl, hp0, hf0⟩
          · walk_at "go"
            refine ⟨_, _, rfl, .non, fun H11 e11 => ?_⟩
            obtain ⟨d11, l11, D11⟩ := go_on H11 (e10.trans e11)
            walk_at "go"
            refine g_neInts (SqL.of l11) (SqL.of D11) ?_
            walk_at "go"
            refine ite_ndec (fun z => (z rfl).elim) (fun _ => ?_)
            walk_at "go"
            exact ⟨d11, _, _, _, _, _, _, _, _, _, _, rfl⟩
          · exact (hnr m0 hf0.1 hf0.2.1).elim
    · rintro σ H2 ⟨hD2, v2, v3, v4, v5, v6, v7, v8, v9, v10, v11, rfl⟩
      walk_at "go"
      exact k _
end
end My
namespace My
open PySem PySem.Spec PyProof.Rows L2
section
variable {P : Program} {w : World} {K : PySem.W.Frag} {mg : Str → Option Value} {base : Heap} {ec : Ec}
theorem all_mk {l : PySem.W.OpenLaw} {w : World} {K : PySem.W.Frag} {h : Heap} {mg : Str → Option Value} {fa : Addr} (X : K.In h) (G : h.Ns mainGlobals mg) (hfa : mg "law" = some (.ref fa))
    {f0 : Addr} {od0 an0 : Option Addr} {sl0 : Array (Option Value)} {oc0 kV0 dc0 pm0 cd0 ct0 : Value}
    {f1 : Addr} {od1 an1 : Option Addr} {sl1 : Array (Option Value)} {oc1 kV1 dc1 pm1 cd1 ct1 : Value}
    {f2 : Addr} {od2 an2 : Option Addr} {sl2 : Array (Option Value)} {oc2 kV2 dc2 pm2 cd2 ct2 : Value}
    {f3 : Addr} {od3 an3 : Option Addr} {sl3 : Array (Option Value)} {oc3 kV3 dc3 pm3 cd3 ct3 : Value}
    {f4 : Addr} {od4 an4 : Option Addr} {sl4 : Array (Option Value)} {oc4 kV4 dc4 pm4 cd4 ct4 : Value}
    {f5 : Addr} {od5 an5 : Option Addr} {sl5 : Array (Option Value)} {oc5 kV5 dc5 pm5 cd5 ct5 : Value}
    {f6 : Addr} {od6 an6 : Option Addr} {sl6 : Array (Option Value)} {oc6 kV6 dc6 pm6 cd6 ct6 : Value}
    {f7 : Addr} {od7 an7 : Option Addr} {sl7 : Array (Option Value)} {oc7 kV7 dc7 pm7 cd7 ct7 : Value}
    {f8 : Addr} {od8 an8 : Option Addr} {sl8 : Array (Option Value)} {oc8 kV8 dc8 pm8 cd8 ct8 : Value}
    {f9 : Addr} {od9 an9 : Option Addr} {sl9 : Array (Option Value)} {oc9 kV9 dc9 pm9 cd9 ct9 : Value}
    {f10 : Addr} {od10 an10 : Option Addr} {sl10 : Array (Option Value)} {oc10 kV10 dc10 pm10 cd10 ct10 : Value}
    {f11 : Addr} {od11 an11 : Option Addr} {sl11 : Array (Option Value)} {oc11 kV11 dc11 pm11 cd11 ct11 : Value}
    {f12 : Addr} {od12 an12 : Option Addr} {sl12 : Array (Option Value)} {oc12 kV12 dc12 pm12 cd12 ct12 : Value}
    {f13 : Addr} {od13 an13 : Option Addr} {sl13 : Array (Option Value)} {oc13 kV13 dc13 pm13 cd13 ct13 : Value}
    {t_MOST_WHEEL : Tok}
    {t_MOST_SEEN : Tok}
    {C_BadWheel : Addr}
    {C_BadSeen : Addr}
    {C_WrapError : Addr}
    (a0 : PySem.W.nsIn K mainGlobals "is_wheel" = some (some (.ref f0)))
    (l0 : K.lookup f0 = some ⟨oc0, od0, .func (PySem.W.fnOf "is_wheel" "is_wheel" (defArgs s_is_wheel) (defBody s_is_wheel) (defScope s_is_wheel) .none kV0 dc0 pm0 an0 cd0 ct0), sl0⟩)
    (c0 : PySem.W.codeIn K cd0 "is_wheel" = true)
    (k0 : PySem.W.keepIn K (.ref f0) = true)
    (a1 : PySem.W.nsIn K mainGlobals "need_wheel" = some (some (.ref f1)))
    (l1 : K.lookup f1 = some ⟨oc1, od1, .func (PySem.W.fnOf "need_wheel" "need_wheel" (defArgs s_need_wheel) (defBody s_need_wheel) (defScope s_need_wheel) .none kV1 dc1 pm1 an1 cd1 ct1), sl1⟩)
    (c1 : PySem.W.codeIn K cd1 "need_wheel" = true)
    (k1 : PySem.W.keepIn K (.ref f1) = true)
    (a2 : PySem.W.nsIn K mainGlobals "need_seen" = some (some (.ref f2)))
    (l2 : K.lookup f2 = some ⟨oc2, od2, .func (PySem.W.fnOf "need_seen" "need_seen" (defArgs s_need_seen) (defBody s_need_seen) (defScope s_need_seen) .none kV2 dc2 pm2 an2 cd2 ct2), sl2⟩)
    (c2 : PySem.W.codeIn K cd2 "need_seen" = true)
    (k2 : PySem.W.keepIn K (.ref f2) = true)
    (a3 : PySem.W.nsIn K mainGlobals "since_of" = some (some (.ref f3)))
    (l3 : K.lookup f3 = some ⟨oc3, od3, .func (PySem.W.fnOf "since_of" "since_of" (defArgs s_since_of) (defBody s_since_of) (defScope s_since_of) .none kV3 dc3 pm3 an3 cd3 ct3), sl3⟩)
    (c3 : PySem.W.codeIn K cd3 "since_of" = true)
    (k3 : PySem.W.keepIn K (.ref f3) = true)
    (a4 : PySem.W.nsIn K mainGlobals "order_of" = some (some (.ref f4)))
    (l4 : K.lookup f4 = some ⟨oc4, od4, .func (PySem.W.fnOf "order_of" "order_of" (defArgs s_order_of) (defBody s_order_of) (defScope s_order_of) .none kV4 dc4 pm4 an4 cd4 ct4), sl4⟩)
    (c4 : PySem.W.codeIn K cd4 "order_of" = true)
    (k4 : PySem.W.keepIn K (.ref f4) = true)
    (a5 : PySem.W.nsIn K mainGlobals "need_row" = some (some (.ref f5)))
    (l5 : K.lookup f5 = some ⟨oc5, od5, .func (PySem.W.fnOf "need_row" "need_row" (defArgs s_need_row) (defBody s_need_row) (defScope s_need_row) .none kV5 dc5 pm5 an5 cd5 ct5), sl5⟩)
    (c5 : PySem.W.codeIn K cd5 "need_row" = true)
    (k5 : PySem.W.keepIn K (.ref f5) = true)
    (a6 : PySem.W.nsIn K mainGlobals "goes_round" = some (some (.ref f6)))
    (l6 : K.lookup f6 = some ⟨oc6, od6, .func (PySem.W.fnOf "goes_round" "goes_round" (defArgs s_goes_round) (defBody s_goes_round) (defScope s_goes_round) .none kV6 dc6 pm6 an6 cd6 ct6), sl6⟩)
    (c6 : PySem.W.codeIn K cd6 "goes_round" = true)
    (k6 : PySem.W.keepIn K (.ref f6) = true)
    (a7 : PySem.W.nsIn K mainGlobals "ring" = some (some (.ref f7)))
    (l7 : K.lookup f7 = some ⟨oc7, od7, .func (PySem.W.fnOf "ring" "ring" (defArgs s_ring) (defBody s_ring) (defScope s_ring) .none kV7 dc7 pm7 an7 cd7 ct7), sl7⟩)
    (c7 : PySem.W.codeIn K cd7 "ring" = true)
    (k7 : PySem.W.keepIn K (.ref f7) = true)
    (a8 : PySem.W.nsIn K mainGlobals "_law_start" = some (some (.ref f8)))
    (l8 : K.lookup f8 = some ⟨oc8, od8, .func (PySem.W.fnOf "_law_start" "_law_start" (defArgs s__law_start) (defBody s__law_start) (defScope s__law_start) .none kV8 dc8 pm8 an8 cd8 ct8), sl8⟩)
    (c8 : PySem.W.codeIn K cd8 "_law_start" = true)
    (k8 : PySem.W.keepIn K (.ref f8) = true)
    (a9 : PySem.W.nsIn K mainGlobals "_law_drawn" = some (some (.ref f9)))
    (l9 : K.lookup f9 = some ⟨oc9, od9, .func (PySem.W.fnOf "_law_drawn" "_law_drawn" (defArgs s__law_drawn) (defBody s__law_drawn) (defScope s__law_drawn) .none kV9 dc9 pm9 an9 cd9 ct9), sl9⟩)
    (c9 : PySem.W.codeIn K cd9 "_law_drawn" = true)
    (k9 : PySem.W.keepIn K (.ref f9) = true)
    (a10 : PySem.W.nsIn K mainGlobals "_law_same" = some (some (.ref f10)))
    (l10 : K.lookup f10 = some ⟨oc10, od10, .func (PySem.W.fnOf "_law_same" "_law_same" (defArgs s__law_same) (defBody s__law_same) (defScope s__law_same) .none kV10 dc10 pm10 an10 cd10 ct10), sl10⟩)
    (c10 : PySem.W.codeIn K cd10 "_law_same" = true)
    (k10 : PySem.W.keepIn K (.ref f10) = true)
    (a11 : PySem.W.nsIn K mainGlobals "_law_wheel" = some (some (.ref f11)))
    (l11 : K.lookup f11 = some ⟨oc11, od11, .func (PySem.W.fnOf "_law_wheel" "_law_wheel" (defArgs s__law_wheel) (defBody s__law_wheel) (defScope s__law_wheel) .none kV11 dc11 pm11 an11 cd11 ct11), sl11⟩)
    (c11 : PySem.W.codeIn K cd11 "_law_wheel" = true)
    (k11 : PySem.W.keepIn K (.ref f11) = true)
    (a12 : PySem.W.nsIn K mainGlobals "_law_is_ahead" = some (some (.ref f12)))
    (l12 : K.lookup f12 = some ⟨oc12, od12, .func (PySem.W.fnOf "_law_is_ahead" "_law_is_ahead" (defArgs s__law_is_ahead) (defBody s__law_is_ahead) (defScope s__law_is_ahead) .none kV12 dc12 pm12 an12 cd12 ct12), sl12⟩)
    (c12 : PySem.W.codeIn K cd12 "_law_is_ahead" = true)
    (k12 : PySem.W.keepIn K (.ref f12) = true)
    (a13 : PySem.W.nsIn K mainGlobals "law" = some (some (.ref f13)))
    (l13 : K.lookup f13 = some ⟨oc13, od13, .func (PySem.W.fnOf "law" "law" (defArgs s_law) (defBody s_law) (defScope s_law) .none kV13 dc13 pm13 an13 cd13 ct13), sl13⟩)
    (c13 : PySem.W.codeIn K cd13 "law" = true)
    (k13 : PySem.W.keepIn K (.ref f13) = true)
    (g_MOST_WHEEL : PySem.W.nsIn K mainGlobals "MOST_WHEEL" = some (some (.int 1000000000000 t_MOST_WHEEL)))
    (g_MOST_SEEN : PySem.W.nsIn K mainGlobals "MOST_SEEN" = some (some (.int 60 t_MOST_SEEN)))
    (z_ValueError : PySem.W.nsIn K mainGlobals "ValueError" = some none)
    (z_range : PySem.W.nsIn K mainGlobals "range" = some none)
    (z_isinstance : PySem.W.nsIn K mainGlobals "isinstance" = some none)
    (z_str : PySem.W.nsIn K mainGlobals "str" = some none)
    (z_len : PySem.W.nsIn K mainGlobals "len" = some none)
    (z_tuple : PySem.W.nsIn K mainGlobals "tuple" = some none)
    (z_list : PySem.W.nsIn K mainGlobals "list" = some none)
    (z_bool : PySem.W.nsIn K mainGlobals "bool" = some none)
    (z_int : PySem.W.nsIn K mainGlobals "int" = some none)
    (z_min : PySem.W.nsIn K mainGlobals "min" = some none)
    (eg_BadWheel : PySem.W.nsIn K mainGlobals "BadWheel" = some (some (.ref C_BadWheel)))
    (ex_BadWheel : PySem.W.excIn K C_BadWheel [.type "ValueError", .type "Exception", .type "BaseException", .type "object"] "ValueError.__new__" = true)
    (ek_BadWheel : PySem.W.keepIn K (.ref C_BadWheel) = true)
    (eb_BadWheel : PySem.W.subIn K (.ref C_BadWheel) (.type "BaseException") = some true)
    (et_BadWheel : PySem.W.typeIn K (.ref C_BadWheel) = some (.type "type"))
    (eg_BadSeen : PySem.W.nsIn K mainGlobals "BadSeen" = some (some (.ref C_BadSeen)))
    (ex_BadSeen : PySem.W.excIn K C_BadSeen [.type "ValueError", .type "Exception", .type "BaseException", .type "object"] "ValueError.__new__" = true)
    (ek_BadSeen : PySem.W.keepIn K (.ref C_BadSeen) = true)
    (eb_BadSeen : PySem.W.subIn K (.ref C_BadSeen) (.type "BaseException") = some true)
    (et_BadSeen : PySem.W.typeIn K (.ref C_BadSeen) = some (.type "type"))
    (eg_WrapError : PySem.W.nsIn K mainGlobals "WrapError" = some (some (.ref C_WrapError)))
    (ex_WrapError : PySem.W.excIn K C_WrapError [.type "ValueError", .type "Exception", .type "BaseException", .type "object"] "ValueError.__new__" = true)
    (ek_WrapError : PySem.W.keepIn K (.ref C_WrapError) = true)
    (eb_WrapError : PySem.W.subIn K (.ref C_WrapError) (.type "BaseException") = some true)
    (et_WrapError : PySem.W.typeIn K (.ref C_WrapError) = some (.type "type")) :
    ∃ fd : FuncData, (∀ (s : Shared) (v : Value), BindsTo s fd ⟨[v], []⟩ [("_law_script", v)]) ∧ ∀ base : Heap, K.In base → base.Ns mainGlobals mg → FnOk l.prog w K mg base (L2.CX l.prog w) 5 fa fd ["_law_script"] (sp_law K) := by
  have T : Txt K mg ⟨C_BadWheel, 0, C_BadSeen, 0, 0, 0, 0, 0, C_WrapError⟩ := { g_MOST_WHEEL := ⟨_, PySem.W.mg_of X G g_MOST_WHEEL⟩, g_MOST_SEEN := ⟨_, PySem.W.mg_of X G g_MOST_SEEN⟩, ValueError := PySem.W.mg_none_of X G z_ValueError, range := PySem.W.mg_none_of X G z_range, isinstance := PySem.W.mg_none_of X G z_isinstance, str := PySem.W.mg_none_of X G z_str, len := PySem.W.mg_none_of X G z_len, tuple := PySem.W.mg_none_of X G z_tuple, list := PySem.W.mg_none_of X G z_list, bool := PySem.W.mg_none_of X G z_bool, int := PySem.W.mg_none_of X G z_int, min := PySem.W.mg_none_of X G z_min, x_BadWheel := ⟨PySem.W.mg_of X G eg_BadWheel, ex_BadWheel, ek_BadWheel, eb_BadWheel, et_BadWheel⟩, x_BadSeen := ⟨PySem.W.mg_of X G eg_BadSeen, ex_BadSeen, ek_BadSeen, eb_BadSeen, et_BadSeen⟩, x_WrapError := ⟨PySem.W.mg_of X G eg_WrapError, ex_WrapError, ek_WrapError, eb_WrapError, et_WrapError⟩ }
  have e := hfa.symm.trans (PySem.W.mg_of X G a13)
  cases e
  refine ⟨PySem.W.fnOf "law" "law" (defArgs s_law) (defBody s_law) (defScope s_law) .none kV13 dc13 pm13 an13 cd13 ct13, fun s v => .of_eq rfl, fun base hK hM => ?_⟩
  have F := fun_mk (st := s_law) l13 c13 k13
  have D_is_wheel : Fn K mg "is_wheel" s_is_wheel := ⟨f0, _, fun_mk (st := s_is_wheel) l0 c0 k0, PySem.W.mg_of X G a0⟩
  have D_need_wheel : Fn K mg "need_wheel" s_need_wheel := ⟨f1, _, fun_mk (st := s_need_wheel) l1 c1 k1, PySem.W.mg_of X G a1⟩
  have D_need_seen : Fn K mg "need_seen" s_need_seen := ⟨f2, _, fun_mk (st := s_need_seen) l2 c2 k2, PySem.W.mg_of X G a2⟩
  have D_since_of : Fn K mg "since_of" s_since_of := ⟨f3, _, fun_mk (st := s_since_of) l3 c3 k3, PySem.W.mg_of X G a3⟩
  have D_order_of : Fn K mg "order_of" s_order_of := ⟨f4, _, fun_mk (st := s_order_of) l4 c4 k4, PySem.W.mg_of X G a4⟩
  have D_need_row : Fn K mg "need_row" s_need_row := ⟨f5, _, fun_mk (st := s_need_row) l5 c5 k5, PySem.W.mg_of X G a5⟩
  have D_goes_round : Fn K mg "goes_round" s_goes_round := ⟨f6, _, fun_mk (st := s_goes_round) l6 c6 k6, PySem.W.mg_of X G a6⟩
  have D_ring : Fn K mg "ring" s_ring := ⟨f7, _, fun_mk (st := s_ring) l7 c7 k7, PySem.W.mg_of X G a7⟩
  have D__law_start : Fn K mg "_law_start" s__law_start := ⟨f8, _, fun_mk (st := s__law_start) l8 c8 k8, PySem.W.mg_of X G a8⟩
  have D__law_drawn : Fn K mg "_law_drawn" s__law_drawn := ⟨f9, _, fun_mk (st := s__law_drawn) l9 c9 k9, PySem.W.mg_of X G a9⟩
  have D__law_same : Fn K mg "_law_same" s__law_same := ⟨f10, _, fun_mk (st := s__law_same) l10 c10 k10, PySem.W.mg_of X G a10⟩
  have D__law_wheel : Fn K mg "_law_wheel" s__law_wheel := ⟨f11, _, fun_mk (st := s__law_wheel) l11 c11 k11, PySem.W.mg_of X G a11⟩
  have D__law_is_ahead : Fn K mg "_law_is_ahead" s__law_is_ahead := ⟨f12, _, fun_mk (st := s__law_is_ahead) l12 c12 k12, PySem.W.mg_of X G a12⟩
  have c_is_wheel := ok_is_wheel (P := l.prog) (w := w) (base := base) T D_is_wheel 
  have c_need_wheel := ok_need_wheel (P := l.prog) (w := w) (base := base) T D_need_wheel c_is_wheel
  have c_need_seen := ok_need_seen (P := l.prog) (w := w) (base := base) T D_need_seen 
  have c_since_of := ok_since_of (P := l.prog) (w := w) (base := base) T D_since_of 
  have c_order_of := ok_order_of (P := l.prog) (w := w) (base := base) T D_order_of c_since_of
  have c_need_row := ok_need_row (P := l.prog) (w := w) (base := base) T D_need_row c_need_seen
  have c_goes_round := ok_goes_round (P := l.prog) (w := w) (base := base) T D_goes_round c_order_of
  have c_ring := ok_ring (P := l.prog) (w := w) (base := base) T D_ring c_need_wheel c_need_row c_goes_round
  have c__law_start := ok_start (P := l.prog) (w := w) (base := base) T D__law_start 
  have c__law_drawn := ok_drawn (P := l.prog) (w := w) (base := base) T D__law_drawn 
  have c__law_same := ok_same1 (P := l.prog) (w := w) (base := base) T D__law_same 
  have c__law_wheel := ok_wheel (P := l.prog) (w := w) (base := base) T D__law_wheel c__law_drawn
  have c__law_is_ahead := ok_is_ahead (P := l.prog) (w := w) (base := base) T D__law_is_ahead 
  exact ok_law T F c__law_start c__law_drawn c__law_wheel c__law_is_ahead c_ring c__law_same
end
end My
open PySem PySem.W PyProof.Rows
set_option maxRecDepth 100000 in
set_option maxHeartbeats 0 in
theorem PySem.Challenge.cw_wraptime_k10_rings_of_three_holds : PySem.Challenge.rw_wraptime_k10_rings_of_three.Holds := by
  w_on; o_law; k_head; (case hw => w_witness2)
  k_fill
  refine My.walk (l := PySem.Challenge.rw_wraptime_k10_rings_of_three) (k := 5) rfl rfl (by exact ⟨rfl, by decide, by decide⟩) (fun w h Y => PySem.W.kIn_of Y) ?F
  case F =>
    intro w mg fa h KX G hmg
    refine' My.all_mk KX G hmg ?a0 ?l0 ?c0 ?k0 ?a1 ?l1 ?c1 ?k1 ?a2 ?l2 ?c2 ?k2 ?a3 ?l3 ?c3 ?k3 ?a4 ?l4 ?c4 ?k4 ?a5 ?l5 ?c5 ?k5 ?a6 ?l6 ?c6 ?k6 ?a7 ?l7 ?c7 ?k7 ?a8 ?l8 ?c8 ?k8 ?a9 ?l9 ?c9 ?k9 ?a10 ?l10 ?c10 ?k10 ?a11 ?l11 ?c11 ?k11 ?a12 ?l12 ?c12 ?k12 ?a13 ?l13 ?c13 ?k13 ?g_MOST_WHEEL ?g_MOST_SEEN ?z_ValueError ?z_range ?z_isinstance ?z_str ?z_len ?z_tuple ?z_list ?z_bool ?z_int ?z_min ?eg_BadWheel ?ex_BadWheel ?ek_BadWheel ?eb_BadWheel ?et_BadWheel ?eg_BadSeen ?ex_BadSeen ?ek_BadSeen ?eb_BadSeen ?et_BadSeen ?eg_WrapError ?ex_WrapError ?ek_WrapError ?eb_WrapError ?et_WrapError
    (case a0 => k_is)
    (case l0 => k_is)
    (case c0 => k_is)
    (case k0 => k_is)
    (case a1 => k_is)
    (case l1 => k_is)
    (case c1 => k_is)
    (case k1 => k_is)
    (case a2 => k_is)
    (case l2 => k_is)
    (case c2 => k_is)
    (case k2 => k_is)
    (case a3 => k_is)
    (case l3 => k_is)
    (case c3 => k_is)
    (case k3 => k_is)
    (case a4 => k_is)
    (case l4 => k_is)
    (case c4 => k_is)
    (case k4 => k_is)
    (case a5 => k_is)
    (case l5 => k_is)
    (case c5 => k_is)
    (case k5 => k_is)
    (case a6 => k_is)
    (case l6 => k_is)
    (case c6 => k_is)
    (case k6 => k_is)
    (case a7 => k_is)
    (case l7 => k_is)
    (case c7 => k_is)
    (case k7 => k_is)
    (case a8 => k_is)
    (case l8 => k_is)
    (case c8 => k_is)
    (case k8 => k_is)
    (case a9 => k_is)
    (case l9 => k_is)
    (case c9 => k_is)
    (case k9 => k_is)
    (case a10 => k_is)
    (case l10 => k_is)
    (case c10 => k_is)
    (case k10 => k_is)
    (case a11 => k_is)
    (case l11 => k_is)
    (case c11 => k_is)
    (case k11 => k_is)
    (case a12 => k_is)
    (case l12 => k_is)
    (case c12 => k_is)
    (case k12 => k_is)
    (case a13 => k_is)
    (case l13 => k_is)
    (case c13 => k_is)
    (case k13 => k_is)
    (case g_MOST_WHEEL => k_is)
    (case g_MOST_SEEN => k_is)
    (case z_ValueError => k_is)
    (case z_range => k_is)
    (case z_isinstance => k_is)
    (case z_str => k_is)
    (case z_len => k_is)
    (case z_tuple => k_is)
    (case z_list => k_is)
    (case z_bool => k_is)
    (case z_int => k_is)
    (case z_min => k_is)
    (case eg_BadWheel => k_is)
    (case ex_BadWheel => k_exc)
    (case ek_BadWheel => k_is)
    (case eb_BadWheel => k_is)
    (case et_BadWheel => k_is)
    (case eg_BadSeen => k_is)
    (case ex_BadSeen => k_exc)
    (case ek_BadSeen => k_is)
    (case eb_BadSeen => k_is)
    (case et_BadSeen => k_is)
    (case eg_WrapError => k_is)
    (case ex_WrapError => k_exc)
    (case ek_WrapError => k_is)
    (case eb_WrapError => k_is)
    (case et_WrapError => k_is)

