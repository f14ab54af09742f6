import PyProof.Rows.All
import Wide.All
import OpenK.AllK
import Wide.FinOn
import HandS.ForMost
import HandS.Exc
import HandS.TryOnly
import HandS.ExcOwn
import HandS.WordsExc
import HandS.Lambda
import HandS.EndTab
import HandS.EndOwn
import HandS.Wide
import HandS.IsInst
import HandS.ExcIs
import HandS.Defaults
import HandS.SortInts
import HandS.SortKw
import HandS.Strs
import PySem.Challenge.RW_wraptime_k11_timers
set_option Elab.async false
set_option linter.all false
set_option maxRecDepth 100000
set_option maxHeartbeats 4000000
set_option Elab.async false
set_option linter.all false
set_option maxRecDepth 100000
set_option maxHeartbeats 4000000
namespace My
open PySem PySem.Spec PyProof.Rows L2
open LamX (Tabs TabS CodeO ExtN)
/-! ### what is known of a def -/
structure Knows (P : Program) (w : World) (K : PySem.W.Frag) (mg : Str → Option Value) (base : Heap) (k : Nat) (x : Str) (ps : List Str) (sp : Sp) : Prop where
  ex : ∃ (f : Addr) (fd : FuncData), FnOk P w K mg base (L2.CX P w) k f fd ps sp ∧ mg x = some (.ref f) ∧ PySem.W.keepIn K (.ref f) = true ∧ Binds K fd ps []
structure DefAt (K : PySem.W.Frag) (mg : Str → Option Value) (x : Str) (st : Stmt) (f : Addr) (fd : FuncData) : Prop where
  fn : Fun K x x st f fd
  g : mg x = some (.ref f)
structure ExcAt (K : PySem.W.Frag) (mg : Str → Option Value) (x : Str) (C : Addr) : Prop where
  g : mg x = some (.ref C)
  x : PySem.W.excIn K C [.type "ValueError", .type "Exception", .type "BaseException", .type "object"] "ValueError.__new__" = true
  k : PySem.W.keepIn K (.ref C) = true
  b : PySem.W.subIn K (.ref C) (.type "BaseException") = some true
  t : PySem.W.typeIn K (.ref C) = some (.type "type")
theorem pe_callN {X : Cx} {k : Nat} {x : Str} {ps : List Str} {sp : Sp} {E : XK} {p pos : Pos} {e : Expr} {es : List Expr} {t : TA} (c : Knows X.prog X.w X.K X.mg X.base k x ps sp) (hr : Room k X.A) (hx : Passes (L2.CX X.prog X.w) X E)
    (ha : PA X (e :: es) t) (hg : Gl X x := by rfl) (hdb : (x == ("__debug__" : Str)) = false := by decide) (he : starEach (e :: es) X.env = (false, eval e X.env) :: starEach es X.env := by rfl) (hpl : (backTo pos (starEach es X.env)).any (·.1) = false := by rfl) :
    PE X (.Call (.Name x p) (e :: es) [] pos) (tCall sp [] E t) := by
  obtain ⟨f, fd, F, hm, hk, hb⟩ := c.ex
  exact pe_call F hr hg hm hk hb .nil hx ha hdb he hpl
section
variable {P : Program} {w : World} {K : PySem.W.Frag} {mg : Str → Option Value} {base : Heap} {N : List Str} {qual : Str} {scope : Scope} {f : Addr} {cd : Value} {A : Around} {outer : List Env} {s : Shared} {H : Hp} {E : XK}
theorem takesD : Takes (cxOf (L2.CX P w) P w K mg base N qual scope f cd A outer s H E) (fun cls d _ H => E cls d H) := takes_of rfl rfl rfl rfl
theorem passD : Passes (L2.CX P w) (cxOf (L2.CX P w) P w K mg base N qual scope f cd A outer s H E) E := passes_call takesD (fun _ _ _ _ h => h)
theorem passO : PassesOwn (model P w) (A.deeper (envOfC qual scope s.heap.objs.size f cd)) (envOfC qual scope s.heap.objs.size f cd) (cxOf (L2.CX P w) P w K mg base N qual scope f cd A outer s H E).xe := PassesOwn.leaving
theorem ps_raiseN {x m : Str} {C : Addr} {j : Nat} {p p2 pos pos2 : Pos} (e : ExcAt K mg x C) (hg : Gl (cxOf (L2.CX P w) P w K mg base N qual scope f cd A outer s H E) x := by rfl) (hdb : (x == ("__debug__" : Str)) = false := by decide) :
    PS (cxOf (L2.CX P w) P w K mg base N qual scope f cd A outer s H E) (.Raise (some (.Call (.Name x p) [.Constant (.str m) j p2] [] pos)) none pos2) (fun _ _ H' => E (.ref C) none H') :=
  ps_raise rfl takesD (pmk_own PySem.F.excBase_ValueError e.x e.g e.k (raises_own e.b e.t) hg hdb)
end
/-! ### rules by name -/
def rLenN (K : PySem.W.Frag) : List V → Hp → VK → Prop := fun xs H Q => ∃ (x : V) (n : Nat), xs = [x] ∧ LenV K x H n ∧ Q (.int n) H
theorem call_lenN {X : Cx} : CallR X (.builtin "len") (rLenN X.K) := call_len
def rMin2 : List V → Hp → VK → Prop := fun xs H Q => ∃ i j : Int, xs = [.int i, .int j] ∧ Q (.int (if j < i then j else i)) H
def rMax2 : List V → Hp → VK → Prop := fun xs H Q => ∃ i j : Int, xs = [.int i, .int j] ∧ Q (.int (if j > i then j else i)) H
theorem call_min2N {X : Cx} (hc : X.calm = true) : CallR X (.builtin "min") rMin2 := call_min2 hc
theorem call_max2N {X : Cx} (hc : X.calm = true) : CallR X (.builtin "max") rMax2 := call_max2 hc
def rAbs : List V → Hp → VK → Prop := fun xs H Q => ∃ i : Int, xs = [.int i] ∧ Q (.int (if i < 0 then -i else i)) H
theorem call_absN {X : Cx} : CallR X (.builtin "abs") rAbs := call_abs
def rInt1 : List V → Hp → VK → Prop := fun xs H Q => (∃ i : Int, xs = [.int i] ∧ Q (.int i) H) ∨ ∃ k : Bool, xs = [.bl k] ∧ Q (.int (if k then 1 else 0)) H
theorem call_intN {X : Cx} : CallR X (.type "int") rInt1 := call_int1
def rListOf (K : PySem.W.Frag) : List V → Hp → VK → Prop := fun xs H Q => ∃ (p : Addr) (ys : List V), xs = [.ref p] ∧ (SqL K H p ys ∨ SqT K H p ys) ∧ ∀ l, H l = none → Q (.ref l) (upd H l (.lst ys))
theorem call_listN {X : Cx} : CallR X (.type "list") (rListOf X.K) := call_list_of
def rIsN : R2 := fun x y H Q => y = .non ∧ Q (.bl (decide (x = .non))) H
def rNotN : R2 := fun x y H Q => y = .non ∧ Q (.bl (!decide (x = .non))) H
theorem op_isNN {X : Cx} : OpR X (compareOp .Is) rIsN := op_isN
theorem op_notNN {X : Cx} : OpR X (compareOp .IsNot) rNotN := op_notN
/-! ### a reading, step by step -/
section
variable {σ : L2.St} {H : Hp} {i : Nat} {v : V} {ta tb tc : TE} {t u : TT} {r r' : R2} {Q : VK} {QB : Bool → Hp → Prop} {QA : List V → Hp → Prop} {D : Ends} {g : TG} {a b : Int} {te : TE} {tl : TA} {s1 s2 : TS}
theorem g_var (h : σ[i]? = some (some v)) (q : Q v H) : tVar i σ H Q := ⟨v, h, q⟩
theorem g_var0 {r : L2.St} (q : Q v H) : tVar 0 (some v :: r) H Q := ⟨v, rfl, q⟩
theorem g_var1 {x0 : Option V} {r : L2.St} (q : Q v H) : tVar 1 (x0 :: some v :: r) H Q := ⟨v, rfl, q⟩
theorem g_var2 {x0 x1 : Option V} {r : L2.St} (q : Q v H) : tVar 2 (x0 :: x1 :: some v :: r) H Q := ⟨v, rfl, q⟩
theorem g_var3 {x0 x1 x2 : Option V} {r : L2.St} (q : Q v H) : tVar 3 (x0 :: x1 :: x2 :: some v :: r) H Q := ⟨v, rfl, q⟩
theorem g_var4 {x0 x1 x2 x3 : Option V} {r : L2.St} (q : Q v H) : tVar 4 (x0 :: x1 :: x2 :: x3 :: some v :: r) H Q := ⟨v, rfl, q⟩
theorem g_var5 {x0 x1 x2 x3 x4 : Option V} {r : L2.St} (q : Q v H) : tVar 5 (x0 :: x1 :: x2 :: x3 :: x4 :: some v :: r) H Q := ⟨v, rfl, q⟩
theorem g_var6 {x0 x1 x2 x3 x4 x5 : Option V} {r : L2.St} (q : Q v H) : tVar 6 (x0 :: x1 :: x2 :: x3 :: x4 :: x5 :: some v :: r) H Q := ⟨v, rfl, q⟩
theorem g_var7 {x0 x1 x2 x3 x4 x5 x6 : Option V} {r : L2.St} (q : Q v H) : tVar 7 (x0 :: x1 :: x2 :: x3 :: x4 :: x5 :: x6 :: some v :: r) H Q := ⟨v, rfl, q⟩
theorem g_var8 {x0 x1 x2 x3 x4 x5 x6 x7 : Option V} {r : L2.St} (q : Q v H) : tVar 8 (x0 :: x1 :: x2 :: x3 :: x4 :: x5 :: x6 :: x7 :: some v :: r) H Q := ⟨v, rfl, q⟩
theorem g_var9 {x0 x1 x2 x3 x4 x5 x6 x7 x8 : Option V} {r : L2.St} (q : Q v H) : tVar 9 (x0 :: x1 :: x2 :: x3 :: x4 :: x5 :: x6 :: x7 :: x8 :: some v :: r) H Q := ⟨v, rfl, q⟩
theorem g_var10 {x0 x1 x2 x3 x4 x5 x6 x7 x8 x9 : Option V} {r : L2.St} (q : Q v H) : tVar 10 (x0 :: x1 :: x2 :: x3 :: x4 :: x5 :: x6 :: x7 :: x8 :: x9 :: some v :: r) H Q := ⟨v, rfl, q⟩
theorem g_var11 {x0 x1 x2 x3 x4 x5 x6 x7 x8 x9 x10 : Option V} {r : L2.St} (q : Q v H) : tVar 11 (x0 :: x1 :: x2 :: x3 :: x4 :: x5 :: x6 :: x7 :: x8 :: x9 :: x10 :: some v :: r) H Q := ⟨v, rfl, q⟩
theorem g_var12 {x0 x1 x2 x3 x4 x5 x6 x7 x8 x9 x10 x11 : Option V} {r : L2.St} (q : Q v H) : tVar 12 (x0 :: x1 :: x2 :: x3 :: x4 :: x5 :: x6 :: x7 :: x8 :: x9 :: x10 :: x11 :: some v :: r) H Q := ⟨v, rfl, q⟩
theorem g_var13 {x0 x1 x2 x3 x4 x5 x6 x7 x8 x9 x10 x11 x12 : Option V} {r : L2.St} (q : Q v H) : tVar 13 (x0 :: x1 :: x2 :: x3 :: x4 :: x5 :: x6 :: x7 :: x8 :: x9 :: x10 :: x11 :: x12 :: some v :: r) H Q := ⟨v, rfl, q⟩
theorem g_var14 {x0 x1 x2 x3 x4 x5 x6 x7 x8 x9 x10 x11 x12 x13 : Option V} {r : L2.St} (q : Q v H) : tVar 14 (x0 :: x1 :: x2 :: x3 :: x4 :: x5 :: x6 :: x7 :: x8 :: x9 :: x10 :: x11 :: x12 :: x13 :: some v :: r) H Q := ⟨v, rfl, q⟩
theorem g_var15 {x0 x1 x2 x3 x4 x5 x6 x7 x8 x9 x10 x11 x12 x13 x14 : Option V} {r : L2.St} (q : Q v H) : tVar 15 (x0 :: x1 :: x2 :: x3 :: x4 :: x5 :: x6 :: x7 :: x8 :: x9 :: x10 :: x11 :: x12 :: x13 :: x14 :: some v :: r) H Q := ⟨v, rfl, q⟩
theorem g_var16 {x0 x1 x2 x3 x4 x5 x6 x7 x8 x9 x10 x11 x12 x13 x14 x15 : Option V} {r : L2.St} (q : Q v H) : tVar 16 (x0 :: x1 :: x2 :: x3 :: x4 :: x5 :: x6 :: x7 :: x8 :: x9 :: x10 :: x11 :: x12 :: x13 :: x14 :: x15 :: some v :: r) H Q := ⟨v, rfl, q⟩
theorem g_var17 {x0 x1 x2 x3 x4 x5 x6 x7 x8 x9 x10 x11 x12 x13 x14 x15 x16 : Option V} {r : L2.St} (q : Q v H) : tVar 17 (x0 :: x1 :: x2 :: x3 :: x4 :: x5 :: x6 :: x7 :: x8 :: x9 :: x10 :: x11 :: x12 :: x13 :: x14 :: x15 :: x16 :: some v :: r) H Q := ⟨v, rfl, q⟩
theorem g_var18 {x0 x1 x2 x3 x4 x5 x6 x7 x8 x9 x10 x11 x12 x13 x14 x15 x16 x17 : Option V} {r : L2.St} (q : Q v H) : tVar 18 (x0 :: x1 :: x2 :: x3 :: x4 :: x5 :: x6 :: x7 :: x8 :: x9 :: x10 :: x11 :: x12 :: x13 :: x14 :: x15 :: x16 :: x17 :: some v :: r) H Q := ⟨v, rfl, q⟩
theorem g_var19 {x0 x1 x2 x3 x4 x5 x6 x7 x8 x9 x10 x11 x12 x13 x14 x15 x16 x17 x18 : Option V} {r : L2.St} (q : Q v H) : tVar 19 (x0 :: x1 :: x2 :: x3 :: x4 :: x5 :: x6 :: x7 :: x8 :: x9 :: x10 :: x11 :: x12 :: x13 :: x14 :: x15 :: x16 :: x17 :: x18 :: some v :: r) H Q := ⟨v, rfl, q⟩
theorem g_var20 {x0 x1 x2 x3 x4 x5 x6 x7 x8 x9 x10 x11 x12 x13 x14 x15 x16 x17 x18 x19 : Option V} {r : L2.St} (q : Q v H) : tVar 20 (x0 :: x1 :: x2 :: x3 :: x4 :: x5 :: x6 :: x7 :: x8 :: x9 :: x10 :: x11 :: x12 :: x13 :: x14 :: x15 :: x16 :: x17 :: x18 :: x19 :: some v :: r) H Q := ⟨v, rfl, q⟩
theorem g_var21 {x0 x1 x2 x3 x4 x5 x6 x7 x8 x9 x10 x11 x12 x13 x14 x15 x16 x17 x18 x19 x20 : Option V} {r : L2.St} (q : Q v H) : tVar 21 (x0 :: x1 :: x2 :: x3 :: x4 :: x5 :: x6 :: x7 :: x8 :: x9 :: x10 :: x11 :: x12 :: x13 :: x14 :: x15 :: x16 :: x17 :: x18 :: x19 :: x20 :: some v :: r) H Q := ⟨v, rfl, q⟩
theorem g_var22 {x0 x1 x2 x3 x4 x5 x6 x7 x8 x9 x10 x11 x12 x13 x14 x15 x16 x17 x18 x19 x20 x21 : Option V} {r : L2.St} (q : Q v H) : tVar 22 (x0 :: x1 :: x2 :: x3 :: x4 :: x5 :: x6 :: x7 :: x8 :: x9 :: x10 :: x11 :: x12 :: x13 :: x14 :: x15 :: x16 :: x17 :: x18 :: x19 :: x20 :: x21 :: some v :: r) H Q := ⟨v, rfl, q⟩
theorem g_var23 {x0 x1 x2 x3 x4 x5 x6 x7 x8 x9 x10 x11 x12 x13 x14 x15 x16 x17 x18 x19 x20 x21 x22 : Option V} {r : L2.St} (q : Q v H) : tVar 23 (x0 :: x1 :: x2 :: x3 :: x4 :: x5 :: x6 :: x7 :: x8 :: x9 :: x10 :: x11 :: x12 :: x13 :: x14 :: x15 :: x16 :: x17 :: x18 :: x19 :: x20 :: x21 :: x22 :: some v :: r) H Q := ⟨v, rfl, q⟩
theorem g_var24 {x0 x1 x2 x3 x4 x5 x6 x7 x8 x9 x10 x11 x12 x13 x14 x15 x16 x17 x18 x19 x20 x21 x22 x23 : Option V} {r : L2.St} (q : Q v H) : tVar 24 (x0 :: x1 :: x2 :: x3 :: x4 :: x5 :: x6 :: x7 :: x8 :: x9 :: x10 :: x11 :: x12 :: x13 :: x14 :: x15 :: x16 :: x17 :: x18 :: x19 :: x20 :: x21 :: x22 :: x23 :: some v :: r) H Q := ⟨v, rfl, q⟩
theorem g_var25 {x0 x1 x2 x3 x4 x5 x6 x7 x8 x9 x10 x11 x12 x13 x14 x15 x16 x17 x18 x19 x20 x21 x22 x23 x24 : Option V} {r : L2.St} (q : Q v H) : tVar 25 (x0 :: x1 :: x2 :: x3 :: x4 :: x5 :: x6 :: x7 :: x8 :: x9 :: x10 :: x11 :: x12 :: x13 :: x14 :: x15 :: x16 :: x17 :: x18 :: x19 :: x20 :: x21 :: x22 :: x23 :: x24 :: some v :: r) H Q := ⟨v, rfl, q⟩
theorem g_c (q : Q v H) : tC v σ H Q := q
theorem g_op (q : ta σ H fun x H1 => tb σ H1 fun y H2 => r x y H2 Q) : tOp r ta tb σ H Q := q
theorem g_un {r1 : V → Hp → VK → Prop} (q : ta σ H fun x H1 => r1 x H1 Q) : tUn r1 ta σ H Q := q
theorem g_rI0 {k : Int → Int → V} (q : Q (k a b) H) : rI0 k (.int a) (.int b) H Q := ⟨a, b, rfl, rfl, q⟩
theorem g_rU {k : Int → V} (q : Q (k a) H) : rU k (.int a) H Q := ⟨a, rfl, q⟩
theorem g_rI {C : Int → Int → Prop} {k : Int → Int → V} (h : C a b) (q : Q (k a b) H) : rI C k (.int a) (.int b) H Q := ⟨a, b, rfl, rfl, h, q⟩
theorem g_eq {x y : V} (h : scal x y = true) (q : Q (.bl (decide (x = y))) H) : rEq x y H Q := ⟨h, q⟩
theorem g_ne {x y : V} (h : scal x y = true) (q : Q (.bl (!decide (x = y))) H) : rNe x y H Q := ⟨h, q⟩
theorem g_isN {x : V} (q : Q (.bl (decide (x = .non))) H) : rIsN x .non H Q := ⟨rfl, q⟩
theorem g_notN {x : V} (q : Q (.bl (!decide (x = .non))) H) : rNotN x .non H Q := ⟨rfl, q⟩
theorem g_test (q : ta σ H fun x H' => ∃ k, x = .bl k ∧ QB k H') : tTest ta σ H QB := q
theorem g_tB (q : ta σ H fun x H' => ∃ k, x = .bl k ∧ QB k H') : tB ta σ H QB := q
theorem g_bl {c : Bool} (q : QB c H) : ∃ k, V.bl c = .bl k ∧ QB k H := ⟨c, rfl, q⟩
theorem g_not (q : t σ H fun c H1 => QB (!c) H1) : tNot t σ H QB := q
theorem g_and (q : t σ H fun c H1 => if c = true then u σ H1 QB else QB false H1) : tAnd t u σ H QB := q
theorem g_or (q : t σ H fun c H1 => if c = true then QB true H1 else u σ H1 QB) : tOr t u σ H QB := q
theorem g_andV (q : ta σ H fun x H1 => ∃ c, x = .bl c ∧ if c = true then tb σ H1 Q else Q (.bl false) H1) : tAndV ta tb σ H Q := q
theorem g_orV (q : ta σ H fun x H1 => ∃ c, x = .bl c ∧ if c = true then Q (.bl true) H1 else tb σ H1 Q) : tOrV ta tb σ H Q := q
theorem g_notV (q : ta σ H fun x H1 => ∃ c, x = .bl c ∧ Q (.bl (!c)) H1) : tNotV ta σ H Q := q
theorem g_if (q : t σ H fun c H1 => if c = true then ta σ H1 Q else tb σ H1 Q) : tIf t ta tb σ H Q := q
theorem g_sub {to ti : TE} {st : TSet} {Qs : L2.St → Hp → Prop} (q : to σ H fun o H1 => ti σ H1 fun i H2 => st o i v H2 fun H3 => Qs σ H3) : gSub to ti st v σ H Qs := q
theorem g_sz {n : Nat} {B : Prop} (h : n ≤ 100000) (q : B) : n ≤ sizeLine ∧ B := ⟨Nat.le_trans h (by decide), q⟩
theorem g_lenL {K : PySem.W.Frag} {p : Addr} {xs : List V} (h : SqL K H p xs) (q : Q (.int (xs.length : Nat)) H) : rLenN K [V.ref p] H Q := ⟨_, _, rfl, Or.inl ⟨xs, h, rfl⟩, q⟩
theorem g_lenT {K : PySem.W.Frag} {p : Addr} {xs : List V} (h : SqT K H p xs) (q : Q (.int (xs.length : Nat)) H) : rLenN K [V.ref p] H Q := ⟨_, _, rfl, Or.inr ⟨xs, h, rfl⟩, q⟩
theorem g_min2 (q : Q (.int (if b < a then b else a)) H) : rMin2 [.int a, .int b] H Q := ⟨a, b, rfl, q⟩
theorem g_max2 (q : Q (.int (if b > a then b else a)) H) : rMax2 [.int a, .int b] H Q := ⟨a, b, rfl, q⟩
theorem g_abs (q : Q (.int (if a < 0 then -a else a)) H) : rAbs [.int a] H Q := ⟨a, rfl, q⟩
theorem g_intI (q : Q (.int a) H) : rInt1 [.int a] H Q := .inl ⟨a, rfl, q⟩
theorem g_intB {k : Bool} (q : Q (.int (if k then 1 else 0)) H) : rInt1 [.bl k] H Q := .inr ⟨k, rfl, q⟩
theorem g_listL {K : PySem.W.Frag} {p : Addr} {xs : List V} (h : SqL K H p xs) (q : ∀ l, H l = none → Q (.ref l) (upd H l (.lst xs))) : rListOf K [.ref p] H Q := ⟨p, xs, rfl, .inl h, q⟩
theorem g_set41 {p : Addr} {x0 x1 x2 x3 : V} {QS : Hp → Prop} (h : H p = some (.lst [x0, x1, x2, x3])) (q : QS (upd H p (.lst [x0, v, x2, x3]))) : rSetL (.ref p) (.int 1) v H QS := ⟨p, _, 1, 1, rfl, rfl, h, rfl, q⟩
theorem g_set42 {p : Addr} {x0 x1 x2 x3 : V} {QS : Hp → Prop} (h : H p = some (.lst [x0, x1, x2, x3])) (q : QS (upd H p (.lst [x0, x1, v, x3]))) : rSetL (.ref p) (.int 2) v H QS := ⟨p, _, 2, 2, rfl, rfl, h, rfl, q⟩
theorem g_set43 {p : Addr} {x0 x1 x2 x3 : V} {QS : Hp → Prop} (h : H p = some (.lst [x0, x1, x2, x3])) (q : QS (upd H p (.lst [x0, x1, x2, v]))) : rSetL (.ref p) (.int 3) v H QS := ⟨p, _, 3, 3, rfl, rfl, h, rfl, q⟩
theorem g_setL {p : Addr} {xs ys : List V} {j : Nat} {QS : Hp → Prop} (h : H p = some (.lst xs)) (h2 : ixN xs.length a = some j) (h3 : xs.set j v = ys) (q : QS (upd H p (.lst ys))) : rSetL (.ref p) (.int a) v H QS := ⟨p, xs, a, j, rfl, rfl, h, h2, h3 ▸ q⟩
theorem g_chain (q : ta σ H fun x H1 => tb σ H1 fun y H2 => r x y H2 fun z H3 => ∃ k, z = .bl k ∧ (if k = true then tc σ H3 fun w' H4 => r' y w' H4 Q else Q (.bl false) H3)) : tChain r r' ta tb tc σ H Q := q
theorem g_nil (q : QA [] H) : tNil σ H QA := q
theorem g_cons {tr : TA} (q : te σ H fun x H1 => tr σ H1 fun xs H2 => QA (x :: xs) H2) : tCons te tr σ H QA := q
theorem g_call {sp : Sp} {dvs : List V} {E : XK} (q : tl σ H fun vs H1 => sp (vs ++ dvs) H1 Q E) : tCall sp dvs E tl σ H Q := q
theorem g_callB {rc : List V → Hp → VK → Prop} (q : tl σ H fun vs H1 => rc vs H1 Q) : tCB rc tl σ H Q := q
theorem g_lst (q : tl σ H fun xs H1 => xs.length ≤ sizeLine ∧ ∀ p, H1 p = none → Q (.ref p) (upd H1 p (.lst xs))) : tLst tl σ H Q := q
theorem g_tup (q : tl σ H fun xs H1 => xs.length ≤ sizeLine ∧ ∀ p, H1 p = none → Q (.ref p) (upd H1 p (.tup xs))) : tTup tl σ H Q := q
theorem g_seq (q : s1 { D with nx := s2 D } σ H) : tSeq s1 s2 D σ H := q
theorem g_asg (q : te σ H fun x H1 => g x σ H1 D.nx) : tAsg te g D σ H := q
theorem g_name {Qs : L2.St → Hp → Prop} (q : Qs (σ.set i (some v)) H) : gName i v σ H Qs := q
theorem g_name0 {x0 : Option V} {r : L2.St} {Qs : L2.St → Hp → Prop} (q : Qs (some v :: r) H) : gName 0 v (x0 :: r) H Qs := q
theorem g_name1 {x0 x1 : Option V} {r : L2.St} {Qs : L2.St → Hp → Prop} (q : Qs (x0 :: some v :: r) H) : gName 1 v (x0 :: x1 :: r) H Qs := q
theorem g_name2 {x0 x1 x2 : Option V} {r : L2.St} {Qs : L2.St → Hp → Prop} (q : Qs (x0 :: x1 :: some v :: r) H) : gName 2 v (x0 :: x1 :: x2 :: r) H Qs := q
theorem g_name3 {x0 x1 x2 x3 : Option V} {r : L2.St} {Qs : L2.St → Hp → Prop} (q : Qs (x0 :: x1 :: x2 :: some v :: r) H) : gName 3 v (x0 :: x1 :: x2 :: x3 :: r) H Qs := q
theorem g_name4 {x0 x1 x2 x3 x4 : Option V} {r : L2.St} {Qs : L2.St → Hp → Prop} (q : Qs (x0 :: x1 :: x2 :: x3 :: some v :: r) H) : gName 4 v (x0 :: x1 :: x2 :: x3 :: x4 :: r) H Qs := q
theorem g_name5 {x0 x1 x2 x3 x4 x5 : Option V} {r : L2.St} {Qs : L2.St → Hp → Prop} (q : Qs (x0 :: x1 :: x2 :: x3 :: x4 :: some v :: r) H) : gName 5 v (x0 :: x1 :: x2 :: x3 :: x4 :: x5 :: r) H Qs := q
theorem g_name6 {x0 x1 x2 x3 x4 x5 x6 : Option V} {r : L2.St} {Qs : L2.St → Hp → Prop} (q : Qs (x0 :: x1 :: x2 :: x3 :: x4 :: x5 :: some v :: r) H) : gName 6 v (x0 :: x1 :: x2 :: x3 :: x4 :: x5 :: x6 :: r) H Qs := q
theorem g_name7 {x0 x1 x2 x3 x4 x5 x6 x7 : Option V} {r : L2.St} {Qs : L2.St → Hp → Prop} (q : Qs (x0 :: x1 :: x2 :: x3 :: x4 :: x5 :: x6 :: some v :: r) H) : gName 7 v (x0 :: x1 :: x2 :: x3 :: x4 :: x5 :: x6 :: x7 :: r) H Qs := q
theorem g_name8 {x0 x1 x2 x3 x4 x5 x6 x7 x8 : Option V} {r : L2.St} {Qs : L2.St → Hp → Prop} (q : Qs (x0 :: x1 :: x2 :: x3 :: x4 :: x5 :: x6 :: x7 :: some v :: r) H) : gName 8 v (x0 :: x1 :: x2 :: x3 :: x4 :: x5 :: x6 :: x7 :: x8 :: r) H Qs := q
theorem g_name9 {x0 x1 x2 x3 x4 x5 x6 x7 x8 x9 : Option V} {r : L2.St} {Qs : L2.St → Hp → Prop} (q : Qs (x0 :: x1 :: x2 :: x3 :: x4 :: x5 :: x6 :: x7 :: x8 :: some v :: r) H) : gName 9 v (x0 :: x1 :: x2 :: x3 :: x4 :: x5 :: x6 :: x7 :: x8 :: x9 :: r) H Qs := q
theorem g_name10 {x0 x1 x2 x3 x4 x5 x6 x7 x8 x9 x10 : Option V} {r : L2.St} {Qs : L2.St → Hp → Prop} (q : Qs (x0 :: x1 :: x2 :: x3 :: x4 :: x5 :: x6 :: x7 :: x8 :: x9 :: some v :: r) H) : gName 10 v (x0 :: x1 :: x2 :: x3 :: x4 :: x5 :: x6 :: x7 :: x8 :: x9 :: x10 :: r) H Qs := q
theorem g_name11 {x0 x1 x2 x3 x4 x5 x6 x7 x8 x9 x10 x11 : Option V} {r : L2.St} {Qs : L2.St → Hp → Prop} (q : Qs (x0 :: x1 :: x2 :: x3 :: x4 :: x5 :: x6 :: x7 :: x8 :: x9 :: x10 :: some v :: r) H) : gName 11 v (x0 :: x1 :: x2 :: x3 :: x4 :: x5 :: x6 :: x7 :: x8 :: x9 :: x10 :: x11 :: r) H Qs := q
theorem g_name12 {x0 x1 x2 x3 x4 x5 x6 x7 x8 x9 x10 x11 x12 : Option V} {r : L2.St} {Qs : L2.St → Hp → Prop} (q : Qs (x0 :: x1 :: x2 :: x3 :: x4 :: x5 :: x6 :: x7 :: x8 :: x9 :: x10 :: x11 :: some v :: r) H) : gName 12 v (x0 :: x1 :: x2 :: x3 :: x4 :: x5 :: x6 :: x7 :: x8 :: x9 :: x10 :: x11 :: x12 :: r) H Qs := q
theorem g_name13 {x0 x1 x2 x3 x4 x5 x6 x7 x8 x9 x10 x11 x12 x13 : Option V} {r : L2.St} {Qs : L2.St → Hp → Prop} (q : Qs (x0 :: x1 :: x2 :: x3 :: x4 :: x5 :: x6 :: x7 :: x8 :: x9 :: x10 :: x11 :: x12 :: some v :: r) H) : gName 13 v (x0 :: x1 :: x2 :: x3 :: x4 :: x5 :: x6 :: x7 :: x8 :: x9 :: x10 :: x11 :: x12 :: x13 :: r) H Qs := q
theorem g_name14 {x0 x1 x2 x3 x4 x5 x6 x7 x8 x9 x10 x11 x12 x13 x14 : Option V} {r : L2.St} {Qs : L2.St → Hp → Prop} (q : Qs (x0 :: x1 :: x2 :: x3 :: x4 :: x5 :: x6 :: x7 :: x8 :: x9 :: x10 :: x11 :: x12 :: x13 :: some v :: r) H) : gName 14 v (x0 :: x1 :: x2 :: x3 :: x4 :: x5 :: x6 :: x7 :: x8 :: x9 :: x10 :: x11 :: x12 :: x13 :: x14 :: r) H Qs := q
theorem g_name15 {x0 x1 x2 x3 x4 x5 x6 x7 x8 x9 x10 x11 x12 x13 x14 x15 : Option V} {r : L2.St} {Qs : L2.St → Hp → Prop} (q : Qs (x0 :: x1 :: x2 :: x3 :: x4 :: x5 :: x6 :: x7 :: x8 :: x9 :: x10 :: x11 :: x12 :: x13 :: x14 :: some v :: r) H) : gName 15 v (x0 :: x1 :: x2 :: x3 :: x4 :: x5 :: x6 :: x7 :: x8 :: x9 :: x10 :: x11 :: x12 :: x13 :: x14 :: x15 :: r) H Qs := q
theorem g_name16 {x0 x1 x2 x3 x4 x5 x6 x7 x8 x9 x10 x11 x12 x13 x14 x15 x16 : Option V} {r : L2.St} {Qs : L2.St → Hp → Prop} (q : Qs (x0 :: x1 :: x2 :: x3 :: x4 :: x5 :: x6 :: x7 :: x8 :: x9 :: x10 :: x11 :: x12 :: x13 :: x14 :: x15 :: some v :: r) H) : gName 16 v (x0 :: x1 :: x2 :: x3 :: x4 :: x5 :: x6 :: x7 :: x8 :: x9 :: x10 :: x11 :: x12 :: x13 :: x14 :: x15 :: x16 :: r) H Qs := q
theorem g_name17 {x0 x1 x2 x3 x4 x5 x6 x7 x8 x9 x10 x11 x12 x13 x14 x15 x16 x17 : Option V} {r : L2.St} {Qs : L2.St → Hp → Prop} (q : Qs (x0 :: x1 :: x2 :: x3 :: x4 :: x5 :: x6 :: x7 :: x8 :: x9 :: x10 :: x11 :: x12 :: x13 :: x14 :: x15 :: x16 :: some v :: r) H) : gName 17 v (x0 :: x1 :: x2 :: x3 :: x4 :: x5 :: x6 :: x7 :: x8 :: x9 :: x10 :: x11 :: x12 :: x13 :: x14 :: x15 :: x16 :: x17 :: r) H Qs := q
theorem g_name18 {x0 x1 x2 x3 x4 x5 x6 x7 x8 x9 x10 x11 x12 x13 x14 x15 x16 x17 x18 : Option V} {r : L2.St} {Qs : L2.St → Hp → Prop} (q : Qs (x0 :: x1 :: x2 :: x3 :: x4 :: x5 :: x6 :: x7 :: x8 :: x9 :: x10 :: x11 :: x12 :: x13 :: x14 :: x15 :: x16 :: x17 :: some v :: r) H) : gName 18 v (x0 :: x1 :: x2 :: x3 :: x4 :: x5 :: x6 :: x7 :: x8 :: x9 :: x10 :: x11 :: x12 :: x13 :: x14 :: x15 :: x16 :: x17 :: x18 :: r) H Qs := q
theorem g_name19 {x0 x1 x2 x3 x4 x5 x6 x7 x8 x9 x10 x11 x12 x13 x14 x15 x16 x17 x18 x19 : Option V} {r : L2.St} {Qs : L2.St → Hp → Prop} (q : Qs (x0 :: x1 :: x2 :: x3 :: x4 :: x5 :: x6 :: x7 :: x8 :: x9 :: x10 :: x11 :: x12 :: x13 :: x14 :: x15 :: x16 :: x17 :: x18 :: some v :: r) H) : gName 19 v (x0 :: x1 :: x2 :: x3 :: x4 :: x5 :: x6 :: x7 :: x8 :: x9 :: x10 :: x11 :: x12 :: x13 :: x14 :: x15 :: x16 :: x17 :: x18 :: x19 :: r) H Qs := q
theorem g_name20 {x0 x1 x2 x3 x4 x5 x6 x7 x8 x9 x10 x11 x12 x13 x14 x15 x16 x17 x18 x19 x20 : Option V} {r : L2.St} {Qs : L2.St → Hp → Prop} (q : Qs (x0 :: x1 :: x2 :: x3 :: x4 :: x5 :: x6 :: x7 :: x8 :: x9 :: x10 :: x11 :: x12 :: x13 :: x14 :: x15 :: x16 :: x17 :: x18 :: x19 :: some v :: r) H) : gName 20 v (x0 :: x1 :: x2 :: x3 :: x4 :: x5 :: x6 :: x7 :: x8 :: x9 :: x10 :: x11 :: x12 :: x13 :: x14 :: x15 :: x16 :: x17 :: x18 :: x19 :: x20 :: r) H Qs := q
theorem g_name21 {x0 x1 x2 x3 x4 x5 x6 x7 x8 x9 x10 x11 x12 x13 x14 x15 x16 x17 x18 x19 x20 x21 : Option V} {r : L2.St} {Qs : L2.St → Hp → Prop} (q : Qs (x0 :: x1 :: x2 :: x3 :: x4 :: x5 :: x6 :: x7 :: x8 :: x9 :: x10 :: x11 :: x12 :: x13 :: x14 :: x15 :: x16 :: x17 :: x18 :: x19 :: x20 :: some v :: r) H) : gName 21 v (x0 :: x1 :: x2 :: x3 :: x4 :: x5 :: x6 :: x7 :: x8 :: x9 :: x10 :: x11 :: x12 :: x13 :: x14 :: x15 :: x16 :: x17 :: x18 :: x19 :: x20 :: x21 :: r) H Qs := q
theorem g_name22 {x0 x1 x2 x3 x4 x5 x6 x7 x8 x9 x10 x11 x12 x13 x14 x15 x16 x17 x18 x19 x20 x21 x22 : Option V} {r : L2.St} {Qs : L2.St → Hp → Prop} (q : Qs (x0 :: x1 :: x2 :: x3 :: x4 :: x5 :: x6 :: x7 :: x8 :: x9 :: x10 :: x11 :: x12 :: x13 :: x14 :: x15 :: x16 :: x17 :: x18 :: x19 :: x20 :: x21 :: some v :: r) H) : gName 22 v (x0 :: x1 :: x2 :: x3 :: x4 :: x5 :: x6 :: x7 :: x8 :: x9 :: x10 :: x11 :: x12 :: x13 :: x14 :: x15 :: x16 :: x17 :: x18 :: x19 :: x20 :: x21 :: x22 :: r) H Qs := q
theorem g_name23 {x0 x1 x2 x3 x4 x5 x6 x7 x8 x9 x10 x11 x12 x13 x14 x15 x16 x17 x18 x19 x20 x21 x22 x23 : Option V} {r : L2.St} {Qs : L2.St → Hp → Prop} (q : Qs (x0 :: x1 :: x2 :: x3 :: x4 :: x5 :: x6 :: x7 :: x8 :: x9 :: x10 :: x11 :: x12 :: x13 :: x14 :: x15 :: x16 :: x17 :: x18 :: x19 :: x20 :: x21 :: x22 :: some v :: r) H) : gName 23 v (x0 :: x1 :: x2 :: x3 :: x4 :: x5 :: x6 :: x7 :: x8 :: x9 :: x10 :: x11 :: x12 :: x13 :: x14 :: x15 :: x16 :: x17 :: x18 :: x19 :: x20 :: x21 :: x22 :: x23 :: r) H Qs := q
theorem g_name24 {x0 x1 x2 x3 x4 x5 x6 x7 x8 x9 x10 x11 x12 x13 x14 x15 x16 x17 x18 x19 x20 x21 x22 x23 x24 : Option V} {r : L2.St} {Qs : L2.St → Hp → Prop} (q : Qs (x0 :: x1 :: x2 :: x3 :: x4 :: x5 :: x6 :: x7 :: x8 :: x9 :: x10 :: x11 :: x12 :: x13 :: x14 :: x15 :: x16 :: x17 :: x18 :: x19 :: x20 :: x21 :: x22 :: x23 :: some v :: r) H) : gName 24 v (x0 :: x1 :: x2 :: x3 :: x4 :: x5 :: x6 :: x7 :: x8 :: x9 :: x10 :: x11 :: x12 :: x13 :: x14 :: x15 :: x16 :: x17 :: x18 :: x19 :: x20 :: x21 :: x22 :: x23 :: x24 :: r) H Qs := q
theorem g_name25 {x0 x1 x2 x3 x4 x5 x6 x7 x8 x9 x10 x11 x12 x13 x14 x15 x16 x17 x18 x19 x20 x21 x22 x23 x24 x25 : Option V} {r : L2.St} {Qs : L2.St → Hp → Prop} (q : Qs (x0 :: x1 :: x2 :: x3 :: x4 :: x5 :: x6 :: x7 :: x8 :: x9 :: x10 :: x11 :: x12 :: x13 :: x14 :: x15 :: x16 :: x17 :: x18 :: x19 :: x20 :: x21 :: x22 :: x23 :: x24 :: some v :: r) H) : gName 25 v (x0 :: x1 :: x2 :: x3 :: x4 :: x5 :: x6 :: x7 :: x8 :: x9 :: x10 :: x11 :: x12 :: x13 :: x14 :: x15 :: x16 :: x17 :: x18 :: x19 :: x20 :: x21 :: x22 :: x23 :: x24 :: x25 :: r) H Qs := q
theorem g_start {t : TS} {σ' : L2.St} (h : σ' = σ) (q : t D σ H) : t D σ' H := h ▸ q
theorem g_ifS (q : t σ H fun b H1 => if b = true then s1 D σ H1 else s2 D σ H1) : tIfS t s1 s2 D σ H := q
theorem g_ret (q : te σ H D.rt) : tRet te D σ H := q
theorem g_retN (q : D.rt .non H) : tRetN D σ H := q
theorem g_drop (q : te σ H fun _ H1 => D.nx σ H1) : tDrop te D σ H := q
theorem g_next (q : D.nx σ H) : tNext D σ H := q
theorem g_ixL {K : PySem.W.Frag} {p : Addr} {xs : List V} (h : SqL K H p xs) (h2 : atI xs a = some v) (q : Q v H) : rIxL K (.ref p) (.int a) H Q := ⟨p, xs, a, v, rfl, rfl, h, h2, q⟩
theorem g_ixAny {K : PySem.W.Frag} {p : Addr} {xs : List V} (h : SqL K H p xs) (h0 : 0 ≤ a) (h1 : a < (xs.length : Int)) (q : ∀ v, v ∈ xs → Q v H) : rIxL K (.ref p) (.int a) H Q := by
  obtain ⟨j, rfl⟩ : ∃ j : Nat, a = (j : Int) := ⟨a.toNat, by omega⟩
  have hl : j < xs.length := by omega
  exact ⟨p, xs, _, xs[j], rfl, rfl, h, atI_nat (by simp [hl]), q _ (List.getElem_mem hl)⟩
theorem g_ixT {K : PySem.W.Frag} {p : Addr} {xs : List V} (h : SqT K H p xs) (h2 : atI xs a = some v) (q : Q v H) : rIxT K (.ref p) (.int a) H Q := ⟨p, xs, a, v, rfl, rfl, h, h2, q⟩
theorem ite_nT {A B : Prop} (h : B) : if (!true) = true then A else B := h
theorem ite_nF {A B : Prop} (h : A) : if (!false) = true then A else B := h
theorem ite_dec {c : Prop} [Decidable c] {A B : Prop} (h1 : c → A) (h2 : ¬ c → B) : if decide c = true then A else B := by
  by_cases h : c
  · rw [if_pos (decide_eq_true h)]
    exact h1 h
  · rw [if_neg (by rw [decide_eq_false h]; decide)]
    exact h2 h
theorem ite_ndec {c : Prop} [Decidable c] {A B : Prop} (h1 : ¬ c → A) (h2 : c → B) : if (!decide c) = true then A else B := by
  by_cases h : c
  · rw [if_neg (by rw [decide_eq_true h]; decide)]
    exact h2 h
  · rw [if_pos (by rw [decide_eq_false h]; decide)]
    exact h1 h
theorem ite_eqT {x : V} {A B : Prop} (h : A) : if decide (x = x) = true then A else B := by
  rw [if_pos (decide_eq_true rfl)]
  exact h
theorem ite_neF {x : V} {A B : Prop} (h : B) : if (!decide (x = x)) = true then A else B := by
  rw [if_neg (by rw [decide_eq_true rfl]; decide)]
  exact h
theorem ite_strF {s t : Str} {A B : Prop} (hs : s ≠ t) (h : B) : if decide (V.str s = V.str t) = true then A else B := by
  rw [if_neg (by rw [decide_eq_false (fun z => hs (V.str.inj z))]; decide)]
  exact h
theorem ite_strT {s t : Str} {A B : Prop} (hs : s ≠ t) (h : A) : if (!decide (V.str s = V.str t)) = true then A else B := by
  rw [if_pos (by rw [decide_eq_false (fun z => hs (V.str.inj z))]; decide)]
  exact h
theorem ite_bool {c : Bool} {A B : Prop} (h1 : c = true → A) (h2 : c = false → B) : if c = true then A else B := by
  cases c with
  | true => exact iteT (h1 rfl)
  | false => exact iteF (h2 rfl)
end
/-! ### heaps -/
theorem Same.at {H H' : Hp} (e : Same H H') {b : Addr} {o : HO} (h : H b = some o) : H' b = some o := e b o h
theorem Same.new {H : Hp} {p : Addr} {o : HO} (h : H p = none) : Same H (upd H p o) := fun a u e => by
  rw [upd_ne (ne_of_none e h)]
  exact e
theorem Same.seqT {K : PySem.W.Frag} {H H' : Hp} {a : Addr} {xs : List V} (e : Same H H') (h : SqT K H a xs) : SqT K H' a xs := by
  rcases h with (h | ⟨o, h⟩) | h
  · exact .inl (.inl (e _ _ h))
  · exact .inl (.inr ⟨o, e _ _ h⟩)
  · exact .inr h
theorem upd_old {H : Hp} {a p : Addr} {o u : HO} (h : H a = some o) (hp : H p = none) : upd H p u a = some o := by
  rw [upd_ne (ne_of_none h hp)]
  exact h
theorem sz {n : Nat} (h : n ≤ 100000) : n ≤ sizeLine := Nat.le_trans h (by decide)
theorem szl {n : Nat} (h : n < 100000) : n < sizeLine := Nat.lt_of_lt_of_le h (by decide)
theorem int_at {ns : List Int} {i : Nat} {y : V} (h : (ns.map V.int)[i]? = some y) : ∃ z, y = V.int z ∧ ns[i]? = some z := by
  rw [List.getElem?_map] at h
  cases e : ns[i]? with
  | none => rw [e] at h; cases h
  | some z => rw [e] at h; exact ⟨z, (Option.some.inj h).symm, rfl⟩
/-- all that is tracked stays, but what stands at a -/
def Kp (a : Addr) (H H' : Hp) : Prop := ∀ b o, H b = some o → b ≠ a → H' b = some o
theorem Kp.refl {a : Addr} {H : Hp} : Kp a H H := fun _ _ h _ => h
theorem Kp.trans {a : Addr} {H H1 H2 : Hp} (x : Kp a H H1) (y : Kp a H1 H2) : Kp a H H2 := fun b o h n => y b o (x b o h n) n
theorem Kp.same {a : Addr} {H H' : Hp} (e : Same H H') : Kp a H H' := fun b o h _ => e b o h
theorem Kp.upd {a : Addr} {H : Hp} {o : HO} : Kp a H (upd H a o) := fun b u h n => by
  rw [upd_ne n]
  exact h
/-- the drawing state at a: the script at s, how many cells are begun, two numbers more -/
structure Dr (K : PySem.W.Frag) (a s : Addr) (H : Hp) : Prop where
  ex : ∃ (ns : List Int) (i m l : Int), H a = some (.lst [.ref s, .int i, .int m, .int l]) ∧ (∀ o, SqL K (upd H a o) s (ns.map V.int)) ∧ ns.length ≤ 63 ∧ 0 ≤ i
theorem Same.upd {H H' : Hp} (e : Same H H') (a : Addr) (o : HO) : Same (upd H a o) (upd H' a o) := fun b u h => by
  by_cases hb : b = a
  · subst hb
    rw [upd_same] at h ⊢
    exact h
  · rw [upd_ne hb] at h ⊢
    exact e b u h
theorem Dr.same {K : PySem.W.Frag} {a s : Addr} {H H' : Hp} (d : Dr K a s H) (e : Same H H') : Dr K a s H' := by
  obtain ⟨ns, i, m, l, h1, h2, h3, h4⟩ := d.ex
  exact ⟨ns, i, m, l, e _ _ h1, fun o => (Same.upd e a o).seq (h2 o), h3, h4⟩
theorem Dr.ne {K : PySem.W.Frag} {a s p : Addr} {H : Hp} (d : Dr K a s H) (h : H p = none) : p ≠ a := by
  obtain ⟨ns, i, m, l, h1, _⟩ := d.ex
  exact (ne_of_none h1 h).symm
theorem Dr.ne2 {K : PySem.W.Frag} {a s p : Addr} {H : Hp} (h : H p = none) (d : Dr K a s H) : p ≠ a := d.ne h
theorem upd_self {H : Hp} {a : Addr} {o : HO} (h : H a = some o) : L2.upd H a o = H := by
  funext b
  by_cases hb : b = a
  · subst hb
    rw [upd_same, h]
  · rw [upd_ne hb]
/-- a new thing, not known to H, is changed: the state stays one -/
theorem Dr.mut {K : PySem.W.Frag} {a s D : Addr} {H H' : Hp} {o : HO} (d : Dr K a s H) (d' : Dr K a s H') (h : H D = none) : Dr K a s (L2.upd H' D o) := by
  obtain ⟨ns, i, m, l, h1, h2, h3, h4⟩ := d.ex
  obtain ⟨ns', i', m', l', g1, g2, g3, g4⟩ := d'.ex
  have nDa : a ≠ D := ne_of_none h1 h
  rcases h2 (.tbl #[]) with hr | hk
  · have nDs : s ≠ D := fun e => by
      subst e
      have z : L2.upd H a (.tbl #[]) s = none := by rw [upd_ne nDa.symm]; exact h
      rcases hr with hr | ⟨_, hr⟩ <;> rw [z] at hr <;> cases hr
    refine ⟨ns', i', m', l', by rw [upd_ne nDa]; exact g1, fun o' => ?_, g3, g4⟩
    have e : L2.upd (L2.upd H' D o) a o' s = L2.upd H' a o' s := by
      by_cases z : s = a
      · subst z; rw [upd_same, upd_same]
      · rw [upd_ne z, upd_ne z, upd_ne nDs]
    rcases g2 o' with q | q
    · refine .inl ?_
      rcases q with q | ⟨u, q⟩
      · exact .inl (e.trans q)
      · exact .inr ⟨u, e.trans q⟩
    · exact .inr q
  · exact ⟨ns, i', m', l', by rw [upd_ne nDa]; exact g1, fun o' => .inr hk, h3, g4⟩
/-- a def that only draws: the state stays a state, all else stays -/
structure Go (K : PySem.W.Frag) (a s : Addr) (H H' : Hp) : Prop where
  dr : Dr K a s H'
  kp : Kp a H H'
section
variable {K : PySem.W.Frag} {a s b D : Addr} {H H1 H2 H' : Hp} {o : HO}
theorem Go.trans (x : Go K a s H H1) (y : Go K a s H1 H2) : Go K a s H H2 := ⟨y.dr, x.kp.trans y.kp⟩
theorem Go.same (d : Dr K a s H) (e : Same H H') : Go K a s H H' := ⟨d.same e, Kp.same e⟩
theorem Go.refl (d : Dr K a s H) : Go K a s H H := ⟨d, Kp.refl⟩
theorem Go.at (x : Go K a s H H') (h : H b = some o) (n : b ≠ a) : H' b = some o := x.kp b o h n
theorem Go.then (x : Go K a s H H1) (e : Same H1 H2) : Go K a s H H2 := ⟨x.dr.same e, x.kp.trans (Kp.same e)⟩
/-- behind a new thing -/
theorem Go.pre (x : Go K a s H1 H2) (e : Same H H1) : Go K a s H H2 := ⟨x.dr, (Kp.same e).trans x.kp⟩
theorem Go.new (x : Go K a s (upd H D o) H2) (h : H D = none) : Go K a s H H2 := x.pre (Same.new h)
theorem Go.mut (g : Go K a s H H') (d : Dr K a s H) (h : H D = none) : Go K a s H (L2.upd H' D o) := ⟨d.mut g.dr h, fun b u hb hn => by
  rw [upd_ne (ne_of_none hb h)]
  exact g.kp b u hb hn⟩
theorem Go.seq {xs : List V} {p : Addr} (g : Go K a s H H') (h : SqL K H p xs) (n : p ≠ a) : SqL K H' p xs := by
  rcases h with (h | ⟨o, h⟩) | h
  · exact .inl (.inl (g.kp _ _ h n))
  · exact .inl (.inr ⟨o, g.kp _ _ h n⟩)
  · exact .inr h
end
theorem Same.mut {H H' : Hp} {D : Addr} {o : HO} (e : Same H H') (h : H D = none) : Same H (L2.upd H' D o) := fun b u hb => by
  rw [upd_ne (ne_of_none hb h)]
  exact e b u hb
/-! ### comprehensions: J tells of the turn, of what is made so far, of the heap; it does not look at the new list D -/
def LcP (J : Nat → List V → Hp → Prop) (D : Addr) (i : Nat) (H : Hp) : Prop := ∃ acc, J i acc H ∧ H D = some (.lst acc) ∧ acc.length ≤ i
section
variable {K : PySem.W.Frag} {a : Addr} {xs : List V} {g : TG} {tt : TT} {te : TE} {vs : List Nat} {σ : L2.St} {H1 : Hp} {D : Addr} {Qd : Hp → Prop}
theorem lc_leaf {J : Nat → List V → Hp → Prop} {i : Nat} {acc : List V} {H : Hp} {y : V} (hI : ∀ i acc H o, J i acc H → J i acc (upd H D o)) (hD : H D = some (.lst acc)) (hl : acc.length ≤ i) (hi : i < 100000) (hJ : J (i + 1) (acc ++ [y]) H) :
    ∃ acc, H D = some (.lst acc) ∧ acc.length < sizeLine ∧ LcP J D (i + 1) (upd H D (.lst (acc ++ [y]))) :=
  ⟨acc, hD, szl (by omega), acc ++ [y], hI _ _ _ _ hJ, upd_same, by rw [List.length_append, List.length_singleton]; omega⟩
theorem lc_skip {J : Nat → List V → Hp → Prop} {i : Nat} {acc : List V} {H : Hp} (hD : H D = some (.lst acc)) (hl : acc.length ≤ i) (hJ : J (i + 1) acc H) : LcP J D (i + 1) H := ⟨acc, hJ, hD, by omega⟩
theorem lc_L (J : Nat → List V → Hp → Prop) (hI : ∀ i acc H o, J i acc H → J i acc (upd H D o)) (h0 : J 0 [] H1) (hl : ∀ i acc H, J i acc H → SqL K H a xs)
    (hs : ∀ i x acc H, xs[i]? = some x → J i acc H → H D = some (.lst acc) → acc.length ≤ i → g x (wipe σ vs) H fun σ2 H2 => wipe σ2 vs = wipe σ vs ∧ tt σ2 H2 fun b H3 =>
      if b = true then te σ2 H3 fun y H4 => ∃ acc, H4 D = some (.lst acc) ∧ acc.length < sizeLine ∧ LcP J D (i + 1) (upd H4 D (.lst (acc ++ [y]))) else LcP J D (i + 1) H3)
    (hd : ∀ acc H, J xs.length acc H → H D = some (.lst acc) → Qd H) :
    ∃ W : Nat → Nat → Hp → Prop, (∃ m, W 0 m (upd H1 D (.lst []))) ∧ ∀ i m H, W i m H →
      ((Itl K a).stop i H ∧ Qd H) ∨ ((Itl K a).go i H ∧ ∃ Nx : Hp → Prop, (∀ H', Nx H' → ∃ m', m' < m ∧ W (i + 1) m' H') ∧ ∀ x H', (Itl K a).yld i H x H' → g x (wipe σ vs) H' fun σ2 H2 => wipe σ2 vs = wipe σ vs ∧ tt σ2 H2 fun b H3 =>
        if b = true then te σ2 H3 fun y H4 => ∃ acc, H4 D = some (.lst acc) ∧ acc.length < sizeLine ∧ Nx (upd H4 D (.lst (acc ++ [y]))) else Nx H3) :=
  lc_list (K := K) (a := a) (xs := xs) (LcP J D) ⟨[], hI _ _ _ _ h0, upd_same, Nat.le_refl _⟩ (fun i H _ ⟨acc, h, _⟩ => hl i acc H h) (fun i x H hi ⟨acc, hJ, hD, hlen⟩ => hs i x acc H hi hJ hD hlen) (fun H ⟨acc, h1, h2, _⟩ => hd acc H h1 h2)
theorem lc_R (lo : Int) (n : Nat) (J : Nat → List V → Hp → Prop) (hI : ∀ i acc H o, J i acc H → J i acc (upd H D o)) (h0 : J 0 [] H1)
    (hs : ∀ i acc H, i < n → J i acc H → H D = some (.lst acc) → acc.length ≤ i → g (.int (lo + i)) (wipe σ vs) H fun σ2 H2 => wipe σ2 vs = wipe σ vs ∧ tt σ2 H2 fun b H3 =>
      if b = true then te σ2 H3 fun y H4 => ∃ acc, H4 D = some (.lst acc) ∧ acc.length < sizeLine ∧ LcP J D (i + 1) (upd H4 D (.lst (acc ++ [y]))) else LcP J D (i + 1) H3)
    (hd : ∀ acc H, J n acc H → H D = some (.lst acc) → Qd H) :
    ∃ W : Nat → Nat → Hp → Prop, (∃ m, W 0 m (upd H1 D (.lst []))) ∧ ∀ i m H, W i m H →
      ((Itr lo n).stop i H ∧ Qd H) ∨ ((Itr lo n).go i H ∧ ∃ Nx : Hp → Prop, (∀ H', Nx H' → ∃ m', m' < m ∧ W (i + 1) m' H') ∧ ∀ x H', (Itr lo n).yld i H x H' → g x (wipe σ vs) H' fun σ2 H2 => wipe σ2 vs = wipe σ vs ∧ tt σ2 H2 fun b H3 =>
        if b = true then te σ2 H3 fun y H4 => ∃ acc, H4 D = some (.lst acc) ∧ acc.length < sizeLine ∧ Nx (upd H4 D (.lst (acc ++ [y]))) else Nx H3) :=
  lc_range (lo := lo) (n := n) (LcP J D) ⟨[], hI _ _ _ _ h0, upd_same, Nat.le_refl _⟩ (fun i H hi ⟨acc, hJ, hD, hlen⟩ => hs i acc H hi hJ hD hlen) (fun H ⟨acc, h1, h2, _⟩ => hd acc H h1 h2)
theorem g_for {wi : TI} {tb : TS} {D : Ends} {H : Hp} (q : wi σ H fun J H1 => ∃ W : Nat → Nat → L2.St → Hp → Prop, (∃ m, W 0 m σ H1) ∧ ∀ i m σ H, W i m σ H →
  (J.stop i H ∧ D.nx σ H) ∨ (J.go i H ∧ ∃ N : L2.St → Hp → Prop, (∀ σ' H', N σ' H' → ∃ m', m' < m ∧ W (i + 1) m' σ' H') ∧ ∀ x H', J.yld i H x H' → g x σ H' fun σ2 H2 => tb { D with nx := N, ct := N, bk := D.nx } σ2 H2)) : tFor wi g tb D σ H := q
theorem g_lc {wi : TI} {H : Hp} {Q : VK} (q : wi σ H fun J H1 => ∀ D, H1 D = none → ∃ W : Nat → Nat → Hp → Prop, (∃ m, W 0 m (upd H1 D (.lst []))) ∧ ∀ i m H, W i m H →
  (J.stop i H ∧ Q (.ref D) H) ∨ (J.go i H ∧ ∃ Nx : Hp → Prop, (∀ H', Nx H' → ∃ m', m' < m ∧ W (i + 1) m' H') ∧ ∀ x H', J.yld i H x H' → g x (wipe σ vs) H' fun σ2 H2 => wipe σ2 vs = wipe σ vs ∧ tt σ2 H2 fun b H3 =>
    if b = true then te σ2 H3 fun y H4 => ∃ acc, H4 D = some (.lst acc) ∧ acc.length < sizeLine ∧ Nx (upd H4 D (.lst (acc ++ [y]))) else Nx H3)) : tLc wi g tt te vs σ H Q := q
theorem g_iL {tl : TE} {H : Hp} {R : It → Hp → Prop} (q : tl σ H fun x H1 => ∃ a, x = .ref a ∧ (∃ xs, SqL K H1 a xs) ∧ R (Itl K a) H1) : iList K tl σ H R := q
theorem g_iT {tl : TE} {H : Hp} {R : It → Hp → Prop} (q : tl σ H fun x H1 => ∃ a, x = .ref a ∧ (∃ xs, SqT K H1 a xs) ∧ R (Itt K a) H1) : iTup K tl σ H R := q
theorem g_iR1 {ta : TA} {H : Hp} {R : It → Hp → Prop} (q : ta σ H fun vs H1 => ∃ j : Int, vs = [.int j] ∧ -(2 ^ 62) ≤ j ∧ j < 2 ^ 62 ∧ R (Itr 0 j.toNat) H1) : iRng1 ta σ H R := q
theorem g_iR2 {ta : TA} {H : Hp} {R : It → Hp → Prop} (q : ta σ H fun vs H1 => ∃ i j : Int, vs = [.int i, .int j] ∧ (-(2 ^ 62) ≤ i ∧ i < 2 ^ 62 ∧ -(2 ^ 62) ≤ j ∧ j < 2 ^ 62) ∧ R (Itr i (j - i).toNat) H1) : iRng2 ta σ H R := q
theorem g_iE {ta : TA} {H : Hp} {R : It → Hp → Prop} (q : ta σ H fun vs H1 => ∃ a xs, vs = [.ref a] ∧ SqL K H1 a xs ∧ R (Ite K a) H1) : iEnum K ta σ H R := q
theorem g_bm {T : String} {r : V → List V → Hp → VK → Prop} {to : TE} {t : TA} {H : Hp} {Q : VK} (q : to σ H fun x H1 => tyV K T x H1 ∧ t σ H1 fun xs H2 => r x xs H2 Q) : tBM K T r to t σ H Q := q
theorem g_app {p : Addr} {xs : List V} {y : V} {H : Hp} {Q : VK} (h : H p = some (.lst xs)) (hl : xs.length < 100000) (q : Q .non (upd H p (.lst (xs ++ [y])))) : rAppend (.ref p) [y] H Q := ⟨p, xs, y, rfl, rfl, h, szl hl, q⟩
theorem g_tyL {p : Addr} {xs : List V} {H : Hp} {B : Prop} (h : SqL K H p xs) (q : B) : tyV K "list" (.ref p) H ∧ B := ⟨Or.inl ⟨rfl, xs, h⟩, q⟩
theorem g_cat {p r : Addr} {xs ys : List V} {H : Hp} {Q : VK} (h : H p = some (.lst xs)) (h2 : H r = some (.lst ys)) (hl : xs.length + ys.length ≤ 100000) (q : ∀ l, H l = none → Q (.ref l) (upd H l (.lst (xs ++ ys)))) : rCat (.ref p) (.ref r) H Q := ⟨p, r, xs, ys, rfl, rfl, h, h2, sz hl, q⟩
/-- what follows a test is shown once, from M -/
theorem g_cut {t : TT} {H : Hp} {QB : Bool → Hp → Prop} (M : Bool → Hp → Prop) (h : ∀ QB' : Bool → Hp → Prop, (∀ b H', M b H' → QB' b H') → t σ H QB') (q : ∀ b H', M b H' → QB b H') : t σ H QB := h QB q
/-- .. an expression -/
theorem g_cutE {t : TE} {H : Hp} {Q : VK} (M : V → Hp → Prop) (h : ∀ Q' : VK, (∀ v H', M v H' → Q' v H') → t σ H Q') (q : ∀ v H', M v H' → Q v H') : t σ H Q := h Q q
/-- .. a statement -/
theorem g_cutS {t : TS} {D : Ends} {H : Hp} (M : L2.St → Hp → Prop) (h : ∀ N : L2.St → Hp → Prop, (∀ σ' H', M σ' H' → N σ' H') → t { D with nx := N } σ H) (q : ∀ σ' H', M σ' H' → D.nx σ' H') : t D σ H := h D.nx q
theorem g_yes {QB : Bool → Hp → Prop} {H : Hp} (q : QB true H) : tYes σ H QB := q
theorem g_tup2 {g1 g2 : TG} {x y : V} {p : Addr} {H : Hp} {Qs : L2.St → Hp → Prop} (h : SqT K H p [x, y]) (q : g1 x σ H fun σ1 H2 => g2 y σ1 H2 Qs) : gTup K 2 (gCons g1 (gCons g2 gNil)) (.ref p) σ H Qs := by
  refine ⟨p, _, rfl, h, rfl, x, _, rfl, ?_⟩
  revert q
  intro q
  exact (show (g1 x σ H fun σ1 H2 => ∃ v r, [y] = v :: r ∧ g2 v σ1 H2 fun σ' H' => r = [] ∧ Qs σ' H') from by
    have e : (fun (σ1 : L2.St) (H2 : Hp) => ∃ (v : V) (r : List V), [y] = v :: r ∧ g2 v σ1 H2 fun σ' H' => r = [] ∧ Qs σ' H') = fun σ1 H2 => g2 y σ1 H2 Qs := by
      funext σ1 H2
      refine propext ⟨?_, ?_⟩
      · rintro ⟨v, r, e, h⟩
        cases e
        have e2 : (fun (σ' : L2.St) (H' : Hp) => ([] : List V) = [] ∧ Qs σ' H') = Qs := by
          funext σ' H'
          exact propext ⟨fun h => h.2, fun h => ⟨rfl, h⟩⟩
        rw [e2] at h
        exact h
      · intro h
        refine ⟨y, [], rfl, ?_⟩
        have e2 : (fun (σ' : L2.St) (H' : Hp) => ([] : List V) = [] ∧ Qs σ' H') = Qs := by
          funext σ' H'
          exact propext ⟨fun h => h.2, fun h => ⟨rfl, h⟩⟩
        rw [e2]
        exact h
    rw [e]
    exact q)
/-- loops, what follows and the body any way -/
theorem for_E {H : Hp} {B : (L2.St → Hp → Prop) → L2.St → Hp → Prop} {nx : L2.St → Hp → Prop} (Pv : Nat → L2.St → Hp → Prop) (h0 : Pv 0 σ H) (hl : ∀ i σ H, i ≤ xs.length → Pv i σ H → SqL K H a xs)
    (hs : ∀ i x σ H T, xs[i]? = some x → Pv i σ H → H T = none → g (.ref T) σ (upd H T (.tup [.int (i : Nat), x])) fun σ2 H2 => B (Pv (i + 1)) σ2 H2) (hd : ∀ σ H, Pv xs.length σ H → nx σ H) :
    ∃ W : Nat → Nat → L2.St → Hp → Prop, (∃ m, W 0 m σ H) ∧ ∀ i m σ H, W i m σ H →
      ((Ite K a).stop i H ∧ nx σ H) ∨ ((Ite K a).go i H ∧ ∃ N : L2.St → Hp → Prop, (∀ σ' H', N σ' H' → ∃ m', m' < m ∧ W (i + 1) m' σ' H') ∧ ∀ x H', (Ite K a).yld i H x H' → g x σ H' fun σ2 H2 => B N σ2 H2) := by
  refine ⟨fun i m σ H => m = xs.length - i ∧ i ≤ xs.length ∧ Pv i σ H, ⟨xs.length, by simp, Nat.zero_le _, h0⟩, ?_⟩
  rintro i m σ H ⟨rfl, hi, p⟩
  have q := hl i σ H hi p
  by_cases hlt : i < xs.length
  · refine .inr ⟨⟨xs, xs[i], q, by simp [hlt]⟩, Pv (i + 1), fun σ' H' p' => ⟨xs.length - (i + 1), by omega, rfl, hlt, p'⟩, fun x H' y => ?_⟩
    obtain ⟨T, z, e1, e2, e3, e4⟩ := y
    subst e1 e3
    exact hs i z σ H T (e4 xs q) p e2
  · have e : i = xs.length := by omega
    subst e
    exact .inl ⟨⟨xs, q, Nat.le_refl _⟩, hd σ H p⟩
theorem for_L {H : Hp} {B : (L2.St → Hp → Prop) → L2.St → Hp → Prop} {nx : L2.St → Hp → Prop} (Pv : Nat → L2.St → Hp → Prop) (h0 : Pv 0 σ H) (hl : ∀ i σ H, i ≤ xs.length → Pv i σ H → SqL K H a xs)
    (hs : ∀ i x σ H, xs[i]? = some x → Pv i σ H → g x σ H fun σ2 H2 => B (Pv (i + 1)) σ2 H2) (hd : ∀ σ H, Pv xs.length σ H → nx σ H) :
    ∃ W : Nat → Nat → L2.St → Hp → Prop, (∃ m, W 0 m σ H) ∧ ∀ i m σ H, W i m σ H →
      ((Itl K a).stop i H ∧ nx σ H) ∨ ((Itl K a).go i H ∧ ∃ N : L2.St → Hp → Prop, (∀ σ' H', N σ' H' → ∃ m', m' < m ∧ W (i + 1) m' σ' H') ∧ ∀ x H', (Itl K a).yld i H x H' → g x σ H' fun σ2 H2 => B N σ2 H2) := by
  refine ⟨fun i m σ H => m = xs.length - i ∧ i ≤ xs.length ∧ Pv i σ H, ⟨xs.length, by simp, Nat.zero_le _, h0⟩, ?_⟩
  rintro i m σ H ⟨rfl, hi, p⟩
  have q := hl i σ H hi p
  by_cases hlt : i < xs.length
  · refine .inr ⟨⟨xs, xs[i], q, by simp [hlt]⟩, Pv (i + 1), fun σ' H' p' => ⟨xs.length - (i + 1), by omega, rfl, hlt, p'⟩, fun x H' y => ?_⟩
    obtain ⟨e, y⟩ := y
    subst e
    exact hs i x σ _ (y xs q) p
  · have e : i = xs.length := by omega
    subst e
    exact .inl ⟨⟨xs, q, Nat.le_refl _⟩, hd σ H p⟩
theorem for_R {H : Hp} {lo : Int} {n : Nat} {B : (L2.St → Hp → Prop) → L2.St → Hp → Prop} {nx : L2.St → Hp → Prop} (Pv : Nat → L2.St → Hp → Prop) (h0 : Pv 0 σ H)
    (hs : ∀ i σ H, i < n → Pv i σ H → g (.int (lo + i)) σ H fun σ2 H2 => B (Pv (i + 1)) σ2 H2) (hd : ∀ σ H, Pv n σ H → nx σ H) :
    ∃ W : Nat → Nat → L2.St → Hp → Prop, (∃ m, W 0 m σ H) ∧ ∀ i m σ H, W i m σ H →
      ((Itr lo n).stop i H ∧ nx σ H) ∨ ((Itr lo n).go i H ∧ ∃ N : L2.St → Hp → Prop, (∀ σ' H', N σ' H' → ∃ m', m' < m ∧ W (i + 1) m' σ' H') ∧ ∀ x H', (Itr lo n).yld i H x H' → g x σ H' fun σ2 H2 => B N σ2 H2) := by
  refine ⟨fun i m σ H => m = n - i ∧ i ≤ n ∧ Pv i σ H, ⟨n, by simp, Nat.zero_le _, h0⟩, ?_⟩
  rintro i m σ H ⟨rfl, hi, p⟩
  by_cases hlt : i < n
  · refine .inr ⟨hlt, Pv (i + 1), fun σ' H' p' => ⟨n - (i + 1), by omega, rfl, hlt, p'⟩, fun x H' y => ?_⟩
    obtain ⟨e, y⟩ := y
    subst e y
    exact hs i σ _ hlt p
  · have e : i = n := by omega
    subst e
    exact .inl ⟨Nat.le_refl _, hd σ H p⟩
end
end My
namespace My
open PySem PySem.Spec PyProof.Rows L2
structure Fn (K : PySem.W.Frag) (mg : Str → Option Value) (x : Str) (st : Stmt) : Prop where
  ex : ∃ (f : Addr) (fd : FuncData), Fun K x x st f fd ∧ mg x = some (.ref f)
section
variable {P : Program} {w : World} {K : PySem.W.Frag} {mg : Str → Option Value} {base : Heap}
theorem Knows.mk' {x : Str} {st : Stmt} {N ps : List Str} {k : Nat} {sp : Sp} (D : Fn K mg x st) (S : FnScope N ps (defScope st))
    (hb : ∀ (kV doc pm : Value) (an : Option Addr) (cdv ct : Value) (us : List Value), us.length = ps.length → bindArgs (PySem.W.fnOf x x (defArgs st) (defBody st) (defScope st) .none kV doc pm an cdv ct) ⟨us, []⟩ = pure (ps.zip us))
    (len : ∀ vs H Q E, sp vs H Q E → vs.length = ps.length)
    (hbody : ∀ (f : Addr) (cdv : Value) (A : Around) (outer : List Env) (s : Shared) (H : Hp) (vs : List V) (Q : VK) (E : XK), Room k (A.deeper (envOfC x (defScope st) s.heap.objs.size f cdv)) → sp vs H Q E →
      ∃ t, PSs (cxOf (L2.CX P w) P w K mg base N x (defScope st) f cdv A outer s H E) (defBody st) t ∧ t { nx := fun _ H' => Q .non H', rt := Q } (start N vs) H) : Knows P w K mg base (k + 1) x ps sp := by
  obtain ⟨f, fd, F, g⟩ := D.ex
  exact ⟨f, fd, F.okX S len fun cdv A outer s H vs Q E hr h => hbody f cdv A outer s H vs Q E hr h, g, F.kp, F.binds hb⟩
theorem fnok_mk {x : Str} {st : Stmt} {f : Addr} {fd : FuncData} {N ps : List Str} {k : Nat} {sp : Sp} (F : Fun K x x st f fd) (S : FnScope N ps (defScope st)) (len : ∀ vs H Q E, sp vs H Q E → vs.length = ps.length)
    (hbody : ∀ (cdv : Value) (A : Around) (outer : List Env) (s : Shared) (H : Hp) (vs : List V) (Q : VK) (E : XK), Room k (A.deeper (envOfC x (defScope st) s.heap.objs.size f cdv)) → sp vs H Q E →
      ∃ t, PSs (cxOf (L2.CX P w) P w K mg base N x (defScope st) f cdv A outer s H E) (defBody st) t ∧ t { nx := fun _ H' => Q .non H', rt := Q } (start N vs) H) : FnOk P w K mg base (L2.CX P w) (k + 1) f fd ps sp :=
  F.okX S len fun cdv A outer s H vs Q E hr h => hbody cdv A outer s H vs Q E hr h
theorem Knows.mono {x : Str} {ps : List Str} {j k : Nat} {sp : Sp} (c : Knows P w K mg base j x ps sp) (h : j ≤ k) : Knows P w K mg base k x ps sp := by
  obtain ⟨f, fd, F, a, b, d⟩ := c.ex
  exact ⟨f, fd, F.mono h, a, b, d⟩
end
theorem pe_powc {X : Cx} {a b v : Int} {j1 j2 : Nat} {p1 p2 pos : Pos} (h : CPow a b) (e : a ^ b.toNat = v) : PE X (.BinOp (.Constant (.int a) j1 p1) .Pow (.Constant (.int b) j2 p2) pos) (tC (.int v)) :=
  ⟨fun pins s σ H Q I q => (pe_op op_pow pe_int pe_int).run pins s σ H Q I ⟨a, b, rfl, rfl, h, (show Q (.int (a ^ b.toNat)) H from e ▸ q)⟩⟩
theorem cdivw {i j : Int} (h0 : 0 < j) (h : j < 2 ^ 200) : CDivW i j := wide_div (b := 200) h0 (by omega) (by decide) (by decide)
theorem pe_gl {X : Cx} {x : Str} {i : Int} {pos : Pos} (hm : ∃ t, X.mg x = some (.int i t)) (hg : Gl X x := by rfl) (hd : (x == ("__debug__" : Str)) = false := by decide) : PE X (.Name x pos) (tC (.int i)) := by
  obtain ⟨t, h⟩ := hm
  exact pe_glob hg h ⟨t, rfl⟩ hd
structure Ec where
  (BadWheel BadRule BadSeen BadGaps BadSpan BadLong NoGap NoSpan WrapError Reader : Addr)
/-! ### equality of lists of ints -/
section
variable {K : PySem.W.Frag} {H : Hp} {a b : Addr} {Q : VK}
theorem dpAll_ints : ∀ ns : List Int, DpAll K H (ns.map V.int) (ns.map PyData.int)
  | [] => .nil
  | n :: r => .cons (.int n) (dpAll_ints r)
theorem dp_ints {ns : List Int} (h : SqL K H a (ns.map V.int)) : Dp K H (.ref a) (.list (ns.map PyData.int)) := .lst h (dpAll_ints ns)
theorem eqvAll_ints : ∀ ns ms : List Int, PyData.eqvAll (ns.map PyData.int) (ms.map PyData.int) = decide (ns = ms)
  | [], [] => rfl
  | [], _ :: _ => rfl
  | _ :: _, [] => rfl
  | x :: r, y :: t => by
    simp only [List.map_cons, PyData.eqvAll, PyData.eqv, eqvAll_ints r t]
    by_cases h : x = y <;> by_cases h' : r = t <;> simp [h, h']
theorem eqv_ints (ns ms : List Int) : PyData.eqv (.list (ns.map PyData.int)) (.list (ms.map PyData.int)) = decide (ns = ms) := by
  rw [PyData.eqv]
  exact eqvAll_ints ns ms
theorem g_eqInts {ns ms : List Int} (h1 : SqL K H a (ns.map V.int)) (h2 : SqL K H b (ms.map V.int)) (q : Q (.bl (decide (ns = ms))) H) : rEqD K (.ref a) (.ref b) H Q :=
  ⟨_, _, dp_ints h1, dp_ints h2, PySem.W.ke_shaped_ints _, PySem.W.ke_shaped_ints _, by rw [eqv_ints]; exact q⟩
theorem g_neInts {ns ms : List Int} (h1 : SqL K H a (ns.map V.int)) (h2 : SqL K H b (ms.map V.int)) (q : Q (.bl (!decide (ns = ms))) H) : rNeD K (.ref a) (.ref b) H Q :=
  ⟨_, _, dp_ints h1, dp_ints h2, PySem.W.ke_shaped_ints _, PySem.W.ke_shaped_ints _, by rw [eqv_ints]; exact q⟩
theorem g_sortedI {ns : List Int} (h : SqL K H a (ns.map V.int)) (q : ∀ (ns' : List Int) (p : Addr), ns'.Perm ns → ns'.Pairwise (· ≤ ·) → H p = none → Q (.ref p) (upd H p (.lst (ns'.map V.int)))) : rSortedI K [.ref a] H Q := ⟨a, ns, rfl, h, q⟩
end
theorem take_more {α : Type} : ∀ {l : List α} {i : Nat} {x : α}, l[i]? = some x → l.take (i + 1) = l.take i ++ [x]
  | [], i, x, h => by simp at h
  | a :: l, 0, x, h => by
    have e : a = x := Option.some.inj h
    subst e
    rfl
  | a :: l, i + 1, x, h => by
    have ih := take_more (l := l) (i := i) (x := x) h
    show a :: l.take (i + 1) = a :: l.take i ++ [x]
    rw [ih]
    rfl
/-- sorted and of the same items: one list -/
theorem sorted_same : ∀ {l m : List Int}, l.Perm m → l.Pairwise (· ≤ ·) → m.Pairwise (· ≤ ·) → l = m := fun {l m} p h1 h2 =>
  List.Perm.eq_of_pairwise (le := fun a b => a ≤ b) (fun a b _ _ h1 h2 => Int.le_antisymm h1 h2) h1 h2 p
/-! ### like data: what the laws' own comparison is asked -/
inductive SD (H : Hp) : Nat → V → V → Prop
  | non {d : Nat} : SD H d .non .non
  | bl {d : Nat} (b : Bool) : SD H d (.bl b) (.bl b)
  | int {d : Nat} (i : Int) : SD H d (.int i) (.int i)
  | str {d : Nat} (x : Str) : SD H d (.str x) (.str x)
  | lst {d : Nat} {a b : Addr} {xs ys : List V} (h1 : H a = some (.lst xs)) (h2 : H b = some (.lst ys)) (hl : xs.length = ys.length) (hz : xs.length ≤ 100000) (hi : ∀ (i : Nat) x y, xs[i]? = some x → ys[i]? = some y → SD H d x y) : SD H (d + 1) (.ref a) (.ref b)
  | tup {d : Nat} {a b : Addr} {xs ys : List V} (h1 : H a = some (.tup xs)) (h2 : H b = some (.tup ys)) (hl : xs.length = ys.length) (hz : xs.length ≤ 100000) (hi : ∀ (i : Nat) x y, xs[i]? = some x → ys[i]? = some y → SD H d x y) : SD H (d + 1) (.ref a) (.ref b)
theorem SD.same {H H' : Hp} (e : Same H H') {d : Nat} {x y : V} (h : SD H d x y) : SD H' d x y := by
  induction h with
  | non => exact .non
  | bl b => exact .bl b
  | int i => exact .int i
  | str x => exact .str x
  | lst h1 h2 hl hz _ ih => exact .lst (e _ _ h1) (e _ _ h2) hl hz ih
  | tup h1 h2 hl hz _ ih => exact .tup (e _ _ h1) (e _ _ h2) hl hz ih
theorem SD.flat {H : Hp} {d : Nat} {xs ys : List V} (h : ∀ x ∈ xs, ∀ d, SD H d x x) (e : xs = ys) : ∀ (i : Nat) x y, xs[i]? = some x → ys[i]? = some y → SD H d x y := fun i x y hx hy => by
  subst e
  rw [hx] at hy
  cases hy
  exact h x (List.mem_of_getElem? hx) d
def sp_same (d : Nat) : Sp := fun vs H Q _ => ∃ x y : V, vs = [x, y] ∧ SD H d x y ∧ ∀ H', Same H H' → Q (.bl true) H'
/-- what the recursion may lean on -/
def sp_samep : Nat → Sp
  | 0 => fun _ _ _ _ => False
  | d + 1 => sp_same d
theorem knows_false {P : Program} {w : World} {K : PySem.W.Frag} {mg : Str → Option Value} {base : Heap} {x : Str} {st : Stmt} {ps : List Str} (D : Fn K mg x st)
    (hb : ∀ (kV doc pm : Value) (an : Option Addr) (cdv ct : Value) (us : List Value), us.length = ps.length → bindArgs (PySem.W.fnOf x x (defArgs st) (defBody st) (defScope st) .none kV doc pm an cdv ct) ⟨us, []⟩ = pure (ps.zip us)) :
    Knows P w K mg base 0 x ps (sp_samep 0) := by
  obtain ⟨f, fd, F, g⟩ := D.ex
  exact ⟨f, fd, ⟨fun _ _ _ _ h => h.elim, fun _ _ _ _ _ _ _ _ _ _ _ _ _ h => h.elim⟩, g, F.kp, F.binds hb⟩
section
variable {K : PySem.W.Frag} {H : Hp} {x : V} {a b : String} {r r1 r2 : Bool} {Q : VK} {tp p q : Addr}
theorem g_isi (ty : TyX K H x (.type a)) (e : kitB a b = some r) (k : Q (.bl r) H) : rIsi K [x, .ty b] H Q := ⟨x, .ty b, .type a, .type b, r, rfl, .ty b, ty, kit_ty e, k⟩
theorem g_isiTL (ty : TyX K H x (.type a)) (h : H tp = some (.tup [.ty "tuple", .ty "list"])) (e1 : kitB a "tuple" = some r1) (e2 : kitB a "list" = some r2) (hr : (r1 || r2) = r) (k : Q (.bl r) H) : rIsiT K [x, .ref tp] H Q := by
  subst hr
  refine ⟨x, tp, _, .type a, [.type "tuple", .type "list"], r1 || r2, rfl, h, .cons (.ty _) (.cons (.ty _) .nil), ty, ?_, k⟩
  refine kitAny_cons (kit_ty e1) (fun h1 => kitAny_cons (b := r2) (kit_ty e2) (fun h2 => ?_) (fun h2 => ?_)) (fun h1 => ?_)
  · rw [kitAny_nil, h1, h2]; rfl
  · rw [h2]; simp
  · rw [h1]; simp
theorem dpAll_strs : ∀ ns : List Str, DpAll K H (ns.map V.str) (ns.map PyData.str)
  | [] => .nil
  | n :: r => .cons (.str n) (dpAll_strs r)
theorem eqvAll_strs : ∀ ns ms : List Str, PyData.eqvAll (ns.map PyData.str) (ms.map PyData.str) = decide (ns = ms)
  | [], [] => rfl
  | [], _ :: _ => rfl
  | _ :: _, [] => rfl
  | x :: r, y :: t => by
    simp only [List.map_cons, PyData.eqvAll, PyData.eqv, eqvAll_strs r t]
    by_cases h : x = y <;> by_cases h' : r = t <;> simp [h, h']
theorem canAll_strs : ∀ ns : List Str, ns.all PyData.strOk = true → PyData.canLayAll0 (ns.map PyData.str) = true
  | [], _ => rfl
  | x :: r, h => by
    rw [List.all_cons, Bool.and_eq_true] at h
    simp [PyData.canLayAll0, PyData.canLay0, canAll_strs r h.2, h.1]
theorem depthAll_strs : ∀ ns : List Str, PyData.depthAll (ns.map PyData.str) = 0
  | [] => rfl
  | _ :: r => by simp [PyData.depthAll, PyData.depth, depthAll_strs r]
theorem shaped_strs {ns : List Str} (h : ns.all PyData.strOk = true) : SeqAt.shaped (.list (ns.map PyData.str)) = true := by
  simp [SeqAt.shaped, PyData.canLay0, PyData.depth, canAll_strs ns h, depthAll_strs]
theorem g_eqStrs {ns ms : List Str} (h1 : SqL K H p (ns.map V.str)) (h2 : SqL K H q (ms.map V.str)) (o1 : ns.all PyData.strOk = true) (o2 : ms.all PyData.strOk = true) (k : Q (.bl (decide (ns = ms))) H) : rEqD K (.ref p) (.ref q) H Q :=
  ⟨_, _, .lst h1 (dpAll_strs ns), .lst h2 (dpAll_strs ms), shaped_strs o1, shaped_strs o2, by rw [PyData.eqv, eqvAll_strs]; exact k⟩
theorem g_neStrs {ns ms : List Str} (h1 : SqL K H p (ns.map V.str)) (h2 : SqL K H q (ms.map V.str)) (o1 : ns.all PyData.strOk = true) (o2 : ms.all PyData.strOk = true) (k : Q (.bl (!decide (ns = ms))) H) : rNeD K (.ref p) (.ref q) H Q :=
  ⟨_, _, .lst h1 (dpAll_strs ns), .lst h2 (dpAll_strs ms), shaped_strs o1, shaped_strs o2, by rw [PyData.eqv, eqvAll_strs]; exact k⟩
end
/-! ### a class's methods -/
structure FnI (K : PySem.W.Frag) (C : Addr) (qual : Str) (st : Stmt) : Prop where
  ex : ∃ (f : Addr) (fd : FuncData), Fun K "__init__" qual st f fd ∧ Mk K C f
structure FnM (K : PySem.W.Frag) (C : Addr) (m qual : Str) (st : Stmt) : Prop where
  ex : ∃ (f : Addr) (fd : FuncData), Fun K m qual st f fd ∧ Meth K C m f
structure FnD (K : PySem.W.Frag) (C : Addr) (m qual : Str) (dvs : List V) (st : Stmt) : Prop where
  ex : ∃ (f : Addr) (fd : FuncData), FunD K m qual (defArgs st) (defBody st) (defScope st) dvs [] f fd ∧ Meth K C m f
structure KnowsI (P : Program) (w : World) (K : PySem.W.Frag) (mg : Str → Option Value) (base : Heap) (k : Nat) (C : Addr) (ps : List Str) (sp : Sp) : Prop where
  ex : ∃ (f : Addr) (fd : FuncData), FnOk P w K mg base (L2.CX P w) k f fd ps sp ∧ Mk K C f ∧ Binds K fd ps []
structure KnowsM (P : Program) (w : World) (K : PySem.W.Frag) (mg : Str → Option Value) (base : Heap) (k : Nat) (C : Addr) (m : Str) (ps : List Str) (dvs : List V) (sp : Sp) : Prop where
  ex : ∃ (f : Addr) (fd : FuncData) (ds : List Value), FnOk P w K mg base (L2.CX P w) k f fd ps sp ∧ Meth K C m f ∧ Binds K fd ps ds ∧ Vals dvs ds
section
variable {P : Program} {w : World} {K : PySem.W.Frag} {mg : Str → Option Value} {base : Heap}
theorem KnowsI.mk' {C : Addr} {qual : Str} {st : Stmt} {N ps : List Str} {k : Nat} {sp : Sp} (D : FnI K C qual st) (S : FnScope N ps (defScope st))
    (hb : ∀ (kV doc pm : Value) (an : Option Addr) (cdv ct : Value) (us : List Value), us.length = ps.length → bindArgs (PySem.W.fnOf "__init__" qual (defArgs st) (defBody st) (defScope st) .none kV doc pm an cdv ct) ⟨us, []⟩ = pure (ps.zip us))
    (len : ∀ vs H Q E, sp vs H Q E → vs.length = ps.length)
    (hbody : ∀ (f : Addr) (cdv : Value) (A : Around) (outer : List Env) (s : Shared) (H : Hp) (vs : List V) (Q : VK) (E : XK), Room k (A.deeper (envOfC qual (defScope st) s.heap.objs.size f cdv)) → sp vs H Q E →
      ∃ t, PSs (cxOf (L2.CX P w) P w K mg base N qual (defScope st) f cdv A outer s H E) (defBody st) t ∧ t { nx := fun _ H' => Q .non H', rt := Q } (start N vs) H) : KnowsI P w K mg base (k + 1) C ps sp := by
  obtain ⟨f, fd, F, m⟩ := D.ex
  exact ⟨f, fd, F.okX S len fun cdv A outer s H vs Q E hr h => hbody f cdv A outer s H vs Q E hr h, m, F.binds hb⟩
theorem KnowsM.mk' {C : Addr} {m qual : Str} {st : Stmt} {N ps : List Str} {k : Nat} {sp : Sp} (D : FnM K C m qual st) (S : FnScope N ps (defScope st))
    (hb : ∀ (kV doc pm : Value) (an : Option Addr) (cdv ct : Value) (us : List Value), us.length = ps.length → bindArgs (PySem.W.fnOf m qual (defArgs st) (defBody st) (defScope st) .none kV doc pm an cdv ct) ⟨us, []⟩ = pure (ps.zip us))
    (len : ∀ vs H Q E, sp vs H Q E → vs.length = ps.length)
    (hbody : ∀ (f : Addr) (cdv : Value) (A : Around) (outer : List Env) (s : Shared) (H : Hp) (vs : List V) (Q : VK) (E : XK), Room k (A.deeper (envOfC qual (defScope st) s.heap.objs.size f cdv)) → sp vs H Q E →
      ∃ t, PSs (cxOf (L2.CX P w) P w K mg base N qual (defScope st) f cdv A outer s H E) (defBody st) t ∧ t { nx := fun _ H' => Q .non H', rt := Q } (start N vs) H) : KnowsM P w K mg base (k + 1) C m ps [] sp := by
  obtain ⟨f, fd, F, mm⟩ := D.ex
  exact ⟨f, fd, [], F.okX S len fun cdv A outer s H vs Q E hr h => hbody f cdv A outer s H vs Q E hr h, mm, F.binds hb, .nil⟩
theorem KnowsD.mk' {C : Addr} {m qual : Str} {st : Stmt} {N ps : List Str} {k : Nat} {sp : Sp} (D : FnD K C m qual [.non] st) (S : FnScope N ps (defScope st))
    (hb : ∀ (T : Addr) (kV doc pm : Value) (an : Option Addr) (cdv ct : Value) (us its : List Value), us.length = ps.length → its.length = 1 →
      ∃ k, bindArgs (PySem.W.fnOf m qual (defArgs st) (defBody st) (defScope st) (.ref T) kV doc pm an cdv ct) ⟨us, []⟩ = seqItems? (.ref T) >>= k ∧ k (some its.toArray) = pure (ps.zip (us ++ its.drop 1)))
    (len : ∀ vs H Q E, sp vs H Q E → vs.length = ps.length)
    (hbody : ∀ (f : Addr) (cdv : Value) (A : Around) (outer : List Env) (s : Shared) (H : Hp) (vs : List V) (Q : VK) (E : XK), Room k (A.deeper (envOfC qual (defScope st) s.heap.objs.size f cdv)) → sp vs H Q E →
      ∃ t, PSs (cxOf (L2.CX P w) P w K mg base N qual (defScope st) f cdv A outer s H E) (defBody st) t ∧ t { nx := fun _ H' => Q .non H', rt := Q } (start N vs) H) : KnowsM P w K mg base (k + 1) C m ps [] sp := by
  obtain ⟨f, fd, F, mm⟩ := D.ex
  obtain ⟨ds, hd, hB⟩ := F.binds1 ps.length 1 (by simp) (by simp) hb
  exact ⟨f, fd, ds, F.ok S len fun cdv A outer s H vs Q E hr h => hbody f cdv A outer s H vs Q E hr h, mm, hB, hd⟩
end
/-- with all arguments, and with the last one by default -/
structure KnowsM2 (P : Program) (w : World) (K : PySem.W.Frag) (mg : Str → Option Value) (base : Heap) (k : Nat) (C : Addr) (m : Str) (ps : List Str) (sp : Sp) : Prop where
  three : KnowsM P w K mg base k C m ps [] sp
  two : KnowsM P w K mg base k C m ps [.non] sp
section
variable {P : Program} {w : World} {K : PySem.W.Frag} {mg : Str → Option Value} {base : Heap}
theorem KnowsD.mk2 {C : Addr} {m qual : Str} {st : Stmt} {N ps : List Str} {k : Nat} {sp : Sp} (D : FnD K C m qual [.non] st) (S : FnScope N ps (defScope st))
    (hb : ∀ (T : Addr) (kV doc pm : Value) (an : Option Addr) (cdv ct : Value) (us its : List Value), us.length = ps.length → its.length = 1 →
      ∃ k, bindArgs (PySem.W.fnOf m qual (defArgs st) (defBody st) (defScope st) (.ref T) kV doc pm an cdv ct) ⟨us, []⟩ = seqItems? (.ref T) >>= k ∧ k (some its.toArray) = pure (ps.zip (us ++ its.drop 1)))
    (hb2 : ∀ (T : Addr) (kV doc pm : Value) (an : Option Addr) (cdv ct : Value) (us its : List Value), us.length = ps.length - 1 → its.length = 1 →
      ∃ k, bindArgs (PySem.W.fnOf m qual (defArgs st) (defBody st) (defScope st) (.ref T) kV doc pm an cdv ct) ⟨us, []⟩ = seqItems? (.ref T) >>= k ∧ k (some its.toArray) = pure (ps.zip (us ++ its.drop 0)))
    (len : ∀ vs H Q E, sp vs H Q E → vs.length = ps.length)
    (hbody : ∀ (f : Addr) (cdv : Value) (A : Around) (outer : List Env) (s : Shared) (H : Hp) (vs : List V) (Q : VK) (E : XK), Room k (A.deeper (envOfC qual (defScope st) s.heap.objs.size f cdv)) → sp vs H Q E →
      ∃ t, PSs (cxOf (L2.CX P w) P w K mg base N qual (defScope st) f cdv A outer s H E) (defBody st) t ∧ t { nx := fun _ H' => Q .non H', rt := Q } (start N vs) H) (hps : 0 < ps.length := by decide) : KnowsM2 P w K mg base (k + 1) C m ps sp := by
  refine ⟨KnowsD.mk' D S hb len hbody, ?_⟩
  obtain ⟨f, fd, F, mm⟩ := D.ex
  obtain ⟨ds, hd, hB⟩ := F.binds1 (ps.length - 1) 0 (by simp) (by simp; omega) hb2
  exact ⟨f, fd, ds, F.ok S len fun cdv A outer s H vs Q E hr h => hbody f cdv A outer s H vs Q E hr h, mm, hB, hd⟩
end
section
variable {X : Cx} {k : Nat} {C : Addr} {m x : Str} {ps : List Str} {sp : Sp} {E : XK} {o e : Expr} {es : List Expr} {ta : TE} {t : TA} {apos pos p : Pos}
theorem pe_methN {dvs : List V} {pl : Sem Bool} (he : PE X o ta) (c : Cls X.K C) (h : KnowsM X.prog X.w X.K X.mg X.base k C m ps dvs sp) (hr : Room k X.A) (hx : Passes (L2.CX X.prog X.w) X E) (ha : PA X (e :: es) t)
    (hst : starEach (e :: es) X.env = (false, eval e X.env) :: starEach es X.env := by rfl) (hpl : (backTo pos (starEach es X.env)).any (·.1) = false := by rfl)
    (ht : eval (.Call (.Attribute o m apos) (e :: es) [] pos) X.env = (do
      let ov ← eval o X.env
      standAt apos.atName
      let (f, first) ← holding [ov] (getMethod ov m pl)
      callWith pos f first (backTo pos (starEach (e :: es) X.env)) (backToKw pos (keywordEach [] X.env))) := by rfl) :
    PE X (.Call (.Attribute o m apos) (e :: es) [] pos) (tMeth C m sp dvs E ta t) := by
  obtain ⟨f, fd, ds, F, mm, hb, hd⟩ := h.ex
  exact pe_meth he c mm F hr hb hd hx ha hst hpl ht
theorem pe_methN0 {pl : Sem Bool} (he : PE X o ta) (c : Cls X.K C) (h : KnowsM X.prog X.w X.K X.mg X.base k C m ps [] sp) (hr : Room k X.A) (hx : Passes (L2.CX X.prog X.w) X E)
    (ht : eval (.Call (.Attribute o m apos) [] [] pos) X.env = (do
      let ov ← eval o X.env
      standAt apos.atName
      let (f, first) ← holding [ov] (getMethod ov m pl)
      callWith pos f first (backTo pos (starEach [] X.env)) (backToKw pos (keywordEach [] X.env))) := by rfl) :
    PE X (.Call (.Attribute o m apos) [] [] pos) (tMeth C m sp [] E ta tNil) := by
  obtain ⟨f, fd, ds, F, mm, hb, hd⟩ := h.ex
  exact pe_meth0 he c mm F hr hb hd hx ht
theorem pe_makeN (h : KnowsI X.prog X.w X.K X.mg X.base k C ps sp) (hr : Room (k + 1) X.A) (hm : X.mg x = some (.ref C)) (hx : Passes (L2.CX X.prog X.w) X E)
    (ha : PA X (e :: es) t) (hg : Gl X x := by rfl) (hdb : (x == ("__debug__" : Str)) = false := by decide) (he : starEach (e :: es) X.env = (false, eval e X.env) :: starEach es X.env := by rfl) (hpl : (backTo pos (starEach es X.env)).any (·.1) = false := by rfl) :
    PE X (.Call (.Name x p) (e :: es) [] pos) (tMake C sp [] E t) := by
  obtain ⟨f, fd, F, M, hb⟩ := h.ex
  exact pe_make M F hr hg hm hb .nil hx ha hdb he hpl
/-- whatever stands in the frame -/
theorem passA {W : WX} (tk : Takes X W) : Passes (L2.CX X.prog X.w) X (fun cls d H => ∀ σ, W cls d σ H) := passes_call (W := W) tk (fun _ _ σ _ h => h σ)
end
section
variable {K : PySem.W.Frag} {σ : L2.St} {H : Hp} {ta : TE} {t : TA} {Q : VK} {f m : Str} {D : Ends} {tv : TE} {C : Addr} {sp : Sp} {E : XK} {dvs : List V}
def rFld (K : PySem.W.Frag) (f : Str) : V → Hp → VK → Prop := fun x H Q => ∃ a C dx fs v, x = .ref a ∧ H a = some (.ins C dx fs) ∧ Cls K C ∧ NoAttr K C f ∧ fs.lookup f = some v ∧ Q v H
theorem g_fld0 (q : ta σ H fun x H1 => rFld K f x H1 Q) : tFld K ta f σ H Q := q
theorem g_fldR {p dx : Addr} {fs : List (Str × V)} {v : V} (c : Cls K C) (na : NoAttr K C f) (h : H p = some (.ins C dx fs)) (l : fs.lookup f = some v) (q : Q v H) : rFld K f (.ref p) H Q := ⟨p, C, dx, fs, v, rfl, h, c, na, l, q⟩
theorem g_sfld (q : tv σ H fun y H1 => ta σ H1 fun x H2 => ∃ a C dx fs, x = .ref a ∧ H2 a = some (.ins C dx fs) ∧ Cls K C ∧ NoAttr K C f ∧ fs.length < 1000 ∧ D.nx σ (upd H2 a (.ins C dx (putF f y fs)))) : sFld K ta tv f D σ H := q
theorem g_meth (q : ta σ H fun x H1 => ∃ a dx fs, x = .ref a ∧ H1 a = some (.ins C dx fs) ∧ fs.lookup m = none ∧ t σ H1 fun vs H2 => sp (x :: (vs ++ dvs)) H2 Q E) : tMeth C m sp dvs E ta t σ H Q := q
theorem g_make (q : t σ H fun vs H1 => ∀ x dx, H1 x = none → H1 dx = none → dx ≠ x → sp (.ref x :: (vs ++ dvs)) (upd (upd H1 dx (.own x)) x (.ins C dx [])) (fun v H2 => v = .non ∧ Q (.ref x) H2) E) : tMake C sp dvs E t σ H Q := q
theorem g_par {i j : Nat} (q : t σ H fun vs H1 => ∃ v w, vs = [v, w] ∧ D.nx ((σ.set i (some v)).set j (some w)) H1) : tPar i j t D σ H := q
end
def sp_law (K : PySem.W.Frag) : Sp := fun vs H Q _ => ∃ (s : Addr) (ns : List Int), vs = [.ref s] ∧ SqL K H s (ns.map V.int) ∧ ns.length ≤ 63 ∧ ∀ H', Q (.bl true) H'
theorem walk {l : PySem.W.OpenLaw} {k : Nat} {q : Program} {loose : List Str} {XP : (Str → Option Value) → Heap → Prop} {YP : World → Heap → Prop} {d : DefRec} {K : Params → PySem.W.Frag} (hn : l.most = some 63) (hdf : d.params.defaults = []) (hr : Room k callerA)
    (hY : ∀ (w : World) (h : Heap), YP w h → (K w.params).In h)
    (F : ∀ (w : World) (mg : Str → Option Value) (fa : Addr) (h : Heap), (K w.params).In h → h.Ns mainGlobals mg → mg d.name = some (.ref fa) →
      ∃ fd : FuncData, (∀ (s : Shared) (u : Value), BindsTo s fd ⟨[u], []⟩ [("_law_script", u)]) ∧ ∀ base : Heap, (K w.params).In base → base.Ns mainGlobals mg → FnOk l.prog w (K w.params) mg base (L2.CX l.prog w) k fa fd ["_law_script"] (sp_law (K w.params))) :
    PySem.W.WalkO q loose XP YP l.row.toRowW d [] (fun f vs => PySem.call f vs) :=
  L2.walk_of (n := 63) (k := k) (x := "_law_script") (CX := fun w => L2.CX l.prog w) (sp := fun w => sp_law (K w.params)) hn (by decide) hdf hr hY F (fun _ _ a ns hl _ hS => ⟨a, ns, rfl, hS, hl, fun _ => rfl⟩) fun _ _ _ _ _ h => by
    obtain ⟨_, _, _, _, _, _, _, _, _, _, _, _, z⟩ := h
    exact z
end My
local macro_rules | `(tactic| walk_at "go0") => `(tactic| first
  | with_reducible refine My.g_var0 ?_
  | with_reducible refine My.g_var1 ?_
  | with_reducible refine My.g_var2 ?_
  | with_reducible refine My.g_var3 ?_
  | with_reducible refine My.g_var4 ?_
  | with_reducible refine My.g_var5 ?_
  | with_reducible refine My.g_var6 ?_
  | with_reducible refine My.g_var7 ?_
  | with_reducible refine My.g_var8 ?_
  | with_reducible refine My.g_var9 ?_
  | with_reducible refine My.g_var10 ?_
  | with_reducible refine My.g_var11 ?_
  | with_reducible refine My.g_var12 ?_
  | with_reducible refine My.g_var13 ?_
  | with_reducible refine My.g_var14 ?_
  | with_reducible refine My.g_var15 ?_
  | with_reducible refine My.g_var16 ?_
  | with_reducible refine My.g_var17 ?_
  | with_reducible refine My.g_var18 ?_
  | with_reducible refine My.g_var19 ?_
  | with_reducible refine My.g_var20 ?_
  | with_reducible refine My.g_var21 ?_
  | with_reducible refine My.g_var22 ?_
  | with_reducible refine My.g_var23 ?_
  | with_reducible refine My.g_var24 ?_
  | with_reducible refine My.g_var25 ?_
  | with_reducible refine My.g_c ?_
  | with_reducible refine My.g_op ?_
  | with_reducible refine My.g_rI0 ?_
  | with_reducible refine My.g_test ?_
  | with_reducible refine My.g_tB ?_
  | with_reducible refine My.g_not ?_
  | with_reducible refine My.g_and ?_
  | with_reducible refine My.g_or ?_
  | with_reducible refine My.g_andV ?_
  | with_reducible refine My.g_orV ?_
  | with_reducible refine My.g_notV ?_
  | with_reducible refine My.g_chain ?_
  | with_reducible refine My.g_nil ?_
  | with_reducible refine My.g_cons ?_
  | with_reducible refine My.g_call ?_
  | with_reducible refine My.g_callB ?_
  | with_reducible refine My.g_lst ?_
  | with_reducible refine My.g_tup ?_
  | with_reducible refine My.g_seq ?_
  | with_reducible refine My.g_asg ?_
  | with_reducible refine My.g_name0 ?_
  | with_reducible refine My.g_name1 ?_
  | with_reducible refine My.g_name2 ?_
  | with_reducible refine My.g_name3 ?_
  | with_reducible refine My.g_name4 ?_
  | with_reducible refine My.g_name5 ?_
  | with_reducible refine My.g_name6 ?_
  | with_reducible refine My.g_name7 ?_
  | with_reducible refine My.g_name8 ?_
  | with_reducible refine My.g_name9 ?_
  | with_reducible refine My.g_name10 ?_
  | with_reducible refine My.g_name11 ?_
  | with_reducible refine My.g_name12 ?_
  | with_reducible refine My.g_name13 ?_
  | with_reducible refine My.g_name14 ?_
  | with_reducible refine My.g_name15 ?_
  | with_reducible refine My.g_name16 ?_
  | with_reducible refine My.g_name17 ?_
  | with_reducible refine My.g_name18 ?_
  | with_reducible refine My.g_name19 ?_
  | with_reducible refine My.g_name20 ?_
  | with_reducible refine My.g_name21 ?_
  | with_reducible refine My.g_name22 ?_
  | with_reducible refine My.g_name23 ?_
  | with_reducible refine My.g_name24 ?_
  | with_reducible refine My.g_name25 ?_
  | with_reducible refine L2.iteT ?_
  | with_reducible refine L2.iteF ?_
  | with_reducible refine My.ite_nT ?_
  | with_reducible refine My.ite_eqT ?_
  | with_reducible refine My.ite_neF ?_
  | ((with_reducible refine' My.ite_strF ?hs ?_); (case hs => decide))
  | ((with_reducible refine' My.ite_strT ?hs ?_); (case hs => decide))
  | with_reducible refine My.ite_nF ?_
  | with_reducible refine My.g_ret ?_
  | with_reducible refine My.g_par ?_
  | with_reducible refine My.g_fld0 ?_
  | with_reducible refine My.g_sfld ?_
  | with_reducible refine My.g_meth ?_
  | with_reducible refine My.g_make ?_
  | with_reducible refine My.g_retN ?_
  | with_reducible refine My.g_drop ?_
  | with_reducible refine My.g_next ?_
  | with_reducible refine My.g_un ?_
  | with_reducible refine My.g_sub ?_
  | with_reducible refine My.g_for ?_
  | with_reducible refine My.g_lc ?_
  | with_reducible refine My.g_iL ?_
  | with_reducible refine My.g_iT ?_
  | with_reducible refine My.g_iR1 ?_
  | with_reducible refine My.g_iR2 ?_
  | with_reducible refine My.g_iE ?_
  | with_reducible refine My.g_bm ?_
  | with_reducible refine My.g_yes ?_
  | with_reducible refine My.g_isN ?_
  | with_reducible refine My.g_notN ?_
  | with_reducible refine My.g_min2 ?_
  | with_reducible refine My.g_max2 ?_
  | with_reducible refine My.g_abs ?_
  | with_reducible refine My.g_intI ?_
  | with_reducible refine My.g_intB ?_
  | ((with_reducible refine' My.g_sz ?gz ?_); (case gz => simp))
  | with_reducible refine My.g_rU ?_
  | ((with_reducible refine' My.g_rI ?gi ?_); (case gi => first
      | (show (0 : Int) < _; first | assumption | decide | omega)
      | exact My.cdivw (by omega) (by omega)
      | exact (show L2.CMul _ _ from Or.inl ⟨by omega, by omega⟩)
      | exact (show L2.CMul _ _ from Or.inr ⟨by omega, by omega⟩)))
  | ((with_reducible refine' My.g_eq ?ge ?_); (case ge => rfl))
  | ((with_reducible refine' My.g_ne ?ge ?_); (case ge => rfl))
  | with_reducible refine Exists.intro _ (And.intro rfl ?_))
local macro_rules | `(tactic| walk_at "go1") => `(tactic| first | walk_at "go0" | with_reducible refine My.g_if ?_)
local macro_rules | `(tactic| walk_at "goE") => `(tactic| repeat (first | walk_at "go0" | with_reducible refine My.g_ifS ?_ | dsimp only))
local macro_rules | `(tactic| walk_at "go") => `(tactic| repeat (first | walk_at "go1" | with_reducible refine My.g_ifS ?_ | dsimp only))
local macro_rules | `(tactic| walk_at "goS") => `(tactic| repeat (first | walk_at "go1" | dsimp only))
local macro_rules | `(tactic| walk_at "dr") => `(tactic| first
  | assumption
  | exact My.Go.dr (by assumption)
  | (refine My.Dr.same ?_ (My.Same.new (by assumption)); walk_at "dr")
  | (refine My.Dr.same ?_ (by assumption); walk_at "dr")
  | (refine My.Dr.mut (by assumption) ?_ (by assumption); walk_at "dr"))
local macro_rules | `(tactic| walk_at "ne") => `(tactic| first
  | assumption
  | exact My.Dr.ne2 (by assumption) (by walk_at "dr")
  | exact Ne.symm (My.Dr.ne2 (by assumption) (by walk_at "dr"))
  | exact L2.ne_of_none (by walk_at "hp") (by assumption)
  | exact Ne.symm (L2.ne_of_none (by walk_at "hp") (by assumption)))
local macro_rules | `(tactic| walk_at "hp") => `(tactic| first
  | assumption
  | exact L2.upd_same
  | (refine My.upd_old ?_ (by assumption); walk_at "hp")
  | (refine My.Same.at (by assumption) ?_; walk_at "hp")
  | (refine My.Go.at (by assumption) ?_ ?_; ((walk_at "hp")); walk_at "ne"))
local macro_rules | `(tactic| walk_at "wp") => `(tactic| try simp only [List.map_cons, List.map_nil, L2.wipe, List.set_cons_succ, List.set_cons_zero])
namespace My
open PySem PySem.Spec PyProof.Rows L2
/-! ### promises: wheels -/
abbrev Wh (n : Int) : Prop := 2 ≤ n ∧ n ≤ 1000000000000
abbrev Se (n i : Int) : Prop := 0 ≤ i ∧ i < n
def sp_is_wheel : Sp := fun vs H Q _ => ∃ n : Int, vs = [.int n] ∧ Q (.bl (decide (Wh n))) H
def sp_need_wheel (ec : Ec) : Sp := fun vs H Q E => ∃ n : Int, vs = [.int n] ∧ (Wh n → Q .non H) ∧ (¬ Wh n → E (.ref ec.BadWheel) none H)
def sp_need_seen (ec : Ec) : Sp := fun vs H Q E => ∃ n i : Int, vs = [.int n, .int i] ∧ (Se n i → Q .non H) ∧ (¬ Se n i → E (.ref ec.BadSeen) none H)
def sp_since_of : Sp := fun vs H Q _ => ∃ n i j : Int, vs = [.int n, .int i, .int j] ∧ 0 < n ∧ Q (.int ((j - i) % n)) H
end My
namespace My
open PySem PySem.Spec PyProof.Rows L2
/-! ### promises: drawing -/
/-- how many there are to draw from -/
abbrev Mn (n : Int) : Prop := 0 < n ∧ n < 2 ^ 150
def sp_drawn (K : PySem.W.Frag) : Sp := fun vs H Q _ => ∃ (a s : Addr) (n : Int), vs = [.ref a, .int n] ∧ Dr K a s H ∧ Mn n ∧ ∀ r H', 0 ≤ r → r < n → Go K a s H H' → Q (.int r) H'
def sp_start (K : PySem.W.Frag) : Sp := fun vs H Q _ => ∃ (s : Addr) (ns : List Int), vs = [.ref s] ∧ SqL K H s (ns.map V.int) ∧ ns.length ≤ 63 ∧ ∀ a H', H a = none → Same H H' → Dr K a s H' → Q (.ref a) H'
end My
namespace My
open PySem PySem.Spec PyProof.Rows L2
def sp_wheel (K : PySem.W.Frag) : Sp := fun vs H Q _ => ∃ (a s : Addr), vs = [.ref a] ∧ Dr K a s H ∧ ∀ r H', Wh r → Go K a s H H' → Q (.int r) H'
/-- one of a list of ints -/
theorem one_int {zs : List Int} {v : V} (h : v ∈ zs.map V.int) : ∃ z, v = .int z ∧ z ∈ zs := by
  obtain ⟨z, h1, h2⟩ := List.mem_map.mp h
  exact ⟨z, h2.symm, h1⟩
end My
namespace My
open PySem PySem.Spec PyProof.Rows L2
/-! ### rules, in plain Lean -/
inductive Rule where
  | up (l : Int) | near | pair (o : Int) | about (f : Int)
def RuleOk (n : Int) : Rule → Prop
  | .up l => 0 ≤ l ∧ l ≤ 1000000000000
  | .near => True
  | .pair o => Wh o
  | .about f => 0 ≤ 2 * f ∧ 2 * f < n
def ruleV : Rule → List V
  | .up l => [.str "up", .int l]
  | .near => [.str "near"]
  | .pair o => [.str "pair", .int o]
  | .about f => [.str "about", .int f]
def lcmI (n o : Int) : Int := ((Nat.lcm n.toNat o.toNat : Nat) : Int)
def gcdI (n o : Int) : Int := ((Nat.gcd n.toNat o.toNat : Nat) : Int)
def loR (n : Int) : Rule → Int
  | .up l => l
  | .near => 0 - (n - 1) / 2
  | .pair _ => 0
  | .about f => 0 - f
def hiR (n : Int) : Rule → Int
  | .up l => l + n - 1
  | .near => n / 2
  | .pair o => lcmI n o - 1
  | .about f => f
def shR (r : Rule) (a : Int) : Int := match r with
  | .about _ => a
  | _ => 0
def sec (r : Rule) (t : Int) : Int := match r with
  | .pair o => t % o
  | _ => 0
/-- what the wheels show of a time: the second one of a pair alone -/
def shownR (n : Int) (r : Rule) (t : Int) : Int × Int := (t % n, sec r t)
def SeenR (n : Int) (r : Rule) (x : Int × Int) : Prop := Se n x.1 ∧ match r with
  | .pair o => Se o x.2
  | _ => x.2 = 0
/-- a number with the rests -/
def Cg (n : Int) (r : Rule) (x y : Int × Int) (g : Int) : Prop := n ∣ g - (y.1 - x.1) ∧ match r with
  | .pair o => o ∣ g - (y.2 - x.2)
  | _ => True
def Gp (n : Int) (r : Rule) (x y : Int × Int) (a g : Int) : Prop := loR n r + shR r a ≤ g ∧ g ≤ hiR n r + shR r a ∧ Cg n r x y g
theorem gcdI_pos {n o : Int} (h : 0 < n) : 0 < gcdI n o := by
  unfold gcdI
  have : 0 < Nat.gcd n.toNat o.toNat := Nat.gcd_pos_of_pos_left _ (by omega)
  omega
theorem gcdI_dvd {n o : Int} (hn : 0 < n) (ho : 0 < o) : gcdI n o ∣ n ∧ gcdI n o ∣ o := by
  unfold gcdI
  constructor
  · have h := Int.natCast_dvd_natCast.mpr (Nat.gcd_dvd_left n.toNat o.toNat)
    rwa [show ((n.toNat : Nat) : Int) = n by omega] at h
  · have h := Int.natCast_dvd_natCast.mpr (Nat.gcd_dvd_right n.toNat o.toNat)
    rwa [show ((o.toNat : Nat) : Int) = o by omega] at h
theorem lcmI_eq {n o : Int} (hn : 0 < n) (ho : 0 < o) : lcmI n o = n * (o / gcdI n o) ∧ lcmI n o = n / gcdI n o * o ∧ lcmI n o = n * o / gcdI n o := by
  obtain ⟨N, rfl⟩ : ∃ N : Nat, n = N := ⟨n.toNat, by omega⟩
  obtain ⟨O, rfl⟩ : ∃ O : Nat, o = O := ⟨o.toNat, by omega⟩
  unfold lcmI gcdI
  rw [Int.toNat_natCast, Int.toNat_natCast]
  have hg : 0 < Nat.gcd N O := Nat.gcd_pos_of_pos_left _ (by omega)
  have e : Nat.lcm N O = N * O / Nat.gcd N O := rfl
  have e1 : N * O / Nat.gcd N O = N * (O / Nat.gcd N O) := Nat.mul_div_assoc _ (Nat.gcd_dvd_right N O)
  have e2 : N * O / Nat.gcd N O = N / Nat.gcd N O * O := by
    rw [Nat.mul_comm, Nat.mul_div_assoc _ (Nat.gcd_dvd_left N O), Nat.mul_comm]
  refine ⟨?_, ?_, ?_⟩
  · rw [← Int.natCast_ediv, ← Int.natCast_mul, e, e1]
  · rw [← Int.natCast_ediv, ← Int.natCast_mul, e, e2]
  · rw [← Int.natCast_mul, ← Int.natCast_ediv, e]
theorem lcmI_pos {n o : Int} (hn : 0 < n) (ho : 0 < o) : 0 < lcmI n o := by
  unfold lcmI
  have : 0 < Nat.lcm n.toNat o.toNat := Nat.lcm_pos (by omega) (by omega)
  omega
theorem lcmI_dvd {n o d : Int} (hn : 0 < n) (ho : 0 < o) (h1 : n ∣ d) (h2 : o ∣ d) : lcmI n o ∣ d := by
  have a1 := Int.natAbs_dvd_natAbs.mpr h1
  have a2 := Int.natAbs_dvd_natAbs.mpr h2
  rw [← Int.natAbs_dvd_natAbs]
  unfold lcmI
  rw [Int.natAbs_natCast]
  refine Nat.lcm_dvd ?_ ?_
  · rwa [show n.natAbs = n.toNat by omega] at a1
  · rwa [show o.natAbs = o.toNat by omega] at a2
theorem lcmI_le {n o : Int} (hn : 0 < n) (ho : 0 < o) : lcmI n o ≤ n * o := by
  rw [(lcmI_eq hn ho).1]
  have h1 : o / gcdI n o ≤ o := Int.ediv_le_self _ (by omega)
  exact Int.mul_le_mul_of_nonneg_left h1 (by omega)
/-- near nought and divided by m: nought -/
theorem zero_of {m d : Int} (h : m ∣ d) (h1 : -m < d) (h2 : d < m) : d = 0 := by
  obtain ⟨k, rfl⟩ := h
  by_cases z : k = 0
  · rw [z]; omega
  · exfalso
    have hm : 0 < m := by omega
    rcases Int.lt_or_gt_of_ne z with q | q
    · have : m * k ≤ m * (-1) := Int.mul_le_mul_of_nonneg_left (by omega) (by omega)
      omega
    · have : m * 1 ≤ m * k := Int.mul_le_mul_of_nonneg_left (by omega) (by omega)
      omega
theorem Gp.uniq {n : Int} {r : Rule} {x y : Int × Int} {a g g' : Int} (hw : Wh n) (hr : RuleOk n r) (h : Gp n r x y a g) (h' : Gp n r x y a g') : g = g' := by
  obtain ⟨h1, h2, h3, h4⟩ := h
  obtain ⟨q1, q2, q3, q4⟩ := h'
  have hn : 0 < n := by have := hw.1; omega
  have d1 : n ∣ g - g' := by
    have := Int.dvd_sub h3 q3
    rwa [show g - (y.1 - x.1) - (g' - (y.1 - x.1)) = g - g' by omega] at this
  have key : g - g' = 0 := by
    cases r with
    | up l => exact zero_of d1 (by simp only [loR, hiR, shR] at *; omega) (by simp only [loR, hiR, shR] at *; omega)
    | near => exact zero_of d1 (by simp only [loR, hiR, shR] at *; omega) (by simp only [loR, hiR, shR] at *; omega)
    | about f =>
      have := hr.2
      exact zero_of d1 (by simp only [loR, hiR, shR] at *; omega) (by simp only [loR, hiR, shR] at *; omega)
    | pair o =>
      have ho : 0 < o := by have := hr.1; omega
      have d2 : o ∣ g - g' := by
        have := Int.dvd_sub h4 q4
        rwa [show g - (y.2 - x.2) - (g' - (y.2 - x.2)) = g - g' by omega] at this
      exact zero_of (lcmI_dvd hn ho d1 d2) (by simp only [loR, hiR, shR] at *; omega) (by simp only [loR, hiR, shR] at *; omega)
  omega
theorem dvd_rest {n t t' : Int} : n ∣ (t' - t) - (t' % n - t % n) := by
  have h1 : n ∣ t' - t' % n := Int.dvd_self_sub_emod
  have h2 : n ∣ t - t % n := Int.dvd_self_sub_emod
  have := Int.dvd_sub h1 h2
  rwa [show t' - t' % n - (t - t % n) = (t' - t) - (t' % n - t % n) by omega] at this
theorem Cg.true {n : Int} {r : Rule} {t t' : Int} : Cg n r (shownR n r t) (shownR n r t') (t' - t) := by
  refine ⟨dvd_rest, ?_⟩
  cases r with
  | pair o => exact dvd_rest
  | _ => trivial
/-- the number with the rest from lo on -/
theorem rest_from {n lo e : Int} (hn : 0 < n) : lo ≤ lo + (e - lo) % n ∧ lo + (e - lo) % n ≤ lo + n - 1 ∧ n ∣ lo + (e - lo) % n - e := by
  have h1 := Int.emod_nonneg (e - lo) (show n ≠ 0 by omega)
  have h2 := Int.emod_lt_of_pos (e - lo) hn
  refine ⟨by omega, by omega, ?_⟩
  have h3 : n ∣ (e - lo) - (e - lo) % n := Int.dvd_self_sub_emod
  have := Int.dvd_neg.mpr h3
  rwa [show -((e - lo) - (e - lo) % n) = lo + (e - lo) % n - e by omega] at this
/-- the pair's number -/
theorem pair_core {n o rest more c inv : Int} (hn : 0 < n) (ho : 0 < o) (h0 : 0 ≤ rest) (h1 : rest < n) (hc : c = gcdI n o) (hd : c ∣ more - rest) (hs : 1 < o / c) (hi : o / c ∣ n / c * inv - 1) :
    ∀ t, t = (more - rest) / c * inv % (o / c) → 0 ≤ rest + n * t ∧ rest + n * t ≤ lcmI n o - 1 ∧ n ∣ rest + n * t - rest ∧ o ∣ rest + n * t - more := by
  intro t ht
  have hs0 : 0 < o / c := by omega
  have t0 : 0 ≤ t := by rw [ht]; exact Int.emod_nonneg _ (by omega)
  have t1 : t ≤ o / c - 1 := by have := Int.emod_lt_of_pos ((more - rest) / c * inv) hs0; omega
  obtain ⟨cn, co⟩ := gcdI_dvd hn ho
  rw [← hc] at cn co
  have hcp : 0 < c := by rw [hc]; exact gcdI_pos hn
  have en : n = c * (n / c) := (Int.mul_ediv_cancel' cn).symm
  have eo : o = c * (o / c) := (Int.mul_ediv_cancel' co).symm
  have ed : more - rest = c * ((more - rest) / c) := (Int.mul_ediv_cancel' hd).symm
  have nt : n * t ≤ n * (o / c - 1) := Int.mul_le_mul_of_nonneg_left t1 (by omega)
  have nt0 : 0 ≤ n * t := Int.mul_nonneg (by omega) t0
  have el := (lcmI_eq hn ho).1
  rw [← hc] at el
  have e3 : n * (o / c - 1) = n * (o / c) - n := by rw [Int.mul_sub, Int.mul_one]
  refine ⟨by omega, by omega, ⟨t, by omega⟩, ?_⟩
  have q1 : o / c ∣ (more - rest) / c * inv - t := by rw [ht]; exact Int.dvd_self_sub_emod
  -- n/c * t - far/c is divided by o/c
  have q2 : o / c ∣ n / c * t - (more - rest) / c := by
    have a1 : o / c ∣ (more - rest) / c * (n / c * inv - 1) := Int.dvd_mul_of_dvd_right hi
    have a2 : o / c ∣ n / c * ((more - rest) / c * inv - t) := Int.dvd_mul_of_dvd_right q1
    have a3 := Int.dvd_sub a1 a2
    have e : (more - rest) / c * (n / c * inv - 1) - n / c * ((more - rest) / c * inv - t) = n / c * t - (more - rest) / c := by
      rw [Int.mul_sub, Int.mul_sub, Int.mul_one, ← Int.mul_assoc, ← Int.mul_assoc, Int.mul_comm ((more - rest) / c) (n / c)]
      omega
    rwa [e] at a3
  obtain ⟨z, hz⟩ := q2
  refine ⟨z, ?_⟩
  have e4 : rest + n * t - more = c * (n / c * t - (more - rest) / c) := by
    rw [Int.mul_sub, ← Int.mul_assoc, ← en, ← ed]
    omega
  rw [e4, hz, ← Int.mul_assoc, ← eo]
theorem pair_one {n o rest more : Int} (hn : 0 < n) (ho : 0 < o) (h0 : 0 ≤ rest) (h1 : rest < n) (hd : gcdI n o ∣ more - rest) (hs : o / gcdI n o ≤ 1) : 0 ≤ rest ∧ rest ≤ lcmI n o - 1 ∧ n ∣ rest - rest ∧ o ∣ rest - more := by
  obtain ⟨cn, co⟩ := gcdI_dvd hn ho
  have hcp : 0 < gcdI n o := gcdI_pos hn
  have eo : o = gcdI n o * (o / gcdI n o) := (Int.mul_ediv_cancel' co).symm
  have hq : o / gcdI n o = 1 := by
    have : 0 < o / gcdI n o := by
      rcases Int.lt_or_le 0 (o / gcdI n o) with q | q
      · exact q
      · have : gcdI n o * (o / gcdI n o) ≤ 0 := Int.mul_nonpos_of_nonneg_of_nonpos (by omega) q
        omega
    omega
  have ee : o = gcdI n o := by rw [hq] at eo; omega
  have el := (lcmI_eq hn ho).1
  rw [hq] at el
  refine ⟨h0, by omega, ⟨0, by omega⟩, ?_⟩
  rw [ee]
  have := Int.dvd_neg.mpr hd
  rwa [show -(more - rest) = rest - more by omega] at this
/-- no number has both rests -/
theorem pair_none {n o rest more g : Int} (hn : 0 < n) (ho : 0 < o) (h1 : n ∣ g - rest) (h2 : o ∣ g - more) : gcdI n o ∣ more - rest := by
  obtain ⟨cn, co⟩ := gcdI_dvd hn ho
  have a := Int.dvd_trans cn h1
  have b := Int.dvd_trans co h2
  have := Int.dvd_sub a b
  rwa [show g - rest - (g - more) = more - rest by omega] at this
end My
namespace My
open PySem PySem.Spec PyProof.Rows L2
/-! ### promises: rules -/
/-- what is handed in as a rule -/
inductive Raw where
  | nil | one (s : Str) | two (s : Str) (a : Int) | three (s : Str) (a b : Int)
  deriving DecidableEq
def rawV : Raw → List V
  | .nil => []
  | .one s => [.str s]
  | .two s a => [.str s, .int a]
  | .three s a b => [.str s, .int a, .int b]
def RawS : Raw → Prop
  | .nil => True
  | .one s => PyData.strOk s = true
  | .two s _ => PyData.strOk s = true
  | .three s _ _ => PyData.strOk s = true
def RawOk (n : Int) : Raw → Prop
  | .one s => s = "near"
  | .two s a => (s = "up" ∧ 0 ≤ a ∧ a ≤ 1000000000000) ∨ (s = "pair" ∧ Wh a) ∨ (s = "about" ∧ 0 ≤ 2 * a ∧ 2 * a < n)
  | _ => False
instance {n : Int} {r : Raw} : Decidable (RawOk n r) := match r with
  | .nil => inferInstanceAs (Decidable False)
  | .one s => inferInstanceAs (Decidable (s = "near"))
  | .two s a => inferInstanceAs (Decidable ((s = "up" ∧ 0 ≤ a ∧ a ≤ 1000000000000) ∨ (s = "pair" ∧ Wh a) ∨ (s = "about" ∧ 0 ≤ 2 * a ∧ 2 * a < n)))
  | .three _ _ _ => inferInstanceAs (Decidable False)
def toRaw : Rule → Raw
  | .up l => .two "up" l
  | .near => .one "near"
  | .pair o => .two "pair" o
  | .about f => .two "about" f
theorem rawV_to (r : Rule) : rawV (toRaw r) = ruleV r := by cases r <;> rfl
theorem rawS_to (r : Rule) : RawS (toRaw r) := by cases r <;> (show PyData.strOk _ = true; decide +kernel)
theorem rawOk_to {n : Int} {r : Rule} : RawOk n (toRaw r) ↔ RuleOk n r := by
  cases r with
  | up l => exact ⟨fun h => by rcases h with h | h | h <;> first | exact h.2 | exact absurd h.1 (by decide), fun h => .inl ⟨rfl, h⟩⟩
  | near => exact ⟨fun _ => trivial, fun _ => rfl⟩
  | pair o => exact ⟨fun h => by rcases h with h | h | h <;> first | exact h.2 | exact absurd h.1 (by decide), fun h => .inr (.inl ⟨rfl, h⟩)⟩
  | about f => exact ⟨fun h => by rcases h with h | h | h <;> first | exact h.2 | exact absurd h.1 (by decide), fun h => .inr (.inr ⟨rfl, h⟩)⟩
theorem rule_of {n : Int} {w : Raw} (h : RawOk n w) : ∃ r, w = toRaw r ∧ RuleOk n r := by
  cases w with
  | nil => exact h.elim
  | three _ _ _ => exact h.elim
  | one s =>
    have e : s = "near" := h
    exact ⟨.near, by rw [e]; rfl, trivial⟩
  | two s a =>
    rcases h with ⟨e, h⟩ | ⟨e, h⟩ | ⟨e, h⟩
    · exact ⟨.up a, by rw [e]; rfl, h⟩
    · exact ⟨.pair a, by rw [e]; rfl, h⟩
    · exact ⟨.about a, by rw [e]; rfl, h⟩
theorem toRaw_inj {r r' : Rule} (h : toRaw r = toRaw r') : r = r' := by
  cases r <;> cases r' <;> first
    | rfl
    | (injection h with h1 h2; subst h2; rfl)
    | (injection h with h1 h2; exact absurd h1 (by decide))
    | (injection h)
def sp_is_rule : Sp := fun vs H Q _ => ∃ (n : Int) (p : Addr) (w : Raw), vs = [.int n, .ref p] ∧ H p = some (.tup (rawV w)) ∧ RawS w ∧ ∀ H', Same H H' → Q (.bl (decide (RawOk n w))) H'
def sp_need_rule (ec : Ec) : Sp := fun vs H Q E => ∃ (n : Int) (p : Addr) (w : Raw), vs = [.int n, .ref p] ∧ H p = some (.tup (rawV w)) ∧ RawS w ∧ (Wh n → RawOk n w → ∀ H', Same H H' → Q .non H') ∧
  (¬ Wh n → E (.ref ec.BadWheel) none H) ∧ (Wh n → ¬ RawOk n w → ∀ H', Same H H' → E (.ref ec.BadRule) none H')
def sp_divisor : Sp := fun vs H Q _ => ∃ n o : Int, vs = [.int n, .int o] ∧ 0 < n ∧ 0 < o ∧ Q (.int (gcdI n o)) H
/-- what is shown: a number, for a pair a tuple of both -/
def SeenAt (H : Hp) (r : Rule) (v : V) (x : Int × Int) : Prop := match r with
  | .pair _ => ∃ q, v = .ref q ∧ H q = some (.tup [.int x.1, .int x.2])
  | _ => v = .int x.1
theorem SeenAt.same {H H' : Hp} {r : Rule} {v : V} {x : Int × Int} (e : Same H H') (h : SeenAt H r v x) : SeenAt H' r v x := by
  cases r with
  | pair o =>
    obtain ⟨q, h1, h2⟩ := h
    exact ⟨q, h1, e _ _ h2⟩
  | _ => exact h
def SeenOk (n : Int) (r : Rule) (x : Int × Int) : Prop := Se n x.1 ∧ match r with
  | .pair o => Se o x.2
  | _ => True
theorem SeenOk.true {n : Int} {r : Rule} {t : Int} (hw : Wh n) (hr : RuleOk n r) : SeenOk n r (shownR n r t) := by
  have hn : 0 < n := by have := hw.1; omega
  refine ⟨⟨Int.emod_nonneg _ (by omega), Int.emod_lt_of_pos _ hn⟩, ?_⟩
  cases r with
  | pair o =>
    have ho : 0 < o := by have := hr.1; omega
    exact ⟨Int.emod_nonneg _ (by omega), Int.emod_lt_of_pos _ ho⟩
  | _ => trivial
def sp_shown_of : Sp := fun vs H Q _ => ∃ (n : Int) (p : Addr) (r : Rule) (t : Int), vs = [.int n, .ref p, .int t] ∧ H p = some (.tup (ruleV r)) ∧ Wh n ∧ RuleOk n r ∧ ∀ v H', Same H H' → SeenAt H' r v (shownR n r t) → Q v H'
def sp_shown (ec : Ec) : Sp := fun vs H Q E => ∃ (n : Int) (p : Addr) (w : Raw) (t : Int), vs = [.int n, .ref p, .int t] ∧ H p = some (.tup (rawV w)) ∧ RawS w ∧
  (∀ r, w = toRaw r → Wh n → RuleOk n r → ∀ v H', Same H H' → SeenAt H' r v (shownR n r t) → Q v H') ∧ (¬ Wh n → E (.ref ec.BadWheel) none H) ∧ (Wh n → ¬ RawOk n w → ∀ H', Same H H' → E (.ref ec.BadRule) none H')
def sp_need_shown (ec : Ec) : Sp := fun vs H Q E => ∃ (n : Int) (p : Addr) (r : Rule) (v : V) (x : Int × Int), vs = [.int n, .ref p, v] ∧ H p = some (.tup (ruleV r)) ∧ SeenAt H r v x ∧ (SeenOk n r x → Q .non H) ∧ (¬ SeenOk n r x → E (.ref ec.BadSeen) none H)
def sp_inverse : Sp := fun vs H Q _ => ∃ k m : Int, vs = [.int k, .int m] ∧ 1 < m ∧ m ≤ 1000000000000 ∧ 0 < k ∧ gcdI k m = 1 ∧ ∀ v H', 0 ≤ v → v < m → m ∣ k * v - 1 → Same H H' → Q (.int v) H'
def sp_paired (ec : Ec) : Sp := fun vs H Q E => ∃ n o x y : Int, vs = [.int n, .int o, .int x, .int y] ∧ Wh n ∧ Wh o ∧ Se n x ∧ Se o y ∧
  (∀ g H', 0 ≤ g → g ≤ lcmI n o - 1 → n ∣ g - x → o ∣ g - y → Same H H' → Q (.int g) H') ∧ ((¬ gcdI n o ∣ y - x) → E (.ref ec.NoGap) none H)
def aboutV (r : Rule) (v : V) (a : Int) : Prop := match r with
  | .about _ => v = .int a
  | _ => True
/-- that no number is so, told by the rests -/
def NoGp (n : Int) (r : Rule) (x y : Int × Int) (a : Int) : Prop := match r with
  | .pair o => ¬ gcdI n o ∣ (y.2 - x.2) - (y.1 - x.1)
  | .about f => 2 * f < (y.1 - x.1 - (a - f)) % n
  | _ => False
theorem NoGp.no {n : Int} {r : Rule} {x y : Int × Int} {a : Int} (hw : Wh n) (hr : RuleOk n r) (h : NoGp n r x y a) : ∀ g, ¬ Gp n r x y a g := by
  have hn : 0 < n := by have := hw.1; omega
  rintro g ⟨h1, h2, h3, h4⟩
  cases r with
  | pair o => exact h (pair_none hn (by have := hr.1; omega) h3 h4)
  | about f =>
    obtain ⟨c1, c2, c3⟩ := rest_from (lo := a - f) (e := y.1 - x.1) hn
    have h : 2 * f < (y.1 - x.1 - (a - f)) % n := h
    have h1 : 0 - f + a ≤ g := h1
    have h2 : g ≤ f + a := h2
    have hr1 : 2 * f < n := hr.2
    have z := zero_of (Int.dvd_sub c3 h3) (by omega) (by omega)
    omega
  | _ => exact h
def sp_gap_of (ec : Ec) : Sp := fun vs H Q E => ∃ (n : Int) (p : Addr) (r : Rule) (v1 v2 v3 : V) (x y : Int × Int) (a : Int), vs = [.int n, .ref p, v1, v2, v3] ∧ H p = some (.tup (ruleV r)) ∧ Wh n ∧ RuleOk n r ∧ SeenAt H r v1 x ∧ SeenAt H r v2 y ∧
  aboutV r v3 a ∧ (∀ g H', Gp n r x y a g → Same H H' → Q (.int g) H') ∧ (NoGp n r x y a → E (.ref ec.NoGap) none H)
def sp_gap (ec : Ec) : Sp := fun vs H Q E => ∃ (n : Int) (p : Addr) (w : Raw) (v1 v2 v3 : V), vs = [.int n, .ref p, v1, v2, v3] ∧ H p = some (.tup (rawV w)) ∧ RawS w ∧ (¬ Wh n → E (.ref ec.BadWheel) none H) ∧ (Wh n → ¬ RawOk n w → ∀ H', Same H H' → E (.ref ec.BadRule) none H') ∧
  (∀ r, w = toRaw r → Wh n → RuleOk n r → ∃ (x y : Int × Int) (a : Int), SeenAt H r v1 x ∧ SeenAt H r v2 y ∧ aboutV r v3 a ∧ (SeenOk n r x → SeenOk n r y → ∀ g H', Gp n r x y a g → Same H H' → Q (.int g) H') ∧
    (SeenOk n r x → SeenOk n r y → NoGp n r x y a → ∀ H', Same H H' → E (.ref ec.NoGap) none H') ∧ (¬ (SeenOk n r x ∧ SeenOk n r y) → ∀ H', Same H H' → E (.ref ec.BadSeen) none H'))
end My
namespace My
open PySem PySem.Spec PyProof.Rows L2
open LamX (Tabs TabS CodeO ExtN TabB)
/-! ### the laws' own telling of an error -/
def namesL : List Str := ["BadWheel", "BadRule", "BadSeen", "BadGaps", "BadSpan", "BadLong", "NoGap", "NoSpan"]
structure KindOf (K : PySem.W.Frag) (ec : Ec) (D : Addr) (j : Nat) : Prop where
  c : ExcC K D
  m : PySem.W.exmOne K (.ref D) (.ref ec.WrapError) = some true
  v : PySem.W.kitOne K (.ref D) (.type "ValueError") = some true
  i0 : PySem.W.kitOne K (.ref D) (.ref ec.BadWheel) = some (decide (0 = j))
  i1 : PySem.W.kitOne K (.ref D) (.ref ec.BadRule) = some (decide (1 = j))
  i2 : PySem.W.kitOne K (.ref D) (.ref ec.BadSeen) = some (decide (2 = j))
  i3 : PySem.W.kitOne K (.ref D) (.ref ec.BadGaps) = some (decide (3 = j))
  i4 : PySem.W.kitOne K (.ref D) (.ref ec.BadSpan) = some (decide (4 = j))
  i5 : PySem.W.kitOne K (.ref D) (.ref ec.BadLong) = some (decide (5 = j))
  i6 : PySem.W.kitOne K (.ref D) (.ref ec.NoGap) = some (decide (6 = j))
  i7 : PySem.W.kitOne K (.ref D) (.ref ec.NoSpan) = some (decide (7 = j))
  lt : j < 8
theorem kit_yes {K : PySem.W.Frag} {t : Value} {C : Addr} (hd : PySem.W.hasDictIn K C = true) (ht : PySem.W.typeIn K (.ref C) = some (.type "type")) (h : PySem.W.subIn K t (.ref C) = some true) : PySem.W.kitOne K t (.ref C) = some true := by
  obtain ⟨cd, hc, _⟩ := PySem.W.any_some hd
  have e2 : ((PySem.W.clsIn K C).isSome && PySem.W.typeIn K (.ref C) == some (.type "type")) = true := by rw [hc, ht] <;> rfl
  show (if (t == .ref C) = true then some true else (if ((PySem.W.clsIn K C).isSome && PySem.W.typeIn K (.ref C) == some (.type "type")) = true then PySem.W.subIn K t (.ref C) else none)) = some true
  by_cases z : (t == .ref C) = true
  · rw [if_pos z]
  · rw [if_neg z, if_pos e2]
    exact h
theorem kit_no {K : PySem.W.Frag} {D C : Addr} (hd : PySem.W.hasDictIn K C = true) (ht : PySem.W.typeIn K (.ref C) = some (.type "type")) (hn : D ≠ C) (h : PySem.W.subIn K (.ref D) (.ref C) = some false) : PySem.W.kitOne K (.ref D) (.ref C) = some false := by
  obtain ⟨cd, hc, _⟩ := PySem.W.any_some hd
  have e2 : ((PySem.W.clsIn K C).isSome && PySem.W.typeIn K (.ref C) == some (.type "type")) = true := by rw [hc, ht] <;> rfl
  show (if ((.ref D : Value) == .ref C) = true then some true else (if ((PySem.W.clsIn K C).isSome && PySem.W.typeIn K (.ref C) == some (.type "type")) = true then PySem.W.subIn K (.ref D) (.ref C) else none)) = some false
  rw [if_neg (fun z => hn (by simpa using z)), if_pos e2]
  exact h
theorem kit_ve {K : PySem.W.Frag} {D : Addr} (h : PySem.W.subIn K (.ref D) (.type "ValueError") = some true) : PySem.W.kitOne K (.ref D) (.type "ValueError") = some true := by
  show (if ((.ref D : Value) == .type "ValueError") = true then some true else (if PySem.W.kitMeta "ValueError" = true then PySem.W.subIn K (.ref D) (.type "ValueError") else none)) = some true
  rw [if_neg (by simp), if_pos (by decide +kernel)]
  exact h
/-- what is told of an exception that a lambda lets out -/
def EKind (K : PySem.W.Frag) (ec : Ec) (Q : VK) : XK := fun cls d H' => ∃ D j, cls = .ref D ∧ d = none ∧ KindOf K ec D j ∧ ∀ H'', Same H' H'' → Q (.str (namesL.getD j "")) H''
def TKind (K : PySem.W.Frag) (ec : Ec) : (XK → Hp → VK → Prop) → Hp → VK → Prop := fun tl H Q => tl (EKind K ec Q) H Q
theorem EKind.mk {K : PySem.W.Frag} {ec : Ec} {Q : VK} {D : Addr} {j : Nat} {H : Hp} (h : KindOf K ec D j) (q : ∀ H'', Same H H'' → Q (.str (namesL.getD j "")) H'') : EKind K ec Q (.ref D) none H := ⟨D, j, rfl, rfl, h, q⟩
/-! ### list.count, flat items -/
def rCountF (K : PySem.W.Frag) : V → List V → Hp → VK → Prop := fun x xs H Q => ∃ (a : Addr) (ys : List V) (y : V), x = V.ref a ∧ xs = [y] ∧ SqL K H a ys ∧ flatV y = true ∧ ys.all flatV = true ∧ Q (.int (ys.countP (fun z => eqV z y) : Nat)) H
theorem count_eqU {y : V} : ∀ {ys : List V} {us : List Value}, Vals ys us → ys.all flatV = true → us.countP (eqU y) = ys.countP fun z => eqV z y
  | _, _, .nil, _ => rfl
  | x :: xs, u :: us, .cons r t, f => by
    rw [List.all_cons, Bool.and_eq_true] at f
    rw [List.countP_cons, List.countP_cons, count_eqU t f.2, eqU_of r f.1]
theorem mt_countF {X : Cx} : MtR X "list.count" (rCountF X.K) := by
  intro pins s σ H x xs v us Q I rx rxs h
  obtain ⟨a, ys, y, rfl, rfl, hs, fy, fys, q⟩ := h
  cases rx
  cases rxs with
  | cons ry rt =>
    rename_i uy ut
    cases rt
    obtain ⟨its, rv, ⟨⟨cls, dd, data, sl⟩, n, ho, hc, hdn, hd⟩, hlen⟩ := I.list hs
    simp only at hc hd
    subst hc hd
    refine call_meets PySem.F.slot_list_count ⟨_, ho, rfl⟩ PySem.F.entry_list_count (PySem.F.args_list_count_2 _ _)
      (SeqAt.list_countAt a its.toArray n dd sl uy (eqU y)) ⟨ho, fun u' hu' => mem_eqAt ry fy rv fys u' (by simpa using hu'), ?_⟩
    refine ⟨.int (ys.countP (fun z => eqV z y) : Nat), H, I.tok _, ⟨s.toks, ?_⟩, q⟩
    show Value.int ((its.toArray.toList.countP (eqU y) : Nat) : Int) s.toks = Value.int ((ys.countP (fun z => eqV z y) : Nat) : Int) s.toks
    rw [show its.toArray.toList = its from rfl, count_eqU rv fys]
theorem g_count {K : PySem.W.Frag} {a : Addr} {ys : List V} {y : V} {H : Hp} {Q : VK} (h : SqL K H a ys) (fy : flatV y = true) (fys : ys.all flatV = true) (q : Q (.int (ys.countP (fun z => eqV z y) : Nat)) H) : rCountF K (.ref a) [y] H Q := ⟨a, ys, y, rfl, rfl, h, fy, fys, q⟩
theorem g_index {K : PySem.W.Frag} {a : Addr} {ys : List V} {y z : V} {j : Nat} {H : Hp} {Q : VK} (h : SqL K H a ys) (fy : flatV y = true) (fys : ys.all flatV = true) (hz : ys[j]? = some z) (he : eqV z y = true)
    (hn : ∀ (m : Nat) (z' : V), m < j → ys[m]? = some z' → eqV z' y = false) (q : Q (.int (j : Nat)) H) : rIndex K (.ref a) [y] H Q := ⟨a, ys, y, j, z, rfl, rfl, h, fy, fys, hz, he, hn, q⟩
theorem g_isE {K : PySem.W.Frag} {D a C : Addr} {b : Bool} {H : Hp} {Q : VK} (h : PySem.W.kitOne K (.ref D) (.ref C) = some b) (q : Q (.bl b) H) : rIsE K D a [.ref a, .ref C] H Q := ⟨.ref C, .ref C, b, rfl, fun _ r => r, h, q⟩
theorem g_isET {K : PySem.W.Frag} {D a : Addr} {t : String} {b : Bool} {H : Hp} {Q : VK} (h : PySem.W.kitOne K (.ref D) (.type t) = some b) (q : Q (.bl b) H) : rIsE K D a [.ref a, .ty t] H Q := ⟨.ty t, .type t, b, rfl, fun _ r => r, h, q⟩
def kindsL (j : Nat) : List V := [.bl (decide (0 = j)), .bl (decide (1 = j)), .bl (decide (2 = j)), .bl (decide (3 = j)), .bl (decide (4 = j)), .bl (decide (5 = j)), .bl (decide (6 = j)), .bl (decide (7 = j))]
theorem kinds_count : ∀ j, j < 8 → (kindsL j).countP (fun z => eqV z (.bl true)) = 1 := by decide
theorem kinds_flat (j : Nat) : (kindsL j).all flatV = true := rfl
theorem kinds_at : ∀ j, j < 8 → (kindsL j)[j]? = some (.bl true) := by
  intro j hj
  have : j = 0 ∨ j = 1 ∨ j = 2 ∨ j = 3 ∨ j = 4 ∨ j = 5 ∨ j = 6 ∨ j = 7 := by omega
  rcases this with rfl | rfl | rfl | rfl | rfl | rfl | rfl | rfl <;> rfl
theorem kinds_no {j : Nat} (hj : j < 8) (m : Nat) (z : V) (hm : m < j) (h : (kindsL j)[m]? = some z) : eqV z (.bl true) = false := by
  have a : j = 0 ∨ j = 1 ∨ j = 2 ∨ j = 3 ∨ j = 4 ∨ j = 5 ∨ j = 6 ∨ j = 7 := by omega
  have b : m = 0 ∨ m = 1 ∨ m = 2 ∨ m = 3 ∨ m = 4 ∨ m = 5 ∨ m = 6 ∨ m = 7 := by omega
  rcases a with rfl | rfl | rfl | rfl | rfl | rfl | rfl | rfl <;> rcases b with rfl | rfl | rfl | rfl | rfl | rfl | rfl | rfl <;> first | omega | (cases h; rfl)
theorem names_at : ∀ j, j < 8 → (namesL.map V.str)[j]? = some (.str (namesL.getD j "")) := by
  intro j hj
  have : j = 0 ∨ j = 1 ∨ j = 2 ∨ j = 3 ∨ j = 4 ∨ j = 5 ∨ j = 6 ∨ j = 7 := by omega
  rcases this with rfl | rfl | rfl | rfl | rfl | rfl | rfl | rfl <;> rfl
/-! ### tables of code objects, kept -/
theorem extN_same {H H' : Hp} (e : Same H H') : ExtN H H' := ExtN.of e
theorem tabs_same {T : List (Addr × Str)} {H H' : Hp} (t : Tabs T H) (e : Same H H') : Tabs T H' := t.ext e
theorem tabs_kp {T : List (Addr × Str)} {H H' : Hp} {a : Addr} (t : Tabs T H) (h1 : ∀ ps, H a ≠ some (.tbl ps)) (h2 : ∀ c q, H a ≠ some (CodeO c q)) (k : Kp a H H') : Tabs T H' := fun p hp => by
  obtain ⟨ps, e1, e2, e3⟩ := t p hp
  refine ⟨ps, k _ _ e1 fun z => h1 ps (by rw [← z]; exact e1), e2, fun pos cv hc => ?_⟩
  obtain ⟨c, z1, z2⟩ := e3 pos cv hc
  exact ⟨c, z1, k _ _ z2 fun z => h2 c p.2 (by rw [← z]; exact z2)⟩
theorem tabs_go {K : PySem.W.Frag} {a s : Addr} {T : List (Addr × Str)} {H H' : Hp} (t : Tabs T H) (d : Dr K a s H) (g : Go K a s H H') : Tabs T H' := by
  obtain ⟨ns, i, m, l, h1, _⟩ := d.ex
  refine tabs_kp t (fun ps z => ?_) (fun c q z => ?_) g.kp
  · rw [h1] at z; cases z
  · rw [h1] at z; unfold CodeO at z; cases z
theorem Dr.ext {K : PySem.W.Frag} {a s : Addr} {H H' : Hp} (d : Dr K a s H) (e : ExtN H H') : Dr K a s H' := by
  obtain ⟨ns, i, m, l, h1, h2, h3, h4⟩ := d.ex
  refine ⟨ns, i, m, l, e _ _ h1 (fun ps z => by cases z), fun o => ?_, h3, h4⟩
  rcases h2 o with (h | ⟨u, h⟩) | h
  · refine .inl (.inl ?_)
    by_cases z : s = a
    · subst z; rw [upd_same] at h ⊢; exact h
    · rw [upd_ne z] at h ⊢; exact e _ _ h (fun ps z => by cases z)
  · refine .inl (.inr ⟨u, ?_⟩)
    by_cases z : s = a
    · subst z; rw [upd_same] at h ⊢; exact h
    · rw [upd_ne z] at h ⊢; exact e _ _ h (fun ps z => by cases z)
  · exact .inr h
theorem extN_tup {H H' : Hp} (e : ExtN H H') {p : Addr} {xs : List V} (h : H p = some (.tup xs)) : H' p = some (.tup xs) := e _ _ h fun _ z => by cases z
theorem extN_lst {H H' : Hp} (e : ExtN H H') {p : Addr} {xs : List V} (h : H p = some (.lst xs)) : H' p = some (.lst xs) := e _ _ h fun _ z => by cases z
theorem extN_ins {H H' : Hp} (e : ExtN H H') {p C dx : Addr} {fs : List (Str × V)} (h : H p = some (.ins C dx fs)) : H' p = some (.ins C dx fs) := e _ _ h fun _ z => by cases z
theorem pss_by {X : Cx} {sts : List Stmt} {tt : TS} (h : ∀ Dd σ H, σ.length = X.N.length → tt Dd σ H → ∃ t, PSs X sts t ∧ t Dd σ H) : PSs X sts tt := ⟨fun pins s σ H D I hh => by
  obtain ⟨t, p, q⟩ := h D σ H I.len hh
  exact p.run pins s σ H D I q⟩
theorem SeenAt.ext {H H' : Hp} {r : Rule} {v : V} {x : Int × Int} (e : LamX.ExtN H H') (h : SeenAt H r v x) : SeenAt H' r v x := by
  cases r with
  | pair o =>
    obtain ⟨p, h1, h2⟩ := h
    exact ⟨p, h1, extN_tup e h2⟩
  | _ => exact h
/-! ### x(lambda: ..), x a known def -/
structure FnL (K : PySem.W.Frag) (mg : Str → Option Value) (x : Str) (st : Stmt) : Prop where
  ex : ∃ (f : Addr) (oc : Value) (od : Option Addr) (kV doc pm : Value) (an : Option Addr) (cdv ct : Value) (osl : Array (Option Value)),
    K.lookup f = some ⟨oc, od, .func (PySem.W.fnOf x x (defArgs st) (defBody st) (defScope st) .none kV doc pm an cdv ct), osl⟩ ∧ PySem.W.codeIn K cdv x = true ∧ PySem.W.keepIn K (.ref f) = true ∧ mg x = some (.ref f)
theorem pe_lamN {X : Cx} {T : List (Addr × Str)} {TT : (XK → Hp → VK → Prop) → Hp → VK → Prop} {x a : Str} {c P : Addr} {k : Nat} {st : Stmt} {Ng : List Str}
    {params : Arguments} {body : Expr} {scope : Scope} {t : XK → TE} {p lpos pos : Pos} (D : FnL X.K X.mg x st) (hg : Gl X x)
    (hb : ∀ (kV doc pm : Value) (an : Option Addr) (cdv ct : Value) (us : List Value), us.length = [a].length → bindArgs (PySem.W.fnOf x x (defArgs st) (defBody st) (defScope st) .none kV doc pm an cdv ct) ⟨us, []⟩ = pure ([a].zip us))
    (Sg : FnScope Ng [a] (defScope st)) (hNg : Ng[0]? = some a) (hva : Vis (defScope st) a)
    (hG : ∀ (g : Addr) (cdv : Value), LamX.GivesTo X Ng x (defScope st) g cdv (defBody st) a (X.env.qual ++ "<lambda>") TT)
    (TB : TabB X.base X.mg c P) (hcode : X.env.code = .ref c) (hmT : (P, X.env.qual ++ "<lambda>") ∈ T) (hu : ∀ p ∈ T, p.1 = P → p.2 = X.env.qual ++ "<lambda>") (hr : Room (k + 2) X.A) (L : LamX.LamS X.env.scope scope) (hdef : defaultsOf params X.env = ([], []))
    (hbind : ∀ (q : Str) (cl : List (Str × Addr)) (pm cv ctv : Value), bindArgs (PySem.W.kla_fn "<lambda>" q params body scope cl pm cv ctv) ⟨[], []⟩ = pure [])
    (hbody : ∀ (A : Around) (outer : List Env) (s : Shared) (H : Hp) (E : XK) (f c' : Addr), Room k (A.deeper (LamX.lamEnv X scope s.heap.objs.size f c')) → PE (LamX.lamCx X A outer s H E scope f c') body (t E))
    (hdb : (x == ("__debug__" : Str)) = false := by decide) (hd : (a == ("__debug__" : Str)) = false := by decide) (hcd : (a == ("__classdict__" : Str)) = false := by decide) :
    PE X (.Call (.Name x p) [.Lambda params body scope lpos] [] pos) (LamX.tLam T TT t) := by
  obtain ⟨g, oc, od, kV, doc, pm, an, cdv, ct, osl, lk, hcg, hk, hm⟩ := D.ex
  exact LamX.pe_lamcall hg hm hk lk hcg (Binds.all fun us hl => hb kV doc pm an cdv ct us hl) Sg hNg hva (hG g cdv) TB hcode hmT hu hr L hdef hbind hbody hdb hd hcd
theorem passLam {X : Cx} {A : Around} {outer : List Env} {s : Shared} {H : Hp} {E : XK} {scope : Scope} {f c' : Addr} : Passes (L2.CX X.prog X.w) (LamX.lamCx X A outer s H E scope f c') E :=
  passes_call (W := fun cls d _ H => E cls d H) (takes_of rfl rfl rfl rfl) (fun _ _ _ _ h => h)
theorem pe_callL {X : Cx} {A : Around} {outer : List Env} {s : Shared} {H : Hp} {E : XK} {scope : Scope} {f c' : Addr} {k : Nat} {x : Str} {ps : List Str} {sp : Sp} {p pos : Pos} {e : Expr} {es : List Expr} {t : TA} (c : Knows X.prog X.w X.K X.mg X.base k x ps sp)
    (hr : Room k (A.deeper (LamX.lamEnv X scope s.heap.objs.size f c'))) (ha : PA (LamX.lamCx X A outer s H E scope f c') (e :: es) t) (hg : Gl (LamX.lamCx X A outer s H E scope f c') x := by rfl) (hdb : (x == ("__debug__" : Str)) = false := by decide)
    (he : starEach (e :: es) (LamX.lamCx X A outer s H E scope f c').env = (false, eval e (LamX.lamCx X A outer s H E scope f c').env) :: starEach es (LamX.lamCx X A outer s H E scope f c').env := by rfl) (hpl : (backTo pos (starEach es (LamX.lamCx X A outer s H E scope f c').env)).any (·.1) = false := by rfl) :
    PE (LamX.lamCx X A outer s H E scope f c') (.Call (.Name x p) (e :: es) [] pos) (tCall sp [] E t) :=
  pe_callN (X := LamX.lamCx X A outer s H E scope f c') c hr (passLam (X := X)) ha hg hdb he hpl
theorem pe_methL {X : Cx} {A : Around} {outer : List Env} {s : Shared} {H : Hp} {E : XK} {scope : Scope} {f c' C : Addr} {k : Nat} {m : Str} {ps : List Str} {dvs : List V} {sp : Sp} {apos pos : Pos} {o e : Expr} {es : List Expr} {ta : TE} {t : TA} {pl : Sem Bool}
    (he : PE (LamX.lamCx X A outer s H E scope f c') o ta) (c : Cls X.K C) (h : KnowsM X.prog X.w X.K X.mg X.base k C m ps dvs sp) (hr : Room k (A.deeper (LamX.lamEnv X scope s.heap.objs.size f c'))) (ha : PA (LamX.lamCx X A outer s H E scope f c') (e :: es) t)
    (hst : starEach (e :: es) (LamX.lamCx X A outer s H E scope f c').env = (false, eval e (LamX.lamCx X A outer s H E scope f c').env) :: starEach es (LamX.lamCx X A outer s H E scope f c').env := by rfl) (hpl : (backTo pos (starEach es (LamX.lamCx X A outer s H E scope f c').env)).any (·.1) = false := by rfl)
    (ht : eval (.Call (.Attribute o m apos) (e :: es) [] pos) (LamX.lamCx X A outer s H E scope f c').env = (do
      let ov ← eval o (LamX.lamCx X A outer s H E scope f c').env
      standAt apos.atName
      let (g, first) ← holding [ov] (getMethod ov m pl)
      callWith pos g first (backTo pos (starEach (e :: es) (LamX.lamCx X A outer s H E scope f c').env)) (backToKw pos (keywordEach [] (LamX.lamCx X A outer s H E scope f c').env))) := by rfl) :
    PE (LamX.lamCx X A outer s H E scope f c') (.Call (.Attribute o m apos) (e :: es) [] pos) (tMeth C m sp dvs E ta t) :=
  pe_methN (X := LamX.lamCx X A outer s H E scope f c') he c h hr (passLam (X := X)) ha hst hpl ht
theorem g_lam {T : List (Addr × Str)} {TT : (XK → Hp → VK → Prop) → Hp → VK → Prop} {t : XK → TE} {σ : L2.St} {H : Hp} {Q : VK} (hT : Tabs T H) (q : ∀ H1, ExtN H H1 → Tabs T H1 → TT (fun E H' Q' => t E σ H' Q') H1 Q) : LamX.tLam T TT t σ H Q := ⟨hT, q⟩
structure FnC (K : PySem.W.Frag) (mg : Str → Option Value) (x : Str) (st : Stmt) (c : Addr) : Prop where
  ex : ∃ (f : Addr) (oc : Value) (od : Option Addr) (kV doc pm : Value) (an : Option Addr) (ct : Value) (osl : Array (Option Value)),
    K.lookup f = some ⟨oc, od, .func (PySem.W.fnOf x x (defArgs st) (defBody st) (defScope st) .none kV doc pm an (.ref c) ct), osl⟩ ∧ PySem.W.codeIn K (.ref c) x = true ∧ PySem.W.keepIn K (.ref f) = true ∧ mg x = some (.ref f)
theorem Knows.mkC {P : Program} {w : World} {K : PySem.W.Frag} {mg : Str → Option Value} {base : Heap} {x : Str} {st : Stmt} {c : Addr} {N ps : List Str} {k : Nat} {sp : Sp} (D : FnC K mg x st c) (S : FnScope N ps (defScope st))
    (hb : ∀ (kV doc pm : Value) (an : Option Addr) (cdv ct : Value) (us : List Value), us.length = ps.length → bindArgs (PySem.W.fnOf x x (defArgs st) (defBody st) (defScope st) .none kV doc pm an cdv ct) ⟨us, []⟩ = pure (ps.zip us))
    (len : ∀ vs H Q E, sp vs H Q E → vs.length = ps.length)
    (hbody : ∀ (f : Addr) (A : Around) (outer : List Env) (s : Shared) (H : Hp) (vs : List V) (Q : VK) (E : XK), Room k (A.deeper (envOfC x (defScope st) s.heap.objs.size f (.ref c))) → sp vs H Q E →
      ∃ t, PSs (cxOf (L2.CX P w) P w K mg base N x (defScope st) f (.ref c) A outer s H E) (defBody st) t ∧ t { nx := fun _ H' => Q .non H', rt := Q } (start N vs) H) : Knows P w K mg base (k + 1) x ps sp := by
  obtain ⟨f, oc, od, kV, doc, pm, an, ct, osl, lk, hcd, hk, hm⟩ := D.ex
  exact ⟨f, _, fn_of lk hcd S len fun A outer s H vs Q E hr h => hbody f A outer s H vs Q E hr h, hm, hk, Binds.all fun us hl => hb kV doc pm an (.ref c) ct us hl⟩
theorem tab_u0 {P1 P2 : Addr} {q1 q2 : Str} (h : P1 ≠ P2) : ∀ p ∈ [(P1, q1), (P2, q2)], p.1 = P1 → p.2 = q1 := fun p hp e => by
  have hp : p = (P1, q1) ∨ p = (P2, q2) := by simpa using hp
  rcases hp with rfl | rfl
  · rfl
  · exact absurd e.symm h
theorem tab_u1 {P1 P2 : Addr} {q1 q2 : Str} (h : P1 ≠ P2) : ∀ p ∈ [(P1, q1), (P2, q2)], p.1 = P2 → p.2 = q2 := fun p hp e => by
  have hp : p = (P1, q1) ∨ p = (P2, q2) := by simpa using hp
  rcases hp with rfl | rfl
  · exact absurd e h
  · rfl
def sp_lawTs (K : PySem.W.Frag) (Ps : List Addr) : Sp := fun vs H Q _ => ∃ (s : Addr) (ns : List Int), vs = [.ref s] ∧ SqL K H s (ns.map V.int) ∧ ns.length ≤ 63 ∧ (∀ P ∈ Ps, H P = some (.tbl #[])) ∧ ∀ H', Q (.bl true) H'
/-- a def that draws and makes lambdas: the state, the tables, all else -/
structure GoT (K : PySem.W.Frag) (a s : Addr) (T : List (Addr × Str)) (H H' : Hp) : Prop where
  dr : Dr K a s H'
  tb : Tabs T H'
  kp : ∀ b o, H b = some o → b ≠ a → (∀ ps, o ≠ .tbl ps) → H' b = some o
theorem GoT.of {K : PySem.W.Frag} {a s : Addr} {T : List (Addr × Str)} {H H' : Hp} (t : Tabs T H) (d : Dr K a s H) (g : Go K a s H H') : GoT K a s T H H' := ⟨g.dr, tabs_go t d g, fun b o h n _ => g.kp b o h n⟩
theorem GoT.same {K : PySem.W.Frag} {a s : Addr} {T : List (Addr × Str)} {H H' : Hp} (t : Tabs T H) (d : Dr K a s H) (g : Same H H') : GoT K a s T H H' := .of t d (Go.same d g)
theorem GoT.ext {K : PySem.W.Frag} {a s : Addr} {T : List (Addr × Str)} {H H' : Hp} (d : Dr K a s H) (e : ExtN H H') (t : Tabs T H') : GoT K a s T H H' := ⟨d.ext e, t, fun b o h _ n => e b o h n⟩
theorem GoT.trans {K : PySem.W.Frag} {a s : Addr} {T : List (Addr × Str)} {H H1 H' : Hp} (x : GoT K a s T H H1) (y : GoT K a s T H1 H') : GoT K a s T H H' := ⟨y.dr, y.tb, fun b o h n m => y.kp b o (x.kp b o h n m) n m⟩
theorem GoT.tup {K : PySem.W.Frag} {a s : Addr} {T : List (Addr × Str)} {H H' : Hp} {p : Addr} {xs : List V} (g : GoT K a s T H H') (d : Dr K a s H) (h : H p = some (.tup xs)) : H' p = some (.tup xs) := by
  refine g.kp _ _ h ?_ (fun _ z => by cases z)
  intro z
  obtain ⟨ns, i, m, l, h1, _⟩ := d.ex
  rw [z, h1] at h
  cases h
def sp_lawT (K : PySem.W.Frag) (P : Addr) : Sp := fun vs H Q _ => ∃ (s : Addr) (ns : List Int), vs = [.ref s] ∧ SqL K H s (ns.map V.int) ∧ ns.length ≤ 63 ∧ H P = some (.tbl #[]) ∧ ∀ H', Q (.bl true) H'
end My
namespace My
open PySem PySem.Spec PyProof.Rows L2
/-! ### promises: timers -/
def sp_need_long (ec : Ec) : Sp := fun vs H Q E => ∃ n l : Int, vs = [.int n, .int l] ∧ (Wh n → Se n l → Q .non H) ∧ (¬ Wh n → E (.ref ec.BadWheel) none H) ∧ (Wh n → ¬ Se n l → E (.ref ec.BadLong) none H)
def sp_over (ec : Ec) : Sp := fun vs H Q E => ∃ n l b t : Int, vs = [.int n, .int l, .int b, .int t] ∧ (Wh n → Se n l → Se n b → Se n t → Q (.bl (decide (l ≤ (t - b) % n))) H) ∧
  (¬ Wh n → E (.ref ec.BadWheel) none H) ∧ (Wh n → ¬ Se n l → E (.ref ec.BadLong) none H) ∧ (Wh n → Se n l → ¬ (Se n b ∧ Se n t) → E (.ref ec.BadSeen) none H)
def sp_apart (ec : Ec) : Sp := fun vs H Q E => ∃ n l : Int, vs = [.int n, .int l] ∧ (Wh n → Se n l → Q (.int (n - l)) H) ∧ (¬ Wh n → E (.ref ec.BadWheel) none H) ∧ (Wh n → ¬ Se n l → E (.ref ec.BadLong) none H)
/-- the first look at which a timer is told over -/
def firstO (n l : Int) (ns : List Int) : Option Nat := ns.findIdx? fun x => decide (l ≤ x % n)
def onV : Option Nat → V
  | some i => .int (i : Nat)
  | none => .non
def Looks (ns : List Int) : Prop := (∀ x ∈ ns, 0 ≤ x) ∧ ns.Pairwise (· ≤ ·)
def sp_first_over (K : PySem.W.Frag) (ec : Ec) : Sp := fun vs H Q E => ∃ (n l : Int) (a : Addr) (ns : List Int), vs = [.int n, .int l, .ref a] ∧ SqL K H a (ns.map V.int) ∧ ns.length ≤ 100000 ∧
  (Wh n → Se n l → Looks ns → ∀ H', Same H H' → Q (onV (firstO n l ns)) H') ∧
  (¬ Wh n → E (.ref ec.BadWheel) none H) ∧ (Wh n → ¬ Se n l → E (.ref ec.BadLong) none H) ∧ (Wh n → Se n l → ¬ Looks ns → ∀ H', Same H H' → E (.ref ec.BadGaps) none H')
end My
namespace My
open PySem PySem.Spec PyProof.Rows L2
def top (i : Nat) : Stmt := PySem.Challenge.pw_wraptime_k11_timers.main.body.getD i (.Pass ⟨0, 0, 0, 0⟩)
abbrev s_is_wheel : Stmt := top 12
abbrev s_need_wheel : Stmt := top 13
abbrev s_need_seen : Stmt := top 14
abbrev s_since_of : Stmt := top 15
abbrev s_need_long : Stmt := top 17
abbrev s_over : Stmt := top 18
abbrev s_first_over : Stmt := top 19
abbrev s_apart : Stmt := top 20
abbrev s__law_start : Stmt := top 22
abbrev s__law_drawn : Stmt := top 23
abbrev s__law_same : Stmt := top 24
abbrev s__law_kind : Stmt := top 25
abbrev s__law_far : Stmt := top 26
abbrev s__law_wheel : Stmt := top 27
abbrev s__law_rule : Stmt := top 28
abbrev s__law_time : Stmt := top 29
abbrev s__law_shown : Stmt := top 30
abbrev s_law : Stmt := top 31
structure Txt (K : PySem.W.Frag) (mg : Str → Option Value) (ec : Ec) : Prop where
  g_MOST_WHEEL : ∃ t, mg "MOST_WHEEL" = some (.int 1000000000000 t)
  ValueError : mg "ValueError" = none
  enumerate : mg "enumerate" = none
  isinstance : mg "isinstance" = none
  str : mg "str" = none
  range : mg "range" = none
  len : mg "len" = none
  tuple : mg "tuple" = none
  list : mg "list" = none
  bool : mg "bool" = none
  int : mg "int" = none
  sorted : mg "sorted" = none
  min : mg "min" = none
  abs : mg "abs" = none
  x_BadWheel : ExcAt K mg "BadWheel" ec.BadWheel
  x_BadRule : ExcAt K mg "BadRule" ec.BadRule
  x_BadSeen : ExcAt K mg "BadSeen" ec.BadSeen
  x_BadGaps : ExcAt K mg "BadGaps" ec.BadGaps
  x_BadSpan : ExcAt K mg "BadSpan" ec.BadSpan
  x_BadLong : ExcAt K mg "BadLong" ec.BadLong
  x_NoGap : ExcAt K mg "NoGap" ec.NoGap
  x_NoSpan : ExcAt K mg "NoSpan" ec.NoSpan
  x_WrapError : ExcAt K mg "WrapError" ec.WrapError
  q_BadWheel : KindOf K ec ec.BadWheel 0
  q_BadLong : KindOf K ec ec.BadLong 5
  q_BadSeen : KindOf K ec ec.BadSeen 2
  q_BadGaps : KindOf K ec ec.BadGaps 3

section
variable {P : Program} {w : World} {K : PySem.W.Frag} {mg : Str → Option Value} {base : Heap} {ec : Ec}
theorem sc_is_wheel : FnScope ["wheel"] ["wheel"] (defScope s_is_wheel) := ⟨rfl, rfl, rfl, by decide +kernel, rfl, by decide +kernel, by decide +kernel⟩
theorem ok_is_wheel (T : Txt K mg ec) (D : Fn K mg "is_wheel" s_is_wheel) : Knows P w K mg base 1 "is_wheel" ["wheel"] sp_is_wheel := by
  refine Knows.mk' D sc_is_wheel (fun _ _ _ _ _ _ us hl => match us, hl with | [_], _ => rfl) (fun vs H Q E h => ?_) (fun f cdv A outer s H vs Q E hr h => ?_)
  · obtain ⟨n, rfl, _⟩ := h; rfl
  · obtain ⟨n, rfl, k⟩ := h
    refine ⟨_, (pss_one (ps_ret (pe_chain op_le op_le pe_int (pv 0) (pe_gl T.g_MOST_WHEEL)))), ?_⟩
    refine g_start (σ := [some _]) rfl ?_
    try dsimp only [cxOf]
    walk_at "go"
    refine ite_dec (fun h1 => ?_) (fun h1 => ?_)
    · walk_at "go"
      rw [show decide (Wh n) = decide (n ≤ 1000000000000) from decide_eq_decide.mpr ⟨fun h => h.2, fun h => ⟨h1, h⟩⟩] at k
      exact k
    · rw [show decide (Wh n) = false from decide_eq_false fun h => h1 h.1] at k
      exact k
theorem sc_need_wheel : FnScope ["wheel"] ["wheel"] (defScope s_need_wheel) := ⟨rfl, rfl, rfl, by decide +kernel, rfl, by decide +kernel, by decide +kernel⟩
theorem ok_need_wheel (T : Txt K mg ec) (D : Fn K mg "need_wheel" s_need_wheel) (c_is_wheel : Knows P w K mg base 1 "is_wheel" ["wheel"] sp_is_wheel) : Knows P w K mg base 2 "need_wheel" ["wheel"] (sp_need_wheel ec) := by
  refine Knows.mk' D sc_need_wheel (fun _ _ _ _ _ _ us hl => match us, hl with | [_], _ => rfl) (fun vs H Q E h => ?_) (fun f cdv A outer s H vs Q E hr h => ?_)
  · obtain ⟨n, rfl, _⟩ := h; rfl
  · obtain ⟨n, rfl, k1, k2⟩ := h
    refine ⟨_, (pss_one (ps_if (pt_not (pt_val (pe_callN c_is_wheel (hr.mono (by first | decide | omega)) passD (pa_cons (pv 0) pa_nil)) (by intro _; rfl))) (pss_one (ps_raiseN T.x_BadWheel)) pss_nil)), ?_⟩
    refine g_start (σ := [some _]) rfl ?_
    try dsimp only [cxOf]
    walk_at "go"
    refine ⟨n, rfl, ?_⟩
    walk_at "go"
    refine ite_ndec (fun h1 => ?_) (fun h1 => ?_)
    · exact k2 h1
    · walk_at "go"
      exact k1 h1
theorem sc_need_seen : FnScope ["wheel", "seen"] ["wheel", "seen"] (defScope s_need_seen) := ⟨rfl, rfl, rfl, by decide +kernel, rfl, by decide +kernel, by decide +kernel⟩
theorem ok_need_seen (T : Txt K mg ec) (D : Fn K mg "need_seen" s_need_seen) : Knows P w K mg base 1 "need_seen" ["wheel", "seen"] (sp_need_seen ec) := by
  refine Knows.mk' D sc_need_seen (fun _ _ _ _ _ _ us hl => match us, hl with | [_, _], _ => rfl) (fun vs H Q E h => ?_) (fun f cdv A outer s H vs Q E hr h => ?_)
  · obtain ⟨n, i, rfl, _⟩ := h; rfl
  · obtain ⟨n, i, rfl, k1, k2⟩ := h
    refine ⟨_, (pss_one (ps_if (pt_not (pt_chain op_le op_lt pe_int (pv 1) (pv 0))) (pss_one (ps_raiseN T.x_BadSeen)) pss_nil)), ?_⟩
    refine g_start (σ := [some _, some _]) rfl ?_
    try dsimp only [cxOf]
    walk_at "go"
    refine ite_dec (fun h1 => ?_) (fun h1 => ?_)
    · walk_at "go"
      refine ite_ndec (fun h2 => ?_) (fun h2 => ?_)
      · exact k2 fun h => h2 h.2
      · walk_at "go"
        exact k1 ⟨h1, h2⟩
    · walk_at "go"
      exact k2 fun h => h1 h.1
theorem sc_since_of : FnScope ["wheel", "one", "other"] ["wheel", "one", "other"] (defScope s_since_of) := ⟨rfl, rfl, rfl, by decide +kernel, rfl, by decide +kernel, by decide +kernel⟩
theorem ok_since_of (T : Txt K mg ec) (D : Fn K mg "since_of" s_since_of) : Knows P w K mg base 1 "since_of" ["wheel", "one", "other"] sp_since_of := by
  refine Knows.mk' D sc_since_of (fun _ _ _ _ _ _ us hl => match us, hl with | [_, _, _], _ => rfl) (fun vs H Q E h => ?_) (fun f cdv A outer s H vs Q E hr h => ?_)
  · obtain ⟨n, i, j, rfl, _⟩ := h; rfl
  · obtain ⟨n, i, j, rfl, h0, k⟩ := h
    refine ⟨_, (pss_one (ps_ret (pe_op op_mod (pe_op op_sub (pv 2) (pv 1)) (pv 0)))), ?_⟩
    refine g_start (σ := [some _, some _, some _]) rfl ?_
    try dsimp only [cxOf]
    walk_at "go"
    exact k
end
end My
namespace My
open PySem PySem.Spec PyProof.Rows L2
open LamX (Tabs TabS CodeO ExtN TabB LamS lamEnv lamCx)
/-! ### lambdas as values -/
/-- a lambda's text -/
structure LamT where
  params : Arguments
  body : Expr
  scope : Scope
/-- the lambda that stands at f: its code object at d, its closure cl -/
def LamO (f d : Addr) (q : Str) (cl : List (Str × Addr)) (l : LamT) : HO := .ext fun h => ∃ pm ctv : Value, h.get? f = some (PySem.W.kla_obj "<lambda>" q l.params l.body l.scope cl pm d ctv)
theorem lamO_tbl {f d : Addr} {q : Str} {cl : List (Str × Addr)} {l : LamT} (ps : Array Value) : LamO f d q cl l ≠ .tbl ps := fun z => by
  unfold LamO at z
  cases z
def tMk (T : List (Addr × Str)) (q : Str) (cells : List (Str × Addr)) (l : LamT) : TE := fun σ H Q => Tabs T H ∧ ∀ (f d : Addr) (H1 : Hp), ExtN H H1 → Tabs T H1 → H1 f = none → H1 d = some (CodeO d q) → Q (.ref f) (upd H1 f (LamO f d q (cloFrom cells l.scope.names []) l))
section
variable {X : Cx}
/-- the table tells one more -/
theorem tabs_more {T : List (Addr × Str)} {H : Hp} {P d : Addr} {q : Str} {ps : Array Value} {pos : Pos} (t : Tabs T H) (hP : H P = some (.tbl ps)) (ok : TriplesOk ps.toList) (hq : ∀ p ∈ T, p.1 = P → p.2 = q) (nd : H d = none) :
    Tabs T (upd (upd H P (.tbl (ps ++ #[rawInt pos.line, rawInt pos.col, .ref d]))) d (CodeO d q)) := by
  have old : ∀ b o, H b = some o → (∀ v, o ≠ .tbl v) → upd (upd H P (.tbl (ps ++ #[rawInt pos.line, rawInt pos.col, .ref d]))) d (CodeO d q) b = some o := fun b o e n => by
    have n1 : b ≠ d := ne_of_none e nd
    have n2 : b ≠ P := fun z => by
      subst z
      exact n _ (Option.some.inj (e.symm.trans hP))
    rw [upd_ne n1, upd_ne n2]
    exact e
  have lst : (ps ++ #[rawInt pos.line, rawInt pos.col, .ref d]).toList = ps.toList ++ [rawInt pos.line, rawInt pos.col, .ref d] := by simp
  intro p hp
  obtain ⟨v, w1, w2, w3⟩ := t p hp
  have npd : p.1 ≠ d := ne_of_none w1 nd
  by_cases hpP : p.1 = P
  · have ev : v = ps := by
      rw [hpP, hP] at w1
      exact (HO.tbl.inj (Option.some.inj w1)).symm
    subst ev
    refine ⟨_, by rw [upd_ne npd, hpP, upd_same], by rw [lst]; exact PySem.TriplesOk_snoc _ _ _ _ ok, fun p2 cv hc => ?_⟩
    rw [lst] at hc
    rcases LamX.among_app _ ok hc with z | z
    · obtain ⟨e0, z1, z2⟩ := w3 p2 cv z
      exact ⟨e0, z1, old _ _ z2 LamX.codeO_ne⟩
    · exact ⟨d, z, by rw [hq p hp hpP]; exact upd_same⟩
  · refine ⟨v, by rw [upd_ne npd, upd_ne hpP]; exact w1, w2, fun p2 cv hc => ?_⟩
    obtain ⟨e0, z1, z2⟩ := w3 p2 cv hc
    exact ⟨e0, z1, old _ _ z2 LamX.codeO_ne⟩
/-- lambda: .. -/
theorem pe_lamV {T : List (Addr × Str)} {c P : Addr} {params : Arguments} {body : Expr} {scope : Scope} {pos : Pos} (TB : TabB X.base X.mg c P) (hcode : X.env.code = .ref c) (mem : (P, X.env.qual ++ "<lambda>") ∈ T)
    (hq : ∀ p ∈ T, p.1 = P → p.2 = X.env.qual ++ "<lambda>") (L : LamS X.env.scope scope) (nodef : defaultsOf params X.env = ([], [])) :
    PE X (.Lambda params body scope pos) (tMk T (X.env.qual ++ "<lambda>") X.env.cells ⟨params, body, scope⟩) := by
  refine ⟨fun pins s σ H Q I ⟨hT, k⟩ => PySem.W.kla_eval nodef ?_⟩
  obtain ⟨ps, hP, ok, _⟩ := id (hT _ mem)
  have tell := hT _ mem
  have cl := closure_ok (env := X.env) (L.has I.ok)
  have gl := I.mod.glob.keeps I.bk
  have cd := TB.code.keeps I.bk
  have bt : s.heap.BuiltinsAt X.mg P := TB.bm.keeps I.bk
  have oP : s.heap.get? P = some { cls := .none, data := .fields ps } := I.hok P _ hP
  have stays : ∀ {f d : Addr} {pm ctv : Value} {h1 h2 : Heap}, (∃ pm ctv : Value, h1.get? f = some (PySem.W.kla_obj "<lambda>" (X.env.qual ++ "<lambda>") params body scope (cloFrom X.env.cells scope.names []) pm d ctv)) → (∀ o, h1.get? f = some o → h2.get? f = some o) →
      ∃ pm ctv : Value, h2.get? f = some (PySem.W.kla_obj "<lambda>" (X.env.qual ++ "<lambda>") params body scope (cloFrom X.env.cells scope.names []) pm d ctv) := fun ⟨a, b, e⟩ st => ⟨a, b, st _ e⟩
  cases hc : codeAmong pos ps.toList with
  | none =>
    refine PySem.W.kla_makeFunction (mg := X.mg) (c := c) (P := P) (ps := ps) cl I.ok.glob gl hcode cd oP ok hc TB.gP bt fun d ctv h' tk grow big small rec tab => ?_
    obtain ⟨d2, oc, vs, t, e, g1, g2, g3⟩ := rec
    cases e
    have nd : H d = none := I.hok.fresh big
    have J := LamX.inv_table (q := X.env.qual ++ "<lambda>") (t' := tk) (more := #[rawInt pos.line, rawInt pos.col, .ref d]) (h' := h') I hP (fun b o hb e => grow b o hb e) tab big ⟨oc, vs, t, g1, g2, g3⟩
    have fresh := J.hok.fresh (Nat.le_refl h'.objs.size)
    have J2 := J.laid (t' := tk) (a := h'.objs.size) (o := LamO h'.objs.size d (X.env.qual ++ "<lambda>") (cloFrom X.env.cells scope.names []) ⟨params, body, scope⟩) (h' := h'.push (PySem.W.kla_obj "<lambda>" (X.env.qual ++ "<lambda>") params body scope (cloFrom X.env.cells scope.names []) ((X.mg "__name__").getD .none) d ctv))
      (fun b u e => Heap.get?_push_of_some _ e) (Nat.le_refl _) ⟨⟨_, _, Heap.get?_push_size _ rfl⟩, ⟨_, Heap.get?_push_size _ rfl⟩, fun h1 h2 x st => stays (pm := .none) (ctv := .none) x st⟩
    refine ⟨.ref h'.objs.size, _, J2, rfl, k _ d _ (fun b o e n => ?_) (tabs_more hT hP ok hq nd) fresh upd_same⟩
    rw [upd_ne (ne_of_none e nd), upd_ne (fun z => n ps (by subst z; exact Option.some.inj (e.symm.trans hP)))]
    exact e
  | some cv =>
    obtain ⟨ps2, hP2, _, ha⟩ := tell
    have e2 : ps2 = ps := HO.tbl.inj (Option.some.inj (hP2.symm.trans hP))
    subst e2
    obtain ⟨d, rfl, hd⟩ := ha pos cv hc
    refine PySem.W.kla_makeFunctionHit (mg := X.mg) (c := c) (P := P) (ps := ps2) cl I.ok.glob gl hcode cd oP ok hc bt fun ctv h' tk grow big => ?_
    have J : Inv X pins σ H { s with heap := h', toks := tk } := I.kept grow
    have fresh := J.hok.fresh (Nat.le_refl h'.objs.size)
    have J2 := J.laid (t' := tk) (a := h'.objs.size) (o := LamO h'.objs.size d (X.env.qual ++ "<lambda>") (cloFrom X.env.cells scope.names []) ⟨params, body, scope⟩) (h' := h'.push (PySem.W.kla_obj "<lambda>" (X.env.qual ++ "<lambda>") params body scope (cloFrom X.env.cells scope.names []) ((X.mg "__name__").getD .none) d ctv))
      (fun b u e => Heap.get?_push_of_some _ e) (Nat.le_refl _) ⟨⟨_, _, Heap.get?_push_size _ rfl⟩, ⟨_, Heap.get?_push_size _ rfl⟩, fun h1 h2 x st => stays (pm := .none) (ctv := .none) x st⟩
    exact ⟨.ref h'.objs.size, _, J2, rfl, k _ d _ (ExtN.refl H) hT fresh hd⟩
end
/-! ### what the closure's cells hold -/
structure CellsAt (cells : List (Str × Addr)) (sc : Scope) (N : List Str) (σ : L2.St) (H : Hp) (h : Heap) : Prop where
  inj : ∀ x y c, cells.lookup x = some c → cells.lookup y = some c → x = y
  at_ : ∀ y, (y, NameKind.free) ∈ sc.names → ∃ c, cells.lookup y = some c ∧ H c = none ∧ (∃ v, h.IsCell c v) ∧ ∀ (i : Nat) v, N[i]? = some y → σ[i]? = some (some v) → ∃ u, RelV v u ∧ h.IsCell c (some u)
theorem CellsAt.of {X : Cx} {pins : List (Addr × Obj)} {σ : L2.St} {H : Hp} {s : Shared} {sc : Scope} (I : Inv X pins σ H s) (L : LamS X.env.scope sc) : CellsAt X.env.cells sc X.N σ H s.heap := by
  refine ⟨I.ok.inj, fun y hy => ?_⟩
  obtain ⟨c, hc⟩ := L.has I.ok _ hy rfl
  refine ⟨c, hc, I.freeC _ _ hc, I.cell _ _ hc, fun i v e1 e2 => ?_⟩
  obtain ⟨m, _, hl⟩ := I.loc
  have kf := L.free _ hy rfl
  obtain ⟨u, r, q⟩ := hl i y v e1 e2 (kf.elim (fun z => .inr (.inl z)) (fun z => .inr (.inr z)))
  refine ⟨u, r, ?_⟩
  rcases q with ⟨z, _⟩ | ⟨_, c2, z, hz⟩
  · have z : X.env.scope.names.lookup y = some .local := z
    rcases kf with kf | kf <;> rw [show X.env.scope.names.lookup y = _ from kf] at z <;> cases z
  · rw [show X.env.cells.lookup y = some c from hc] at z
    cases z
    exact hz
theorem CellsAt.un {cells : List (Str × Addr)} {sc : Scope} {N : List Str} {σ : L2.St} {fs ex : List Addr} {H H' : Hp} {h h' : Heap} (C : CellsAt cells sc N σ H h) (u : Un fs ex H H' h h') (hx : ∀ y c, cells.lookup y = some c → c ∉ ex) : CellsAt cells sc N σ H' h' := by
  refine ⟨C.inj, fun y hy => ?_⟩
  obtain ⟨c, hc, nc, ⟨v, o, ho, hd⟩, hv⟩ := C.at_ y hy
  have one : ∀ {w : Option Value}, h.IsCell c w → h'.IsCell c w := fun ⟨o, ho, hd⟩ => by
    obtain ⟨sl, q⟩ := u.any ho nc (hx y c hc)
    exact ⟨_, q, hd⟩
  exact ⟨c, hc, u.free c o ho nc (hx y c hc), ⟨v, one ⟨o, ho, hd⟩⟩, fun i v e1 e2 => let ⟨w, r, z⟩ := hv i v e1 e2; ⟨w, r, one z⟩⟩
/-- the maker's names, from another place -/
abbrev _root_.L2.Cx.as (Y : Cx) (N : List Str) (e : Env) : Cx := { Y with N := N, env := e }
section
variable {Y : Cx} {Nd : List Str} {ed : Env} {σd : L2.St} {HZ : Hp} {s1 : Shared}
theorem lam_startC {A : Around} {outer : List Env} {E : XK} {scope : Scope} {f d : Addr} {h1 : Heap} {tk : Nat} (C : CellsAt ed.cells scope Nd σd HZ s1.heap) (L : LamS ed.scope scope) (hlen : σd.length = Nd.length) (e0 : Env0 Y.prog Y.w Y.K Y.mg Y.base A outer s1 HZ) (hd : A.handled = none)
    (new : h1.Ns s1.heap.objs.size fun y => ([] : List (Str × Value)).reverse.lookup y) (kp : ∀ b o, s1.heap.get? b = some o → h1.get? b = some o) :
    Inv (lamCx (Y.as Nd ed) A outer s1 HZ E scope f d) [] σd HZ { s1 with heap := h1, toks := tk } := by
  have from_ : ∀ {y c}, (cloFrom ed.cells scope.names []).lookup y = some c → (y, NameKind.free) ∈ scope.names ∧ ed.cells.lookup y = some c := fun {y c} e => by
    rcases cloFrom_mem (PySem.mem_of_lookup e) with z | ⟨z1, z2⟩
    · cases z
    · obtain ⟨c1, hc, _⟩ := C.at_ y z1
      refine ⟨z1, ?_⟩
      rw [z2, hc]
      rfl
  have into : ∀ {y}, scope.names.lookup y = some .free → ∃ c, (cloFrom ed.cells scope.names []).lookup y = some c := fun {y} e =>
    mem_lookup (cloFrom_has (cells := ed.cells) (acc := []) (PySem.mem_of_lookup e))
  have none_ : ∀ b : Addr, b ∉ (lamCx (Y.as Nd ed) A outer s1 HZ E scope f d).ex := fun b z => by cases (show b ∈ ([] : List Addr) from z)
  have ok : (lamCx (Y.as Nd ed) A outer s1 HZ E scope f d).Ok := by
    refine ⟨e0.mod, L.kind, rfl, rfl, Nat.le_refl _, fun y z c e1 e2 => C.inj y z c (from_ e1).2 (from_ e2).2, fun y hy => ?_, fun y c z _ => ?_, fun _ => hd, Around.frames_deeper e0.frames, .inr ⟨rfl, rfl⟩, fun b z => absurd z (none_ b), e0.bs, e0.bsz, fun b _ _ => none_ b, fun b z => absurd z (none_ b), e0.funs, e0.frf⟩
    · have hy : scope.names.lookup y = some .cell ∨ scope.names.lookup y = some .free := hy
      rcases hy with z | z
      · exact absurd rfl (L.own _ (PySem.mem_of_lookup z)).2
      · exact into z
    · have z : false = true := z
      cases z
  refine ⟨ok, rfl, e0.bare, Un.kept kp, ⟨_, new, fun i y v e1 e2 e3 => ?_⟩, fun y c e => ?_, e0.hok.fresh (Nat.le_refl _), fun y c e => ?_, fun p hp => (by cases (show p ∈ ([] : List (Addr × Obj)) ++ [] from hp)), e0.hok.kept kp, hlen⟩
  · have e3 : Vis scope y := e3
    rcases e3 with z | z | z
    · exact absurd rfl (L.own _ (PySem.mem_of_lookup z)).1
    · exact absurd rfl (L.own _ (PySem.mem_of_lookup z)).2
    · obtain ⟨c, hc⟩ := into z
      obtain ⟨c2, hc2, _, _, hv⟩ := C.at_ y (PySem.mem_of_lookup z)
      rw [(from_ hc).2] at hc2
      cases hc2
      obtain ⟨u, r, hz⟩ := hv i v e1 e2
      exact ⟨u, r, .inr ⟨.inr z, c, hc, hz.keeps kp⟩⟩
  · obtain ⟨z1, z2⟩ := from_ e
    obtain ⟨c2, hc2, _, ⟨v, hv⟩, _⟩ := C.at_ y z1
    rw [z2] at hc2
    cases hc2
    exact ⟨v, hv.keeps kp⟩
  · obtain ⟨z1, z2⟩ := from_ e
    obtain ⟨c2, hc2, n, _⟩ := C.at_ y z1
    rw [z2] at hc2
    cases hc2
    exact n
/-- what is known of a lambda's text: its body's reading -/
structure LamK (X : Cx) (k : Nat) (l : LamT) (t : XK → TE) : Prop where
  sc : LamS X.env.scope l.scope
  bind : ∀ (q : Str) (cl : List (Str × Addr)) (pm cv ctv : Value), bindArgs (PySem.W.kla_fn "<lambda>" q l.params l.body l.scope cl pm cv ctv) ⟨[], []⟩ = pure []
  body : ∀ (A : Around) (outer : List Env) (s : Shared) (H : Hp) (E : XK) (f d : Addr), Room k (A.deeper (lamEnv X l.scope s.heap.objs.size f d)) → PE (lamCx X A outer s H E l.scope f d) l.body (t E)
/-- a(), in the def that got the lambda -/
theorem pe_actC {CXg : CXT} {Eg : XK} {Ng : List Str} {qg q : Str} {sg : Scope} {g f d : Addr} {cdg : Value} {l : LamT} {t : XK → TE} {k i : Nat} {a : Str} {s : Shared} {H : Hp} {pn : List (Addr × Obj)} {xe : Value → Shared → Prop} {W : WX} {E : XK} {p1 p2 : Pos} (lk : LamK (Y.as Nd ed) k l t) (hlen : σd.length = Nd.length)
    (C : CellsAt ed.cells l.scope Nd σd H s.heap) (eq : q = ed.qual ++ "<lambda>") (tk : Takes ((cxOf CXg Y.prog Y.w Y.K Y.mg Y.base Ng qg sg g cdg Y.A Y.stack s H Eg).tr pn xe) W) (hW : ∀ cls d σ' H', E cls d H' → W cls d σ' H') (hr : Room (k + 1) (Y.A.deeper (envOfC qg sg s.heap.objs.size g cdg)))
    (hN : Ng[i]? = some a) (hv : Vis sg a) (hd : (a == ("__debug__" : Str)) = false := by decide) (hcd : (a == ("__classdict__" : Str)) = false := by decide) :
    PE ((cxOf CXg Y.prog Y.w Y.K Y.mg Y.base Ng qg sg g cdg Y.A Y.stack s H Eg).tr pn xe) (.Call (.Name a p1) [] [] p2)
      (fun σZ HZ Q => σZ[i]? = some (some (.ref f)) ∧ HZ d = some (CodeO d q) ∧ HZ f = some (LamO f d q (cloFrom ed.cells l.scope.names []) l) ∧ t E σd HZ Q) := by
  subst eq
  refine ⟨fun pz sz σz HZ Q IZ ⟨w1, w2, w3, w4⟩ => ?_⟩
  refine wpAny_Call_Name_kw (thn ((pe_var (pos := p1) (i := i) hN hv hd hcd).run pz sz σz HZ (fun v H1 => v = .ref f ∧ H1 = HZ) IZ ⟨.ref f, w1, rfl, rfl⟩) fun u s1 ⟨v, H1, I1, r1, ⟨ev, eH⟩⟩ => ?_)
  subst ev
  subst eH
  obtain rfl : u = Value.ref f := r1
  obtain ⟨⟨pm, ctv, ho⟩, _, _⟩ := I1.hok f _ w3
  obtain ⟨⟨oc, vs, tq, oc1, oc2, oc3⟩, _, _⟩ := I1.hok d _ w2
  have un : Un (frs Y.stack) [] H H1 s.heap s1.heap := I1.base
  have C1 := C.un un (fun _ _ _ z => by cases z)
  refine PySem.W.callWith_F0 ⟨_, _, _, _, ho⟩ ?_
  have run : codeAny (model Y.prog Y.w) (Y.A.deeper (envOfC qg sg s.heap.objs.size g cdg)) (.call (.ref f) ⟨[], []⟩) (CR (L2.CX Y.prog Y.w) (envOfC qg sg s.heap.objs.size g cdg :: Y.stack) Y.prog Y.w H1 s1 Q E) s1 := by
    refine PySem.W.kla_callFunE hr.depth ho rfl lk.sc.co lk.sc.gen rfl ⟨d, oc, vs, tq, rfl, oc1, oc2, oc3⟩ ?_
    rw [lk.bind]
    refine wpAny_pure (wpAny_newFunctionEnv (fun y hy => (lk.sc.own y hy).2) (fun y hy => by cases hy) (fun h1 new but => ⟨I1.nolimit.fresh _ but, ?_⟩) lk.sc.kind)
    show codeAny _ _ (.expr l.body (lamEnv (Y.as Nd ed) l.scope s1.heap.objs.size f d)) _ _
    have kp : ∀ b o, s1.heap.get? b = some o → h1.get? b = some o := fun b o e => but.extBut b o (Nat.ne_of_lt (Heap.lt_size e)) (Heap.get?_push_of_some _ e)
    have J := lam_startC (Y := Y) (A := Y.A.deeper (envOfC qg sg s.heap.objs.size g cdg)) (outer := envOfC qg sg s.heap.objs.size g cdg :: Y.stack) (E := E) (f := f) (d := d) (tk := s1.toks + ([] : List (Str × Value)).length) C1 lk.sc hlen I1.env0 hr.hd new kp
    refine PySem.W.kla_codeExpr (wpAny_mono ((lk.body _ _ s1 H1 E f d (hr.deeper _)).run [] _ _ H1 Q J w4) (fun v s' hq => ?_) fun e s' hq => hq)
    obtain ⟨w', H', J', rv, q⟩ := hq
    exact ⟨w', H', J'.os, J'.bare, J'.base, J'.hok, rv, q⟩
  have hx : Passes (L2.CX Y.prog Y.w) ((cxOf CXg Y.prog Y.w Y.K Y.mg Y.base Ng qg sg g cdg Y.A Y.stack s H Eg).tr pn xe) E := passes_call tk hW
  refine wpAny_call (codeAny_mono run fun r s' hq => ?_)
  match r, hq with
  | .error e, hq => exact hx pz σz H1 s1 e s' I1 hq
  | .ok (.ret u), hq => exact I1.after hq
/-- x(e), e a lambda that was made before -/
def tKV (te : TE) (ls : List (LamT × (XK → TE))) (q : Str) (cells : List (Str × Addr)) (σd : L2.St) (TT : (XK → Hp → VK → Prop) → Hp → VK → Prop) : TE := fun σ H Q => te σ H fun v H1 => ∃ (f d : Addr) (l : LamT) (t : XK → TE), v = .ref f ∧ (l, t) ∈ ls ∧
  H1 d = some (CodeO d q) ∧ H1 f = some (LamO f d q (cloFrom cells l.scope.names []) l) ∧ TT (fun E H' Q' => H' f = some (LamO f d q (cloFrom cells l.scope.names []) l) ∧ t E σd H' Q') H1 Q
theorem pe_kindV {TT : (XK → Hp → VK → Prop) → Hp → VK → Prop} {ls : List (LamT × (XK → TE))} {x a q : Str} {k : Nat} {st : Stmt} {Ng : List Str} {e : Expr} {te : TE} {p pos : Pos} (D : FnL Y.K Y.mg x st) (hg : Gl Y x)
    (hb : ∀ (kV doc pm : Value) (an : Option Addr) (cdv ct : Value) (us : List Value), us.length = [a].length → bindArgs (PySem.W.fnOf x x (defArgs st) (defBody st) (defScope st) .none kV doc pm an cdv ct) ⟨us, []⟩ = pure ([a].zip us))
    (Sg : FnScope Ng [a] (defScope st)) (hNg : Ng[0]? = some a) (hva : Vis (defScope st) a) (hG : ∀ (g : Addr) (cdv : Value), LamX.GivesTo Y Ng x (defScope st) g cdv (defBody st) a q TT) (eq : q = ed.qual ++ "<lambda>") (hr : Room (k + 2) Y.A) (lks : ∀ p ∈ ls, LamK (Y.as Nd ed) k p.1 p.2) (hlen : σd.length = Nd.length)
    (hC : ∀ (pins : List (Addr × Obj)) (σ' : L2.St) (H' : Hp) (s' : Shared), Inv Y pins σ' H' s' → ∀ p ∈ ls, CellsAt ed.cells p.1.scope Nd σd H' s'.heap) (he : PE Y e te)
    (hst : starEach [e] Y.env = (false, eval e Y.env) :: starEach [] Y.env := by rfl) (hdb : (x == ("__debug__" : Str)) = false := by decide) (hd : (a == ("__debug__" : Str)) = false := by decide) (hcd : (a == ("__classdict__" : Str)) = false := by decide) :
    PE Y (.Call (.Name x p) [e] [] pos) (tKV te ls q ed.cells σd TT) := by
  obtain ⟨g, oc, od, kV, doc, pm, an, cdv, ct, osl, lk, hcg, hk, hm⟩ := D.ex
  refine ⟨fun pins s σ H Q I h => wpAny_Call_Name_kw (ld_glob I hg hm ?_ hdb)⟩
  refine PySem.W.callWith_K (h₀ := Y.base) I.ok.mod.kin hk ?_ hst (by rfl)
  rw [hst]
  show wpAny _ _ (spliced ((false, eval e Y.env) :: backTo pos (starEach [] Y.env))) _ _ s
  refine Calls.spliced_cons (thn (he.run pins s σ H _ I h) fun u s1 ⟨v, H1, I1, r1, f, d, l, t, ev, hl, h2, h3, h4⟩ => ?_)
  subst ev
  obtain rfl : u = Value.ref f := r1
  refine Calls.spliced_nil ⟨I1.kIn, ?_⟩
  have run : codeAny (model Y.prog Y.w) Y.A (.call (.ref g) ⟨[.ref f], []⟩) (CR C8.CX0 Y.stack Y.prog Y.w H1 s1 Q C8.E0) s1 := by
    refine LamX.run_ofS (N := Ng) (ps := [a]) (us := [.ref f]) (vs := [.ref f]) lk hcg Sg hr I1.env0 (Binds.all (fun us hl => hb kV doc pm an cdv ct us hl) s1 [.ref f] I1.kIn rfl) (.cons rfl .nil) rfl fun hr' => ?_
    obtain ⟨t', ht', hq'⟩ := hG g cdv f d s1 H1 Q (fun E H' Q' => H' f = some (LamO f d q (cloFrom ed.cells l.scope.names []) l) ∧ t E σd H' Q')
      (fun W pn xe E p1 p2 tk hW => pe_actC (i := 0) (lks _ hl) hlen (hC _ _ _ _ I1 _ hl) eq tk hW hr' hNg hva hd hcd) h2 h4
    exact ⟨t', ht'.nox, hq'⟩
  refine wpAny_call (codeAny_mono run fun r s2 hq => ?_)
  match r, hq with
  | .ok (.ret u), hq => exact I1.after hq
end
end My
namespace My
open PySem PySem.Spec PyProof.Rows L2
/-! ### a comprehension whose item may lean on the state at its start -/
section
variable {X : Cx}
theorem pe_lcX {elt tg iter : Expr} {scope : Scope} {own : List (Str × Nat)} {pos : Pos} {wi : TI} {g : TG} {te : L2.St → TE} (calm : X.calm = true) (nd : X.N.Nodup) (hi : PI X tg iter wi) (ok : BlkOk X.N X.env.scope scope own)
    (hg : ∀ (s : Shared) (H : Hp) (C : Addr) (cl : List (Str × Addr)) (fp : List Addr), PG (X.blk s H scope (compEnvC scope cl C X.env) fp) tg g)
    (he : ∀ (pins : List (Addr × Obj)) (σ : L2.St) (s : Shared) (H : Hp) (C : Addr) (cl : List (Str × Addr)) (fp : List Addr), Inv X pins σ H s → (∀ b ∈ fp, FpOk X pins H b) → PE (X.blk s H scope (compEnvC scope cl C X.env) fp) elt (te σ))
    (hs : ∀ x, foldedSetIterable iter X.env x = pure x := by intro _; rfl) : PE X (.ListComp elt [⟨tg, iter, [], 0⟩] scope pos) (fun σ H Q => tLc wi g tYes (te σ) (own.map (·.2)) σ H Q) := by
  refine ⟨fun pins s σ H Q I h => ?_⟩
  rw [eval_ListComp]
  have frees : ∀ y ∈ scope.names, y.2 = .free → ∃ c, X.env.cells.lookup y.1 = some c := fun y hy e => I.ok.has _ (ok.free y hy e)
  refine wpAny_comprehension_free (use := none) rfl hs (closure_ok frees) ok.kind (fun y hy e => (ok.uniq y hy).trans (congrArg some e)) (thn (hi.run pins s σ H _ I h) fun xv sa ha => thn ha fun itv sb hb => ?_)
  obtain ⟨it, fp, tn, J, Hb, rfl, Ib, T, tb, fb, q⟩ := hb
  refine wpAny_newObj_type (newEnv_comp ?_) (Nat.zero_le _)
  obtain ⟨D, hD⟩ : ∃ D, D = sb.heap.objs.size := ⟨_, rfl⟩
  have freeD : Hb D = none := Ib.hok.fresh (Nat.le_of_eq hD.symm)
  obtain ⟨W, ⟨m0, w0⟩, turn⟩ := q D freeD
  obtain ⟨s3, e3⟩ : ∃ s3 : Shared, s3 = { sb with heap := sb.heap.push { cls := .type "list", data := .seq ([] : List Value).toArray } } := ⟨_, rfl⟩
  obtain ⟨H3, eH⟩ : ∃ H3 : Hp, H3 = upd Hb D (.lst []) := ⟨_, rfl⟩
  have I3 : Inv X pins σ H3 s3 := by
    subst e3 eH hD
    exact Ib.laid (t' := sb.toks) (fun b o e => Heap.get?_push_of_some _ e) (Nat.le_refl _) ⟨Nat.zero_le _, [], 0, .nil, Heap.get?_push_size _ rfl⟩
  have f3 : ∀ b ∈ fp, FpOk X pins H3 b ∧ b < s3.heap.objs.size := fun b hb => by
    obtain ⟨o, e, _⟩ := T.obj _ _ tb b hb
    have lt := Heap.lt_size e
    subst e3 eH hD
    refine ⟨⟨?_, (fb b hb).2⟩, Nat.lt_of_lt_of_eq (Nat.lt_succ_of_lt lt) (Heap.size_push ..).symm⟩
    rw [upd_ne (Nat.ne_of_lt lt)]
    exact (fb b hb).1
  have t3 : tn 0 s3.heap := T.keep _ _ _ tb fun b _ o e => by
    subst e3
    exact Heap.get?_push_of_some _ e
  rw [← e3, ← hD]
  rw [← eH] at w0
  have I4 := block_start I3 ok nd f3
  have PGe := hg s3 H3 s3.heap.objs.size (cellsFrom (s3.heap.objs.size + 1) scope.names (cloFrom X.env.cells scope.names [])) fp
  have PEe := he pins σ s3 H3 s3.heap.objs.size (cellsFrom (s3.heap.objs.size + 1) scope.names (cloFrom X.env.cells scope.names [])) fp I3 fun b hb => (f3 b hb).1
  show codeAny _ _ (.compStart (.ListComp elt [⟨tg, iter, [], 0⟩] scope pos) 0 (.ref it) (.ref D) (compEnvC scope (cellsFrom (s3.heap.objs.size + 1) scope.names (cloFrom X.env.cells scope.names [])) s3.heap.objs.size X.env)) _ _
  obtain ⟨ce, ee⟩ : ∃ ce, ce = compEnvC scope (cellsFrom (s3.heap.objs.size + 1) scope.names (cloFrom X.env.cells scope.names [])) s3.heap.objs.size X.env := ⟨_, rfl⟩
  have locE : ce.locals = s3.heap.objs.size := by rw [ee]; rfl
  rw [← ee] at I4 PGe PEe ⊢
  obtain ⟨s4, e4⟩ : ∃ s4 : Shared, s4 = { s3 with heap := pushCells (s3.heap.push { cls := .type "dict", data := .dict #[] }) scope.names } := ⟨_, rfl⟩
  have t4 : tn 0 s4.heap := T.keep _ _ _ t3 fun b _ o e => by
    subst e4
    exact pushCells_keeps _ _ _ _ (Heap.get?_push_of_some _ e)
  rw [← e4] at I4 ⊢
  have own_fp : ∀ {σ' : L2.St} {H' : Hp} {s' : Shared}, Inv (X.blk s3 H3 scope ce fp) [] σ' H' s' → (∀ b ∈ fp, H' b = none) → ∀ b ∈ fp, FpOk (X.blk s3 H3 scope ce fp) [] H' b := fun {σ' H' s'} I' hn b hb =>
    ⟨hn b hb, (I'.ok.exf b hb).1, I'.ok.exfs b hb, Or.inl hb, (I'.ok.exf b hb).2, fun p hp => by cases (show p ∈ ([] : List (Addr × Obj)) ++ [] from hp)⟩
  have loop : codeAny (model X.prog X.w) X.A (.compLoop (.ListComp elt [⟨tg, iter, [], 0⟩] scope pos) 0 (.ref it) (.ref D) ce) (compPost (model X.prog X.w) X.A X.xe none (EP X pins σ Q) (.ref D) s3.heap.objs.size) s4 := by
    refine compLoop_any (fun n s' => ∃ (i : Nat) (H' : Hp), Inv (X.blk s3 H3 scope ce fp) [] (wipe σ (own.map (·.2))) H' s' ∧ tn i s'.heap ∧ (∀ b ∈ fp, H' b = none) ∧ W i n H') ?_ m0 ⟨0, H3, I4, t4, fun b hb => (f3 b hb).1.1, w0⟩
    intro n s5 ⟨i, H5, I5, t5, n5, w5⟩
    rcases turn i n H5 w5 with ⟨stop, done⟩ | ⟨go, Nx, next, step⟩
    · refine thnF (T.done (X.blk s3 H3 scope ce fp) rfl rfl rfl calm i [] s5 _ H5 (fun _ _ => False) I5 (own_fp I5 n5) t5 stop) fun r s6 ⟨er, I6⟩ => ?_
      subst er
      have I7 : Inv X pins σ H5 s6 := I3.call' (ch := fp) I6.os I6.base I6.hok I6.bare fun b hb => let z := (f3 b hb).1.2; ⟨z.2.2.1, z.1, z.2.2.2.1, z.2.2.2.2⟩
      have nC : H5 s3.heap.objs.size = none := locE ▸ I6.free
      obtain ⟨m, ns, _⟩ := I6.loc
      have ns : s6.heap.Ns s3.heap.objs.size m := locE ▸ ns
      obtain ⟨g0, g1, g2, g3, g4, g5⟩ := I3.fpOk (Nat.le_refl _) nC
      exact ⟨m, ns, fun h2 but => ⟨.ref D, H5, I7.turned (t' := s6.toks) (fun b o hb e => (but.2 b hb).trans e) g0 g1 g3 g4 g5, rfl, done⟩⟩
    · refine thnF (T.item (X.blk s3 H3 scope ce fp) rfl rfl rfl calm i [] s5 _ H5 (fun _ _ => False) I5 (own_fp I5 n5) t5 go) fun r s6 ⟨u, er, h6⟩ => ?_
      subst er
      refine thnF h6 fun _ s7 ⟨x, H7, I7, r7, y7, t7, n7⟩ => ?_
      have I7p := I7.pinned (own_fp I7 n7) (T.obj _ _ t7)
      refine thnF (PGe.run _ s7 _ H7 x u _ I7p r7 (step x H7 y7)) fun _ s8 ⟨σ8, H8, I8, same, q8⟩ => wpAny_tests_nil ?_
      have q8 : te σ σ8 H8 fun y H4 => ∃ acc, H4 D = some (.lst acc) ∧ acc.length < sizeLine ∧ Nx (upd H4 D (.lst (acc ++ [y]))) := q8
      refine thnF (PEe.run _ s8 σ8 H8 _ I8 q8) fun z s9 ⟨yv, H9, I9, r9, acc, aD, small, nx⟩ => ?_
      refine app_ok (X := X.blk s3 H3 scope ce fp) I9 aD small r9 fun s10 I10 => ?_
      obtain ⟨m2, less, w2⟩ := next _ nx
      have kept : ∀ b ∈ fp, ∀ o, s7.heap.get? b = some o → s10.heap.get? b = some o ∧ upd H9 D (.lst (acc ++ [yv])) b = none := fun b hb o e =>
        have pz := I10.pin (b, o) (List.mem_append_right _ (List.mem_append_right _ (mem_pinsAt hb e)))
        ⟨pz.1, pz.2.1⟩
      refine ⟨m2, less, i + 1, _, (I10.unpinned (pins := [])).weak (by rw [← same, wipe_length]) (fun j v e => ?_), T.keep _ _ _ t7 fun b hb o e => (kept b hb o e).1, fun b hb => ?_, w2⟩
      · rw [← same] at e
        exact (wipe_some e).1
      · obtain ⟨o, e, _⟩ := T.obj _ _ t7 b hb
        exact (kept b hb o e).2
  exact codeAny_compStart_list loop (T.self X.A 0 _ _ _ t4 loop)
end
end My
namespace My
open PySem PySem.Spec PyProof.Rows L2
section
variable {P : Program} {w : World} {K : PySem.W.Frag} {mg : Str → Option Value} {base : Heap} {ec : Ec}
theorem sc_need_long : FnScope ["wheel", "long"] ["wheel", "long"] (defScope s_need_long) := ⟨rfl, rfl, rfl, by decide +kernel, rfl, by decide +kernel, by decide +kernel⟩
theorem ok_need_long (T : Txt K mg ec) (D : Fn K mg "need_long" s_need_long) (c_need_wheel : Knows P w K mg base 2 "need_wheel" ["wheel"] (sp_need_wheel ec)) : Knows P w K mg base 3 "need_long" ["wheel", "long"] (sp_need_long ec) := by
  refine Knows.mk' D sc_need_long (fun _ _ _ _ _ _ us hl => match us, hl with | [_, _], _ => rfl) (fun vs H Q E h => ?_) (fun f cdv A outer s H vs Q E hr h => ?_)
  · obtain ⟨n, l, rfl, _⟩ := h; rfl
  · obtain ⟨n, l, rfl, k1, k2, k3⟩ := h
    refine ⟨_, (pss_cons (ps_expr (pe_callN c_need_wheel (hr.mono (by first | decide | omega)) passD (pa_cons (pv 0) pa_nil)))
    (pss_one (ps_if (pt_not (pt_chain op_le op_lt pe_int (pv 1) (pv 0))) (pss_one (ps_raiseN T.x_BadLong)) pss_nil))), ?_⟩
    refine g_start (σ := [some _, some _]) rfl ?_
    try dsimp only [cxOf]
    walk_at "go"
    refine ⟨n, rfl, fun hw => ?_, k2⟩
    walk_at "go"
    refine ite_dec (fun h1 => ?_) (fun h1 => ?_)
    · walk_at "go"
      refine ite_ndec (fun h2 => ?_) (fun h2 => ?_)
      · exact k3 hw fun h => h2 h.2
      · walk_at "go"
        exact k1 hw ⟨h1, h2⟩
    · walk_at "go"
      exact k3 hw fun h => h1 h.1
theorem sc_over : FnScope ["wheel", "long", "begun", "now"] ["wheel", "long", "begun", "now"] (defScope s_over) := ⟨rfl, rfl, rfl, by decide +kernel, rfl, by decide +kernel, by decide +kernel⟩
theorem ok_over (T : Txt K mg ec) (D : Fn K mg "over" s_over) (c_need_long : Knows P w K mg base 3 "need_long" ["wheel", "long"] (sp_need_long ec)) (c_need_seen : Knows P w K mg base 1 "need_seen" ["wheel", "seen"] (sp_need_seen ec))
    (c_since_of : Knows P w K mg base 1 "since_of" ["wheel", "one", "other"] sp_since_of) : Knows P w K mg base 4 "over" ["wheel", "long", "begun", "now"] (sp_over ec) := by
  refine Knows.mk' D sc_over (fun _ _ _ _ _ _ us hl => match us, hl with | [_, _, _, _], _ => rfl) (fun vs H Q E h => ?_) (fun f cdv A outer s H vs Q E hr h => ?_)
  · obtain ⟨n, l, b, t, rfl, _⟩ := h; rfl
  · obtain ⟨n, l, b, t, rfl, k1, k2, k3, k4⟩ := h
    refine ⟨_, (pss_cons (ps_expr (pe_callN c_need_long (hr.mono (by first | decide | omega)) passD (pa_cons (pv 0) (pa_cons (pv 1) pa_nil))))
    (pss_cons (ps_expr (pe_callN c_need_seen (hr.mono (by first | decide | omega)) passD (pa_cons (pv 0) (pa_cons (pv 2) pa_nil))))
    (pss_cons (ps_expr (pe_callN c_need_seen (hr.mono (by first | decide | omega)) passD (pa_cons (pv 0) (pa_cons (pv 3) pa_nil))))
    (pss_one (ps_ret (pe_cmpR op_ge (pe_callN c_since_of (hr.mono (by first | decide | omega)) passD (pa_cons (pv 0) (pa_cons (pv 2) (pa_cons (pv 3) pa_nil)))) (pv 1) (nomark _))))))), ?_⟩
    refine g_start (σ := [some _, some _, some _, some _]) rfl ?_
    try dsimp only [cxOf]
    walk_at "go"
    refine ⟨n, l, rfl, fun hw hl => ?_, k2, k3⟩
    walk_at "go"
    refine ⟨n, b, rfl, fun hb => ?_, fun hb => k4 hw hl fun z => hb z.1⟩
    walk_at "go"
    refine ⟨n, t, rfl, fun ht => ?_, fun ht => k4 hw hl fun z => ht z.2⟩
    walk_at "go"
    refine ⟨n, b, t, rfl, by have := hw.1; omega, ?_⟩
    walk_at "go"
    exact k1 hw hl hb ht
theorem sc_apart : FnScope ["wheel", "long"] ["wheel", "long"] (defScope s_apart) := ⟨rfl, rfl, rfl, by decide +kernel, rfl, by decide +kernel, by decide +kernel⟩
theorem ok_apart (T : Txt K mg ec) (D : Fn K mg "apart" s_apart) (c_need_long : Knows P w K mg base 3 "need_long" ["wheel", "long"] (sp_need_long ec)) : Knows P w K mg base 4 "apart" ["wheel", "long"] (sp_apart ec) := by
  refine Knows.mk' D sc_apart (fun _ _ _ _ _ _ us hl => match us, hl with | [_, _], _ => rfl) (fun vs H Q E h => ?_) (fun f cdv A outer s H vs Q E hr h => ?_)
  · obtain ⟨n, l, rfl, _⟩ := h; rfl
  · obtain ⟨n, l, rfl, k1, k2, k3⟩ := h
    refine ⟨_, (pss_cons (ps_expr (pe_callN c_need_long (hr.mono (by first | decide | omega)) passD (pa_cons (pv 0) (pa_cons (pv 1) pa_nil))))
    (pss_one (ps_ret (pe_op op_sub (pv 0) (pv 1))))), ?_⟩
    refine g_start (σ := [some _, some _]) rfl ?_
    try dsimp only [cxOf]
    walk_at "go"
    refine ⟨n, l, rfl, fun hw hl => ?_, k2, k3⟩
    walk_at "go"
    exact k1 hw hl
theorem sc_first_over : FnScope ["wheel", "long", "looks", "number", "look"] ["wheel", "long", "looks"] (defScope s_first_over) := ⟨rfl, rfl, rfl, by decide +kernel, rfl, by decide +kernel, by decide +kernel⟩
theorem ok_first_over (T : Txt K mg ec) (D : Fn K mg "first_over" s_first_over) (c_need_long : Knows P w K mg base 3 "need_long" ["wheel", "long"] (sp_need_long ec)) : Knows P w K mg base 4 "first_over" ["wheel", "long", "looks"] (sp_first_over K ec) := by
  refine Knows.mk' D sc_first_over (fun _ _ _ _ _ _ us hl => match us, hl with | [_, _, _], _ => rfl) (fun vs H Q E h => ?_) (fun f cdv A outer s H vs Q E hr h => ?_)
  · obtain ⟨n, l, a, ns, rfl, _⟩ := h; rfl
  · obtain ⟨n, l, a, ns, rfl, hS, hz, k1, k2, k3, k4⟩ := h
    refine ⟨_, (pss_cons (ps_expr (pe_callN c_need_long (hr.mono (by first | decide | omega)) passD (pa_cons (pv 0) (pa_cons (pv 1) pa_nil))))
    (pss_cons (ps_if (PW.pt (pw_or (pt_cmpR (op_neD hr.units) (pe_lc (own := [("look", 4)]) (g := gName 4) rfl sc_first_over.nd (pi_list (pv 2)) (blkOk_by (own := [("look", 4)]) (N := ["wheel", "long", "looks", "number", "look"]) (sc := defScope s_first_over) (by decide +kernel)) (fun _ _ _ _ _ => (pg_name (i := 4) sc_first_over.nd rfl (Or.inl rfl))) (fun _ _ _ _ _ => (pts_one (pt_cmpR op_lt (pv 4) pe_int (nomark _)))) (fun _ _ _ _ _ => (pv 4))) (pe_lst pa_nil) (nomark _)) (pw_or1 (pt_cmpR (op_neD hr.units) (pe_callB cr_sortedI (by rfl) T.sorted (by decide +kernel) (pa_cons (pv 2) pa_nil)) (pe_callTy call_listN (by rfl) T.list (by decide +kernel) (pa_cons (pv 2) pa_nil)) (nomark _))))) (pss_one (ps_raiseN T.x_BadGaps)) pss_nil)
    (pss_cons (ps_for passO rfl (pi_enum (by rfl) T.enumerate (pa_cons (pv 2) pa_nil)) (pg_tup (n := 2) rfl (pgs_cons (pg_name (i := 3) sc_first_over.nd rfl (Or.inl rfl)) (pgs_cons (pg_name (i := 4) sc_first_over.nd rfl (Or.inl rfl)) pgs_nil))) (pss_one (ps_if (pt_cmpR op_ge (pe_op op_mod (pv 4) (pv 0)) (pv 1) (nomark _)) (pss_one (ps_ret (pv 3))) pss_nil)))
    (pss_one (ps_ret pe_non))))), ?_⟩
    refine g_start (σ := [some _, some _, some _, none, none]) rfl ?_
    try dsimp only [cxOf]
    walk_at "go"
    refine ⟨n, l, rfl, fun hw hl => ?_, k2, k3⟩
    walk_at "go"
    refine ⟨⟨_, hS⟩, fun D hD => lc_L (K := K) (a := a) (xs := ns.map V.int) (fun i acc H' => acc = ((ns.take i).filter fun x => decide (x < 0)).map V.int ∧ Same H H') (fun i acc H' o h => ⟨h.1, Same.mut h.2 hD⟩) ⟨rfl, Same.refl H⟩ (fun i acc H' h => h.2.seq hS) ?_ ?_⟩
    · rintro i y acc H' hi ⟨ha, e⟩ hDl hlen
      obtain ⟨x, rfl, hx⟩ := int_at hi
      have hil : i < ns.length := (List.getElem?_eq_some_iff.mp hx).1
      walk_at "wp"
      walk_at "go"
      refine ⟨rfl, ?_⟩
      walk_at "go"
      refine ite_dec (fun h1 => ?_) (fun h1 => ?_)
      · walk_at "go"
        refine lc_leaf (fun i acc H' o h => ⟨h.1, Same.mut h.2 hD⟩) hDl hlen (by omega) ⟨?_, e⟩
        rw [take_more hx, List.filter_append, List.map_append, ← ha, List.filter_cons, if_pos (decide_eq_true h1)]
        rfl
      · refine lc_skip hDl hlen ⟨?_, e⟩
        rw [take_more hx, List.filter_append, List.map_append, ← ha, List.filter_cons, if_neg (by simpa using h1)]
        simp
    · rintro acc H1 ⟨ha, e1⟩ hDl
      rw [List.length_map, List.take_length] at ha
      subst ha
      walk_at "go"
      intro p hp
      refine g_neInts (ns := ns.filter fun x => decide (x < 0)) (ms := []) (SqL.of (by walk_at "hp")) (SqL.of upd_same) ?_
      walk_at "go"
      have e2 : Same H (upd H1 p (.lst [])) := e1.trans (Same.new hp)
      refine ite_ndec (fun h1 => ?_) (fun h1 => ?_)
      · refine iteT (k4 hw hl (fun z => h1 ?_) _ e2)
        exact List.filter_eq_nil_iff.mpr fun x hx => by simpa using z.1 x hx
      · have hnn : ∀ x ∈ ns, 0 ≤ x := fun x hx => by
          have := List.filter_eq_nil_iff.mp h1 x hx
          simpa using this
        walk_at "go"
        refine g_sortedI (e2.seq hS) fun ns' q hperm hsort hq => ?_
        walk_at "go"
        refine g_listL ((Same.new hq).seq (e2.seq hS)) fun q2 hq2 => ?_
        refine g_neInts (ns := ns') (ms := ns) (SqL.of (by walk_at "hp")) (SqL.of upd_same) ?_
        walk_at "go"
        have e3 : Same H (upd (upd (upd H1 p (.lst [])) q (.lst (ns'.map V.int))) q2 (.lst (ns.map V.int))) := (e2.trans (Same.new hq)).trans (Same.new hq2)
        refine ite_ndec (fun h2 => ?_) (fun h2 => ?_)
        · exact k4 hw hl (fun z => h2 (sorted_same hperm hsort z.2)) _ e3
        · walk_at "go"
          have hlooks : Looks ns := ⟨hnn, h2 ▸ hsort⟩
          refine ⟨a, ns.map V.int, rfl, e3.seq hS, for_E (K := K) (a := a) (xs := ns.map V.int) (fun i σ H' => (∃ u v, σ = [some (.int n), some (.int l), some (.ref a), u, v]) ∧ Same H H' ∧ ∀ j x, j < i → ns[j]? = some x → ¬ l ≤ x % n) ⟨⟨_, _, rfl⟩, e3, fun j x h => absurd h (Nat.not_lt_zero _)⟩ (fun i σ H' _ h => h.2.1.seq hS) ?_ ?_⟩
          · rintro i y σ H' T' hi ⟨⟨u, v, rfl⟩, e, hno⟩ hT
            obtain ⟨x, rfl, hx⟩ := int_at hi
            refine g_tup2 (SqT.of upd_same) ?_
            walk_at "go"
            have hn0 : 0 < n := by have := hw.1; omega
            refine ite_dec (fun h3 => ?_) (fun h3 => ?_)
            · walk_at "go"
              have e4 : firstO n l ns = some i := by
                unfold firstO
                rw [List.findIdx?_eq_some_iff_getElem]
                obtain ⟨hl1, hl2⟩ := List.getElem?_eq_some_iff.mp hx
                refine ⟨hl1, by rw [hl2]; exact decide_eq_true h3, fun j hj => ?_⟩
                have := hno j _ hj (List.getElem?_eq_getElem (by omega))
                simpa using this
              have k5 := k1 hw hl hlooks
              rw [e4] at k5
              exact k5 _ (e.trans (Same.new hT))
            · walk_at "go"
              refine ⟨⟨_, _, rfl⟩, e.trans (Same.new hT), fun j z hj hz => ?_⟩
              by_cases hji : j = i
              · subst hji
                rw [hx] at hz
                cases hz
                exact h3
              · exact hno j z (by omega) hz
          · rintro σ H' ⟨⟨u, v, rfl⟩, e, hno⟩
            walk_at "go"
            have e4 : firstO n l ns = none := by
              unfold firstO
              rw [List.findIdx?_eq_none_iff]
              intro x hx
              obtain ⟨j, hj⟩ := List.getElem?_of_mem hx
              have := hno j x (by rw [List.length_map]; exact (List.getElem?_eq_some_iff.mp hj).1) hj
              simpa using this
            have k5 := k1 hw hl hlooks
            rw [e4] at k5
            exact k5 _ e
theorem sc__law_start : FnScope ["_law_script", "_law_mixed", "_law_cell"] ["_law_script"] (defScope s__law_start) := ⟨rfl, rfl, rfl, by decide +kernel, rfl, by decide +kernel, by decide +kernel⟩
theorem ok_start (T : Txt K mg ec) (D : Fn K mg "_law_start" s__law_start) : Knows P w K mg base 1 "_law_start" ["_law_script"] (sp_start K) := by
  refine Knows.mk' D sc__law_start (fun _ _ _ _ _ _ us hl => match us, hl with | [_], _ => rfl) (fun vs H Q E h => ?_) (fun f cdv A outer s H vs Q E hr h => ?_)
  · obtain ⟨s, ns, rfl, _⟩ := h; rfl
  · obtain ⟨s, ns, rfl, hS, hl, k⟩ := h
    refine ⟨_, (pss_cons (ps_set (i := 1) sc__law_start.nd rfl (Or.inl rfl) pe_int)
    (pss_cons (ps_for passO rfl (pi_list (pv 0)) (pg_name (i := 2) sc__law_start.nd rfl (Or.inl rfl)) (pss_one (ps_set (i := 1) sc__law_start.nd rfl (Or.inl rfl) (pe_op op_mod (pe_op op_add (pe_op op_add (pe_op op_mul (pv 1) pe_int) (pv 2)) pe_int) pe_int))))
    (pss_one (ps_ret (pe_lst (pa_cons (pv 0) (pa_cons pe_int (pa_cons (pv 1) (pa_cons pe_int pa_nil))))))))), ?_⟩
    refine g_start (σ := [some _, none, none]) rfl ?_
    try dsimp only [cxOf]
    walk_at "go"
    refine ⟨⟨_, hS⟩, for_L (K := K) (a := s) (xs := ns.map V.int) (fun i σ H' => H' = H ∧ ∃ (m : Int) (c : Option V), σ = [some (.ref s), some (.int m), c]) ⟨rfl, 1, none, rfl⟩ (fun i σ H' _ h => h.1 ▸ hS) ?_ ?_⟩
    · rintro i y σ H' hi ⟨rfl, m, c, rfl⟩
      obtain ⟨z, hz, _⟩ := int_at hi
      subst hz
      walk_at "go"
      exact ⟨rfl, _, _, rfl⟩
    · rintro σ H' ⟨rfl, m, c, rfl⟩
      walk_at "go"
      intro p hp
      exact k p _ hp (Same.new hp) ⟨ns, 0, m, 0, upd_same, fun o => by rw [upd_upd]; exact (Same.new hp).seq hS, hl, Int.le_refl 0⟩
theorem sc__law_drawn : FnScope ["_law_state", "_law_many", "_law_found", "_law_cell"] ["_law_state", "_law_many"] (defScope s__law_drawn) := ⟨rfl, rfl, rfl, by decide +kernel, rfl, by decide +kernel, by decide +kernel⟩
theorem ok_drawn (T : Txt K mg ec) (D : Fn K mg "_law_drawn" s__law_drawn) : Knows P w K mg base 1 "_law_drawn" ["_law_state", "_law_many"] (sp_drawn K) := by
  refine Knows.mk' D sc__law_drawn (fun _ _ _ _ _ _ us hl => match us, hl with | [_, _], _ => rfl) (fun vs H Q E h => ?_) (fun f cdv A outer s H vs Q E hr h => ?_)
  · obtain ⟨a, sc, n, rfl, _⟩ := h; rfl
  · obtain ⟨a, sc, n, rfl, hD, ⟨hn0, hn1⟩, k⟩ := h
    refine ⟨_, (pss_cons (ps_if (pt_cmpR op_gt (pe_ix ix_list (pv 0) pe_int (fun _ _ => rfl)) pe_int (nomark _)) (pss_cons (ps_set (i := 2) sc__law_drawn.nd rfl (Or.inl rfl) (pe_op op_mod (pe_ix ix_list (pv 0) pe_int (fun _ _ => rfl)) (pv 1)))
    (pss_cons (ps_asg (pe_op op_fdivW (pe_ix ix_list (pv 0) pe_int (fun _ _ => rfl)) (pv 1)) (pg_sub (pv 0) pe_int set_list))
    (pss_one (ps_ret (pv 2))))) pss_nil)
    (pss_cons (ps_asg (pe_op op_add (pe_ix ix_list (pv 0) pe_int (fun _ _ => rfl)) pe_int) (pg_sub (pv 0) pe_int set_list))
    (pss_cons (ps_if (pt_cmpR op_le (pe_ix ix_list (pv 0) pe_int (fun _ _ => rfl)) (pe_callB call_lenN (by rfl) T.len PySem.boot_len (pa_cons (pe_ix ix_list (pv 0) pe_int (fun _ _ => rfl)) pa_nil)) (nomark _)) (pss_cons (ps_set (i := 3) sc__law_drawn.nd rfl (Or.inl rfl) (pe_ix ix_list (pe_ix ix_list (pv 0) pe_int (fun _ _ => rfl)) (pe_op op_sub (pe_ix ix_list (pv 0) pe_int (fun _ _ => rfl)) pe_int) (fun _ _ => rfl)))
    (pss_cons (ps_asg (pe_ifExp (pt_cmpR op_ge (pv 3) (pe_powc (v := 1000000000000000000) ⟨by decide, by decide, by decide⟩ (by decide)) (nomark _)) (pe_op op_fdivW (pv 3) (pv 1)) pe_int) (pg_sub (pv 0) pe_int set_list))
    (pss_one (ps_ret (pe_op op_mod (pv 3) (pv 1)))))) pss_nil)
    (pss_cons (ps_asg (pe_op op_mod (pe_op op_add (pe_op op_mul (pe_ix ix_list (pv 0) pe_int (fun _ _ => rfl)) pe_int) pe_int) pe_int) (pg_sub (pv 0) pe_int set_list))
    (pss_one (ps_ret (pe_op op_mod (pe_op op_fdivW (pe_ix ix_list (pv 0) pe_int (fun _ _ => rfl)) pe_int) (pv 1)))))))), ?_⟩
    refine g_start (σ := [some _, some _, none, none]) rfl ?_
    try dsimp only [cxOf]
    obtain ⟨ns, i, m, l, ha, hS, hl, hi⟩ := hD.ex
    have fin : ∀ i' m' l' : Int, 0 ≤ i' → Go K a sc H (upd H a (.lst [.ref sc, .int i', .int m', .int l'])) := fun i' m' l' h =>
      ⟨⟨ns, i', m', l', upd_same, fun o => by rw [upd_upd]; exact hS o, hl, h⟩, Kp.upd⟩
    walk_at "go"
    refine g_ixL (SqL.of ha) rfl ?_
    walk_at "go"
    refine ite_dec (fun h1 => ?_) (fun h1 => ?_)
    · walk_at "go"
      refine g_ixL (SqL.of ha) rfl ?_
      walk_at "go"
      refine g_ixL (SqL.of ha) rfl ?_
      walk_at "go"
      refine g_set43 ha ?_
      walk_at "go"
      exact k _ _ (Int.emod_nonneg _ (by omega)) (Int.emod_lt_of_pos _ hn0) (fin _ _ _ hi)
    · walk_at "go"
      refine g_ixL (SqL.of ha) rfl ?_
      walk_at "go"
      refine g_set41 ha ?_
      walk_at "go"
      refine g_ixL (SqL.of upd_same) rfl ?_
      walk_at "go"
      refine g_ixL (SqL.of upd_same) rfl ?_
      walk_at "go"
      refine g_lenL (hS _) ?_
      walk_at "go"
      rw [List.length_map]
      refine ite_dec (fun h2 => ?_) (fun h2 => ?_)
      · walk_at "go"
        refine g_ixL (SqL.of upd_same) rfl ?_
        walk_at "go"
        refine g_ixL (SqL.of upd_same) rfl ?_
        walk_at "go"
        refine g_ixAny (hS _) (by omega) (by rw [List.length_map]; omega) (fun v hv => ?_)
        obtain ⟨c, _, rfl⟩ := List.mem_map.mp hv
        walk_at "go"
        refine ite_dec (fun h3 => ?_) (fun h3 => ?_)
        · walk_at "go"
          refine g_set43 upd_same ?_
          rw [upd_upd]
          walk_at "go"
          exact k _ _ (Int.emod_nonneg _ (by omega)) (Int.emod_lt_of_pos _ hn0) (fin _ _ _ (by omega))
        · walk_at "go"
          refine g_set43 upd_same ?_
          rw [upd_upd]
          walk_at "go"
          exact k _ _ (Int.emod_nonneg _ (by omega)) (Int.emod_lt_of_pos _ hn0) (fin _ _ _ (by omega))
      · walk_at "go"
        refine g_ixL (SqL.of upd_same) rfl ?_
        walk_at "go"
        refine g_set42 upd_same ?_
        rw [upd_upd]
        walk_at "go"
        refine g_ixL (SqL.of upd_same) rfl ?_
        walk_at "go"
        exact k _ _ (Int.emod_nonneg _ (by omega)) (Int.emod_lt_of_pos _ hn0) (fin _ _ _ (by omega))
theorem sc__law_wheel : FnScope ["_law_state", "_law_wide"] ["_law_state"] (defScope s__law_wheel) := ⟨rfl, rfl, rfl, by decide +kernel, rfl, by decide +kernel, by decide +kernel⟩
theorem ok_wheel (T : Txt K mg ec) (D : Fn K mg "_law_wheel" s__law_wheel) (c__law_drawn : Knows P w K mg base 1 "_law_drawn" ["_law_state", "_law_many"] (sp_drawn K)) : Knows P w K mg base 2 "_law_wheel" ["_law_state"] (sp_wheel K) := by
  refine Knows.mk' D sc__law_wheel (fun _ _ _ _ _ _ us hl => match us, hl with | [_], _ => rfl) (fun vs H Q E h => ?_) (fun f cdv A outer s H vs Q E hr h => ?_)
  · obtain ⟨a, sc, rfl, _⟩ := h; rfl
  · obtain ⟨a, sc, rfl, hD, k⟩ := h
    refine ⟨_, (pss_cons (ps_set (i := 1) sc__law_wheel.nd rfl (Or.inl rfl) (pe_ix ix_list (pe_lst (pa_cons pe_int (pa_cons pe_int (pa_cons (pe_op op_sub (pe_powc (v := 1000000000000) ⟨by decide, by decide, by decide⟩ (by decide)) pe_int) pa_nil)))) (pe_callN c__law_drawn (hr.mono (by first | decide | omega)) passD (pa_cons (pv 0) (pa_cons pe_int pa_nil))) (fun _ _ => rfl)))
    (pss_cons (ps_if (pt_cmpR op_eq (pe_callN c__law_drawn (hr.mono (by first | decide | omega)) passD (pa_cons (pv 0) (pa_cons pe_int pa_nil))) pe_int (nomark _)) (pss_one (ps_ret (pe_ix ix_list (pe_lst (pa_cons pe_int (pa_cons pe_int (pa_cons pe_int (pa_cons pe_int (pa_cons pe_int (pa_cons (pe_powc (v := 65536) ⟨by decide, by decide, by decide⟩ (by decide)) (pa_cons (pe_powc (v := 4294967296) ⟨by decide, by decide, by decide⟩ (by decide)) (pa_cons (pe_powc (v := 549755813888) ⟨by decide, by decide, by decide⟩ (by decide)) pa_nil))))))))) (pe_callN c__law_drawn (hr.mono (by first | decide | omega)) passD (pa_cons (pv 0) (pa_cons pe_int pa_nil))) (fun _ _ => rfl)))) pss_nil)
    (pss_one (ps_ret (pe_op op_add pe_int (pe_callN c__law_drawn (hr.mono (by first | decide | omega)) passD (pa_cons (pv 0) (pa_cons (pv 1) pa_nil)))))))), ?_⟩
    refine g_start (σ := [some _, none]) rfl ?_
    try dsimp only [cxOf]
    walk_at "go"
    intro p hp
    walk_at "go"
    refine ⟨a, sc, 3, rfl, (by walk_at "dr"), (by decide), fun r1 H1 h0 h1 g1 => ?_⟩
    have hne : p ≠ a := by walk_at "ne"
    refine g_ixAny (SqL.of (by walk_at "hp")) h0 (by simpa using h1) (fun v hv => ?_)
    obtain ⟨z, rfl, hz⟩ := one_int (zs := [6, 60, 1000000000000 - 1]) hv
    have hz2 : 6 ≤ z ∧ z ≤ 999999999999 := by
      simp only [List.mem_cons, List.not_mem_nil, or_false] at hz
      omega
    have g1' := g1.new hp
    walk_at "go"
    refine ⟨a, sc, 4, rfl, (by walk_at "dr"), (by decide), fun r2 H2 h0 h1 g2 => ?_⟩
    walk_at "go"
    refine ite_dec (fun h2 => ?_) (fun h2 => ?_)
    · walk_at "go"
      intro q hq
      walk_at "go"
      refine ⟨a, sc, 8, rfl, (by walk_at "dr"), (by decide), fun r3 H3 h0 h1 g3 => ?_⟩
      have hne : q ≠ a := by walk_at "ne"
      refine g_ixAny (SqL.of (by walk_at "hp")) h0 (by simpa using h1) (fun v hv => ?_)
      obtain ⟨z, rfl, hz⟩ := one_int (zs := [2, 4, 8, 64, 256, 65536, 4294967296, 549755813888]) hv
      simp only [List.mem_cons, List.not_mem_nil, or_false] at hz
      exact k _ _ (by show 2 ≤ z ∧ z ≤ 1000000000000; omega) ((g1'.trans g2).trans (g3.new hq))
    · walk_at "go"
      refine ⟨a, sc, z, rfl, (by walk_at "dr"), (by omega), fun r3 H3 h0 h1 g3 => ?_⟩
      walk_at "go"
      exact k _ _ (by show 2 ≤ 2 + r3 ∧ 2 + r3 ≤ 1000000000000; omega) ((g1'.trans g2).trans g3)
theorem sc__law_kind : FnScope ["_law_work", "e", "_law_kinds", "_law_words"] ["_law_work"] (defScope s__law_kind) := ⟨rfl, rfl, rfl, by decide +kernel, rfl, by decide +kernel, by decide +kernel⟩
theorem kind_gives (X : Cx) {ec : Ec} (T : Txt X.K X.mg ec) (g : Addr) (cdg : Value) (q : Str) : LamX.GivesTo X ["_law_work", "e", "_law_kinds", "_law_words"] "_law_kind" (defScope s__law_kind) g cdg (defBody s__law_kind) "_law_work" q (TKind X.K ec) := by
  intro f c' s H Q tl act hc h
  refine ⟨_, pss_one (ps_try_as (X := (cxOf C8.CX0 X.prog X.w X.K X.mg X.base ["_law_work", "e", "_law_kinds", "_law_words"] "_law_kind" (defScope s__law_kind) g cdg X.A X.stack s H C8.E0).nox) (c := .ref ec.WrapError) (i := 1)
      (tb := fun W D σ H => ∃ Ech : XK, (∀ cls d σ' H', Ech cls d H' → W cls d σ' H') ∧ σ[0]? = some (some (.ref f)) ∧ H c' = some (LamX.CodeO c' q) ∧ tl Ech H D.rt)
      (ts := fun a cls d Dd σ H => ∃ D j, cls = .ref D ∧ d = none ∧ KindOf X.K ec D j ∧ (∃ σ' : L2.St, σ = σ'.set 1 (some (.ref a))) ∧ ∀ H'', Same H H'' → Dd.rt (.str (namesL.getD j "")) H'')
      (Wout := fun _ _ _ _ => False) rfl rfl sc__law_kind.nd rfl rfl ⟨rfl, by decide, .inl T.x_WrapError.g⟩ LamX.takes0 (fun W pn xe tk _ => ?_) (fun a oe cls d pn hz hv => ?_)), ?_⟩
  · refine ⟨fun pins s' σ H' D I h' => ?_⟩
    obtain ⟨Ech, hW, h1, h2, h3⟩ := h'
    exact (pss_one (ps_ret (act W pn xe Ech _ _ tk hW))).run pins s' σ H' D I ⟨h1, h2, h3⟩
  · refine pss_by fun Dd σ H' hlen h' => ?_
    obtain ⟨D, j, rfl, rfl, kd, ⟨σ', rfl⟩, k⟩ := h'
    rw [List.length_set] at hlen
    obtain ⟨x0, x1, x2, x3, rfl⟩ : ∃ x0 x1 x2 x3, σ' = [x0, x1, x2, x3] := by
      match σ', hlen with
      | [x0, x1, x2, x3], _ => exact ⟨x0, x1, x2, x3, rfl⟩
    refine ⟨_, (pss_cons (ps_set (i := 2) sc__law_kind.nd rfl (Or.inl rfl) (pe_lst (pa_cons (pe_callB (call_isE kd.c hz hv) (by rfl) T.isinstance (by decide +kernel) (pa_cons (pv 1) (pa_cons (pe_glob (v := .ref ec.BadWheel) rfl T.x_BadWheel.g rfl) pa_nil))) (pa_cons (pe_callB (call_isE kd.c hz hv) (by rfl) T.isinstance (by decide +kernel) (pa_cons (pv 1) (pa_cons (pe_glob (v := .ref ec.BadRule) rfl T.x_BadRule.g rfl) pa_nil))) (pa_cons (pe_callB (call_isE kd.c hz hv) (by rfl) T.isinstance (by decide +kernel) (pa_cons (pv 1) (pa_cons (pe_glob (v := .ref ec.BadSeen) rfl T.x_BadSeen.g rfl) pa_nil))) (pa_cons (pe_callB (call_isE kd.c hz hv) (by rfl) T.isinstance (by decide +kernel) (pa_cons (pv 1) (pa_cons (pe_glob (v := .ref ec.BadGaps) rfl T.x_BadGaps.g rfl) pa_nil))) pa_nil))))))
    (pss_cons (ps_set (i := 2) sc__law_kind.nd rfl (Or.inl rfl) (pe_op op_cat (pv 2) (pe_lst (pa_cons (pe_callB (call_isE kd.c hz hv) (by rfl) T.isinstance (by decide +kernel) (pa_cons (pv 1) (pa_cons (pe_glob (v := .ref ec.BadSpan) rfl T.x_BadSpan.g rfl) pa_nil))) (pa_cons (pe_callB (call_isE kd.c hz hv) (by rfl) T.isinstance (by decide +kernel) (pa_cons (pv 1) (pa_cons (pe_glob (v := .ref ec.BadLong) rfl T.x_BadLong.g rfl) pa_nil))) (pa_cons (pe_callB (call_isE kd.c hz hv) (by rfl) T.isinstance (by decide +kernel) (pa_cons (pv 1) (pa_cons (pe_glob (v := .ref ec.NoGap) rfl T.x_NoGap.g rfl) pa_nil))) (pa_cons (pe_callB (call_isE kd.c hz hv) (by rfl) T.isinstance (by decide +kernel) (pa_cons (pv 1) (pa_cons (pe_glob (v := .ref ec.NoSpan) rfl T.x_NoSpan.g rfl) pa_nil))) pa_nil)))))))
    (pss_cons (ps_set (i := 3) sc__law_kind.nd rfl (Or.inl rfl) (pe_lst (pa_cons pe_str (pa_cons pe_str (pa_cons pe_str (pa_cons pe_str (pa_cons pe_str (pa_cons pe_str (pa_cons pe_str (pa_cons pe_str pa_nil))))))))))
    (pss_cons (ps_if (PW.pt (pw_or (pt_cmpR op_ne (pe_bm PySem.F.plainAttrs_list PySem.F.slot_list_count PySem.F.type_list_count mt_countF (pv 2) (pa_cons pe_bl pa_nil)) pe_int (nomark _)) (pw_or1 (pt_not (pt_val (pe_callB (call_isE kd.c hz hv) (by rfl) T.isinstance (by decide +kernel) (pa_cons (pv 1) (pa_cons (pe_bltn (v := .ty "ValueError") (u := .type "ValueError") (by rfl) T.ValueError (by decide +kernel) rfl) pa_nil))) (by intro _; rfl)))))) (pss_one (ps_ret pe_str)) pss_nil)
    (pss_one (ps_ret (pe_ix ix_list (pv 3) (pe_bm PySem.F.plainAttrs_list PySem.F.slot_list_index PySem.F.type_list_index mt_index (pv 2) (pa_cons pe_bl pa_nil)) (fun _ _ => rfl)))))))), ?_⟩
    try dsimp only [cxOf]
    walk_at "wp"
    walk_at "go"
    refine g_isE kd.i0 ?_
    walk_at "go"
    refine g_isE kd.i1 ?_
    walk_at "go"
    refine g_isE kd.i2 ?_
    walk_at "go"
    refine g_isE kd.i3 ?_
    walk_at "go"
    intro p1 hp1
    walk_at "go"
    refine g_isE kd.i4 ?_
    walk_at "go"
    refine g_isE kd.i5 ?_
    walk_at "go"
    refine g_isE kd.i6 ?_
    walk_at "go"
    refine g_isE kd.i7 ?_
    walk_at "go"
    intro p2 hp2
    refine g_cat (upd_old upd_same hp2) upd_same (by simp) (fun p3 hp3 => ?_)
    have e1 := ((Same.new hp1 (o := .lst [V.bl (decide (0 = j)), V.bl (decide (1 = j)), V.bl (decide (2 = j)), V.bl (decide (3 = j))])).trans (Same.new hp2 (o := .lst [V.bl (decide (4 = j)), V.bl (decide (5 = j)), V.bl (decide (6 = j)), V.bl (decide (7 = j))]))).trans (Same.new hp3 (o := .lst (kindsL j)))
    have u1 : upd (upd (upd H' p1 (.lst [V.bl (decide (0 = j)), V.bl (decide (1 = j)), V.bl (decide (2 = j)), V.bl (decide (3 = j))])) p2 (.lst [V.bl (decide (4 = j)), V.bl (decide (5 = j)), V.bl (decide (6 = j)), V.bl (decide (7 = j))])) p3 (.lst (kindsL j)) p3 = some (.lst (kindsL j)) := upd_same
    show gName _ _ _ (upd (upd (upd H' p1 (.lst [V.bl (decide (0 = j)), V.bl (decide (1 = j)), V.bl (decide (2 = j)), V.bl (decide (3 = j))])) p2 (.lst [V.bl (decide (4 = j)), V.bl (decide (5 = j)), V.bl (decide (6 = j)), V.bl (decide (7 = j))])) p3 (.lst (kindsL j))) _
    generalize upd (upd (upd H' p1 (.lst [V.bl (decide (0 = j)), V.bl (decide (1 = j)), V.bl (decide (2 = j)), V.bl (decide (3 = j))])) p2 (.lst [V.bl (decide (4 = j)), V.bl (decide (5 = j)), V.bl (decide (6 = j)), V.bl (decide (7 = j))])) p3 (.lst (kindsL j)) = H1 at *
    walk_at "go"
    intro p4 hp4
    have e2 := Same.new hp4 (o := .lst (namesL.map V.str))
    walk_at "go"
    refine g_tyL (SqL.of (e2 _ _ u1)) ?_
    walk_at "go"
    refine g_count (SqL.of (e2 _ _ u1)) rfl (kinds_flat j) ?_
    rw [kinds_count j kd.lt]
    walk_at "go"
    refine ite_ndec (fun z => (z rfl).elim) (fun _ => ?_)
    walk_at "go"
    refine g_isET kd.v ?_
    walk_at "go"
    refine g_tyL (SqL.of (e2 _ _ u1)) ?_
    walk_at "go"
    refine g_index (SqL.of (e2 _ _ u1)) rfl (kinds_flat j) (kinds_at j kd.lt) rfl (fun m z hm hz => kinds_no kd.lt m z hm hz) ?_
    walk_at "go"
    refine g_ixL (xs := namesL.map V.str) (SqL.of upd_same) (atI_nat (names_at j kd.lt)) ?_
    walk_at "go"
    exact k _ (e1.trans e2)
  · refine ⟨_, fun cls d σ' H' h' => ?_, rfl, hc, h⟩
    obtain ⟨D, j, rfl, rfl, kd, k⟩ := h'
    exact ⟨true, kd.m, fun _ a ha => ⟨D, j, rfl, rfl, kd, ⟨σ', rfl⟩, k⟩, fun z => by cases z⟩
theorem kind_givesY (X Y : Cx) {ec : Ec} (T : Txt X.K X.mg ec) (e1 : Y.K = X.K) (e2 : Y.mg = X.mg) (g : Addr) (cdg : Value) (q : Str) : LamX.GivesTo Y ["_law_work", "e", "_law_kinds", "_law_words"] "_law_kind" (defScope s__law_kind) g cdg (defBody s__law_kind) "_law_work" q (TKind X.K ec) := by
  rw [← e1]
  exact kind_gives Y (by rw [e1, e2]; exact T) g cdg q
end
end My
namespace My
open PySem PySem.Spec PyProof.Rows L2
open LamX (Tabs TabS CodeO ExtN TabB LamS lamEnv lamCx)
/-! ### where a lambda stands in a text -/
def stAt (l : List Stmt) (i : Nat) : Stmt := l.getD i (.Pass ⟨0, 0, 0, 0⟩)
def forB : Stmt → List Stmt
  | .For _ _ b _ _ => b
  | _ => []
def valE : Stmt → Expr
  | .Assign _ e _ => e
  | .Expr e _ => e
  | _ => .Tuple [] 0 ⟨0, 0, 0, 0⟩
def subE : Expr → Nat → Expr
  | .List es _, i => es.getD i (.Tuple [] 0 ⟨0, 0, 0, 0⟩)
  | .Call _ es _ _, i => es.getD i (.Tuple [] 0 ⟨0, 0, 0, 0⟩)
  | e, _ => e
def lamT : Expr → LamT
  | .Lambda a b s _ => ⟨a, b, s⟩
  | e => ⟨defArgs (.Pass ⟨0, 0, 0, 0⟩), e, defScope (.Pass ⟨0, 0, 0, 0⟩)⟩
/-- pe_lamV, the lambda told by its name -/
theorem pe_lamW {X : Cx} {T : List (Addr × Str)} {c P : Addr} {q : Str} {l : LamT} {pos : Pos} (TB : TabB X.base X.mg c P) (hcode : X.env.code = .ref c) (eq : q = X.env.qual ++ "<lambda>") (mem : (P, q) ∈ T) (hq : ∀ p ∈ T, p.1 = P → p.2 = q) (L : LamS X.env.scope l.scope) (nodef : defaultsOf l.params X.env = ([], [])) :
    PE X (.Lambda l.params l.body l.scope pos) (tMk T q X.env.cells l) := by
  subst eq
  exact pe_lamV TB hcode mem hq L nodef
theorem LamK.as {X : Cx} {s : Shared} {H : Hp} {scope : Scope} {ce : Env} {fp : List Addr} {k : Nat} {l : LamT} {t : XK → TE} (h : LamK X k l t) : LamK ((X.blk s H scope ce fp).as X.N X.env) k l t := ⟨h.sc, h.bind, h.body⟩
/-- [x(e) for ..], e a lambda made in the same frame -/
theorem pe_kinds {X : Cx} {ls : List (LamT × (XK → TE))} {x a q : Str} {k : Nat} {st : Stmt} {Ng : List Str} {e tg iter : Expr} {te : TE} {wi : TI} {g : TG} {scope : Scope} {own : List (Str × Nat)} {p pos pos2 : Pos} {TT : (XK → Hp → VK → Prop) → Hp → VK → Prop} (calm : X.calm = true) (nd : X.N.Nodup) (D : FnL X.K X.mg x st)
    (hb : ∀ (kV doc pm : Value) (an : Option Addr) (cdv ct : Value) (us : List Value), us.length = [a].length → bindArgs (PySem.W.fnOf x x (defArgs st) (defBody st) (defScope st) .none kV doc pm an cdv ct) ⟨us, []⟩ = pure ([a].zip us)) (Sg : FnScope Ng [a] (defScope st)) (hNg : Ng[0]? = some a) (hva : Vis (defScope st) a)
    (hG : ∀ (Y : Cx) (g : Addr) (cdv : Value), Y.K = X.K → Y.mg = X.mg → LamX.GivesTo Y Ng x (defScope st) g cdv (defBody st) a q TT) (eq : q = X.env.qual ++ "<lambda>") (hr : Room (k + 2) X.A) (lks : ∀ p ∈ ls, LamK X k p.1 p.2) (hi : PI X tg iter wi) (ok : BlkOk X.N X.env.scope scope own)
    (gl : ∀ (s : Shared) (H : Hp) (C : Addr) (cl : List (Str × Addr)) (fp : List Addr), Gl (X.blk s H scope (compEnvC scope cl C X.env) fp) x) (hg : ∀ (s : Shared) (H : Hp) (C : Addr) (cl : List (Str × Addr)) (fp : List Addr), PG (X.blk s H scope (compEnvC scope cl C X.env) fp) tg g)
    (he : ∀ (s : Shared) (H : Hp) (C : Addr) (cl : List (Str × Addr)) (fp : List Addr), PE (X.blk s H scope (compEnvC scope cl C X.env) fp) e te) (hst : ∀ env, starEach [e] env = (false, eval e env) :: starEach [] env := by intro _; rfl) (hs : ∀ x, foldedSetIterable iter X.env x = pure x := by intro _; rfl)
    (hdb : (x == ("__debug__" : Str)) = false := by decide) (hd : (a == ("__debug__" : Str)) = false := by decide) (hcd : (a == ("__classdict__" : Str)) = false := by decide) :
    PE X (.ListComp (.Call (.Name x p) [e] [] pos) [⟨tg, iter, [], 0⟩] scope pos2) (fun σ H Q => tLc wi g tYes (tKV te ls q X.env.cells σ TT) (own.map (·.2)) σ H Q) :=
  pe_lcX (te := fun σ => tKV te ls q X.env.cells σ TT) calm nd hi ok hg (fun pins σ s H C cl fp I hfp => pe_kindV (Nd := X.N) (ed := X.env) (σd := σ) D (gl s H C cl fp) hb Sg hNg hva (fun g cdv => hG _ g cdv rfl rfl) eq hr (fun p hp => (lks p hp).as) I.len
    (fun _ _ _ _ I2 p hp => (CellsAt.of I (lks p hp).sc).un I2.base (fun y c hc z => (hfp c z).2.2.2.2.1 y c hc rfl)) (he s H C cl fp) (hst _) hdb hd hcd) hs
/-! ### a list of lambdas -/
/-- behind H0, in which D was not: the list at D holds these lambdas, made in a frame with such cells -/
structure WorksAt (T : List (Addr × Str)) (q : Str) (cells : List (Str × Addr)) (H0 H : Hp) (D : Addr) (fs : List (Addr × Addr × LamT)) : Prop where
  l : H D = some (.lst (fs.map fun z => V.ref z.1))
  at_ : ∀ z ∈ fs, H z.1 = some (LamO z.1 z.2.1 q (cloFrom cells z.2.2.scope.names []) z.2.2) ∧ H z.2.1 = some (CodeO z.2.1 q)
  tb : Tabs T H
  kp : ExtN H0 H
  nw : ∀ o, H0 D = some o → ∃ ps, o = .tbl ps
theorem lamO_lst {f d : Addr} {q : Str} {cl : List (Str × Addr)} {l : LamT} (xs : List V) : LamO f d q cl l ≠ .lst xs := fun z => by
  unfold LamO at z
  cases z
theorem codeO_lst {d : Addr} {q : Str} (xs : List V) : CodeO d q ≠ .lst xs := fun z => by
  unfold LamX.CodeO at z
  cases z
section
variable {T : List (Addr × Str)} {q : Str} {cells : List (Str × Addr)} {H0 H : Hp} {D : Addr} {fs : List (Addr × Addr × LamT)} {l : LamT} {σ : L2.St} {K : PySem.W.Frag} {ec : Ec}
theorem g_works0 {Q : VK} (hT : Tabs T H) (k : ∀ (D f d : Addr) (H' : Hp), WorksAt T q cells H H' D [(f, d, l)] → Q (.ref D) H') : tLst (tCons (tMk T q cells l) tNil) σ H Q := by
  refine g_lst (g_cons ⟨hT, fun f d H1 e hT1 nf hd => g_nil ⟨by simp [sizeLine], fun D nD => ?_⟩⟩)
  have nDf : f ≠ D := ne_of_none (upd_same (H := H1) (a := f) (o := LamO f d q (cloFrom cells l.scope.names []) l)) nD
  have nD1 : H1 D = none := by rw [← upd_ne nDf.symm (H := H1) (o := LamO f d q (cloFrom cells l.scope.names []) l)]; exact nD
  have s1 : Same H1 (upd (upd H1 f (LamO f d q (cloFrom cells l.scope.names []) l)) D (.lst [.ref f])) := (Same.new nf).trans (Same.new nD)
  refine k D f d _ ⟨upd_same, fun z hz => ?_, tabs_same hT1 s1, e.trans (extN_same s1), ?_⟩
  · rw [List.mem_singleton.mp hz]
    exact ⟨by rw [upd_ne nDf, upd_same], s1 _ _ hd⟩
  · intro o h
    cases o with
    | tbl ps => exact ⟨ps, rfl⟩
    | _ =>
      rw [e _ _ h (fun ps z => by cases z)] at nD1
      cases nD1
theorem g_works (W : WorksAt T q cells H0 H D fs) {j : Nat} (hv : σ[j]? = some (some (.ref D))) (hl : fs.length < 1000) {Q : VK} (k : ∀ (f d : Addr) (H' : Hp), WorksAt T q cells H0 H' D (fs ++ [(f, d, l)]) → Q .non H') :
    tBM K "list" rAppend (tVar j) (tCons (tMk T q cells l) tNil) σ H Q := by
  refine g_bm ⟨_, hv, g_tyL (SqL.of W.l) (g_cons ⟨W.tb, fun f d H1 e hT1 nf hd => g_nil ?_⟩)⟩
  have s1 : Same H1 (upd H1 f (LamO f d q (cloFrom cells l.scope.names []) l)) := Same.new nf
  have lD := e _ _ W.l (fun _ z => by cases z)
  refine g_app (s1 _ _ lD) (by rw [List.length_map]; omega) (k f d _ ⟨by rw [upd_same, List.map_append]; rfl, fun z hz => ?_, tabs_lst' (tabs_same hT1 s1) (s1 _ _ lD), fun b o hb hn => ?_, W.nw⟩)
  · have old : ∀ {b o}, upd H1 f (LamO f d q (cloFrom cells l.scope.names []) l) b = some o → (∀ xs, o ≠ .lst xs) → upd (upd H1 f (LamO f d q (cloFrom cells l.scope.names []) l)) D (.lst (fs.map (fun z => V.ref z.1) ++ [.ref f])) b = some o := fun {b o} hb hn => by
      rw [upd_ne (fun z => by rw [z, s1 _ _ lD] at hb; exact hn _ (Option.some.inj hb).symm)]
      exact hb
    rcases List.mem_append.mp hz with hz | hz
    · obtain ⟨h1, h2⟩ := W.at_ z hz
      exact ⟨old (s1 _ _ (e _ _ h1 lamO_tbl)) lamO_lst, old (s1 _ _ (e _ _ h2 LamX.codeO_ne)) codeO_lst⟩
    · rw [List.mem_singleton.mp hz]
      exact ⟨old upd_same lamO_lst, old (s1 _ _ hd) codeO_lst⟩
  · rw [upd_ne (fun z => by rw [z] at hb; obtain ⟨ps, hp⟩ := W.nw _ hb; exact hn ps hp)]
    exact s1 _ _ (e _ _ (W.kp _ _ hb hn) hn)
where
  tabs_lst' {T : List (Addr × Str)} {H : Hp} {p : Addr} {xs : List V} {o : HO} (t : Tabs T H) (hp : H p = some (.lst xs)) : Tabs T (upd H p o) :=
    tabs_kp t (fun ps z => by rw [hp] at z; cases z) (fun c q z => by rw [hp] at z; unfold CodeO at z; cases z) Kp.upd
/-- a lambda of the list tells w -/
structure KindAt (K : PySem.W.Frag) (ec : Ec) (T : List (Addr × Str)) (ls : List (LamT × (XK → TE))) (q : Str) (cells : List (Str × Addr)) (σ : L2.St) (H : Hp) (v : V) (w : Str) : Prop where
  ex : ∃ (f d : Addr) (l : LamT) (t : XK → TE), v = .ref f ∧ (l, t) ∈ ls ∧ H d = some (CodeO d q) ∧ H f = some (LamO f d q (cloFrom cells l.scope.names []) l) ∧
    ∀ (H' : Hp) (Q' : VK), ExtN H H' → Tabs T H' → (∀ H'', ExtN H' H'' → Tabs T H'' → Q' (.str w) H'') → t (EKind K ec Q') σ H' Q'
/-- the tables, none of it at D -/
def TabsN (T : List (Addr × Str)) (D : Addr) (H : Hp) : Prop := ∀ p ∈ T, p.1 ≠ D ∧ ∃ ps : Array Value, H p.1 = some (.tbl ps) ∧ TriplesOk ps.toList ∧ ∀ (pos : Pos) (cv : Value), codeAmong pos ps.toList = some cv → ∃ c, cv = .ref c ∧ c ≠ D ∧ H c = some (CodeO c p.2)
theorem TabsN.upd {o : HO} (t : TabsN T D H) : TabsN T D (L2.upd H D o) := fun p hp => by
  obtain ⟨n, ps, e1, e2, e3⟩ := t p hp
  refine ⟨n, ps, by rw [upd_ne n]; exact e1, e2, fun pos cv hc => ?_⟩
  obtain ⟨c, z1, z2, z3⟩ := e3 pos cv hc
  exact ⟨c, z1, z2, by rw [upd_ne z2]; exact z3⟩
theorem TabsN.tabs (t : TabsN T D H) : Tabs T H := fun p hp => by
  obtain ⟨n, ps, e1, e2, e3⟩ := t p hp
  refine ⟨ps, e1, e2, fun pos cv hc => ?_⟩
  obtain ⟨c, z1, z2, z3⟩ := e3 pos cv hc
  exact ⟨c, z1, z3⟩
theorem TabsN.of {xs : List V} (t : Tabs T H) (h : H D = some (.lst xs) ∨ H D = none) : TabsN T D H := fun p hp => by
  obtain ⟨ps, e1, e2, e3⟩ := t p hp
  refine ⟨fun z => ?_, ps, e1, e2, fun pos cv hc => ?_⟩
  · rw [z] at e1
    rcases h with h | h <;> rw [h] at e1 <;> cases e1
  · obtain ⟨c, z1, z2⟩ := e3 pos cv hc
    refine ⟨c, z1, fun z => ?_, z2⟩
    rw [z] at z2
    rcases h with h | h <;> rw [h] at z2
    · exact codeO_lst xs (Option.some.inj z2).symm
    · cases z2
theorem g_kinds {ls : List (LamT × (XK → TE))} {xs : List V} {ws : List Str} {i j : Nat} {Q : VK} (hT : Tabs T H) (hD : H D = some (.lst xs)) (hv : σ[j]? = some (some (.ref D))) (hi : i < σ.length) (hl : xs.length = ws.length) (hs : xs.length < 1000)
    (hk : ∀ (m : Nat) x w, xs[m]? = some x → ws[m]? = some w → KindAt K ec T ls q cells σ H x w) (k : ∀ (D' : Addr) (H' : Hp), ExtN H H' → Tabs T H' → H' D' = some (.lst (ws.map V.str)) → Q (.ref D') H') :
    tLc (iList K (tVar j)) (gName i) tYes (tKV (tVar i) ls q cells σ (TKind K ec)) [i] σ H Q := by
  refine g_lc (g_iL ⟨_, hv, D, rfl, ⟨_, SqL.of hD⟩, fun D' nD => ?_⟩)
  have keep : ∀ {H1 : Hp} {o : HO}, ExtN H H1 → ExtN H (upd H1 D' o) := fun {H1 o} e b u hb hn => by
    rw [upd_ne (ne_of_none hb nD)]
    exact e _ _ hb hn
  refine lc_L (K := K) (a := D) (xs := xs) (fun m acc H1 => ExtN H H1 ∧ TabsN T D' H1 ∧ acc = (ws.take m).map V.str) (fun m acc H1 o h => ⟨keep h.1, h.2.1.upd, h.2.2⟩) ⟨ExtN.refl H, TabsN.of (xs := []) hT (.inr nD), rfl⟩ (fun m acc H1 h => SqL.of (h.1 _ _ hD fun _ z => by cases z)) ?_ ?_
  · rintro m x acc H1 hx ⟨e1, t1, rfl⟩ hacc hle
    have hm : m < ws.length := by
      obtain ⟨z, _⟩ := List.getElem?_eq_some_iff.mp hx
      omega
    obtain ⟨w, hw⟩ : ∃ w, ws[m]? = some w := ⟨ws[m], by simp [hm]⟩
    obtain ⟨f, d, l, t, rfl, mem, hd, hf, tell⟩ := (hk m x w hx hw).ex
    have w1 : wipe σ [i] = σ.set i none := rfl
    rw [w1]
    have hset : ((σ.set i none).set i (some (V.ref f)))[i]? = some (some (V.ref f)) := by
      rw [List.getElem?_set_self (by rw [List.length_set]; exact hi)]
    refine ⟨by show ((σ.set i none).set i (some (V.ref f))).set i none = _; rw [List.set_set, List.set_set], g_yes ?_⟩
    refine iteT ⟨_, hset, f, d, l, t, rfl, mem, e1 _ _ hd LamX.codeO_ne, e1 _ _ hf lamO_tbl, e1 _ _ hf lamO_tbl, ?_⟩
    refine tell _ _ e1 t1.tabs fun H2 e2 t2 => ?_
    have h2 := e2 _ _ hacc (fun _ z => by cases z)
    have tn : TabsN T D' H2 := TabsN.of t2 (.inl h2)
    refine lc_leaf (J := fun m acc H1 => ExtN H H1 ∧ TabsN T D' H1 ∧ acc = (ws.take m).map V.str) (fun m acc H1 o h => ⟨keep h.1, h.2.1.upd, h.2.2⟩) h2 hle (by omega) ⟨e1.trans e2, tn, ?_⟩
    rw [take_more hw, List.map_append]
    rfl
  · rintro acc H1 ⟨e1, t1, rfl⟩ hacc
    refine k D' H1 e1 t1.tabs ?_
    rw [hacc, hl, List.take_length]
end
end My
namespace My
open PySem PySem.Spec PyProof.Rows L2
open LamX (Tabs TabS CodeO ExtN TabB)
def del (H : Hp) (D : Addr) : Hp := fun b => if b = D then none else H b
section
variable {T : List (Addr × Str)} {q : Str} {cells : List (Str × Addr)} {H0 H H' : Hp} {D a s : Addr} {fs : List (Addr × Addr × LamT)} {K : PySem.W.Frag}
theorem del_ne {b : Addr} (h : b ≠ D) : del H D b = H b := if_neg h
theorem WorksAt.same (W : WorksAt T q cells H0 H D fs) (e : Same H H') : WorksAt T q cells H0 H' D fs :=
  ⟨e _ _ W.l, fun z hz => ⟨e _ _ (W.at_ z hz).1, e _ _ (W.at_ z hz).2⟩, tabs_same W.tb e, W.kp.trans (extN_same e), W.nw⟩
theorem WorksAt.na (W : WorksAt T q cells H0 H D fs) (d : Dr K a s H0) : D ≠ a := by
  intro z
  obtain ⟨ns, i, m, l, h1, _⟩ := d.ex
  rw [← z] at h1
  obtain ⟨ps, hp⟩ := W.nw _ h1
  cases hp
/-- a def that draws, in between -/
theorem WorksAt.turn (W : WorksAt T q cells H0 H D fs) (ne : fs ≠ []) (d : Dr K a s H0) (g : Go K a s H H') : WorksAt T q cells (del H' D) H' D fs ∧ Dr K a s (del H' D) := by
  have d1 : Dr K a s H := d.ext W.kp
  have na := W.na d
  have lD := g.at W.l na
  obtain ⟨ns, i, m, l, h1, _⟩ := d1.ex
  refine ⟨⟨lD, fun z hz => ?_, tabs_go W.tb d1 g, fun b o hb _ => ?_, fun o ho => ?_⟩, ?_⟩
  · obtain ⟨w1, w2⟩ := W.at_ z hz
    exact ⟨g.at w1 (ne_of w1 h1 (lamO_lst _)), g.at w2 (ne_of w2 h1 (codeO_lst _))⟩
  · by_cases e : b = D
    · rw [e, del, if_pos rfl] at hb; cases hb
    · rw [del_ne e] at hb; exact hb
  · rw [del, if_pos rfl] at ho; cases ho
  · obtain ⟨ns', i', m', l', k1, k2, k3, k4⟩ := g.dr.ex
    refine ⟨ns', i', m', l', by rw [del_ne na.symm]; exact k1, fun o => ?_, k3, k4⟩
    have key : ∀ u, upd H' a o s = some u → (∀ x r, u ≠ .lst (.ref x :: r)) → upd (del H' D) a o s = some u := fun u e n => by
      by_cases z : s = a
      · subst z; rw [upd_same] at e ⊢; exact e
      · rw [upd_ne z] at e ⊢
        rw [del_ne (fun y => ?_)]
        · exact e
        · rw [y, lD] at e
          cases fs with
          | nil => exact ne rfl
          | cons f0 fs => exact n _ _ (Option.some.inj e).symm
    rcases k2 o with (h | ⟨u, h⟩) | h
    · refine .inl (.inl (key _ h fun x r z => ?_))
      have z := HO.lst.inj z
      cases ns' with
      | nil => cases z
      | cons n0 ns' => injection z with z; cases z
    · exact .inl (.inr ⟨u, key _ h (fun x r z => by cases z)⟩)
    · exact .inr h
theorem g_rep1 {p : Addr} {v : V} {n : Nat} {Q : VK} (h : H p = some (.lst [v])) (hn : n ≤ 1000) (k : ∀ l, H l = none → Q (.ref l) (upd H l (.lst (List.replicate n v)))) : rRep (.ref p) (.int (n : Int)) H Q := by
  have e : (List.replicate ((n : Int)).toNat [v]).flatten = List.replicate n v := by simp
  refine ⟨p, (n : Int), [v], rfl, rfl, h, by omega, by omega, ?_, fun l hl => ?_⟩
  · show 1 * ((n : Int)).toNat ≤ sizeLine
    exact sz (by simp; omega)
  · rw [e]
    exact k l hl
end
end My
namespace My
open PySem PySem.Spec PyProof.Rows L2
section
variable {P : Program} {w : World} {K : PySem.W.Frag} {mg : Str → Option Value} {base : Heap} {ec : Ec}
theorem sc__law_same : FnScope ["_law_found", "_law_due", "_law_k"] ["_law_found", "_law_due"] (defScope s__law_same) := ⟨rfl, rfl, rfl, by decide +kernel, rfl, by decide +kernel, by decide +kernel⟩
theorem same_step (T : Txt K mg ec) (D : Fn K mg "_law_same" s__law_same) (d : Nat) (c__law_same : Knows P w K mg base d "_law_same" ["_law_found", "_law_due"] (sp_samep d)) : Knows P w K mg base (d + 1) "_law_same" ["_law_found", "_law_due"] (sp_same d) := by
  refine Knows.mk' D sc__law_same (fun _ _ _ _ _ _ us hl => match us, hl with | [_, _], _ => rfl) (fun vs H Q E h => ?_) (fun f cdv A outer s H vs Q E hr h => ?_)
  · obtain ⟨x, y, rfl, _⟩ := h; rfl
  · obtain ⟨x, y, rfl, hsd, k⟩ := h
    refine ⟨_, (pss_cons (ps_if (pt_val (pe_callB call_isiT (by rfl) T.isinstance (by decide +kernel) (pa_cons (pv 1) (pa_cons (pe_tup (pa_cons (pe_bltn (v := .ty "tuple") (u := .type "tuple") (by rfl) T.tuple (by decide +kernel) rfl) (pa_cons (pe_bltn (v := .ty "list") (u := .type "list") (by rfl) T.list (by decide +kernel) rfl) pa_nil))) pa_nil))) (by intro _; rfl)) (pss_cons (ps_if (PW.pt (pw_or (pt_not (pt_val (pe_callB call_isiT (by rfl) T.isinstance (by decide +kernel) (pa_cons (pv 0) (pa_cons (pe_tup (pa_cons (pe_bltn (v := .ty "tuple") (u := .type "tuple") (by rfl) T.tuple (by decide +kernel) rfl) (pa_cons (pe_bltn (v := .ty "list") (u := .type "list") (by rfl) T.list (by decide +kernel) rfl) pa_nil))) pa_nil))) (by intro _; rfl))) (pw_or1 (pt_cmpR op_ne (pe_callB call_isi (by rfl) T.isinstance (by decide +kernel) (pa_cons (pv 0) (pa_cons (pe_bltn (v := .ty "list") (u := .type "list") (by rfl) T.list (by decide +kernel) rfl) pa_nil))) (pe_callB call_isi (by rfl) T.isinstance (by decide +kernel) (pa_cons (pv 1) (pa_cons (pe_bltn (v := .ty "list") (u := .type "list") (by rfl) T.list (by decide +kernel) rfl) pa_nil))) (nomark _))))) (pss_one (ps_ret pe_bl)) pss_nil)
    (pss_cons (ps_if (pt_cmpR op_ne (pe_callB call_lenN (by rfl) T.len PySem.boot_len (pa_cons (pv 0) pa_nil)) (pe_callB call_lenN (by rfl) T.len PySem.boot_len (pa_cons (pv 1) pa_nil)) (nomark _)) (pss_one (ps_ret pe_bl)) pss_nil)
    (pss_one (ps_ret (pe_cmpR (op_eqD hr.units) (pe_lc (own := [("_law_k", 2)]) (g := gName 2) rfl sc__law_same.nd (pi_range1 (by rfl) T.range (pa_cons (pe_callB call_lenN (by rfl) T.len PySem.boot_len (pa_cons (pv 1) pa_nil)) pa_nil)) (blkOk_by (own := [("_law_k", 2)]) (N := ["_law_found", "_law_due", "_law_k"]) (sc := defScope s__law_same) (by decide +kernel)) (fun _ _ _ _ _ => (pg_name (i := 2) sc__law_same.nd rfl (Or.inl rfl))) (fun _ _ _ _ _ => (pts_one (pt_not (pt_val (pe_callN c__law_same (hr.mono (by first | decide | omega)) passL (pa_cons (pe_ix (r := rIx K) ix_seq (pv 0) (pv 2) (fun _ _ => rfl)) (pa_cons (pe_ix (r := rIx K) ix_seq (pv 1) (pv 2) (fun _ _ => rfl)) pa_nil))) (by intro _; rfl))))) (fun _ _ _ _ _ => (pv 2))) (pe_lst pa_nil) (nomark _)))))) pss_nil)
    (pss_cons (ps_if (pt_cmpR op_isNN (pv 1) pe_non (nomark _)) (pss_one (ps_ret (pe_cmpR op_isNN (pv 0) pe_non (nomark _)))) pss_nil)
    (pss_cons (ps_if (pt_val (pe_callB call_isi (by rfl) T.isinstance (by decide +kernel) (pa_cons (pv 1) (pa_cons (pe_bltn (v := .ty "str") (u := .type "str") (by rfl) T.str (by decide +kernel) rfl) pa_nil))) (by intro _; rfl)) (pss_one (ps_ret (pe_and (pe_callB call_isi (by rfl) T.isinstance (by decide +kernel) (pa_cons (pv 0) (pa_cons (pe_bltn (v := .ty "str") (u := .type "str") (by rfl) T.str (by decide +kernel) rfl) pa_nil))) (pe_one (pe_cmpR op_eq (pv 0) (pv 1) (nomark _)))))) pss_nil)
    (pss_cons (ps_if (PW.pt (pw_or (pt_val (pe_callB call_isi (by rfl) T.isinstance (by decide +kernel) (pa_cons (pv 1) (pa_cons (pe_bltn (v := .ty "bool") (u := .type "bool") (by rfl) T.bool (by decide +kernel) rfl) pa_nil))) (by intro _; rfl)) (pw_or1 (pt_val (pe_callB call_isi (by rfl) T.isinstance (by decide +kernel) (pa_cons (pv 0) (pa_cons (pe_bltn (v := .ty "bool") (u := .type "bool") (by rfl) T.bool (by decide +kernel) rfl) pa_nil))) (by intro _; rfl))))) (pss_one (ps_ret (pe_and (pe_callB call_isi (by rfl) T.isinstance (by decide +kernel) (pa_cons (pv 1) (pa_cons (pe_bltn (v := .ty "bool") (u := .type "bool") (by rfl) T.bool (by decide +kernel) rfl) pa_nil))) (pe_and (pe_callB call_isi (by rfl) T.isinstance (by decide +kernel) (pa_cons (pv 0) (pa_cons (pe_bltn (v := .ty "bool") (u := .type "bool") (by rfl) T.bool (by decide +kernel) rfl) pa_nil))) (pe_one (pe_cmpR op_eq (pv 0) (pv 1) (nomark _))))))) pss_nil)
    (pss_one (ps_ret (pe_and (pe_callB call_isi (by rfl) T.isinstance (by decide +kernel) (pa_cons (pv 0) (pa_cons (pe_bltn (v := .ty "int") (u := .type "int") (by rfl) T.int (by decide +kernel) rfl) pa_nil))) (pe_one (pe_cmpR op_eq (pv 0) (pv 1) (nomark _)))))))))), ?_⟩
    refine g_start (σ := [some _, some _, none]) rfl ?_
    try dsimp only [cxOf]
    walk_at "go"
    intro tp htp
    have e1 : Same H (upd H tp (.tup [.ty "tuple", .ty "list"])) := Same.new htp
    walk_at "go"
    cases hsd with
    | non =>
      refine g_isiTL (.base .non) upd_same (r1 := false) (r2 := false) (r := false) (by decide +kernel) (by decide +kernel) rfl ?_
      walk_at "go"
      try refine ite_dec (fun _ => ?_) (fun z => (z rfl).elim)
      walk_at "go"
      rw [decide_eq_true rfl]
      exact k _ e1
    | str z =>
      refine g_isiTL (.base (.str z)) upd_same (r1 := false) (r2 := false) (r := false) (by decide +kernel) (by decide +kernel) rfl ?_
      walk_at "go"
      refine ite_dec (fun z => nomatch z) (fun _ => ?_)
      walk_at "go"
      refine g_isi (.base (.str z)) (r := true) (by decide +kernel) ?_
      walk_at "go"
      refine g_isi (.base (.str z)) (r := true) (by decide +kernel) ?_
      walk_at "go"
      rw [decide_eq_true rfl]
      exact k _ e1
    | bl z =>
      refine g_isiTL (.base (.bl z)) upd_same (r1 := false) (r2 := false) (r := false) (by decide +kernel) (by decide +kernel) rfl ?_
      walk_at "go"
      refine ite_dec (fun z => nomatch z) (fun _ => ?_)
      walk_at "go"
      refine g_isi (.base (.bl z)) (r := false) (by decide +kernel) ?_
      walk_at "go"
      refine g_isi (.base (.bl z)) (r := true) (by decide +kernel) ?_
      walk_at "go"
      refine g_isi (.base (.bl z)) (r := true) (by decide +kernel) ?_
      walk_at "go"
      refine g_isi (.base (.bl z)) (r := true) (by decide +kernel) ?_
      walk_at "go"
      rw [decide_eq_true rfl]
      exact k _ e1
    | int z =>
      refine g_isiTL (.base (.int z)) upd_same (r1 := false) (r2 := false) (r := false) (by decide +kernel) (by decide +kernel) rfl ?_
      walk_at "go"
      refine ite_dec (fun z => nomatch z) (fun _ => ?_)
      walk_at "go"
      refine g_isi (.base (.int z)) (r := false) (by decide +kernel) ?_
      walk_at "go"
      refine g_isi (.base (.int z)) (r := false) (by decide +kernel) ?_
      walk_at "go"
      refine g_isi (.base (.int z)) (r := false) (by decide +kernel) ?_
      walk_at "go"
      refine g_isi (.base (.int z)) (r := true) (by decide +kernel) ?_
      walk_at "go"
      rw [decide_eq_true rfl]
      exact k _ e1
    | @lst d a b xs ys h1 h2 hl hz hi =>
      refine g_isiTL (.base (.lst (e1 _ _ h2))) upd_same (r1 := false) (r2 := true) (r := true) (by decide +kernel) (by decide +kernel) rfl ?_
      walk_at "go"
      intro tq htq
      have e2 := e1.trans (Same.new (o := .tup [.ty "tuple", .ty "list"]) htq)
      walk_at "go"
      refine g_isiTL (.base (.lst (e2 _ _ h1))) upd_same (r1 := false) (r2 := true) (r := true) (by decide +kernel) (by decide +kernel) rfl ?_
      walk_at "go"
      refine g_isi (.base (.lst (e2 _ _ h1))) (r := true) (by decide +kernel) ?_
      walk_at "go"
      refine g_isi (.base (.lst (e2 _ _ h2))) (r := true) (by decide +kernel) ?_
      walk_at "go"
      try refine ite_ndec (fun z => (z rfl).elim) (fun _ => ?_)
      walk_at "go"
      refine g_lenL (SqL.of (e2 _ _ h1)) ?_
      walk_at "go"
      refine g_lenL (SqL.of (e2 _ _ h2)) ?_
      walk_at "go"
      rw [hl]
      try refine ite_ndec (fun z => (z rfl).elim) (fun _ => ?_)
      walk_at "go"
      refine g_lenL (SqL.of (e2 _ _ h2)) ?_
      walk_at "go"
      refine ⟨by omega, by omega, fun L hL => lc_R 0 _ (fun i acc H' => acc = [] ∧ Same H H' ∧ Same (upd (upd H tp (.tup [.ty "tuple", .ty "list"])) tq (.tup [.ty "tuple", .ty "list"])) H') (fun i acc H' o h => ⟨h.1, Same.mut h.2.1 (e2.free hL), Same.mut h.2.2 hL⟩) ⟨rfl, e2, Same.refl _⟩ ?_ ?_⟩
      · rintro i acc H3 hil ⟨rfl, e3, e3'⟩ hDl hal
        walk_at "wp"
        walk_at "go"
        refine ⟨rfl, ?_⟩
        walk_at "go"
        have hil2 : i < ys.length := by omega
        have hil1 : i < xs.length := by omega
        refine Or.inl (g_ixL (v := xs[i]) (SqL.of (e3 _ _ h1)) (by rw [Int.zero_add]; exact atI_nat (List.getElem?_eq_getElem hil1)) ?_)
        walk_at "go"
        refine Or.inl (g_ixL (v := ys[i]) (SqL.of (e3 _ _ h2)) (by rw [Int.zero_add]; exact atI_nat (List.getElem?_eq_getElem hil2)) ?_)
        walk_at "go"
        refine ⟨_, _, rfl, (hi i _ _ (List.getElem?_eq_getElem hil1) (List.getElem?_eq_getElem hil2)).same e3, fun H4 e4 => ?_⟩
        walk_at "go"
        exact lc_skip (e4 _ _ hDl) hal ⟨rfl, e3.trans e4, e3'.trans e4⟩
      · rintro acc H3 ⟨rfl, e3, _⟩ hDl
        walk_at "go"
        intro z hz
        refine g_eqInts (ns := []) (ms := []) (SqL.of (by walk_at "hp")) (SqL.of upd_same) ?_
        rw [decide_eq_true rfl]
        exact k _ (e3.trans (Same.new hz))
    | @tup d a b xs ys h1 h2 hl hz hi =>
      refine g_isiTL (.base (.tup (e1 _ _ h2))) upd_same (r1 := true) (r2 := false) (r := true) (by decide +kernel) (by decide +kernel) rfl ?_
      walk_at "go"
      intro tq htq
      have e2 := e1.trans (Same.new (o := .tup [.ty "tuple", .ty "list"]) htq)
      walk_at "go"
      refine g_isiTL (.base (.tup (e2 _ _ h1))) upd_same (r1 := true) (r2 := false) (r := true) (by decide +kernel) (by decide +kernel) rfl ?_
      walk_at "go"
      refine g_isi (.base (.tup (e2 _ _ h1))) (r := false) (by decide +kernel) ?_
      walk_at "go"
      refine g_isi (.base (.tup (e2 _ _ h2))) (r := false) (by decide +kernel) ?_
      walk_at "go"
      try refine ite_ndec (fun z => (z rfl).elim) (fun _ => ?_)
      walk_at "go"
      refine g_lenT (SqT.of (e2 _ _ h1)) ?_
      walk_at "go"
      refine g_lenT (SqT.of (e2 _ _ h2)) ?_
      walk_at "go"
      rw [hl]
      try refine ite_ndec (fun z => (z rfl).elim) (fun _ => ?_)
      walk_at "go"
      refine g_lenT (SqT.of (e2 _ _ h2)) ?_
      walk_at "go"
      refine ⟨by omega, by omega, fun L hL => lc_R 0 _ (fun i acc H' => acc = [] ∧ Same H H' ∧ Same (upd (upd H tp (.tup [.ty "tuple", .ty "list"])) tq (.tup [.ty "tuple", .ty "list"])) H') (fun i acc H' o h => ⟨h.1, Same.mut h.2.1 (e2.free hL), Same.mut h.2.2 hL⟩) ⟨rfl, e2, Same.refl _⟩ ?_ ?_⟩
      · rintro i acc H3 hil ⟨rfl, e3, e3'⟩ hDl hal
        walk_at "wp"
        walk_at "go"
        refine ⟨rfl, ?_⟩
        walk_at "go"
        have hil2 : i < ys.length := by omega
        have hil1 : i < xs.length := by omega
        refine Or.inr (Or.inl (g_ixT (v := xs[i]) (SqT.of (e3 _ _ h1)) (by rw [Int.zero_add]; exact atI_nat (List.getElem?_eq_getElem hil1)) ?_))
        walk_at "go"
        refine Or.inr (Or.inl (g_ixT (v := ys[i]) (SqT.of (e3 _ _ h2)) (by rw [Int.zero_add]; exact atI_nat (List.getElem?_eq_getElem hil2)) ?_))
        walk_at "go"
        refine ⟨_, _, rfl, (hi i _ _ (List.getElem?_eq_getElem hil1) (List.getElem?_eq_getElem hil2)).same e3, fun H4 e4 => ?_⟩
        walk_at "go"
        exact lc_skip (e4 _ _ hDl) hal ⟨rfl, e3.trans e4, e3'.trans e4⟩
      · rintro acc H3 ⟨rfl, e3, _⟩ hDl
        walk_at "go"
        intro z hz
        refine g_eqInts (ns := []) (ms := []) (SqL.of (by walk_at "hp")) (SqL.of upd_same) ?_
        rw [decide_eq_true rfl]
        exact k _ (e3.trans (Same.new hz))
theorem ok_same0 (T : Txt K mg ec) (D : Fn K mg "_law_same" s__law_same) : Knows P w K mg base 1 "_law_same" ["_law_found", "_law_due"] (sp_same 0) := same_step T D 0 (knows_false D (fun _ _ _ _ _ _ us hl => match us, hl with | [_, _], _ => rfl))
theorem ok_same1 (T : Txt K mg ec) (D : Fn K mg "_law_same" s__law_same) : Knows P w K mg base 2 "_law_same" ["_law_found", "_law_due"] (sp_same 1) := same_step T D 1 (ok_same0 T D)
end
end My
namespace My
open PySem PySem.Spec PyProof.Rows L2
/-! ### promises: what the laws about rules draw -/
def sp_rule (K : PySem.W.Frag) : Sp := fun vs H Q _ => ∃ (a s : Addr) (n : Int), vs = [.ref a, .int n] ∧ Dr K a s H ∧ Wh n ∧ ∀ r q H', RuleOk n r → H' q = some (.tup (ruleV r)) → Go K a s H H' → Q (.ref q) H'
def sp_time (K : PySem.W.Frag) : Sp := fun vs H Q _ => ∃ (a s : Addr), vs = [.ref a] ∧ Dr K a s H ∧ ∀ t H', Go K a s H H' → Q (.int t) H'
def sp_lbound : Sp := fun vs H Q _ => ∃ (n : Int) (q : Addr) (r : Rule), vs = [.int n, .ref q] ∧ H q = some (.tup (ruleV r)) ∧ Wh n ∧ RuleOk n r ∧ ∀ p H', Same H H' → H' p = some (.tup [.int (loR n r), .int (hiR n r)]) → Q (.ref p) H'
def sp_near_bound (K : PySem.W.Frag) : Sp := fun vs H Q _ => ∃ (a s : Addr) (n : Int) (q : Addr) (r : Rule), vs = [.ref a, .int n, .ref q] ∧ Dr K a s H ∧ H q = some (.tup (ruleV r)) ∧ Wh n ∧ RuleOk n r ∧ ∀ t H', Go K a s H H' → Q (.int t) H'
theorem wide_R {n : Int} {r : Rule} (hw : Wh n) (hr : RuleOk n r) : Mn (hiR n r - loR n r + 1) := by
  have h1 := hw.1
  have h2 := hw.2
  cases r with
  | up l => exact ⟨by show 0 < l + n - 1 - l + 1; omega, by show l + n - 1 - l + 1 < _; omega⟩
  | near => exact ⟨by show 0 < n / 2 - (0 - (n - 1) / 2) + 1; omega, by show n / 2 - (0 - (n - 1) / 2) + 1 < _; omega⟩
  | pair o =>
    have o1 := hr.1
    have o2 := hr.2
    have a1 := lcmI_pos (n := n) (o := o) (by omega) (by omega)
    have a2 := lcmI_le (n := n) (o := o) (by omega) (by omega)
    have a3 : n * o ≤ 1000000000000 * 1000000000000 := Int.mul_le_mul h2 o2 (by omega) (by decide)
    have a4 : (1000000000000 * 1000000000000 : Int) < 2 ^ 150 := by decide
    exact ⟨by show 0 < lcmI n o - 1 - 0 + 1; omega, by show lcmI n o - 1 - 0 + 1 < _; omega⟩
  | about f =>
    have o1 := hr.1
    have o2 := hr.2
    exact ⟨by show 0 < f - (0 - f) + 1; omega, by show f - (0 - f) + 1 < _; omega⟩
section
variable {K : PySem.W.Frag} {a s p : Addr} {H : Hp} {m : Int} {E : XK} {Q : VK}
/-- one of a new list, drawn -/
theorem g_pick {xs : List V} (hp : H p = none) (hD : Dr K a s H) (hm : Mn m) (hl : m = (xs.length : Int)) (q : ∀ v H', v ∈ xs → Go K a s (upd H p (.lst xs)) H' → Go K a s H H' → H' p = some (.lst xs) → Q v H') :
    sp_drawn K [.ref a, .int m] (upd H p (.lst xs)) (fun v H1 => rIxL K (.ref p) v H1 Q) E := by
  refine ⟨a, s, m, rfl, hD.same (Same.new hp), hm, fun r H1 h0 h1 g => ?_⟩
  have hne : p ≠ a := hD.ne hp
  have hl1 := g.at upd_same hne
  exact g_ixAny (SqL.of hl1) h0 (by omega) fun v hv => q v H1 hv g (g.new hp) hl1
theorem g_pickI {zs : List Int} (hp : H p = none) (hD : Dr K a s H) (hm : Mn m) (hl : m = (zs.length : Int)) (q : ∀ z H', z ∈ zs → Go K a s H H' → Q (.int z) H') :
    sp_drawn K [.ref a, .int m] (upd H p (.lst (zs.map V.int))) (fun v H1 => rIxL K (.ref p) v H1 Q) E :=
  g_pick hp hD hm (by rw [List.length_map]; exact hl) fun v H' hv _ g _ => by
    obtain ⟨z, rfl, hz⟩ := one_int hv
    exact q z H' hz g
end
/-- a new thing, not known to H, is changed by a def that keeps all else -/
theorem Dr.kpx {K : PySem.W.Frag} {a s D : Addr} {H H1 H' : Hp} (d : Dr K a s H) (d' : Dr K a s H1) (h : H D = none) (kp : Kp D H1 H') : Dr K a s H' := by
  obtain ⟨ns, i, m, l, h1, h2, h3, h4⟩ := d.ex
  obtain ⟨ns', i', m', l', g1, g2, g3, g4⟩ := d'.ex
  have nDa : a ≠ D := ne_of_none h1 h
  rcases h2 (.tbl #[]) with hr | hk
  · have nDs : s ≠ D := fun e => by
      subst e
      have z : L2.upd H a (.tbl #[]) s = none := by rw [upd_ne nDa.symm]; exact h
      rcases hr with hr | ⟨_, hr⟩ <;> rw [z] at hr <;> cases hr
    refine ⟨ns', i', m', l', kp _ _ g1 nDa, fun o' => ?_, g3, g4⟩
    have key : ∀ u, L2.upd H1 a o' s = some u → L2.upd H' a o' s = some u := fun u z => by
      by_cases e : s = a
      · subst e; rw [upd_same] at z ⊢; exact z
      · rw [upd_ne e] at z ⊢; exact kp _ _ z nDs
    rcases g2 o' with q | q
    · refine .inl ?_
      rcases q with q | ⟨u, q⟩
      · exact .inl (key _ q)
      · exact .inr ⟨u, key _ q⟩
    · exact .inr q
  · exact ⟨ns, i', m', l', kp _ _ g1 nDa, fun o' => .inr hk, h3, g4⟩
theorem Go.kpx {K : PySem.W.Frag} {a s D : Addr} {H H1 H' : Hp} (g : Go K a s H H1) (d : Dr K a s H) (h : H D = none) (kp : Kp D H1 H') : Go K a s H H' :=
  ⟨d.kpx g.dr h kp, fun b o hb hn => kp b o (g.kp b o hb hn) (ne_of_none hb h)⟩
end My
namespace My
open PySem PySem.Spec PyProof.Rows L2
section
variable {P : Program} {w : World} {K : PySem.W.Frag} {mg : Str → Option Value} {base : Heap} {ec : Ec}
theorem sc__law_rule : FnScope ["_law_state", "_law_wheel_here", "_law_other", "_law_least", "_law_off"] ["_law_state", "_law_wheel_here"] (defScope s__law_rule) := ⟨rfl, rfl, rfl, by decide +kernel, rfl, by decide +kernel, by decide +kernel⟩
theorem ok__law_rule (T : Txt K mg ec) (D : Fn K mg "_law_rule" s__law_rule) (c__law_drawn : Knows P w K mg base 1 "_law_drawn" ["_law_state", "_law_many"] (sp_drawn K)) (c__law_wheel : Knows P w K mg base 2 "_law_wheel" ["_law_state"] (sp_wheel K)) : Knows P w K mg base 3 "_law_rule" ["_law_state", "_law_wheel_here"] (sp_rule K) := by
  refine Knows.mk' D sc__law_rule (fun _ _ _ _ _ _ us hl => match us, hl with | [_, _], _ => rfl) (fun vs H Q E h => ?_) (fun f cdv A outer s H vs Q E hr h => ?_)
  · obtain ⟨a, sc, n, rfl, _⟩ := h; rfl
  · obtain ⟨a, sc, n, rfl, hD, hw, k⟩ := h
    refine ⟨_, (pss_cons (ps_set (i := 2) sc__law_rule.nd rfl (Or.inl rfl) (pe_ix ix_list (pe_lst (pa_cons (pe_op op_add pe_int (pe_callN c__law_drawn (hr.mono (by first | decide | omega)) passD (pa_cons (pv 0) (pa_cons pe_int pa_nil)))) (pa_cons (pv 1) (pa_cons (pe_callN c__law_wheel (hr.mono (by first | decide | omega)) passD (pa_cons (pv 0) pa_nil)) pa_nil)))) (pe_callN c__law_drawn (hr.mono (by first | decide | omega)) passD (pa_cons (pv 0) (pa_cons pe_int pa_nil))) (fun _ _ => rfl)))
    (pss_cons (ps_set (i := 3) sc__law_rule.nd rfl (Or.inl rfl) (pe_ix ix_list (pe_lst (pa_cons pe_int (pa_cons (pe_callN c__law_drawn (hr.mono (by first | decide | omega)) passD (pa_cons (pv 0) (pa_cons (pe_op op_mul pe_int (pv 1)) pa_nil))) (pa_cons (pe_callN c__law_drawn (hr.mono (by first | decide | omega)) passD (pa_cons (pv 0) (pa_cons (pe_op op_add (pe_powc (v := 1000000000000) ⟨by decide, by decide, by decide⟩ (by decide)) pe_int) pa_nil))) pa_nil)))) (pe_callN c__law_drawn (hr.mono (by first | decide | omega)) passD (pa_cons (pv 0) (pa_cons pe_int pa_nil))) (fun _ _ => rfl)))
    (pss_cons (ps_set (i := 4) sc__law_rule.nd rfl (Or.inl rfl) (pe_ix ix_list (pe_lst (pa_cons pe_int (pa_cons (pe_callN c__law_drawn (hr.mono (by first | decide | omega)) passD (pa_cons (pv 0) (pa_cons (pe_op op_fdivW (pe_op op_add (pv 1) pe_int) pe_int) pa_nil))) (pa_cons (pe_op op_fdivW (pe_op op_sub (pv 1) pe_int) pe_int) pa_nil)))) (pe_callN c__law_drawn (hr.mono (by first | decide | omega)) passD (pa_cons (pv 0) (pa_cons pe_int pa_nil))) (fun _ _ => rfl)))
    (pss_one (ps_ret (pe_ix ix_list (pe_lst (pa_cons (pe_tup (pa_cons pe_str (pa_cons (pe_callB (call_min2N rfl) (by rfl) T.min (by decide +kernel) (pa_cons (pv 3) (pa_cons (pe_powc (v := 1000000000000) ⟨by decide, by decide, by decide⟩ (by decide)) pa_nil))) pa_nil))) (pa_cons (pe_tup (pa_cons pe_str pa_nil)) (pa_cons (pe_tup (pa_cons pe_str (pa_cons (pv 2) pa_nil))) (pa_cons (pe_tup (pa_cons pe_str (pa_cons (pv 4) pa_nil))) pa_nil))))) (pe_callN c__law_drawn (hr.mono (by first | decide | omega)) passD (pa_cons (pv 0) (pa_cons pe_int pa_nil))) (fun _ _ => rfl))))))), ?_⟩
    refine g_start (σ := [some _, some _, none, none, none]) rfl ?_
    try dsimp only [cxOf]
    have hw1 := hw.1
    have hw2 := hw.2
    walk_at "go"
    refine ⟨a, sc, 12, rfl, hD, by decide, fun r1 H1 h10 h11 g1 => ?_⟩
    walk_at "go"
    refine ⟨a, sc, rfl, g1.dr, fun o H2 ho g2 => ?_⟩
    walk_at "go"
    intro p hp
    walk_at "go"
    refine g_pickI (zs := [2 + r1, n, o]) hp g2.dr (by decide) rfl (fun oth H3 hoth g3 => ?_)
    have hoth : Wh oth := by
      simp only [List.mem_cons, List.not_mem_nil, or_false] at hoth
      rcases hoth with e | e | e
      · subst e; exact ⟨by omega, by omega⟩
      · subst e; exact hw
      · subst e; exact ho
    have g13 := (g1.trans g2).trans g3
    walk_at "go"
    refine ⟨a, sc, _, rfl, g3.dr, ⟨by omega, by omega⟩, fun r4 H4 h40 h41 g4 => ?_⟩
    walk_at "go"
    refine ⟨a, sc, _, rfl, g4.dr, by decide, fun r5 H5 h50 h51 g5 => ?_⟩
    walk_at "go"
    intro p2 hp2
    walk_at "go"
    refine g_pickI (zs := [0, r4, r5]) hp2 g5.dr (by decide) rfl (fun lea H6 hlea g6 => ?_)
    have hlea : 0 ≤ lea := by
      simp only [List.mem_cons, List.not_mem_nil, or_false] at hlea
      omega
    have g16 := (g13.trans (g4.trans g5)).trans g6
    walk_at "go"
    refine ⟨a, sc, _, rfl, g6.dr, ⟨by omega, by omega⟩, fun r7 H7 h70 h71 g7 => ?_⟩
    walk_at "go"
    intro p3 hp3
    walk_at "go"
    refine g_pickI (zs := [0, r7, (n - 1) / 2]) hp3 g7.dr (by decide) rfl (fun off H8 hoff g8 => ?_)
    have hoff : 0 ≤ 2 * off ∧ 2 * off < n := by
      simp only [List.mem_cons, List.not_mem_nil, or_false] at hoff
      omega
    have g18 := (g16.trans g7).trans g8
    clear g16 g13 g1 g2 g3 g4 g5 g6 g7 hp hp2 hp3
    walk_at "go"
    intro t1 ht1
    walk_at "go"
    intro t2 ht2
    walk_at "go"
    intro t3 ht3
    walk_at "go"
    intro t4 ht4
    walk_at "go"
    intro p4 hp4
    have s1 := Same.new (o := .tup [V.str "up", V.int (if (1000000000000 : Int) < lea then 1000000000000 else lea)]) ht1
    have u1 : upd H8 t1 (.tup [V.str "up", V.int (if (1000000000000 : Int) < lea then 1000000000000 else lea)]) t1 = some (.tup (ruleV (.up (if (1000000000000 : Int) < lea then 1000000000000 else lea)))) := upd_same
    generalize upd H8 t1 (.tup [V.str "up", V.int (if (1000000000000 : Int) < lea then 1000000000000 else lea)]) = H9 at *
    have s2 := Same.new (o := .tup [V.str "near"]) ht2
    have u2 : upd H9 t2 (.tup [V.str "near"]) t2 = some (.tup (ruleV .near)) := upd_same
    generalize upd H9 t2 (.tup [V.str "near"]) = H10 at *
    have s3 := Same.new (o := .tup [V.str "pair", V.int oth]) ht3
    have u3 : upd H10 t3 (.tup [V.str "pair", V.int oth]) t3 = some (.tup (ruleV (.pair oth))) := upd_same
    generalize upd H10 t3 (.tup [V.str "pair", V.int oth]) = H11 at *
    have s4 := Same.new (o := .tup [V.str "about", V.int off]) ht4
    have u4 : upd H11 t4 (.tup [V.str "about", V.int off]) t4 = some (.tup (ruleV (.about off))) := upd_same
    generalize upd H11 t4 (.tup [V.str "about", V.int off]) = H12 at *
    have s14 := ((s1.trans s2).trans s3).trans s4
    have g12 := g18.then s14
    have v3 := s4 _ _ u3
    have v2 := s4 _ _ (s3 _ _ u2)
    have v1 := s4 _ _ (s3 _ _ (s2 _ _ u1))
    walk_at "go"
    refine g_pick hp4 g12.dr (by decide) rfl (fun v H13 hv _ g13 _ => ?_)
    have hta : ∀ t vs, H12 t = some (.tup vs) → t ≠ a := fun t vs e z => by
      obtain ⟨ns, i, m, l, h1, _⟩ := g12.dr.ex
      rw [z] at e
      rw [e] at h1
      cases h1
    simp only [List.mem_cons, List.not_mem_nil, or_false] at hv
    rcases hv with e | e | e | e
    · subst e
      exact k _ _ _ (show RuleOk n (.up _) from ⟨by split <;> omega, by split <;> omega⟩) (g13.at v1 (hta _ _ v1)) (g12.trans g13)
    · subst e
      exact k _ _ _ (show RuleOk n .near from trivial) (g13.at v2 (hta _ _ v2)) (g12.trans g13)
    · subst e
      exact k _ _ _ (show RuleOk n (.pair oth) from hoth) (g13.at v3 (hta _ _ v3)) (g12.trans g13)
    · subst e
      exact k _ _ _ (show RuleOk n (.about off) from hoff) (g13.at u4 (hta _ _ u4)) (g12.trans g13)
theorem sc__law_time : FnScope ["_law_state", "_law_far_here"] ["_law_state"] (defScope s__law_time) := ⟨rfl, rfl, rfl, by decide +kernel, rfl, by decide +kernel, by decide +kernel⟩
theorem ok__law_time (T : Txt K mg ec) (D : Fn K mg "_law_time" s__law_time) (c__law_drawn : Knows P w K mg base 1 "_law_drawn" ["_law_state", "_law_many"] (sp_drawn K)) : Knows P w K mg base 2 "_law_time" ["_law_state"] (sp_time K) := by
  refine Knows.mk' D sc__law_time (fun _ _ _ _ _ _ us hl => match us, hl with | [_], _ => rfl) (fun vs H Q E h => ?_) (fun f cdv A outer s H vs Q E hr h => ?_)
  · obtain ⟨a, sc, rfl, _⟩ := h; rfl
  · obtain ⟨a, sc, rfl, hD, k⟩ := h
    refine ⟨_, (pss_cons (ps_set (i := 1) sc__law_time.nd rfl (Or.inl rfl) (pe_ix ix_list (pe_lst (pa_cons pe_int (pa_cons (pe_powc (v := 1000000) ⟨by decide, by decide, by decide⟩ (by decide)) (pa_cons (pe_powc (v := 1000000000000000000000000000000) ⟨by decide, by decide, by decide⟩ (by decide)) pa_nil)))) (pe_callN c__law_drawn (hr.mono (by first | decide | omega)) passD (pa_cons (pv 0) (pa_cons pe_int pa_nil))) (fun _ _ => rfl)))
    (pss_one (ps_ret (pe_op op_sub (pe_callN c__law_drawn (hr.mono (by first | decide | omega)) passD (pa_cons (pv 0) (pa_cons (pv 1) pa_nil))) (pe_op op_mul (pe_callN c__law_drawn (hr.mono (by first | decide | omega)) passD (pa_cons (pv 0) (pa_cons pe_int pa_nil))) (pv 1)))))), ?_⟩
    refine g_start (σ := [some _, none]) rfl ?_
    try dsimp only [cxOf]
    walk_at "go"
    intro p hp
    walk_at "go"
    refine g_pickI (zs := [100, 1000000, 1000000000000000000000000000000]) hp hD (by decide) rfl (fun far H1 hfar g1 => ?_)
    have hfar : Mn far := by
      simp only [List.mem_cons, List.not_mem_nil, or_false] at hfar
      rcases hfar with e | e | e <;> subst e <;> decide
    walk_at "go"
    refine ⟨a, sc, far, rfl, g1.dr, hfar, fun r2 H2 h20 h21 g2 => ?_⟩
    walk_at "go"
    refine ⟨a, sc, 2, rfl, g2.dr, by decide, fun r3 H3 h30 h31 g3 => ?_⟩
    walk_at "go"
    exact k _ _ ((g1.trans g2).trans g3)
end
end My
namespace My
open PySem PySem.Spec PyProof.Rows L2
def sp_lshown : Sp := fun vs H Q _ => ∃ (n : Int) (p : Addr) (r : Rule) (t : Int), vs = [.int n, .ref p, .int t] ∧ H p = some (.tup (ruleV r)) ∧ Wh n ∧ RuleOk n r ∧ ∀ v H', Same H H' → SeenAt H' r v (shownR n r t) → Q v H'
/-- how far, as the law has it -/
def FarAt (n : Int) (H : Hp) (r : Rule) (v : V) (x y : Int × Int) : Prop := match r with
  | .pair _ => ∃ p, v = .ref p ∧ H p = some (.tup [.int (y.1 - x.1), .int (y.2 - x.2)])
  | _ => ∃ f : Int, v = .int f ∧ n ∣ f - (y.1 - x.1)
theorem FarAt.ext {n : Int} {H H' : Hp} {r : Rule} {v : V} {x y : Int × Int} (e : LamX.ExtN H H') (h : FarAt n H r v x y) : FarAt n H' r v x y := by
  cases r with
  | pair o =>
    obtain ⟨p, h1, h2⟩ := h
    exact ⟨p, h1, extN_tup e h2⟩
  | _ => exact h
theorem SeenAt.go {K : PySem.W.Frag} {a s : Addr} {H H' : Hp} {r : Rule} {v : V} {x : Int × Int} (d : Dr K a s H) (g : Go K a s H H') (h : SeenAt H r v x) : SeenAt H' r v x := by
  cases r with
  | pair o =>
    obtain ⟨p, h1, h2⟩ := h
    refine ⟨p, h1, g.at h2 ?_⟩
    intro z
    obtain ⟨ns, i, m, l, k1, _⟩ := d.ex
    rw [z, k1] at h2
    cases h2
  | _ => exact h
def sp_is_gap : Sp := fun vs H Q _ => ∃ (n : Int) (q : Addr) (r : Rule) (vf va v : V) (x y : Int × Int) (a : Int), vs = [.int n, .ref q, vf, va, v] ∧ H q = some (.tup (ruleV r)) ∧ Wh n ∧ RuleOk n r ∧ FarAt n H r vf x y ∧ aboutV r va a ∧
  ((∃ g, v = .int g ∧ Gp n r x y a g) ∨ (v = .str "NoGap" ∧ NoGp n r x y a)) ∧ ∀ H', Same H H' → Q (.bl true) H'
theorem gcd_of_lcm {n o : Int} (hn : 0 < n) (ho : 0 < o) : n * o / (lcmI n o - 1 + 1) = gcdI n o := by
  have h := lcmI_pos hn ho
  have e : n * o = gcdI n o * lcmI n o := by
    rw [(lcmI_eq hn ho).1, Int.mul_comm (gcdI n o), Int.mul_assoc, Int.ediv_mul_cancel (gcdI_dvd hn ho).2]
  rw [show lcmI n o - 1 + 1 = lcmI n o by omega, e]
  exact Int.mul_ediv_cancel _ (by omega)
theorem emod_of_dvd {n a b : Int} (h : n ∣ a - b) : a % n = b % n := Int.emod_eq_emod_iff_emod_sub_eq_zero.mpr (Int.emod_eq_zero_of_dvd h)
/-- the one number in a wheel's width -/
theorem one_rest {n lo f e g : Int} (hn : 0 < n) (hf : n ∣ f - e) (h1 : lo ≤ g) (h2 : g ≤ lo + n - 1) (h3 : n ∣ g - e) : lo + (f - lo) % n = g := by
  obtain ⟨c1, c2, c3⟩ := rest_from (lo := lo) (e := f) hn
  have a := Int.dvd_sub (Int.dvd_add c3 hf) h3
  rw [show lo + (f - lo) % n - f + (f - e) - (g - e) = lo + (f - lo) % n - g by omega] at a
  have z := zero_of a (by omega) (by omega)
  omega
end My
namespace My
open PySem PySem.Spec PyProof.Rows L2
/-- a number beyond -/
def sp_far (K : PySem.W.Frag) : Sp := fun vs H Q _ => ∃ (a s : Addr) (l m : Int), vs = [.ref a, .int l, .int m] ∧ Dr K a s H ∧ ∀ z H', z < l ∨ m < z → Go K a s H H' → Q (.int z) H'
end My
namespace My
open PySem PySem.Spec PyProof.Rows L2
section
variable {P : Program} {w : World} {K : PySem.W.Frag} {mg : Str → Option Value} {base : Heap} {ec : Ec}
theorem sc__law_shown : FnScope ["_law_wheel_here", "_law_rule_here", "_law_time_here"] ["_law_wheel_here", "_law_rule_here", "_law_time_here"] (defScope s__law_shown) := ⟨rfl, rfl, rfl, by decide +kernel, rfl, by decide +kernel, by decide +kernel⟩
theorem ok__law_shown (T : Txt K mg ec) (D : Fn K mg "_law_shown" s__law_shown)  : Knows P w K mg base 1 "_law_shown" ["_law_wheel_here", "_law_rule_here", "_law_time_here"] sp_lshown := by
  refine Knows.mk' D sc__law_shown (fun _ _ _ _ _ _ us hl => match us, hl with | [_, _, _], _ => rfl) (fun vs H Q E h => ?_) (fun f cdv A outer s H vs Q E hr h => ?_)
  · obtain ⟨n, p, r, t, rfl, _⟩ := h; rfl
  · obtain ⟨n, p, r, t, rfl, hp, hw, hr0, k⟩ := h
    refine ⟨_, (pss_one (ps_ret (pe_ifExp (pt_cmpR op_eq (pe_ix ix_tup (pv 1) pe_int (fun _ _ => rfl)) pe_str (nomark _)) (pe_tup (pa_cons (pe_op op_mod (pv 2) (pv 0)) (pa_cons (pe_op op_mod (pv 2) (pe_ix ix_tup (pv 1) pe_int (fun _ _ => rfl))) pa_nil))) (pe_op op_mod (pv 2) (pv 0))))), ?_⟩
    refine g_start (σ := [some _, some _, some _]) rfl ?_
    try dsimp only [cxOf]
    have hn : 0 < n := by have := hw.1; omega
    walk_at "go"
    cases r with
    | pair o =>
      have ho : 0 < o := by have := hr0.1; omega
      refine g_ixT (SqT.of hp) (v := .str "pair") rfl ?_
      walk_at "go"
      refine g_ixT (SqT.of hp) (v := .int o) rfl ?_
      walk_at "go"
      intro q hq
      exact k _ _ (Same.new hq) ⟨q, rfl, upd_same⟩
    | up l =>
      refine g_ixT (SqT.of hp) (v := .str "up") rfl ?_
      walk_at "go"
      exact k _ _ (Same.refl _) rfl
    | near =>
      refine g_ixT (SqT.of hp) (v := .str "near") rfl ?_
      walk_at "go"
      exact k _ _ (Same.refl _) rfl
    | about l =>
      refine g_ixT (SqT.of hp) (v := .str "about") rfl ?_
      walk_at "go"
      exact k _ _ (Same.refl _) rfl
theorem sc__law_far : FnScope ["_law_state", "_law_least", "_law_most", "_law_far_here"] ["_law_state", "_law_least", "_law_most"] (defScope s__law_far) := ⟨rfl, rfl, rfl, by decide +kernel, rfl, by decide +kernel, by decide +kernel⟩
theorem ok__law_far (T : Txt K mg ec) (D : Fn K mg "_law_far" s__law_far) (c__law_drawn : Knows P w K mg base 1 "_law_drawn" ["_law_state", "_law_many"] (sp_drawn K)) : Knows P w K mg base 2 "_law_far" ["_law_state", "_law_least", "_law_most"] (sp_far K) := by
  refine Knows.mk' D sc__law_far (fun _ _ _ _ _ _ us hl => match us, hl with | [_, _, _], _ => rfl) (fun vs H Q E h => ?_) (fun f cdv A outer s H vs Q E hr h => ?_)
  · obtain ⟨a, sc, l, m, rfl, _⟩ := h; rfl
  · obtain ⟨a, sc, l, m, rfl, hD, k⟩ := h
    refine ⟨_, (pss_cons (ps_set (i := 3) sc__law_far.nd rfl (Or.inl rfl) (pe_ix ix_list (pe_lst (pa_cons pe_int (pa_cons pe_int (pa_cons (pe_powc (v := 100000000000000000000000000000) ⟨by decide, by decide, by decide⟩ (by decide)) pa_nil)))) (pe_callN c__law_drawn (hr.mono (by first | decide | omega)) passD (pa_cons (pv 0) (pa_cons pe_int pa_nil))) (fun _ _ => rfl)))
    (pss_one (ps_ret (pe_ix ix_list (pe_lst (pa_cons (pe_op op_sub (pe_op op_sub (pv 1) pe_int) (pe_callN c__law_drawn (hr.mono (by first | decide | omega)) passD (pa_cons (pv 0) (pa_cons (pv 3) pa_nil)))) (pa_cons (pe_op op_add (pe_op op_add (pv 2) pe_int) (pe_callN c__law_drawn (hr.mono (by first | decide | omega)) passD (pa_cons (pv 0) (pa_cons (pv 3) pa_nil)))) pa_nil))) (pe_callN c__law_drawn (hr.mono (by first | decide | omega)) passD (pa_cons (pv 0) (pa_cons pe_int pa_nil))) (fun _ _ => rfl))))), ?_⟩
    refine g_start (σ := [some _, some _, some _, none]) rfl ?_
    try dsimp only [cxOf]
    walk_at "go"
    intro p hp
    walk_at "go"
    refine g_pickI (zs := [1, 20, 100000000000000000000000000000]) hp hD (by decide) rfl (fun w H1 hw g1 => ?_)
    have hw : Mn w := by
      simp only [List.mem_cons, List.not_mem_nil, or_false] at hw
      rcases hw with e | e | e <;> subst e <;> decide
    walk_at "go"
    refine ⟨a, sc, w, rfl, g1.dr, hw, fun r2 H2 h20 h21 g2 => ?_⟩
    walk_at "go"
    refine ⟨a, sc, w, rfl, g2.dr, hw, fun r3 H3 h30 h31 g3 => ?_⟩
    walk_at "go"
    intro p2 hp2
    walk_at "go"
    refine g_pickI (zs := [l - 1 - r2, m + 1 + r3]) hp2 g3.dr (by decide) rfl (fun z H4 hz g4 => ?_)
    simp only [List.mem_cons, List.not_mem_nil, or_false] at hz
    exact k z _ (by omega) (((g1.trans g2).trans g3).trans g4)
end
end My
namespace My
open PySem PySem.Spec PyProof.Rows L2
section
variable {P : Program} {w : World} {K : PySem.W.Frag} {mg : Str → Option Value} {base : Heap} {ec : Ec}
def qL : Str := (envOfC "law" (defScope s_law) 0 0 .none).qual ++ "<lambda>"
abbrev lam_law_0 : LamT := lamT (subE (valE (stAt (forB (stAt (defBody s_law) 1)) 12)) 0)
abbrev lam_law_1 : LamT := lamT (subE (valE (stAt (forB (stAt (defBody s_law) 1)) 13)) 0)
abbrev lam_law_2 : LamT := lamT (subE (valE (stAt (forB (stAt (defBody s_law) 1)) 14)) 0)
abbrev lam_law_3 : LamT := lamT (subE (valE (stAt (forB (stAt (defBody s_law) 1)) 15)) 0)
abbrev lam_law_4 : LamT := lamT (subE (valE (stAt (forB (stAt (defBody s_law) 1)) 16)) 0)
abbrev lam_law_5 : LamT := lamT (subE (valE (stAt (forB (stAt (defBody s_law) 1)) 17)) 0)
abbrev lam_law_6 : LamT := lamT (subE (valE (stAt (forB (stAt (defBody s_law) 1)) 18)) 0)
abbrev lam_law_7 : LamT := lamT (subE (valE (stAt (forB (stAt (defBody s_law) 1)) 19)) 0)
abbrev lam_law_8 : LamT := lamT (subE (valE (stAt (forB (stAt (defBody s_law) 1)) 21)) 0)
def lams_law (K : PySem.W.Frag) (ec : Ec) : List (LamT × (XK → TE)) := [(lam_law_0, fun E => (tCall (sp_over ec) [] E (tCons (tVar 15) (tCons (tVar 14) (tCons (tVar 14) (tCons (tVar 6) tNil)))))), (lam_law_1, fun E => (tCall (sp_first_over K ec) [] E (tCons (tVar 15) (tCons (tVar 14) (tCons (tLst (tCons (tOp (rI0 fun i j => .int (i - j)) (tC (.int 0)) (tC (.int 1))) tNil)) tNil))))), (lam_law_2, fun E => (tCall (sp_apart ec) [] E (tCons (tVar 15) (tCons (tVar 14) tNil)))), (lam_law_3, fun E => (tCall (sp_over ec) [] E (tCons (tVar 3) (tCons (tVar 14) (tCons (tVar 14) (tCons (tVar 6) tNil)))))), (lam_law_4, fun E => (tCall (sp_first_over K ec) [] E (tCons (tVar 3) (tCons (tVar 14) (tCons (tLst (tCons (tOp (rI0 fun i j => .int (i - j)) (tC (.int 0)) (tC (.int 1))) tNil)) tNil))))), (lam_law_5, fun E => (tCall (sp_apart ec) [] E (tCons (tVar 3) (tCons (tVar 14) tNil)))), (lam_law_6, fun E => (tCall (sp_over ec) [] E (tCons (tVar 3) (tCons (tVar 4) (tCons (tVar 14) (tCons (tVar 6) tNil)))))), (lam_law_7, fun E => (tCall (sp_over ec) [] E (tCons (tVar 3) (tCons (tVar 4) (tCons (tVar 5) (tCons (tVar 14) tNil)))))), (lam_law_8, fun E => (tCall (sp_first_over K ec) [] E (tCons (tVar 3) (tCons (tVar 4) (tCons (tVar 17) tNil)))))]

theorem lks_law {f0 cL : Addr} {A0 : Around} {outer0 : List Env} {s0 : Shared} {H0 : Hp} {E0 : XK} (T : Txt K mg ec) (c_over : Knows P w K mg base 4 "over" ["wheel", "long", "begun", "now"] (sp_over ec)) (c_first_over : Knows P w K mg base 4 "first_over" ["wheel", "long", "looks"] (sp_first_over K ec)) (c_apart : Knows P w K mg base 4 "apart" ["wheel", "long"] (sp_apart ec)) : ∀ p ∈ lams_law K ec, LamK (cxOf (L2.CX P w) P w K mg base ["_law_script", "_law_state", "_law_turn", "_law_wheel_here", "_law_long", "_law_begun", "_law_now", "_law_looks", "_law_k", "_law_more", "_law_due", "_law_handed", "_law_told", "_law_wanted", "_law_bad", "_law_none", "_law_works", "_law_fallen", "_law_words", "_law_work"] "law" (defScope s_law) f0 (.ref cL) A0 outer0 s0 H0 E0) 4 p.1 p.2 := by
  intro p hp
  unfold lams_law at hp
  simp only [List.mem_cons, List.not_mem_nil, or_false] at hp
  rcases hp with rfl | rfl | rfl | rfl | rfl | rfl | rfl | rfl | rfl
  · show LamK _ _ lam_law_0 (fun E => (tCall (sp_over ec) [] E (tCons (tVar 15) (tCons (tVar 14) (tCons (tVar 14) (tCons (tVar 6) tNil))))))
    refine ⟨LamX.lamS_by (sc := defScope s_law) (by decide +kernel), fun _ _ _ _ _ => rfl, fun A outer s H E f c1 hr2 => ?_⟩
    exact (pe_callL c_over (hr2.mono (by first | decide | omega)) (by exact (pa_cons (pv 15) (pa_cons (pv 14) (pa_cons (pv 14) (pa_cons (pv 6) pa_nil))))))
  · show LamK _ _ lam_law_1 (fun E => (tCall (sp_first_over K ec) [] E (tCons (tVar 15) (tCons (tVar 14) (tCons (tLst (tCons (tOp (rI0 fun i j => .int (i - j)) (tC (.int 0)) (tC (.int 1))) tNil)) tNil)))))
    refine ⟨LamX.lamS_by (sc := defScope s_law) (by decide +kernel), fun _ _ _ _ _ => rfl, fun A outer s H E f c1 hr2 => ?_⟩
    exact (pe_callL c_first_over (hr2.mono (by first | decide | omega)) (by exact (pa_cons (pv 15) (pa_cons (pv 14) (pa_cons (pe_lst (by exact (pa_cons (pe_op op_sub pe_int pe_int) pa_nil))) pa_nil)))))
  · show LamK _ _ lam_law_2 (fun E => (tCall (sp_apart ec) [] E (tCons (tVar 15) (tCons (tVar 14) tNil))))
    refine ⟨LamX.lamS_by (sc := defScope s_law) (by decide +kernel), fun _ _ _ _ _ => rfl, fun A outer s H E f c1 hr2 => ?_⟩
    exact (pe_callL c_apart (hr2.mono (by first | decide | omega)) (by exact (pa_cons (pv 15) (pa_cons (pv 14) pa_nil))))
  · show LamK _ _ lam_law_3 (fun E => (tCall (sp_over ec) [] E (tCons (tVar 3) (tCons (tVar 14) (tCons (tVar 14) (tCons (tVar 6) tNil))))))
    refine ⟨LamX.lamS_by (sc := defScope s_law) (by decide +kernel), fun _ _ _ _ _ => rfl, fun A outer s H E f c1 hr2 => ?_⟩
    exact (pe_callL c_over (hr2.mono (by first | decide | omega)) (by exact (pa_cons (pv 3) (pa_cons (pv 14) (pa_cons (pv 14) (pa_cons (pv 6) pa_nil))))))
  · show LamK _ _ lam_law_4 (fun E => (tCall (sp_first_over K ec) [] E (tCons (tVar 3) (tCons (tVar 14) (tCons (tLst (tCons (tOp (rI0 fun i j => .int (i - j)) (tC (.int 0)) (tC (.int 1))) tNil)) tNil)))))
    refine ⟨LamX.lamS_by (sc := defScope s_law) (by decide +kernel), fun _ _ _ _ _ => rfl, fun A outer s H E f c1 hr2 => ?_⟩
    exact (pe_callL c_first_over (hr2.mono (by first | decide | omega)) (by exact (pa_cons (pv 3) (pa_cons (pv 14) (pa_cons (pe_lst (by exact (pa_cons (pe_op op_sub pe_int pe_int) pa_nil))) pa_nil)))))
  · show LamK _ _ lam_law_5 (fun E => (tCall (sp_apart ec) [] E (tCons (tVar 3) (tCons (tVar 14) tNil))))
    refine ⟨LamX.lamS_by (sc := defScope s_law) (by decide +kernel), fun _ _ _ _ _ => rfl, fun A outer s H E f c1 hr2 => ?_⟩
    exact (pe_callL c_apart (hr2.mono (by first | decide | omega)) (by exact (pa_cons (pv 3) (pa_cons (pv 14) pa_nil))))
  · show LamK _ _ lam_law_6 (fun E => (tCall (sp_over ec) [] E (tCons (tVar 3) (tCons (tVar 4) (tCons (tVar 14) (tCons (tVar 6) tNil))))))
    refine ⟨LamX.lamS_by (sc := defScope s_law) (by decide +kernel), fun _ _ _ _ _ => rfl, fun A outer s H E f c1 hr2 => ?_⟩
    exact (pe_callL c_over (hr2.mono (by first | decide | omega)) (by exact (pa_cons (pv 3) (pa_cons (pv 4) (pa_cons (pv 14) (pa_cons (pv 6) pa_nil))))))
  · show LamK _ _ lam_law_7 (fun E => (tCall (sp_over ec) [] E (tCons (tVar 3) (tCons (tVar 4) (tCons (tVar 5) (tCons (tVar 14) tNil))))))
    refine ⟨LamX.lamS_by (sc := defScope s_law) (by decide +kernel), fun _ _ _ _ _ => rfl, fun A outer s H E f c1 hr2 => ?_⟩
    exact (pe_callL c_over (hr2.mono (by first | decide | omega)) (by exact (pa_cons (pv 3) (pa_cons (pv 4) (pa_cons (pv 5) (pa_cons (pv 14) pa_nil))))))
  · show LamK _ _ lam_law_8 (fun E => (tCall (sp_first_over K ec) [] E (tCons (tVar 3) (tCons (tVar 4) (tCons (tVar 17) tNil)))))
    refine ⟨LamX.lamS_by (sc := defScope s_law) (by decide +kernel), fun _ _ _ _ _ => rfl, fun A outer s H E f c1 hr2 => ?_⟩
    exact (pe_callL c_first_over (hr2.mono (by first | decide | omega)) (by exact (pa_cons (pv 3) (pa_cons (pv 4) (pa_cons (pv 17) pa_nil)))))

end
end My
namespace My
open PySem PySem.Spec PyProof.Rows L2
/-! ### the looks that the law makes -/
theorem looks_more {ns : List Int} {l m : Int} (h : Looks ns) (hl : (0 :: ns).getLast? = some l) (hm : 0 ≤ m) : Looks (ns ++ [l + m]) ∧ (0 :: (ns ++ [l + m])).getLast? = some (l + m) := by
  obtain ⟨h1, h2⟩ := h
  have le : ∀ x ∈ (0 : Int) :: ns, x ≤ l := by
    have srt : ((0 : Int) :: ns).Pairwise (· ≤ ·) := List.pairwise_cons.mpr ⟨fun x hx => h1 x hx, h2⟩
    generalize (0 : Int) :: ns = xs at hl srt
    clear h1 h2
    induction xs with
    | nil => cases hl
    | cons y ys ih =>
      intro x hx
      cases ys with
      | nil =>
        cases hl
        rw [List.mem_singleton.mp hx]
        exact Int.le_refl _
      | cons z zs =>
        have hl' : (z :: zs).getLast? = some l := by rw [List.getLast?_cons_cons] at hl; exact hl
        have ih := ih hl' (List.pairwise_cons.mp srt).2
        rcases List.mem_cons.mp hx with e | hx
        · rw [e]
          exact Int.le_trans ((List.pairwise_cons.mp srt).1 z (by simp)) (ih z (by simp))
        · exact ih x hx
  have l0 : 0 ≤ l := le 0 (by simp)
  refine ⟨⟨fun x hx => ?_, ?_⟩, ?_⟩
  · rcases List.mem_append.mp hx with hx | hx
    · exact h1 x hx
    · rw [List.mem_singleton.mp hx]; omega
  · refine List.pairwise_append.mpr ⟨h2, List.pairwise_singleton _ _, fun x hx y hy => ?_⟩
    rw [List.mem_singleton.mp hy]
    have := le x (by simp [hx])
    omega
  · rw [← List.cons_append, List.getLast?_append]
    rfl
theorem last_at {ns : List Int} {l : Int} (hl : (0 :: ns).getLast? = some l) : atI ((0 :: ns).map V.int) (-1) = some (.int l) := by
  have h2 : (((0 : Int) :: ns).map V.int).getLast? = some (.int l) := by rw [List.getLast?_map, hl]; rfl
  rw [List.getLast?_eq_getElem?] at h2
  have e : ixN (((0 : Int) :: ns).map V.int).length (-1) = some ((((0 : Int) :: ns).map V.int).length - 1) := by
    unfold ixN
    rw [List.length_map, List.length_cons, if_neg (by omega), if_pos (by omega)]
    congr 1
    omega
  unfold atI
  rw [e]
  exact h2
theorem int_gd {ts : List Int} {k : Nat} (h : k < ts.length) : atI (ts.map V.int) (0 + (k : Int)) = some (.int (ts.getD k 0)) := by
  rw [Int.zero_add]
  refine atI_nat ?_
  rw [List.getElem?_map, List.getElem?_eq_getElem h, List.getD_eq_getElem?_getD, List.getElem?_eq_getElem h]
  rfl
/-- the places at which a look is over, of the first i ones -/
def dueL (n l : Int) (ns : List Int) (i : Nat) : List Nat := (List.range i).filter fun j => decide (l ≤ ns.getD j 0 % n)
theorem dueL_more {n l : Int} {ns : List Int} {i : Nat} : dueL n l ns (i + 1) = if l ≤ ns.getD i 0 % n then dueL n l ns i ++ [i] else dueL n l ns i := by
  unfold dueL
  rw [List.range_succ, List.filter_append]
  by_cases h : l ≤ ns.getD i 0 % n
  · rw [if_pos h, List.filter_cons_of_pos (by simpa using h)]; rfl
  · rw [if_neg h, List.filter_cons_of_neg (by simpa using h)]; simp
theorem dueL_first {n l : Int} {ns : List Int} : ((dueL n l ns ns.length).map (fun j : Nat => V.int (j : Int)) ++ [V.non])[0]? = some (onV (firstO n l ns)) := by
  have key : ∀ (xs : List Int) (k : Nat), ((List.range' k xs.length).filter fun j => decide (l ≤ xs.getD (j - k) 0 % n)).head? = (xs.findIdx? fun x => decide (l ≤ x % n)).map (· + k) := by
    intro xs
    induction xs with
    | nil => intro k; rfl
    | cons x xs ih =>
      intro k
      rw [List.length_cons, List.range'_succ, List.findIdx?_cons]
      by_cases h : l ≤ x % n
      · rw [List.filter_cons_of_pos (by simpa using h)]
        simp [h]
      · rw [List.filter_cons_of_neg (by simpa using h)]
        have e : (List.range' (k + 1) xs.length).filter (fun j => decide (l ≤ (x :: xs).getD (j - k) 0 % n)) = (List.range' (k + 1) xs.length).filter (fun j => decide (l ≤ xs.getD (j - (k + 1)) 0 % n)) := by
          refine List.filter_congr fun j hj => ?_
          have hj := (List.mem_range'_1.mp hj).1
          rw [show j - k = (j - (k + 1)) + 1 by omega, List.getD_cons_succ]
        rw [e, ih (k + 1)]
        simp only [h, decide_false, Bool.false_eq_true, if_false, Option.map_map]
        congr 1
        funext y
        simp only [Function.comp]
        omega
  have k0 := key ns 0
  unfold firstO dueL
  rw [List.range_eq_range']
  simp only [Nat.sub_zero, Nat.add_zero, Option.map_id'] at k0
  generalize (List.range' 0 ns.length).filter (fun j => decide (l ≤ ns.getD j 0 % n)) = ds at k0 ⊢
  rw [← k0]
  cases ds with
  | nil => rfl
  | cons d ds => rfl
theorem div_rest {x n : Int} : x - x / n * n = x % n := by
  have := Int.emod_def x n
  rw [Int.mul_comm] at this
  omega
theorem not_looks_neg {ns : List Int} {x : Int} (h : x < 0) (hx : x ∈ ns) : ¬ Looks ns := fun z => by
  have := z.1 x hx
  omega
theorem not_looks_54 : ¬ Looks [5, 4] := fun z => by
  have := z.2
  simp at this
end My
namespace My
open PySem PySem.Spec PyProof.Rows L2
section
variable {P : Program} {w : World} {K : PySem.W.Frag} {mg : Str → Option Value} {base : Heap} {ec : Ec}
theorem sc_law : FnScope ["_law_script", "_law_state", "_law_turn", "_law_wheel_here", "_law_long", "_law_begun", "_law_now", "_law_looks", "_law_k", "_law_more", "_law_due", "_law_handed", "_law_told", "_law_wanted", "_law_bad", "_law_none", "_law_works", "_law_fallen", "_law_words", "_law_work"] ["_law_script"] (defScope s_law) := ⟨rfl, rfl, rfl, by decide +kernel, rfl, by decide +kernel, by decide +kernel⟩
theorem ok_law {f0 cL PL : Addr} {oc0 kV0 dc0 pm0 ct0 : Value} {od0 an0 : Option Addr} {sl0 : Array (Option Value)} (T : Txt K mg ec) (lk : K.lookup f0 = some ⟨oc0, od0, .func (PySem.W.fnOf "law" "law" (defArgs s_law) (defBody s_law) (defScope s_law) .none kV0 dc0 pm0 an0 (.ref cL) ct0), sl0⟩) (hcd : PySem.W.codeIn K (.ref cL) "law" = true) (TB : LamX.TabB base mg cL PL) (D__law_kind : FnL K mg "_law_kind" s__law_kind) (c__law_start : Knows P w K mg base 1 "_law_start" ["_law_script"] (sp_start K)) (c__law_wheel : Knows P w K mg base 2 "_law_wheel" ["_law_state"] (sp_wheel K)) (c__law_far : Knows P w K mg base 2 "_law_far" ["_law_state", "_law_least", "_law_most"] (sp_far K)) (c__law_drawn : Knows P w K mg base 1 "_law_drawn" ["_law_state", "_law_many"] (sp_drawn K)) (c_over : Knows P w K mg base 4 "over" ["wheel", "long", "begun", "now"] (sp_over ec)) (c_first_over : Knows P w K mg base 4 "first_over" ["wheel", "long", "looks"] (sp_first_over K ec)) (c_apart : Knows P w K mg base 4 "apart" ["wheel", "long"] (sp_apart ec)) (c__law_same : Knows P w K mg base 2 "_law_same" ["_law_found", "_law_due"] (sp_same 1)) : FnOk P w K mg base (L2.CX P w) 7 f0 (PySem.W.fnOf "law" "law" (defArgs s_law) (defBody s_law) (defScope s_law) .none kV0 dc0 pm0 an0 (.ref cL) ct0) ["_law_script"] (sp_lawT K PL) := by
  refine fn_of lk hcd sc_law (fun vs H Q E h => ?_) (fun A outer s H vs Q E hr h => ?_)
  · obtain ⟨s, ns, rfl, _⟩ := h; rfl
  · obtain ⟨s, ns, rfl, hS, hl, hP, k⟩ := h
    refine ⟨_, (pss_cons (ps_set (i := 1) sc_law.nd rfl (Or.inl rfl) (pe_callN c__law_start (hr.mono (by first | decide | omega)) passD (pa_cons (pv 0) pa_nil)))
    (pss_cons (ps_for passO rfl (pi_range1 (by rfl) T.range (pa_cons pe_int pa_nil)) (pg_name (i := 2) sc_law.nd rfl (Or.inl rfl)) (pss_cons (ps_set (i := 3) sc_law.nd rfl (Or.inr rfl) (pe_callN c__law_wheel (hr.mono (by first | decide | omega)) passD (pa_cons (pv 1) pa_nil)))
    (pss_cons (ps_set (i := 4) sc_law.nd rfl (Or.inr rfl) (pe_ix ix_list (pe_lst (pa_cons pe_int (pa_cons (pe_op op_sub (pv 3) pe_int) (pa_cons (pe_callN c__law_drawn (hr.mono (by first | decide | omega)) passD (pa_cons (pv 1) (pa_cons (pv 3) pa_nil))) pa_nil)))) (pe_callN c__law_drawn (hr.mono (by first | decide | omega)) passD (pa_cons (pv 1) (pa_cons pe_int pa_nil))) (fun _ _ => rfl)))
    (pss_cons (ps_asg (pe_tup (pa_cons (pe_callN c__law_drawn (hr.mono (by first | decide | omega)) passD (pa_cons (pv 1) (pa_cons (pv 3) pa_nil))) (pa_cons (pe_callN c__law_drawn (hr.mono (by first | decide | omega)) passD (pa_cons (pv 1) (pa_cons (pv 3) pa_nil))) pa_nil))) (pg_tup (n := 2) rfl (pgs_cons (pg_name (i := 5) sc_law.nd rfl (Or.inr rfl)) (pgs_cons (pg_name (i := 6) sc_law.nd rfl (Or.inr rfl)) pgs_nil))))
    (pss_cons (ps_set (i := 7) sc_law.nd rfl (Or.inr rfl) (pe_lst pa_nil))
    (pss_cons (ps_for passO rfl (pi_range1 (by rfl) T.range (pa_cons (pe_callN c__law_drawn (hr.mono (by first | decide | omega)) passD (pa_cons (pv 1) (pa_cons (pe_ix ix_list (pe_lst (pa_cons pe_int (pa_cons pe_int (pa_cons pe_int (pa_cons pe_int pa_nil))))) (pe_callN c__law_drawn (hr.mono (by first | decide | omega)) passD (pa_cons (pv 1) (pa_cons pe_int pa_nil))) (fun _ _ => rfl)) pa_nil))) pa_nil)) (pg_name (i := 8) sc_law.nd rfl (Or.inl rfl)) (pss_cons (ps_set (i := 9) sc_law.nd rfl (Or.inl rfl) (pe_callN c__law_drawn (hr.mono (by first | decide | omega)) passD (pa_cons (pv 1) (pa_cons (pe_ix ix_list (pe_lst (pa_cons pe_int (pa_cons (pv 3) (pa_cons (pe_op op_mul pe_int (pv 3)) pa_nil)))) (pe_callN c__law_drawn (hr.mono (by first | decide | omega)) passD (pa_cons (pv 1) (pa_cons pe_int pa_nil))) (fun _ _ => rfl)) pa_nil))))
    (pss_one (ps_expr (pe_bm PySem.F.plainAttrs_list PySem.F.slot_list_append PySem.F.type_list_append mt_append (pv 7) (pa_cons (pe_op op_add (pe_ix ix_list (pe_op op_cat (pe_lst (pa_cons pe_int pa_nil)) (pv 7)) (pe_un un_neg pe_int) (fun _ _ => rfl)) (pv 9)) pa_nil))))))
    (pss_cons (ps_setLc (i := 10) (own := [("_law_k", 8)]) (g := gName 8) rfl sc_law.nd rfl rfl (sw_true rfl rfl rfl (by decide +kernel)) (pi_range1 (by rfl) T.range (pa_cons (pe_callB call_lenN (by rfl) T.len PySem.boot_len (pa_cons (pv 7) pa_nil)) pa_nil)) (blkOk_by (own := [("_law_k", 8)]) (N := ["_law_script", "_law_state", "_law_turn", "_law_wheel_here", "_law_long", "_law_begun", "_law_now", "_law_looks", "_law_k", "_law_more", "_law_due", "_law_handed", "_law_told", "_law_wanted", "_law_bad", "_law_none", "_law_works", "_law_fallen", "_law_words", "_law_work"]) (sc := defScope s_law) (by decide +kernel)) (fun _ _ _ _ _ => (pg_name (i := 8) sc_law.nd rfl (Or.inl rfl))) (fun _ _ _ _ _ => (pts_one (pt_cmpR op_ge (pe_op op_sub (pe_ix (r := rIxL K) ix_list (pv 7) (pv 8) (fun _ _ => rfl)) (pe_op op_mul (pe_op op_fdivW (pe_ix (r := rIxL K) ix_list (pv 7) (pv 8) (fun _ _ => rfl)) (pv 3)) (pv 3))) (pv 4) (nomark _)))) (fun _ _ _ _ _ => (pv 8)))
    (pss_cons (ps_set (i := 11) sc_law.nd rfl (Or.inl rfl) (pe_callTy call_listN (by rfl) T.list (by decide +kernel) (pa_cons (pv 7) pa_nil)))
    (pss_cons (ps_set (i := 12) sc_law.nd rfl (Or.inl rfl) (pe_lst (pa_cons (pe_callN c_over (hr.mono (by first | decide | omega)) passD (pa_cons (pv 3) (pa_cons (pv 4) (pa_cons (pv 5) (pa_cons (pv 6) pa_nil))))) (pa_cons (pe_callN c_first_over (hr.mono (by first | decide | omega)) passD (pa_cons (pv 3) (pa_cons (pv 4) (pa_cons (pv 11) pa_nil)))) (pa_cons (pe_callN c_apart (hr.mono (by first | decide | omega)) passD (pa_cons (pv 3) (pa_cons (pv 4) pa_nil))) pa_nil)))))
    (pss_cons (ps_set (i := 13) sc_law.nd rfl (Or.inl rfl) (pe_lst (pa_cons (pe_cmpR op_ge (pe_op op_mod (pe_op op_sub (pe_op op_add (pv 6) (pv 3)) (pv 5)) (pv 3)) (pv 4) (nomark _)) (pa_cons (pe_ix ix_list (pe_op op_cat (pv 10) (pe_lst (pa_cons pe_non pa_nil))) pe_int (fun _ _ => rfl)) (pa_cons (pe_op op_sub (pv 3) (pv 4)) pa_nil)))))
    (pss_cons (ps_if (PW.pt (pw_or (pt_not (pt_val (pe_callN c__law_same (hr.mono (by first | decide | omega)) passD (pa_cons (pv 12) (pa_cons (pv 13) pa_nil))) (by intro _; rfl))) (pw_or1 (pt_cmpR (op_neD hr.units) (pv 11) (pv 7) (nomark _))))) (pss_one (ps_ret pe_bl)) pss_nil)
    (pss_cons (ps_set (i := 14) sc_law.nd rfl (Or.inr rfl) (pe_callN c__law_far (hr.mono (by first | decide | omega)) passD (pa_cons (pv 1) (pa_cons pe_int (pa_cons (pe_op op_sub (pv 3) pe_int) pa_nil)))))
    (pss_cons (ps_set (i := 15) sc_law.nd rfl (Or.inr rfl) (pe_callN c__law_far (hr.mono (by first | decide | omega)) passD (pa_cons (pv 1) (pa_cons pe_int (pa_cons (pe_powc (v := 1000000000000) ⟨by decide, by decide, by decide⟩ (by decide)) pa_nil)))))
    (pss_cons (ps_set (i := 16) sc_law.nd rfl (Or.inl rfl) (pe_lst (pa_cons (pe_lamW (T := [(PL, qL)]) (q := qL) (l := lam_law_0) TB rfl rfl (.head _) (fun p hp _ => congrArg Prod.snd (List.mem_singleton.mp hp)) (LamX.lamS_by (sc := defScope s_law) (by decide +kernel)) rfl) pa_nil)))
    (pss_cons (ps_expr (pe_bm PySem.F.plainAttrs_list PySem.F.slot_list_append PySem.F.type_list_append mt_append (pv 16) (pa_cons (pe_lamW (T := [(PL, qL)]) (q := qL) (l := lam_law_1) TB rfl rfl (.head _) (fun p hp _ => congrArg Prod.snd (List.mem_singleton.mp hp)) (LamX.lamS_by (sc := defScope s_law) (by decide +kernel)) rfl) pa_nil)))
    (pss_cons (ps_expr (pe_bm PySem.F.plainAttrs_list PySem.F.slot_list_append PySem.F.type_list_append mt_append (pv 16) (pa_cons (pe_lamW (T := [(PL, qL)]) (q := qL) (l := lam_law_2) TB rfl rfl (.head _) (fun p hp _ => congrArg Prod.snd (List.mem_singleton.mp hp)) (LamX.lamS_by (sc := defScope s_law) (by decide +kernel)) rfl) pa_nil)))
    (pss_cons (ps_expr (pe_bm PySem.F.plainAttrs_list PySem.F.slot_list_append PySem.F.type_list_append mt_append (pv 16) (pa_cons (pe_lamW (T := [(PL, qL)]) (q := qL) (l := lam_law_3) TB rfl rfl (.head _) (fun p hp _ => congrArg Prod.snd (List.mem_singleton.mp hp)) (LamX.lamS_by (sc := defScope s_law) (by decide +kernel)) rfl) pa_nil)))
    (pss_cons (ps_expr (pe_bm PySem.F.plainAttrs_list PySem.F.slot_list_append PySem.F.type_list_append mt_append (pv 16) (pa_cons (pe_lamW (T := [(PL, qL)]) (q := qL) (l := lam_law_4) TB rfl rfl (.head _) (fun p hp _ => congrArg Prod.snd (List.mem_singleton.mp hp)) (LamX.lamS_by (sc := defScope s_law) (by decide +kernel)) rfl) pa_nil)))
    (pss_cons (ps_expr (pe_bm PySem.F.plainAttrs_list PySem.F.slot_list_append PySem.F.type_list_append mt_append (pv 16) (pa_cons (pe_lamW (T := [(PL, qL)]) (q := qL) (l := lam_law_5) TB rfl rfl (.head _) (fun p hp _ => congrArg Prod.snd (List.mem_singleton.mp hp)) (LamX.lamS_by (sc := defScope s_law) (by decide +kernel)) rfl) pa_nil)))
    (pss_cons (ps_expr (pe_bm PySem.F.plainAttrs_list PySem.F.slot_list_append PySem.F.type_list_append mt_append (pv 16) (pa_cons (pe_lamW (T := [(PL, qL)]) (q := qL) (l := lam_law_6) TB rfl rfl (.head _) (fun p hp _ => congrArg Prod.snd (List.mem_singleton.mp hp)) (LamX.lamS_by (sc := defScope s_law) (by decide +kernel)) rfl) pa_nil)))
    (pss_cons (ps_expr (pe_bm PySem.F.plainAttrs_list PySem.F.slot_list_append PySem.F.type_list_append mt_append (pv 16) (pa_cons (pe_lamW (T := [(PL, qL)]) (q := qL) (l := lam_law_7) TB rfl rfl (.head _) (fun p hp _ => congrArg Prod.snd (List.mem_singleton.mp hp)) (LamX.lamS_by (sc := defScope s_law) (by decide +kernel)) rfl) pa_nil)))
    (pss_cons (ps_set (i := 17) sc_law.nd rfl (Or.inr rfl) (pe_ix ix_list (pe_lst (pa_cons (pe_op op_cat (pv 7) (pe_lst (pa_cons (pe_op op_sub pe_int pe_int) pa_nil))) (pa_cons (pe_lst (pa_cons pe_int (pa_cons pe_int pa_nil))) (pa_cons (pe_lst (pa_cons (pe_op op_sub (pe_op op_sub pe_int pe_int) (pe_callB call_absN (by rfl) T.abs (by decide +kernel) (pa_cons (pv 14) pa_nil))) pa_nil)) pa_nil)))) (pe_callN c__law_drawn (hr.mono (by first | decide | omega)) passD (pa_cons (pv 1) (pa_cons pe_int pa_nil))) (fun _ _ => rfl)))
    (pss_cons (ps_expr (pe_bm PySem.F.plainAttrs_list PySem.F.slot_list_append PySem.F.type_list_append mt_append (pv 16) (pa_cons (pe_lamW (T := [(PL, qL)]) (q := qL) (l := lam_law_8) TB rfl rfl (.head _) (fun p hp _ => congrArg Prod.snd (List.mem_singleton.mp hp)) (LamX.lamS_by (sc := defScope s_law) (by decide +kernel)) rfl) pa_nil)))
    (pss_cons (ps_set (i := 18) sc_law.nd rfl (Or.inl rfl) (pe_op op_cat (pe_op op_cat (pe_op op_cat (pe_op op_rep (pe_lst (pa_cons pe_str pa_nil)) pe_int) (pe_op op_rep (pe_lst (pa_cons pe_str pa_nil)) pe_int)) (pe_op op_rep (pe_lst (pa_cons pe_str pa_nil)) pe_int)) (pe_lst (pa_cons pe_str pa_nil))))
    (pss_one (ps_if (pt_cmpR (op_neD hr.units) (pe_kinds (own := [("_law_work", 19)]) (g := gName 19) (ls := lams_law K ec) (q := qL) (k := 4) (TT := TKind K ec) rfl sc_law.nd D__law_kind (fun _ _ _ _ _ _ us hl => match us, hl with | [_], _ => rfl) sc__law_kind rfl (by first | exact Or.inl rfl | exact Or.inr (Or.inl rfl)) (fun Y g cdv e1 e2 => kind_givesY _ Y T e1 e2 g cdv _) rfl (hr.mono (by first | decide | omega)) (lks_law T c_over c_first_over c_apart) (pi_list (pv 16)) (blkOk_by (own := [("_law_work", 19)]) (N := ["_law_script", "_law_state", "_law_turn", "_law_wheel_here", "_law_long", "_law_begun", "_law_now", "_law_looks", "_law_k", "_law_more", "_law_due", "_law_handed", "_law_told", "_law_wanted", "_law_bad", "_law_none", "_law_works", "_law_fallen", "_law_words", "_law_work"]) (sc := defScope s_law) (by decide +kernel)) (fun _ _ _ _ _ => by rfl) (fun _ _ _ _ _ => (pg_name (i := 19) sc_law.nd rfl (Or.inl rfl))) (fun _ _ _ _ _ => (pv 19))) (pv 18) (nomark _)) (pss_one (ps_ret pe_bl)) pss_nil))))))))))))))))))))))))))
    (pss_one (ps_ret pe_bl)))), ?_⟩
    refine g_start (σ := [some _, none, none, none, none, none, none, none, none, none, none, none, none, none, none, none, none, none, none, none]) rfl ?_
    try dsimp only [cxOf]
    have hT0 : LamX.Tabs [(PL, qL)] H := fun p hp => by
      cases List.mem_singleton.mp hp
      exact LamX.TabS.nil hP
    walk_at "go"
    refine ⟨s, ns, rfl, hS, hl, fun a H1 ha e1 hD1 => ?_⟩
    walk_at "go"
    refine ⟨by decide, by decide, for_R (fun i σ H' => Dr K a s H' ∧ LamX.Tabs [(PL, qL)] H' ∧ ∃ v2 v3 v4 v5 v6 v7 v8 v9 v10 v11 v12 v13 v14 v15 v16 v17 v18 v19, σ = [some (.ref s), some (.ref a), v2, v3, v4, v5, v6, v7, v8, v9, v10, v11, v12, v13, v14, v15, v16, v17, v18, v19]) ⟨hD1, tabs_same hT0 e1, _, _, _, _, _, _, _, _, _, _, _, _, _, _, _, _, _, _, rfl⟩ ?_ ?_⟩
    · rintro i σ H2 hi ⟨hD2, hT2, v2, v3, v4, v5, v6, v7, v8, v9, v10, v11, v12, v13, v14, v15, v16, v17, v18, v19, rfl⟩
      walk_at "go"
      refine ⟨a, s, rfl, hD2, fun n H3 hn g3 => ?_⟩
      have hn1 := hn.1
      have hn2 := hn.2
      have hn0 : 0 < n := by omega
      walk_at "go"
      refine ⟨a, s, n, rfl, g3.dr, ⟨by omega, by omega⟩, fun r4 H4 h40 h41 g4 => ?_⟩
      walk_at "go"
      intro p4 hp4
      walk_at "go"
      refine g_pickI (zs := [0, n - 1, r4]) hp4 g4.dr (by decide) rfl (fun l H5 hl5 g5 => ?_)
      have hl5 : Se n l := by
        simp only [List.mem_cons, List.not_mem_nil, or_false] at hl5
        rcases hl5 with e | e | e <;> subst e <;> constructor <;> omega
      walk_at "go"
      refine ⟨a, s, n, rfl, g5.dr, ⟨by omega, by omega⟩, fun b H6 h60 h61 g6 => ?_⟩
      walk_at "go"
      refine ⟨a, s, n, rfl, g6.dr, ⟨by omega, by omega⟩, fun t H7 h70 h71 g7 => ?_⟩
      have hb : Se n b := ⟨h60, h61⟩
      have ht : Se n t := ⟨h70, h71⟩
      have hT7 := tabs_go (tabs_go (tabs_go (tabs_go (tabs_go hT2 hD2 g3) g3.dr g4) g4.dr g5) g5.dr g6) g6.dr g7
      have hD7 := g7.dr
      clear g3 g4 g5 g6 g7
      walk_at "goS"
      intro p7 hp7
      refine g_tup2 (SqT.of upd_same) ?_
      walk_at "goS"
      intro L hL
      have e8 := (Same.new hp7 (o := .tup [V.int b, V.int t]))
      generalize upd H7 p7 (.tup [V.int b, V.int t]) = H8 at *
      have hD8 := hD7.same e8
      have hT8 := tabs_same hT7 e8
      clear e8 hT7 hD7 hT2 hD2 h40 h41 hp4 hp7
      walk_at "goS"
      intro p9 hp9
      have uLa : L ≠ a := hD8.ne hL
      walk_at "goS"
      refine g_pickI (zs := [21, 21, 21, 201]) hp9 (hD8.same (Same.new hL)) (by decide) rfl (fun m H9 hm g9 => ?_)
      have hm : 0 < m ∧ m ≤ 201 := by
        simp only [List.mem_cons, List.not_mem_nil, or_false] at hm
        rcases hm with e | e | e | e <;> subst e <;> decide
      have hL9 := g9.at upd_same uLa
      have hT9 := tabs_go (tabs_same hT8 (Same.new hL)) (hD8.same (Same.new hL)) g9
      walk_at "goS"
      refine ⟨a, s, m, rfl, g9.dr, ⟨by omega, by omega⟩, fun c H10 h100 h101 g10 => ?_⟩
      have hL10 := g10.at hL9 uLa
      have hT10 := tabs_go hT9 g9.dr g10
      have hD10 := g10.dr
      clear g9 g10 hL9 hT9 hT8 hp9
      walk_at "goS"
      refine ⟨by omega, by omega, for_R (fun j σ H' => Dr K a s H' ∧ LamX.Tabs [(PL, qL)] H' ∧ (∃ xs l0, H' L = some (.lst (List.map V.int xs)) ∧ Looks xs ∧ xs.length = j ∧ (0 :: xs).getLast? = some l0) ∧ ∃ v8 v9, σ = [some (.ref s), some (.ref a), some (.int (0 + (i : Nat))), some (.int n), some (.int l), some (.int b), some (.int t), some (.ref L), v8, v9, v10, v11, v12, v13, v14, v15, v16, v17, v18, v19]) ⟨hD10, hT10, ⟨[], 0, hL10, ⟨(fun x hx => by cases hx), .nil⟩, rfl, rfl⟩, _, _, rfl⟩ ?_ ?_⟩
      · rintro j σ H11 hj ⟨hD11, hT11, ⟨xs, l0, hL11, hxs, hlen, hlast⟩, v8, v9, rfl⟩
        walk_at "go"
        intro p12 hp12
        walk_at "go"
        refine g_pickI (zs := [3, n, 3 * n]) hp12 hD11 (by decide) rfl (fun m2 H12 hm2 g12 => ?_)
        have hm2 : Mn m2 := by
          simp only [List.mem_cons, List.not_mem_nil, or_false] at hm2
          rcases hm2 with e | e | e <;> subst e <;> constructor <;> omega
        have hL12 := g12.at hL11 uLa
        have hT12 := tabs_go hT11 hD11 g12
        walk_at "go"
        refine ⟨a, s, m2, rfl, g12.dr, hm2, fun r H13 h130 h131 g13 => ?_⟩
        have hL13 := g13.at hL12 uLa
        have hT13 := tabs_go hT12 g12.dr g13
        have hD13 := g13.dr
        clear g12 g13 hL12 hT12 hp12 hT11 hD11 hL11
        walk_at "go"
        refine g_tyL (SqL.of hL13) ?_
        walk_at "go"
        intro p14 hp14
        walk_at "go"
        have hL14 := upd_old hL13 hp14 (u := .lst [V.int 0])
        refine g_cat upd_same hL14 (by simp; omega) (fun p15 hp15 => ?_)
        have e15 := (Same.new hp14 (o := .lst [V.int 0])).trans (Same.new hp15 (o := .lst ([V.int 0] ++ List.map V.int xs)))
        have u15 : upd (upd H13 p14 (.lst [V.int 0])) p15 (.lst ([V.int 0] ++ List.map V.int xs)) p15 = some (.lst (List.map V.int (0 :: xs))) := upd_same
        generalize upd (upd H13 p14 (.lst [V.int 0])) p15 (.lst ([V.int 0] ++ List.map V.int xs)) = H15 at *
        walk_at "go"
        refine g_ixL (SqL.of u15) (last_at hlast) ?_
        walk_at "go"
        refine g_app (e15 _ _ hL13) (by rw [List.length_map]; omega) ?_
        obtain ⟨lk1, lk2⟩ := looks_more hxs hlast h130
        exact ⟨hD8.mut (hD13.same e15) hL, g_works.tabs_lst' (tabs_same hT13 e15) (e15 _ _ hL13), ⟨xs ++ [l0 + r], _, by rw [upd_same, List.map_append]; rfl, lk1, by rw [List.length_append, hlen]; rfl, lk2⟩, _, _, rfl⟩
      · rintro σ H11 ⟨hD11, hT11, ⟨xs, l0, hL11, hxs, hlen, _⟩, v8, v9, rfl⟩
        have hle : xs.length ≤ 300 := by omega
        walk_at "goS"
        refine g_lenL (SqL.of hL11) ?_
        rw [List.length_map]
        walk_at "goS"
        refine ⟨by omega, by omega, fun D12 nD12 => ?_⟩
        refine lc_R 0 xs.length (fun j acc H => Same H11 H ∧ acc = (dueL n l xs j).map (fun m : Nat => V.int (m : Int))) (fun j acc H o h => ⟨Same.mut h.1 nD12, h.2⟩) ⟨Same.refl _, rfl⟩ ?_ ?_
        · rintro j acc H12 hj ⟨e12, rfl⟩ hDl hle2
          walk_at "wp"
          walk_at "go"
          refine ⟨rfl, ?_⟩
          walk_at "go"
          refine g_ixL (SqL.of (e12 _ _ hL11)) (int_gd hj) ?_
          walk_at "go"
          refine g_ixL (SqL.of (e12 _ _ hL11)) (int_gd hj) ?_
          walk_at "go"
          rw [div_rest]
          refine ite_dec (fun h => ?_) (fun h => ?_)
          · walk_at "go"
            refine lc_leaf (J := fun j acc H => Same H11 H ∧ acc = (dueL n l xs j).map (fun m : Nat => V.int (m : Int))) (fun j acc H o h => ⟨Same.mut h.1 nD12, h.2⟩) hDl hle2 (by omega) ⟨e12, ?_⟩
            rw [dueL_more, if_pos h, List.map_append, Int.zero_add]
            rfl
          · refine lc_skip hDl hle2 ⟨e12, ?_⟩
            rw [dueL_more, if_neg h]
        · rintro acc H12 ⟨e12, rfl⟩ u12
          have hL12 := e12 _ _ hL11
          have hD12 := hD11.same e12
          have hT12 := tabs_same hT11 e12
          clear e12 hD11 hT11 hL11 nD12
          walk_at "goS"
          refine g_listL (SqL.of hL12) (fun p13 hp13 => ?_)
          walk_at "goS"
          have e13 := Same.new hp13 (o := .lst (List.map V.int xs))
          have u13 : upd H12 p13 (.lst (List.map V.int xs)) p13 = some (.lst (List.map V.int xs)) := upd_same
          generalize upd H12 p13 (.lst (List.map V.int xs)) = H13 at *
          have hL13 := e13 _ _ hL12
          have d13 := e13 _ _ u12
          have hD13 := hD12.same e13
          have hT13 := tabs_same hT12 e13
          clear e13 hD12 hT12 hL12 u12 hp13
          walk_at "goS"
          refine ⟨n, l, b, t, rfl, fun _ _ _ _ => ?_, fun z => absurd hn z, fun _ z => absurd hl5 z, fun _ _ z => absurd ⟨hb, ht⟩ z⟩
          walk_at "goS"
          refine ⟨n, l, p13, xs, rfl, SqL.of u13, by omega, fun _ _ _ H14 e14 => ?_, fun z => absurd hn z, fun _ z => absurd hl5 z, fun _ _ z => absurd hxs z⟩
          walk_at "goS"
          refine ⟨n, l, rfl, fun _ _ => ?_, fun z => absurd hn z, fun _ z => absurd hl5 z⟩
          walk_at "goS"
          intro p15 hp15
          walk_at "goS"
          intro p16 hp16
          have e16 := e14.trans ((Same.new hp15 (o := .lst [V.bl (decide (l ≤ (t - b) % n)), onV (firstO n l xs), V.int (n - l)])).trans (Same.new hp16 (o := .lst [V.non])))
          have u16 : upd (upd H14 p15 (.lst [V.bl (decide (l ≤ (t - b) % n)), onV (firstO n l xs), V.int (n - l)])) p16 (.lst [V.non]) p15 = some (.lst [V.bl (decide (l ≤ (t - b) % n)), onV (firstO n l xs), V.int (n - l)]) := upd_old upd_same hp16
          have w16 : upd (upd H14 p15 (.lst [V.bl (decide (l ≤ (t - b) % n)), onV (firstO n l xs), V.int (n - l)])) p16 (.lst [V.non]) p16 = some (.lst [V.non]) := upd_same
          generalize upd (upd H14 p15 (.lst [V.bl (decide (l ≤ (t - b) % n)), onV (firstO n l xs), V.int (n - l)])) p16 (.lst [V.non]) = H16 at *
          have dl : (dueL n l xs xs.length).length ≤ xs.length := by
            unfold dueL
            refine Nat.le_trans (List.length_filter_le _ _) (by simp)
          refine g_cat (e16 _ _ d13) w16 (by simp; omega) (fun p17 hp17 => ?_)
          have hw : (t + n - b) % n = (t - b) % n := by rw [show t + n - b = t - b + n by omega, Int.add_emod_right]
          walk_at "goS"
          refine g_ixL (SqL.of upd_same) (atI_nat (j := 0) dueL_first) ?_
          walk_at "goS"
          intro p18 hp18
          have e18 := (e16.trans (Same.new hp17 (o := .lst (List.map (fun m : Nat => V.int (m : Int)) (dueL n l xs xs.length) ++ [V.non])))).trans (Same.new hp18 (o := .lst [V.bl (decide (l ≤ (t + n - b) % n)), onV (firstO n l xs), V.int (n - l)]))
          have u18 := (Same.new hp18 (o := .lst [V.bl (decide (l ≤ (t + n - b) % n)), onV (firstO n l xs), V.int (n - l)])) _ _ ((Same.new hp17 (o := .lst (List.map (fun m : Nat => V.int (m : Int)) (dueL n l xs xs.length) ++ [V.non]))) _ _ u16)
          have w18 : upd (upd H16 p17 (.lst (List.map (fun m : Nat => V.int (m : Int)) (dueL n l xs xs.length) ++ [V.non]))) p18 (.lst [V.bl (decide (l ≤ (t + n - b) % n)), onV (firstO n l xs), V.int (n - l)]) p18 = some (.lst [V.bl (decide (l ≤ (t + n - b) % n)), onV (firstO n l xs), V.int (n - l)]) := upd_same
          generalize upd (upd H16 p17 (.lst (List.map (fun m : Nat => V.int (m : Int)) (dueL n l xs xs.length) ++ [V.non]))) p18 (.lst [V.bl (decide (l ≤ (t + n - b) % n)), onV (firstO n l xs), V.int (n - l)]) = H18 at *
          have hL18 := e18 _ _ hL13
          have h18 := e18 _ _ u13
          have hD18 := hD13.same e18
          have hT18 := tabs_same hT13 e18
          rw [hw] at w18
          clear e18 e14 e16 hp17 hp16 hp15 u16 w16 hL13 d13 hD13 hT13 u13
          walk_at "goS"
          refine g_cutS (fun σ' H19 => σ' = [some (.ref s), some (.ref a), some (.int (0 + (i : Nat))), some (.int n), some (.int l), some (.int b), some (.int t), some (.ref L), v8, v9, some (.ref D12), some (.ref p13), some (.ref p15), some (.ref p18), v14, v15, v16, v17, v18, v19] ∧ Same H18 H19) (fun N hN => ?_) ?_
          · walk_at "go"
            refine ⟨_, _, rfl, .lst u18 w18 rfl (by simp) (SD.flat (fun z hz d => by
              simp only [List.mem_cons, List.not_mem_nil, or_false] at hz
              rcases hz with rfl | rfl | rfl
              · exact .bl _
              · cases firstO n l xs with
                | none => exact .non
                | some j => exact .int _
              · exact .int _) rfl), fun H19 e19 => ?_⟩
            walk_at "go"
            refine g_neInts (ns := xs) (ms := xs) (SqL.of (e19 _ _ h18)) (SqL.of (e19 _ _ hL18)) ?_
            walk_at "go"
            refine ite_ndec (fun z => (z rfl).elim) (fun _ => ?_)
            walk_at "go"
            exact hN _ _ ⟨rfl, e19⟩
          · rintro σ' H19 ⟨rfl, e19⟩
            have hL19 := e19 _ _ hL18
            have hD19 := hD18.same e19
            have hT19 := tabs_same hT18 e19
            clear e19 hL18 hD18 hT18 h18
            walk_at "goS"
            refine ⟨a, s, _, _, rfl, hD19, fun bad H20 hbad g20 => ?_⟩
            walk_at "goS"
            refine ⟨a, s, _, _, rfl, g20.dr, fun non H21 hnon g21 => ?_⟩
            have hL21 := (g20.trans g21).at hL19 uLa
            have hD21 := g21.dr
            have hT21 := tabs_go (tabs_go hT19 hD19 g20) g20.dr g21
            have nb : ¬ Se n bad := fun z => by have := z.1; have := z.2; omega
            have no : ¬ Wh non := fun z => by have := z.1; have := z.2; omega
            clear g20 g21 hL19 hD19 hT19
            generalize (envOfC _ _ _ _ _).cells = cells
            dsimp only
            refine g_name15 ?_
            refine g_seq (g_asg (g_works0 hT21 (fun D f1 d1 H22 W1 => ?_)))
            walk_at "go1"
            dsimp only
            refine g_seq (g_drop (g_works W1 (j := 16) rfl (by simp) (fun f2 d2 H23 W2 => ?_)))
            dsimp only
            refine g_seq (g_drop (g_works W2 (j := 16) rfl (by simp) (fun f3 d3 H24 W3 => ?_)))
            dsimp only
            refine g_seq (g_drop (g_works W3 (j := 16) rfl (by simp) (fun f4 d4 H25 W4 => ?_)))
            dsimp only
            refine g_seq (g_drop (g_works W4 (j := 16) rfl (by simp) (fun f5 d5 H26 W5 => ?_)))
            dsimp only
            refine g_seq (g_drop (g_works W5 (j := 16) rfl (by simp) (fun f6 d6 H27 W6 => ?_)))
            dsimp only
            refine g_seq (g_drop (g_works W6 (j := 16) rfl (by simp) (fun f7 d7 H28 W7 => ?_)))
            dsimp only
            refine g_seq (g_drop (g_works W7 (j := 16) rfl (by simp) (fun f8 d8 H29 W8 => ?_)))
            dsimp only
            clear W1 W2 W3 W4 W5 W6 W7
            have hL29 := W8.kp _ _ hL21 (fun _ z => by cases z)
            walk_at "goS"
            intro p30 hp30
            have e30 := Same.new hp30 (o := .lst [V.int (0 - 1)])
            walk_at "goS"
            refine g_cat (e30 _ _ hL29) upd_same (by simp; omega) (fun p31 hp31 => ?_)
            have e31 := Same.new hp31 (o := .lst (List.map V.int xs ++ [V.int (0 - 1)]))
            walk_at "goS"
            intro p32 hp32
            have e32 := Same.new hp32 (o := .lst [V.int 5, V.int 4])
            walk_at "goS"
            intro p33 hp33
            have e33 := Same.new hp33 (o := .lst [V.int (0 - 1 - if bad < 0 then -bad else bad)])
            walk_at "goS"
            intro p34 hp34
            have e3033 := ((e30.trans e31).trans e32).trans e33
            have b31 : ∃ fl ms, (V.ref p31) = V.ref fl ∧ upd (upd (upd (upd H29 p30 (.lst [V.int (0 - 1)])) p31 (.lst (List.map V.int xs ++ [V.int (0 - 1)]))) p32 (.lst [V.int 5, V.int 4])) p33 (.lst [V.int (0 - 1 - if bad < 0 then -bad else bad)]) fl = some (.lst (List.map V.int ms)) ∧ ¬ Looks ms ∧ ms.length ≤ 301 :=
              ⟨p31, xs ++ [0 - 1], rfl, e33 _ _ (e32 _ _ (by rw [upd_same, List.map_append]; rfl)), not_looks_neg (x := 0 - 1) (by decide) (by simp), by simp; omega⟩
            have b32 : ∃ fl ms, (V.ref p32) = V.ref fl ∧ upd (upd (upd (upd H29 p30 (.lst [V.int (0 - 1)])) p31 (.lst (List.map V.int xs ++ [V.int (0 - 1)]))) p32 (.lst [V.int 5, V.int 4])) p33 (.lst [V.int (0 - 1 - if bad < 0 then -bad else bad)]) fl = some (.lst (List.map V.int ms)) ∧ ¬ Looks ms ∧ ms.length ≤ 301 :=
              ⟨p32, [5, 4], rfl, e33 _ _ upd_same, not_looks_54, by simp⟩
            have b33 : ∃ fl ms, (V.ref p33) = V.ref fl ∧ upd (upd (upd (upd H29 p30 (.lst [V.int (0 - 1)])) p31 (.lst (List.map V.int xs ++ [V.int (0 - 1)]))) p32 (.lst [V.int 5, V.int 4])) p33 (.lst [V.int (0 - 1 - if bad < 0 then -bad else bad)]) fl = some (.lst (List.map V.int ms)) ∧ ¬ Looks ms ∧ ms.length ≤ 301 :=
              ⟨p33, [0 - 1 - if bad < 0 then -bad else bad], rfl, upd_same, not_looks_neg (x := 0 - 1 - if bad < 0 then -bad else bad) (by split <;> omega) (by simp), by simp⟩
            generalize upd (upd (upd (upd H29 p30 (.lst [V.int (0 - 1)])) p31 (.lst (List.map V.int xs ++ [V.int (0 - 1)]))) p32 (.lst [V.int 5, V.int 4])) p33 (.lst [V.int (0 - 1 - if bad < 0 then -bad else bad)]) = H33 at *
            clear e30 e31 e32 e33 hp30 hp31 hp32 hp33 hL29 hL21
            have W33 := W8.same e3033
            have hD33 := hD21.ext W33.kp
            clear W8 e3033
            walk_at "goS"
            refine g_pick (xs := [V.ref p31, V.ref p32, V.ref p33]) hp34 hD33 (by decide) rfl (fun v H34 hv _ g34 _ => ?_)
            have hv : ∃ fl ms, v = V.ref fl ∧ H34 fl = some (.lst (List.map V.int ms)) ∧ ¬ Looks ms ∧ ms.length ≤ 301 := by
              have mv : (∃ fl ms, v = V.ref fl ∧ H33 fl = some (.lst (List.map V.int ms)) ∧ ¬ Looks ms ∧ ms.length ≤ 301) := by
                simp only [List.mem_cons, List.not_mem_nil, or_false] at hv
                rcases hv with e | e | e <;> subst e
                · exact b31
                · exact b32
                · exact b33
              obtain ⟨fl, ms, z1, z2, z3, z4⟩ := mv
              refine ⟨fl, ms, z1, g34.at z2 ?_, z3, z4⟩
              intro z
              obtain ⟨ns, i, m, l, h1, _⟩ := hD33.ex
              rw [z, h1] at z2
              have z2 := HO.lst.inj (Option.some.inj z2)
              cases ms with
              | nil => cases z2
              | cons y ys => injection z2 with z2; cases z2
            obtain ⟨fl, ms, rfl, hfl, hms, hml⟩ := hv
            obtain ⟨W34, hD34⟩ := W33.turn (by simp) hD21 g34
            clear W33 hD33 hD21 g34 b31 b32 b33 hp34
            walk_at "go1"
            try dsimp only
            refine g_seq (g_drop (g_works W34 (j := 16) rfl (by simp) (fun f9 d9 H35 W9 => ?_)))
            dsimp only
            have hfl35 : H35 fl = some (.lst (List.map V.int ms)) := by
              by_cases z : fl = D
              · subst z
                have := W34.l
                rw [hfl] at this
                have := HO.lst.inj (Option.some.inj this)
                cases ms with
                | nil => cases this
                | cons y ys => injection this with this; cases this
              · exact W9.kp _ _ (by rw [del_ne z]; exact hfl) (fun _ z => by cases z)
            clear W34 hfl
            walk_at "goS"
            intro p40 hp40
            have e40 := Same.new hp40 (o := .lst [V.str "BadWheel"])
            walk_at "goS"
            refine g_rep1 (n := 3) upd_same (by decide) (fun p41 hp41 => ?_)
            have e41 := e40.trans (Same.new hp41 (o := .lst [V.str "BadWheel", V.str "BadWheel", V.str "BadWheel"]))
            have u41 : upd (upd H35 p40 (.lst [V.str "BadWheel"])) p41 (.lst (List.replicate 3 (V.str "BadWheel"))) p41 = some (.lst [V.str "BadWheel", V.str "BadWheel", V.str "BadWheel"]) := upd_same
            generalize hH41 : upd (upd H35 p40 (.lst [V.str "BadWheel"])) p41 (.lst (List.replicate 3 (V.str "BadWheel"))) = H41 at *
            have e41 : Same H35 H41 := hH41 ▸ e40.trans (Same.new hp41)
            walk_at "goS"
            intro p42 hp42
            have e42 := Same.new hp42 (o := .lst [V.str "BadLong"])
            walk_at "goS"
            refine g_rep1 (n := 3) upd_same (by decide) (fun p43 hp43 => ?_)
            have u43 : upd (upd H41 p42 (.lst [V.str "BadLong"])) p43 (.lst (List.replicate 3 (V.str "BadLong"))) p43 = some (.lst [V.str "BadLong", V.str "BadLong", V.str "BadLong"]) := upd_same
            have e43 := e42.trans (Same.new hp43 (o := .lst (List.replicate 3 (V.str "BadLong"))))
            generalize upd (upd H41 p42 (.lst [V.str "BadLong"])) p43 (.lst (List.replicate 3 (V.str "BadLong"))) = H43 at *
            refine g_cat (e43 _ _ u41) u43 (by simp) (fun p44 hp44 => ?_)
            have u44 : upd H43 p44 (.lst ([V.str "BadWheel", V.str "BadWheel", V.str "BadWheel"] ++ [V.str "BadLong", V.str "BadLong", V.str "BadLong"])) p44 = some (.lst ([V.str "BadWheel", V.str "BadWheel", V.str "BadWheel"] ++ [V.str "BadLong", V.str "BadLong", V.str "BadLong"])) := upd_same
            have e44 := (e41.trans e43).trans (Same.new hp44 (o := .lst ([V.str "BadWheel", V.str "BadWheel", V.str "BadWheel"] ++ [V.str "BadLong", V.str "BadLong", V.str "BadLong"])))
            generalize upd H43 p44 (.lst ([V.str "BadWheel", V.str "BadWheel", V.str "BadWheel"] ++ [V.str "BadLong", V.str "BadLong", V.str "BadLong"])) = H44 at *
            clear e40 e41 e42 e43 hp44 hp43 hp42 hp41 hp40
            walk_at "goS"
            intro p45 hp45
            have e45 := Same.new hp45 (o := .lst [V.str "BadSeen"])
            walk_at "goS"
            refine g_rep1 (n := 2) upd_same (by decide) (fun p46 hp46 => ?_)
            have u46 : upd (upd H44 p45 (.lst [V.str "BadSeen"])) p46 (.lst (List.replicate 2 (V.str "BadSeen"))) p46 = some (.lst [V.str "BadSeen", V.str "BadSeen"]) := upd_same
            have e46 := e45.trans (Same.new hp46 (o := .lst (List.replicate 2 (V.str "BadSeen"))))
            generalize upd (upd H44 p45 (.lst [V.str "BadSeen"])) p46 (.lst (List.replicate 2 (V.str "BadSeen"))) = H46 at *
            refine g_cat (e46 _ _ u44) u46 (by simp) (fun p47 hp47 => ?_)
            have u47 : upd H46 p47 (.lst (([V.str "BadWheel", V.str "BadWheel", V.str "BadWheel"] ++ [V.str "BadLong", V.str "BadLong", V.str "BadLong"]) ++ [V.str "BadSeen", V.str "BadSeen"])) p47 = some (.lst (([V.str "BadWheel", V.str "BadWheel", V.str "BadWheel"] ++ [V.str "BadLong", V.str "BadLong", V.str "BadLong"]) ++ [V.str "BadSeen", V.str "BadSeen"])) := upd_same
            have e47 := (e44.trans e46).trans (Same.new hp47 (o := .lst (([V.str "BadWheel", V.str "BadWheel", V.str "BadWheel"] ++ [V.str "BadLong", V.str "BadLong", V.str "BadLong"]) ++ [V.str "BadSeen", V.str "BadSeen"])))
            generalize upd H46 p47 (.lst (([V.str "BadWheel", V.str "BadWheel", V.str "BadWheel"] ++ [V.str "BadLong", V.str "BadLong", V.str "BadLong"]) ++ [V.str "BadSeen", V.str "BadSeen"])) = H47 at *
            clear e44 e45 e46 hp47 hp46 hp45 u41 u43 u44 u46
            walk_at "goS"
            intro p48 hp48
            have e48 := e47.trans (Same.new hp48 (o := .lst [V.str "BadGaps"]))
            refine g_cat (Same.new hp48 _ _ u47) upd_same (by simp) (fun p49 hp49 => ?_)
            have e49 := e48.trans (Same.new hp49 (o := .lst ((([V.str "BadWheel", V.str "BadWheel", V.str "BadWheel"] ++ [V.str "BadLong", V.str "BadLong", V.str "BadLong"]) ++ [V.str "BadSeen", V.str "BadSeen"]) ++ [V.str "BadGaps"])))
            have u49 : upd (upd H47 p48 (.lst [V.str "BadGaps"])) p49 (.lst ((([V.str "BadWheel", V.str "BadWheel", V.str "BadWheel"] ++ [V.str "BadLong", V.str "BadLong", V.str "BadLong"]) ++ [V.str "BadSeen", V.str "BadSeen"]) ++ [V.str "BadGaps"])) p49 = some (.lst (List.map V.str ["BadWheel", "BadWheel", "BadWheel", "BadLong", "BadLong", "BadLong", "BadSeen", "BadSeen", "BadGaps"])) := upd_same
            generalize upd (upd H47 p48 (.lst [V.str "BadGaps"])) p49 (.lst ((([V.str "BadWheel", V.str "BadWheel", V.str "BadWheel"] ++ [V.str "BadLong", V.str "BadLong", V.str "BadLong"]) ++ [V.str "BadSeen", V.str "BadSeen"]) ++ [V.str "BadGaps"])) = H49 at *
            clear e47 e48 hp49 hp48 u47
            have W49 := W9.same e49
            have hfl49 := e49 _ _ hfl35
            clear W9 e49 hfl35
            walk_at "goS"
            refine g_ifS (g_test (g_op ?_))
            refine g_kinds (K := K) (ec := ec) (ws := ["BadWheel", "BadWheel", "BadWheel", "BadLong", "BadLong", "BadLong", "BadSeen", "BadSeen", "BadGaps"]) W49.tb W49.l rfl (by simp) rfl (by simp) (fun m x w hx hw => ?_) (fun D2 H50 e50 hT50 u50 => ?_)
            · match m, hx, hw with
              | 0, hx, hw =>
                cases hx
                cases hw
                refine ⟨f1, d1, lam_law_0, _, rfl, (.head _), (W49.at_ (f1, d1, lam_law_0) (by simp)).2, (W49.at_ (f1, d1, lam_law_0) (by simp)).1, fun H' Q' e hT q => ?_⟩
                try dsimp only
                walk_at "go"
                exact ⟨non, bad, bad, t, rfl, fun z => absurd z no, fun _ => EKind.mk T.q_BadWheel (fun H'' e2 => q _ (extN_same e2) (tabs_same hT e2)), fun z => absurd z no, fun z => absurd z no⟩
              | 1, hx, hw =>
                cases hx
                cases hw
                refine ⟨f2, d2, lam_law_1, _, rfl, (.tail _ (.head _)), (W49.at_ (f2, d2, lam_law_1) (by simp)).2, (W49.at_ (f2, d2, lam_law_1) (by simp)).1, fun H' Q' e hT q => ?_⟩
                try dsimp only
                walk_at "go"
                intro p hp
                try walk_at "go"
                exact ⟨non, bad, p, [0 - 1], rfl, SqL.of upd_same, by simp, fun z => absurd z no, fun _ => EKind.mk T.q_BadWheel (fun H'' e2 => q _ (extN_same ((Same.new hp).trans e2)) (tabs_same hT ((Same.new hp).trans e2))), fun z => absurd z no, fun z => absurd z no⟩
              | 2, hx, hw =>
                cases hx
                cases hw
                refine ⟨f3, d3, lam_law_2, _, rfl, (.tail _ (.tail _ (.head _))), (W49.at_ (f3, d3, lam_law_2) (by simp)).2, (W49.at_ (f3, d3, lam_law_2) (by simp)).1, fun H' Q' e hT q => ?_⟩
                try dsimp only
                walk_at "go"
                exact ⟨non, bad, rfl, fun z => absurd z no, fun _ => EKind.mk T.q_BadWheel (fun H'' e2 => q _ (extN_same e2) (tabs_same hT e2)), fun z => absurd z no⟩
              | 3, hx, hw =>
                cases hx
                cases hw
                refine ⟨f4, d4, lam_law_3, _, rfl, (.tail _ (.tail _ (.tail _ (.head _)))), (W49.at_ (f4, d4, lam_law_3) (by simp)).2, (W49.at_ (f4, d4, lam_law_3) (by simp)).1, fun H' Q' e hT q => ?_⟩
                try dsimp only
                walk_at "go"
                exact ⟨n, bad, bad, t, rfl, fun _ z => absurd z nb, fun z => absurd hn z, fun _ _ => EKind.mk T.q_BadLong (fun H'' e2 => q _ (extN_same e2) (tabs_same hT e2)), fun _ z => absurd z nb⟩
              | 4, hx, hw =>
                cases hx
                cases hw
                refine ⟨f5, d5, lam_law_4, _, rfl, (.tail _ (.tail _ (.tail _ (.tail _ (.head _))))), (W49.at_ (f5, d5, lam_law_4) (by simp)).2, (W49.at_ (f5, d5, lam_law_4) (by simp)).1, fun H' Q' e hT q => ?_⟩
                try dsimp only
                walk_at "go"
                intro p hp
                try walk_at "go"
                exact ⟨n, bad, p, [0 - 1], rfl, SqL.of upd_same, by simp, fun _ z => absurd z nb, fun z => absurd hn z, fun _ _ => EKind.mk T.q_BadLong (fun H'' e2 => q _ (extN_same ((Same.new hp).trans e2)) (tabs_same hT ((Same.new hp).trans e2))), fun _ z => absurd z nb⟩
              | 5, hx, hw =>
                cases hx
                cases hw
                refine ⟨f6, d6, lam_law_5, _, rfl, (.tail _ (.tail _ (.tail _ (.tail _ (.tail _ (.head _)))))), (W49.at_ (f6, d6, lam_law_5) (by simp)).2, (W49.at_ (f6, d6, lam_law_5) (by simp)).1, fun H' Q' e hT q => ?_⟩
                try dsimp only
                walk_at "go"
                exact ⟨n, bad, rfl, fun _ z => absurd z nb, fun z => absurd hn z, fun _ _ => EKind.mk T.q_BadLong (fun H'' e2 => q _ (extN_same e2) (tabs_same hT e2))⟩
              | 6, hx, hw =>
                cases hx
                cases hw
                refine ⟨f7, d7, lam_law_6, _, rfl, (.tail _ (.tail _ (.tail _ (.tail _ (.tail _ (.tail _ (.head _))))))), (W49.at_ (f7, d7, lam_law_6) (by simp)).2, (W49.at_ (f7, d7, lam_law_6) (by simp)).1, fun H' Q' e hT q => ?_⟩
                try dsimp only
                walk_at "go"
                exact ⟨n, l, bad, t, rfl, fun _ _ z => absurd z nb, fun z => absurd hn z, fun _ z => absurd hl5 z, fun _ _ _ => EKind.mk T.q_BadSeen (fun H'' e2 => q _ (extN_same e2) (tabs_same hT e2))⟩
              | 7, hx, hw =>
                cases hx
                cases hw
                refine ⟨f8, d8, lam_law_7, _, rfl, (.tail _ (.tail _ (.tail _ (.tail _ (.tail _ (.tail _ (.tail _ (.head _)))))))), (W49.at_ (f8, d8, lam_law_7) (by simp)).2, (W49.at_ (f8, d8, lam_law_7) (by simp)).1, fun H' Q' e hT q => ?_⟩
                try dsimp only
                walk_at "go"
                exact ⟨n, l, b, bad, rfl, fun _ _ _ z => absurd z nb, fun z => absurd hn z, fun _ z => absurd hl5 z, fun _ _ _ => EKind.mk T.q_BadSeen (fun H'' e2 => q _ (extN_same e2) (tabs_same hT e2))⟩
              | 8, hx, hw =>
                cases hx
                cases hw
                refine ⟨f9, d9, lam_law_8, _, rfl, (.tail _ (.tail _ (.tail _ (.tail _ (.tail _ (.tail _ (.tail _ (.tail _ (.head _))))))))), (W49.at_ (f9, d9, lam_law_8) (by simp)).2, (W49.at_ (f9, d9, lam_law_8) (by simp)).1, fun H' Q' e hT q => ?_⟩
                try dsimp only
                walk_at "go"
                exact ⟨n, l, fl, ms, rfl, SqL.of (extN_lst e hfl49), by omega, fun _ _ z => absurd z hms, fun z => absurd hn z, fun _ z => absurd hl5 z, fun _ _ _ H3 e3 => EKind.mk T.q_BadGaps (fun H'' e2 => q _ (extN_same (e3.trans e2)) (tabs_same hT (e3.trans e2)))⟩
            · walk_at "go"
              refine g_neStrs (ns := ["BadWheel", "BadWheel", "BadWheel", "BadLong", "BadLong", "BadLong", "BadSeen", "BadSeen", "BadGaps"]) (ms := ["BadWheel", "BadWheel", "BadWheel", "BadLong", "BadLong", "BadLong", "BadSeen", "BadSeen", "BadGaps"]) (SqL.of u50) (SqL.of (extN_lst e50 u49)) (by decide +kernel) (by decide +kernel) ?_
              walk_at "go"
              refine ite_ndec (fun z => (z rfl).elim) (fun _ => ?_)
              walk_at "go"
              exact ⟨(hD34.ext W49.kp).ext e50, hT50, _, _, _, _, _, _, _, _, _, _, _, _, _, _, _, _, _, _, rfl⟩
    · rintro σ H2 ⟨hD2, _, v2, v3, v4, v5, v6, v7, v8, v9, v10, v11, v12, v13, v14, v15, v16, v17, v18, v19, rfl⟩
      walk_at "go"
      exact k H2
end
end My
namespace My
open PySem PySem.Spec PyProof.Rows L2
section
variable {P : Program} {w : World} {K : PySem.W.Frag} {mg : Str → Option Value} {base : Heap} {ec : Ec}
theorem all_mk {l : PySem.W.OpenLaw} {w : World} {K : PySem.W.Frag} {h : Heap} {mg : Str → Option Value} {fa : Addr} (X : K.In h) (G : h.Ns mainGlobals mg) (hfa : mg "law" = some (.ref fa)) (own : LamX.OwnTab K fa h)
    {f0 : Addr} {od0 an0 : Option Addr} {sl0 : Array (Option Value)} {oc0 kV0 dc0 pm0 cd0 ct0 : Value}
    {f1 : Addr} {od1 an1 : Option Addr} {sl1 : Array (Option Value)} {oc1 kV1 dc1 pm1 cd1 ct1 : Value}
    {f2 : Addr} {od2 an2 : Option Addr} {sl2 : Array (Option Value)} {oc2 kV2 dc2 pm2 cd2 ct2 : Value}
    {f3 : Addr} {od3 an3 : Option Addr} {sl3 : Array (Option Value)} {oc3 kV3 dc3 pm3 cd3 ct3 : Value}
    {f4 : Addr} {od4 an4 : Option Addr} {sl4 : Array (Option Value)} {oc4 kV4 dc4 pm4 cd4 ct4 : Value}
    {f5 : Addr} {od5 an5 : Option Addr} {sl5 : Array (Option Value)} {oc5 kV5 dc5 pm5 cd5 ct5 : Value}
    {f6 : Addr} {od6 an6 : Option Addr} {sl6 : Array (Option Value)} {oc6 kV6 dc6 pm6 cd6 ct6 : Value}
    {f7 : Addr} {od7 an7 : Option Addr} {sl7 : Array (Option Value)} {oc7 kV7 dc7 pm7 cd7 ct7 : Value}
    {f8 : Addr} {od8 an8 : Option Addr} {sl8 : Array (Option Value)} {oc8 kV8 dc8 pm8 cd8 ct8 : Value}
    {f9 : Addr} {od9 an9 : Option Addr} {sl9 : Array (Option Value)} {oc9 kV9 dc9 pm9 cd9 ct9 : Value}
    {f10 : Addr} {od10 an10 : Option Addr} {sl10 : Array (Option Value)} {oc10 kV10 dc10 pm10 cd10 ct10 : Value}
    {f11 : Addr} {od11 an11 : Option Addr} {sl11 : Array (Option Value)} {oc11 kV11 dc11 pm11 cd11 ct11 : Value}
    {f12 : Addr} {od12 an12 : Option Addr} {sl12 : Array (Option Value)} {oc12 kV12 dc12 pm12 cd12 ct12 : Value}
    {f13 : Addr} {od13 an13 : Option Addr} {sl13 : Array (Option Value)} {oc13 kV13 dc13 pm13 cd13 ct13 : Value}
    {f14 cL PL : Addr} {od14 an14 ddL : Option Addr} {sl14 slL : Array (Option Value)} {vsL : Array Value} {oc14 kV14 dc14 pm14 ct14 eL : Value}
    {t_MOST_WHEEL : Tok}
    {C_BadWheel : Addr}
    {C_BadRule : Addr}
    {C_BadSeen : Addr}
    {C_BadGaps : Addr}
    {C_BadSpan : Addr}
    {C_BadLong : Addr}
    {C_NoGap : Addr}
    {C_NoSpan : Addr}
    {C_WrapError : Addr}
    (a0 : PySem.W.nsIn K mainGlobals "is_wheel" = some (some (.ref f0)))
    (l0 : K.lookup f0 = some ⟨oc0, od0, .func (PySem.W.fnOf "is_wheel" "is_wheel" (defArgs s_is_wheel) (defBody s_is_wheel) (defScope s_is_wheel) .none kV0 dc0 pm0 an0 cd0 ct0), sl0⟩)
    (c0 : PySem.W.codeIn K cd0 "is_wheel" = true)
    (k0 : PySem.W.keepIn K (.ref f0) = true)
    (a1 : PySem.W.nsIn K mainGlobals "need_wheel" = some (some (.ref f1)))
    (l1 : K.lookup f1 = some ⟨oc1, od1, .func (PySem.W.fnOf "need_wheel" "need_wheel" (defArgs s_need_wheel) (defBody s_need_wheel) (defScope s_need_wheel) .none kV1 dc1 pm1 an1 cd1 ct1), sl1⟩)
    (c1 : PySem.W.codeIn K cd1 "need_wheel" = true)
    (k1 : PySem.W.keepIn K (.ref f1) = true)
    (a2 : PySem.W.nsIn K mainGlobals "need_seen" = some (some (.ref f2)))
    (l2 : K.lookup f2 = some ⟨oc2, od2, .func (PySem.W.fnOf "need_seen" "need_seen" (defArgs s_need_seen) (defBody s_need_seen) (defScope s_need_seen) .none kV2 dc2 pm2 an2 cd2 ct2), sl2⟩)
    (c2 : PySem.W.codeIn K cd2 "need_seen" = true)
    (k2 : PySem.W.keepIn K (.ref f2) = true)
    (a3 : PySem.W.nsIn K mainGlobals "since_of" = some (some (.ref f3)))
    (l3 : K.lookup f3 = some ⟨oc3, od3, .func (PySem.W.fnOf "since_of" "since_of" (defArgs s_since_of) (defBody s_since_of) (defScope s_since_of) .none kV3 dc3 pm3 an3 cd3 ct3), sl3⟩)
    (c3 : PySem.W.codeIn K cd3 "since_of" = true)
    (k3 : PySem.W.keepIn K (.ref f3) = true)
    (a4 : PySem.W.nsIn K mainGlobals "need_long" = some (some (.ref f4)))
    (l4 : K.lookup f4 = some ⟨oc4, od4, .func (PySem.W.fnOf "need_long" "need_long" (defArgs s_need_long) (defBody s_need_long) (defScope s_need_long) .none kV4 dc4 pm4 an4 cd4 ct4), sl4⟩)
    (c4 : PySem.W.codeIn K cd4 "need_long" = true)
    (k4 : PySem.W.keepIn K (.ref f4) = true)
    (a5 : PySem.W.nsIn K mainGlobals "over" = some (some (.ref f5)))
    (l5 : K.lookup f5 = some ⟨oc5, od5, .func (PySem.W.fnOf "over" "over" (defArgs s_over) (defBody s_over) (defScope s_over) .none kV5 dc5 pm5 an5 cd5 ct5), sl5⟩)
    (c5 : PySem.W.codeIn K cd5 "over" = true)
    (k5 : PySem.W.keepIn K (.ref f5) = true)
    (a6 : PySem.W.nsIn K mainGlobals "first_over" = some (some (.ref f6)))
    (l6 : K.lookup f6 = some ⟨oc6, od6, .func (PySem.W.fnOf "first_over" "first_over" (defArgs s_first_over) (defBody s_first_over) (defScope s_first_over) .none kV6 dc6 pm6 an6 cd6 ct6), sl6⟩)
    (c6 : PySem.W.codeIn K cd6 "first_over" = true)
    (k6 : PySem.W.keepIn K (.ref f6) = true)
    (a7 : PySem.W.nsIn K mainGlobals "apart" = some (some (.ref f7)))
    (l7 : K.lookup f7 = some ⟨oc7, od7, .func (PySem.W.fnOf "apart" "apart" (defArgs s_apart) (defBody s_apart) (defScope s_apart) .none kV7 dc7 pm7 an7 cd7 ct7), sl7⟩)
    (c7 : PySem.W.codeIn K cd7 "apart" = true)
    (k7 : PySem.W.keepIn K (.ref f7) = true)
    (a8 : PySem.W.nsIn K mainGlobals "_law_start" = some (some (.ref f8)))
    (l8 : K.lookup f8 = some ⟨oc8, od8, .func (PySem.W.fnOf "_law_start" "_law_start" (defArgs s__law_start) (defBody s__law_start) (defScope s__law_start) .none kV8 dc8 pm8 an8 cd8 ct8), sl8⟩)
    (c8 : PySem.W.codeIn K cd8 "_law_start" = true)
    (k8 : PySem.W.keepIn K (.ref f8) = true)
    (a9 : PySem.W.nsIn K mainGlobals "_law_drawn" = some (some (.ref f9)))
    (l9 : K.lookup f9 = some ⟨oc9, od9, .func (PySem.W.fnOf "_law_drawn" "_law_drawn" (defArgs s__law_drawn) (defBody s__law_drawn) (defScope s__law_drawn) .none kV9 dc9 pm9 an9 cd9 ct9), sl9⟩)
    (c9 : PySem.W.codeIn K cd9 "_law_drawn" = true)
    (k9 : PySem.W.keepIn K (.ref f9) = true)
    (a10 : PySem.W.nsIn K mainGlobals "_law_same" = some (some (.ref f10)))
    (l10 : K.lookup f10 = some ⟨oc10, od10, .func (PySem.W.fnOf "_law_same" "_law_same" (defArgs s__law_same) (defBody s__law_same) (defScope s__law_same) .none kV10 dc10 pm10 an10 cd10 ct10), sl10⟩)
    (c10 : PySem.W.codeIn K cd10 "_law_same" = true)
    (k10 : PySem.W.keepIn K (.ref f10) = true)
    (a11 : PySem.W.nsIn K mainGlobals "_law_kind" = some (some (.ref f11)))
    (l11 : K.lookup f11 = some ⟨oc11, od11, .func (PySem.W.fnOf "_law_kind" "_law_kind" (defArgs s__law_kind) (defBody s__law_kind) (defScope s__law_kind) .none kV11 dc11 pm11 an11 cd11 ct11), sl11⟩)
    (c11 : PySem.W.codeIn K cd11 "_law_kind" = true)
    (k11 : PySem.W.keepIn K (.ref f11) = true)
    (a12 : PySem.W.nsIn K mainGlobals "_law_far" = some (some (.ref f12)))
    (l12 : K.lookup f12 = some ⟨oc12, od12, .func (PySem.W.fnOf "_law_far" "_law_far" (defArgs s__law_far) (defBody s__law_far) (defScope s__law_far) .none kV12 dc12 pm12 an12 cd12 ct12), sl12⟩)
    (c12 : PySem.W.codeIn K cd12 "_law_far" = true)
    (k12 : PySem.W.keepIn K (.ref f12) = true)
    (a13 : PySem.W.nsIn K mainGlobals "_law_wheel" = some (some (.ref f13)))
    (l13 : K.lookup f13 = some ⟨oc13, od13, .func (PySem.W.fnOf "_law_wheel" "_law_wheel" (defArgs s__law_wheel) (defBody s__law_wheel) (defScope s__law_wheel) .none kV13 dc13 pm13 an13 cd13 ct13), sl13⟩)
    (c13 : PySem.W.codeIn K cd13 "_law_wheel" = true)
    (k13 : PySem.W.keepIn K (.ref f13) = true)
    (a14 : PySem.W.nsIn K mainGlobals "law" = some (some (.ref f14)))
    (l14 : K.lookup f14 = some ⟨oc14, od14, .func (PySem.W.fnOf "law" "law" (defArgs s_law) (defBody s_law) (defScope s_law) .none kV14 dc14 pm14 an14 (.ref cL) ct14), sl14⟩)
    (c14 : PySem.W.codeIn K (.ref cL) "law" = true)
    (k14 : PySem.W.keepIn K (.ref f14) = true)
    (g_MOST_WHEEL : PySem.W.nsIn K mainGlobals "MOST_WHEEL" = some (some (.int 1000000000000 t_MOST_WHEEL)))
    (z_ValueError : PySem.W.nsIn K mainGlobals "ValueError" = some none)
    (z_enumerate : PySem.W.nsIn K mainGlobals "enumerate" = some none)
    (z_isinstance : PySem.W.nsIn K mainGlobals "isinstance" = some none)
    (z_str : PySem.W.nsIn K mainGlobals "str" = some none)
    (z_range : PySem.W.nsIn K mainGlobals "range" = some none)
    (z_len : PySem.W.nsIn K mainGlobals "len" = some none)
    (z_tuple : PySem.W.nsIn K mainGlobals "tuple" = some none)
    (z_list : PySem.W.nsIn K mainGlobals "list" = some none)
    (z_bool : PySem.W.nsIn K mainGlobals "bool" = some none)
    (z_int : PySem.W.nsIn K mainGlobals "int" = some none)
    (z_sorted : PySem.W.nsIn K mainGlobals "sorted" = some none)
    (z_min : PySem.W.nsIn K mainGlobals "min" = some none)
    (z_abs : PySem.W.nsIn K mainGlobals "abs" = some none)
    (eg_BadWheel : PySem.W.nsIn K mainGlobals "BadWheel" = some (some (.ref C_BadWheel)))
    (ex_BadWheel : PySem.W.excIn K C_BadWheel [.type "ValueError", .type "Exception", .type "BaseException", .type "object"] "ValueError.__new__" = true)
    (ek_BadWheel : PySem.W.keepIn K (.ref C_BadWheel) = true)
    (eb_BadWheel : PySem.W.subIn K (.ref C_BadWheel) (.type "BaseException") = some true)
    (et_BadWheel : PySem.W.typeIn K (.ref C_BadWheel) = some (.type "type"))
    (eg_BadRule : PySem.W.nsIn K mainGlobals "BadRule" = some (some (.ref C_BadRule)))
    (ex_BadRule : PySem.W.excIn K C_BadRule [.type "ValueError", .type "Exception", .type "BaseException", .type "object"] "ValueError.__new__" = true)
    (ek_BadRule : PySem.W.keepIn K (.ref C_BadRule) = true)
    (eb_BadRule : PySem.W.subIn K (.ref C_BadRule) (.type "BaseException") = some true)
    (et_BadRule : PySem.W.typeIn K (.ref C_BadRule) = some (.type "type"))
    (eg_BadSeen : PySem.W.nsIn K mainGlobals "BadSeen" = some (some (.ref C_BadSeen)))
    (ex_BadSeen : PySem.W.excIn K C_BadSeen [.type "ValueError", .type "Exception", .type "BaseException", .type "object"] "ValueError.__new__" = true)
    (ek_BadSeen : PySem.W.keepIn K (.ref C_BadSeen) = true)
    (eb_BadSeen : PySem.W.subIn K (.ref C_BadSeen) (.type "BaseException") = some true)
    (et_BadSeen : PySem.W.typeIn K (.ref C_BadSeen) = some (.type "type"))
    (eg_BadGaps : PySem.W.nsIn K mainGlobals "BadGaps" = some (some (.ref C_BadGaps)))
    (ex_BadGaps : PySem.W.excIn K C_BadGaps [.type "ValueError", .type "Exception", .type "BaseException", .type "object"] "ValueError.__new__" = true)
    (ek_BadGaps : PySem.W.keepIn K (.ref C_BadGaps) = true)
    (eb_BadGaps : PySem.W.subIn K (.ref C_BadGaps) (.type "BaseException") = some true)
    (et_BadGaps : PySem.W.typeIn K (.ref C_BadGaps) = some (.type "type"))
    (eg_BadSpan : PySem.W.nsIn K mainGlobals "BadSpan" = some (some (.ref C_BadSpan)))
    (ex_BadSpan : PySem.W.excIn K C_BadSpan [.type "ValueError", .type "Exception", .type "BaseException", .type "object"] "ValueError.__new__" = true)
    (ek_BadSpan : PySem.W.keepIn K (.ref C_BadSpan) = true)
    (eb_BadSpan : PySem.W.subIn K (.ref C_BadSpan) (.type "BaseException") = some true)
    (et_BadSpan : PySem.W.typeIn K (.ref C_BadSpan) = some (.type "type"))
    (eg_BadLong : PySem.W.nsIn K mainGlobals "BadLong" = some (some (.ref C_BadLong)))
    (ex_BadLong : PySem.W.excIn K C_BadLong [.type "ValueError", .type "Exception", .type "BaseException", .type "object"] "ValueError.__new__" = true)
    (ek_BadLong : PySem.W.keepIn K (.ref C_BadLong) = true)
    (eb_BadLong : PySem.W.subIn K (.ref C_BadLong) (.type "BaseException") = some true)
    (et_BadLong : PySem.W.typeIn K (.ref C_BadLong) = some (.type "type"))
    (eg_NoGap : PySem.W.nsIn K mainGlobals "NoGap" = some (some (.ref C_NoGap)))
    (ex_NoGap : PySem.W.excIn K C_NoGap [.type "ValueError", .type "Exception", .type "BaseException", .type "object"] "ValueError.__new__" = true)
    (ek_NoGap : PySem.W.keepIn K (.ref C_NoGap) = true)
    (eb_NoGap : PySem.W.subIn K (.ref C_NoGap) (.type "BaseException") = some true)
    (et_NoGap : PySem.W.typeIn K (.ref C_NoGap) = some (.type "type"))
    (eg_NoSpan : PySem.W.nsIn K mainGlobals "NoSpan" = some (some (.ref C_NoSpan)))
    (ex_NoSpan : PySem.W.excIn K C_NoSpan [.type "ValueError", .type "Exception", .type "BaseException", .type "object"] "ValueError.__new__" = true)
    (ek_NoSpan : PySem.W.keepIn K (.ref C_NoSpan) = true)
    (eb_NoSpan : PySem.W.subIn K (.ref C_NoSpan) (.type "BaseException") = some true)
    (et_NoSpan : PySem.W.typeIn K (.ref C_NoSpan) = some (.type "type"))
    (eg_WrapError : PySem.W.nsIn K mainGlobals "WrapError" = some (some (.ref C_WrapError)))
    (ex_WrapError : PySem.W.excIn K C_WrapError [.type "ValueError", .type "Exception", .type "BaseException", .type "object"] "ValueError.__new__" = true)
    (ek_WrapError : PySem.W.keepIn K (.ref C_WrapError) = true)
    (eb_WrapError : PySem.W.subIn K (.ref C_WrapError) (.type "BaseException") = some true)
    (et_WrapError : PySem.W.typeIn K (.ref C_WrapError) = some (.type "type"))
    (ox_BadWheel : PySem.W.hasDictIn K C_BadWheel = true)
    (ox_BadRule : PySem.W.hasDictIn K C_BadRule = true)
    (ox_BadSeen : PySem.W.hasDictIn K C_BadSeen = true)
    (ox_BadGaps : PySem.W.hasDictIn K C_BadGaps = true)
    (ox_BadSpan : PySem.W.hasDictIn K C_BadSpan = true)
    (ox_BadLong : PySem.W.hasDictIn K C_BadLong = true)
    (ox_NoGap : PySem.W.hasDictIn K C_NoGap = true)
    (ox_NoSpan : PySem.W.hasDictIn K C_NoSpan = true)
    (ox_WrapError : PySem.W.hasDictIn K C_WrapError = true)
    (ohg_BadWheel : PySem.W.findIn K (.ref C_BadWheel) "__getattribute__" = some (some (.builtin "BaseException.__getattribute__")))
    (ohk_BadWheel : PySem.W.findIn K (.ref C_BadWheel) "__getattr__" = some none)
    (oha_BadWheel : PySem.W.findIn K (.ref C_BadWheel) "__class__" = some (some (.builtin "object.__class__")))
    (ohm_BadWheel : PySem.W.mroIn K C_BadWheel (.type "object") = some true)
    (osw_BadWheel : PySem.W.subIn K (.ref C_BadWheel) (.ref C_WrapError) = some true)
    (osv_BadWheel : PySem.W.subIn K (.ref C_BadWheel) (.type "ValueError") = some true)
    (ok0_BadWheel : PySem.W.subIn K (.ref C_BadWheel) (.ref C_BadWheel) = some true)
    (ok1_BadWheel : PySem.W.subIn K (.ref C_BadWheel) (.ref C_BadRule) = some false)
    (oz1_BadWheel : C_BadWheel ≠ C_BadRule)
    (ok2_BadWheel : PySem.W.subIn K (.ref C_BadWheel) (.ref C_BadSeen) = some false)
    (oz2_BadWheel : C_BadWheel ≠ C_BadSeen)
    (ok3_BadWheel : PySem.W.subIn K (.ref C_BadWheel) (.ref C_BadGaps) = some false)
    (oz3_BadWheel : C_BadWheel ≠ C_BadGaps)
    (ok4_BadWheel : PySem.W.subIn K (.ref C_BadWheel) (.ref C_BadSpan) = some false)
    (oz4_BadWheel : C_BadWheel ≠ C_BadSpan)
    (ok5_BadWheel : PySem.W.subIn K (.ref C_BadWheel) (.ref C_BadLong) = some false)
    (oz5_BadWheel : C_BadWheel ≠ C_BadLong)
    (ok6_BadWheel : PySem.W.subIn K (.ref C_BadWheel) (.ref C_NoGap) = some false)
    (oz6_BadWheel : C_BadWheel ≠ C_NoGap)
    (ok7_BadWheel : PySem.W.subIn K (.ref C_BadWheel) (.ref C_NoSpan) = some false)
    (oz7_BadWheel : C_BadWheel ≠ C_NoSpan)
    (ohg_BadLong : PySem.W.findIn K (.ref C_BadLong) "__getattribute__" = some (some (.builtin "BaseException.__getattribute__")))
    (ohk_BadLong : PySem.W.findIn K (.ref C_BadLong) "__getattr__" = some none)
    (oha_BadLong : PySem.W.findIn K (.ref C_BadLong) "__class__" = some (some (.builtin "object.__class__")))
    (ohm_BadLong : PySem.W.mroIn K C_BadLong (.type "object") = some true)
    (osw_BadLong : PySem.W.subIn K (.ref C_BadLong) (.ref C_WrapError) = some true)
    (osv_BadLong : PySem.W.subIn K (.ref C_BadLong) (.type "ValueError") = some true)
    (ok0_BadLong : PySem.W.subIn K (.ref C_BadLong) (.ref C_BadWheel) = some false)
    (oz0_BadLong : C_BadLong ≠ C_BadWheel)
    (ok1_BadLong : PySem.W.subIn K (.ref C_BadLong) (.ref C_BadRule) = some false)
    (oz1_BadLong : C_BadLong ≠ C_BadRule)
    (ok2_BadLong : PySem.W.subIn K (.ref C_BadLong) (.ref C_BadSeen) = some false)
    (oz2_BadLong : C_BadLong ≠ C_BadSeen)
    (ok3_BadLong : PySem.W.subIn K (.ref C_BadLong) (.ref C_BadGaps) = some false)
    (oz3_BadLong : C_BadLong ≠ C_BadGaps)
    (ok4_BadLong : PySem.W.subIn K (.ref C_BadLong) (.ref C_BadSpan) = some false)
    (oz4_BadLong : C_BadLong ≠ C_BadSpan)
    (ok5_BadLong : PySem.W.subIn K (.ref C_BadLong) (.ref C_BadLong) = some true)
    (ok6_BadLong : PySem.W.subIn K (.ref C_BadLong) (.ref C_NoGap) = some false)
    (oz6_BadLong : C_BadLong ≠ C_NoGap)
    (ok7_BadLong : PySem.W.subIn K (.ref C_BadLong) (.ref C_NoSpan) = some false)
    (oz7_BadLong : C_BadLong ≠ C_NoSpan)
    (ohg_BadSeen : PySem.W.findIn K (.ref C_BadSeen) "__getattribute__" = some (some (.builtin "BaseException.__getattribute__")))
    (ohk_BadSeen : PySem.W.findIn K (.ref C_BadSeen) "__getattr__" = some none)
    (oha_BadSeen : PySem.W.findIn K (.ref C_BadSeen) "__class__" = some (some (.builtin "object.__class__")))
    (ohm_BadSeen : PySem.W.mroIn K C_BadSeen (.type "object") = some true)
    (osw_BadSeen : PySem.W.subIn K (.ref C_BadSeen) (.ref C_WrapError) = some true)
    (osv_BadSeen : PySem.W.subIn K (.ref C_BadSeen) (.type "ValueError") = some true)
    (ok0_BadSeen : PySem.W.subIn K (.ref C_BadSeen) (.ref C_BadWheel) = some false)
    (oz0_BadSeen : C_BadSeen ≠ C_BadWheel)
    (ok1_BadSeen : PySem.W.subIn K (.ref C_BadSeen) (.ref C_BadRule) = some false)
    (oz1_BadSeen : C_BadSeen ≠ C_BadRule)
    (ok2_BadSeen : PySem.W.subIn K (.ref C_BadSeen) (.ref C_BadSeen) = some true)
    (ok3_BadSeen : PySem.W.subIn K (.ref C_BadSeen) (.ref C_BadGaps) = some false)
    (oz3_BadSeen : C_BadSeen ≠ C_BadGaps)
    (ok4_BadSeen : PySem.W.subIn K (.ref C_BadSeen) (.ref C_BadSpan) = some false)
    (oz4_BadSeen : C_BadSeen ≠ C_BadSpan)
    (ok5_BadSeen : PySem.W.subIn K (.ref C_BadSeen) (.ref C_BadLong) = some false)
    (oz5_BadSeen : C_BadSeen ≠ C_BadLong)
    (ok6_BadSeen : PySem.W.subIn K (.ref C_BadSeen) (.ref C_NoGap) = some false)
    (oz6_BadSeen : C_BadSeen ≠ C_NoGap)
    (ok7_BadSeen : PySem.W.subIn K (.ref C_BadSeen) (.ref C_NoSpan) = some false)
    (oz7_BadSeen : C_BadSeen ≠ C_NoSpan)
    (ohg_BadGaps : PySem.W.findIn K (.ref C_BadGaps) "__getattribute__" = some (some (.builtin "BaseException.__getattribute__")))
    (ohk_BadGaps : PySem.W.findIn K (.ref C_BadGaps) "__getattr__" = some none)
    (oha_BadGaps : PySem.W.findIn K (.ref C_BadGaps) "__class__" = some (some (.builtin "object.__class__")))
    (ohm_BadGaps : PySem.W.mroIn K C_BadGaps (.type "object") = some true)
    (osw_BadGaps : PySem.W.subIn K (.ref C_BadGaps) (.ref C_WrapError) = some true)
    (osv_BadGaps : PySem.W.subIn K (.ref C_BadGaps) (.type "ValueError") = some true)
    (ok0_BadGaps : PySem.W.subIn K (.ref C_BadGaps) (.ref C_BadWheel) = some false)
    (oz0_BadGaps : C_BadGaps ≠ C_BadWheel)
    (ok1_BadGaps : PySem.W.subIn K (.ref C_BadGaps) (.ref C_BadRule) = some false)
    (oz1_BadGaps : C_BadGaps ≠ C_BadRule)
    (ok2_BadGaps : PySem.W.subIn K (.ref C_BadGaps) (.ref C_BadSeen) = some false)
    (oz2_BadGaps : C_BadGaps ≠ C_BadSeen)
    (ok3_BadGaps : PySem.W.subIn K (.ref C_BadGaps) (.ref C_BadGaps) = some true)
    (ok4_BadGaps : PySem.W.subIn K (.ref C_BadGaps) (.ref C_BadSpan) = some false)
    (oz4_BadGaps : C_BadGaps ≠ C_BadSpan)
    (ok5_BadGaps : PySem.W.subIn K (.ref C_BadGaps) (.ref C_BadLong) = some false)
    (oz5_BadGaps : C_BadGaps ≠ C_BadLong)
    (ok6_BadGaps : PySem.W.subIn K (.ref C_BadGaps) (.ref C_NoGap) = some false)
    (oz6_BadGaps : C_BadGaps ≠ C_NoGap)
    (ok7_BadGaps : PySem.W.subIn K (.ref C_BadGaps) (.ref C_NoSpan) = some false)
    (oz7_BadGaps : C_BadGaps ≠ C_NoSpan)
    (ohn : PySem.W.specialIn K (.builtin "object.__class__") "__get__" = some (some (.builtin "getset_descriptor.__get__")))
    (oht : PySem.W.takesIn K (.builtin "object.__class__") = some true)
    (lcL : K.lookup cL = some ⟨eL, ddL, .fields vsL, slL⟩)
    (vL : vsL[11]? = some (.ref PL))
    (hdL : PySem.W.codeHdIn K cL PL = true)
    (nPL : K.lookup PL = none) :
    LamX.LawAtS l w K (L2.CX l.prog w) 7 63 "_law_script" mg fa h := by
  have T : Txt K mg ⟨C_BadWheel, C_BadRule, C_BadSeen, C_BadGaps, C_BadSpan, C_BadLong, C_NoGap, C_NoSpan, C_WrapError, 0⟩ := { g_MOST_WHEEL := ⟨_, PySem.W.mg_of X G g_MOST_WHEEL⟩, ValueError := PySem.W.mg_none_of X G z_ValueError, enumerate := PySem.W.mg_none_of X G z_enumerate, isinstance := PySem.W.mg_none_of X G z_isinstance, str := PySem.W.mg_none_of X G z_str, range := PySem.W.mg_none_of X G z_range, len := PySem.W.mg_none_of X G z_len, tuple := PySem.W.mg_none_of X G z_tuple, list := PySem.W.mg_none_of X G z_list, bool := PySem.W.mg_none_of X G z_bool, int := PySem.W.mg_none_of X G z_int, sorted := PySem.W.mg_none_of X G z_sorted, min := PySem.W.mg_none_of X G z_min, abs := PySem.W.mg_none_of X G z_abs, x_BadWheel := ⟨PySem.W.mg_of X G eg_BadWheel, ex_BadWheel, ek_BadWheel, eb_BadWheel, et_BadWheel⟩, x_BadRule := ⟨PySem.W.mg_of X G eg_BadRule, ex_BadRule, ek_BadRule, eb_BadRule, et_BadRule⟩, x_BadSeen := ⟨PySem.W.mg_of X G eg_BadSeen, ex_BadSeen, ek_BadSeen, eb_BadSeen, et_BadSeen⟩, x_BadGaps := ⟨PySem.W.mg_of X G eg_BadGaps, ex_BadGaps, ek_BadGaps, eb_BadGaps, et_BadGaps⟩, x_BadSpan := ⟨PySem.W.mg_of X G eg_BadSpan, ex_BadSpan, ek_BadSpan, eb_BadSpan, et_BadSpan⟩, x_BadLong := ⟨PySem.W.mg_of X G eg_BadLong, ex_BadLong, ek_BadLong, eb_BadLong, et_BadLong⟩, x_NoGap := ⟨PySem.W.mg_of X G eg_NoGap, ex_NoGap, ek_NoGap, eb_NoGap, et_NoGap⟩, x_NoSpan := ⟨PySem.W.mg_of X G eg_NoSpan, ex_NoSpan, ek_NoSpan, eb_NoSpan, et_NoSpan⟩, x_WrapError := ⟨PySem.W.mg_of X G eg_WrapError, ex_WrapError, ek_WrapError, eb_WrapError, et_WrapError⟩, q_BadWheel := ⟨⟨ohg_BadWheel, ohk_BadWheel, eb_BadWheel, ox_BadWheel, oha_BadWheel, ohn, oht, ohm_BadWheel⟩, PySem.W.exm_ref eb_WrapError ox_WrapError et_WrapError osw_BadWheel, kit_ve osv_BadWheel, kit_yes ox_BadWheel et_BadWheel ok0_BadWheel, kit_no ox_BadRule et_BadRule oz1_BadWheel ok1_BadWheel, kit_no ox_BadSeen et_BadSeen oz2_BadWheel ok2_BadWheel, kit_no ox_BadGaps et_BadGaps oz3_BadWheel ok3_BadWheel, kit_no ox_BadSpan et_BadSpan oz4_BadWheel ok4_BadWheel, kit_no ox_BadLong et_BadLong oz5_BadWheel ok5_BadWheel, kit_no ox_NoGap et_NoGap oz6_BadWheel ok6_BadWheel, kit_no ox_NoSpan et_NoSpan oz7_BadWheel ok7_BadWheel, by decide⟩, q_BadLong := ⟨⟨ohg_BadLong, ohk_BadLong, eb_BadLong, ox_BadLong, oha_BadLong, ohn, oht, ohm_BadLong⟩, PySem.W.exm_ref eb_WrapError ox_WrapError et_WrapError osw_BadLong, kit_ve osv_BadLong, kit_no ox_BadWheel et_BadWheel oz0_BadLong ok0_BadLong, kit_no ox_BadRule et_BadRule oz1_BadLong ok1_BadLong, kit_no ox_BadSeen et_BadSeen oz2_BadLong ok2_BadLong, kit_no ox_BadGaps et_BadGaps oz3_BadLong ok3_BadLong, kit_no ox_BadSpan et_BadSpan oz4_BadLong ok4_BadLong, kit_yes ox_BadLong et_BadLong ok5_BadLong, kit_no ox_NoGap et_NoGap oz6_BadLong ok6_BadLong, kit_no ox_NoSpan et_NoSpan oz7_BadLong ok7_BadLong, by decide⟩, q_BadSeen := ⟨⟨ohg_BadSeen, ohk_BadSeen, eb_BadSeen, ox_BadSeen, oha_BadSeen, ohn, oht, ohm_BadSeen⟩, PySem.W.exm_ref eb_WrapError ox_WrapError et_WrapError osw_BadSeen, kit_ve osv_BadSeen, kit_no ox_BadWheel et_BadWheel oz0_BadSeen ok0_BadSeen, kit_no ox_BadRule et_BadRule oz1_BadSeen ok1_BadSeen, kit_yes ox_BadSeen et_BadSeen ok2_BadSeen, kit_no ox_BadGaps et_BadGaps oz3_BadSeen ok3_BadSeen, kit_no ox_BadSpan et_BadSpan oz4_BadSeen ok4_BadSeen, kit_no ox_BadLong et_BadLong oz5_BadSeen ok5_BadSeen, kit_no ox_NoGap et_NoGap oz6_BadSeen ok6_BadSeen, kit_no ox_NoSpan et_NoSpan oz7_BadSeen ok7_BadSeen, by decide⟩, q_BadGaps := ⟨⟨ohg_BadGaps, ohk_BadGaps, eb_BadGaps, ox_BadGaps, oha_BadGaps, ohn, oht, ohm_BadGaps⟩, PySem.W.exm_ref eb_WrapError ox_WrapError et_WrapError osw_BadGaps, kit_ve osv_BadGaps, kit_no ox_BadWheel et_BadWheel oz0_BadGaps ok0_BadGaps, kit_no ox_BadRule et_BadRule oz1_BadGaps ok1_BadGaps, kit_no ox_BadSeen et_BadSeen oz2_BadGaps ok2_BadGaps, kit_yes ox_BadGaps et_BadGaps ok3_BadGaps, kit_no ox_BadSpan et_BadSpan oz4_BadGaps ok4_BadGaps, kit_no ox_BadLong et_BadLong oz5_BadGaps ok5_BadGaps, kit_no ox_NoGap et_NoGap oz6_BadGaps ok6_BadGaps, kit_no ox_NoSpan et_NoSpan oz7_BadGaps ok7_BadGaps, by decide⟩ }
  have e := hfa.symm.trans (PySem.W.mg_of X G a14)
  cases e
  refine ⟨PySem.W.fnOf "law" "law" (defArgs s_law) (defBody s_law) (defScope s_law) .none kV14 dc14 pm14 an14 (.ref cL) ct14, [(cL, PL)], sp_lawT K PL, fun p hp => ?_, fun p hp => ?_, fun p hp => ?_, fun s v => .of_eq rfl, fun H a ns h1 _ h2 h3 => ⟨a, ns, rfl, h3, h1, h2 (cL, PL) (List.mem_singleton.mpr rfl), fun _ => rfl⟩, fun base hK hM hTB => ?_⟩
  · cases List.mem_singleton.mp hp
    exact own cL PL _ _ _ _ _ _ l14 rfl rfl lcL vL
  · cases List.mem_singleton.mp hp
    exact nPL
  · cases List.mem_singleton.mp hp
    exact PySem.W.codeHd_of_K X hdL
  have D_is_wheel : Fn K mg "is_wheel" s_is_wheel := ⟨f0, _, fun_mk (st := s_is_wheel) l0 c0 k0, PySem.W.mg_of X G a0⟩
  have D_need_wheel : Fn K mg "need_wheel" s_need_wheel := ⟨f1, _, fun_mk (st := s_need_wheel) l1 c1 k1, PySem.W.mg_of X G a1⟩
  have D_need_seen : Fn K mg "need_seen" s_need_seen := ⟨f2, _, fun_mk (st := s_need_seen) l2 c2 k2, PySem.W.mg_of X G a2⟩
  have D_since_of : Fn K mg "since_of" s_since_of := ⟨f3, _, fun_mk (st := s_since_of) l3 c3 k3, PySem.W.mg_of X G a3⟩
  have D_need_long : Fn K mg "need_long" s_need_long := ⟨f4, _, fun_mk (st := s_need_long) l4 c4 k4, PySem.W.mg_of X G a4⟩
  have D_over : Fn K mg "over" s_over := ⟨f5, _, fun_mk (st := s_over) l5 c5 k5, PySem.W.mg_of X G a5⟩
  have D_first_over : Fn K mg "first_over" s_first_over := ⟨f6, _, fun_mk (st := s_first_over) l6 c6 k6, PySem.W.mg_of X G a6⟩
  have D_apart : Fn K mg "apart" s_apart := ⟨f7, _, fun_mk (st := s_apart) l7 c7 k7, PySem.W.mg_of X G a7⟩
  have D__law_start : Fn K mg "_law_start" s__law_start := ⟨f8, _, fun_mk (st := s__law_start) l8 c8 k8, PySem.W.mg_of X G a8⟩
  have D__law_drawn : Fn K mg "_law_drawn" s__law_drawn := ⟨f9, _, fun_mk (st := s__law_drawn) l9 c9 k9, PySem.W.mg_of X G a9⟩
  have D__law_same : Fn K mg "_law_same" s__law_same := ⟨f10, _, fun_mk (st := s__law_same) l10 c10 k10, PySem.W.mg_of X G a10⟩
  have D__law_kind : FnL K mg "_law_kind" s__law_kind := ⟨f11, _, _, _, _, _, _, _, _, _, l11, c11, k11, PySem.W.mg_of X G a11⟩
  have D__law_far : Fn K mg "_law_far" s__law_far := ⟨f12, _, fun_mk (st := s__law_far) l12 c12 k12, PySem.W.mg_of X G a12⟩
  have D__law_wheel : Fn K mg "_law_wheel" s__law_wheel := ⟨f13, _, fun_mk (st := s__law_wheel) l13 c13 k13, PySem.W.mg_of X G a13⟩
  have c_is_wheel := ok_is_wheel (P := l.prog) (w := w) (base := base) T D_is_wheel 
  have c_need_wheel := ok_need_wheel (P := l.prog) (w := w) (base := base) T D_need_wheel c_is_wheel
  have c_need_seen := ok_need_seen (P := l.prog) (w := w) (base := base) T D_need_seen 
  have c_since_of := ok_since_of (P := l.prog) (w := w) (base := base) T D_since_of 
  have c_need_long := ok_need_long (P := l.prog) (w := w) (base := base) T D_need_long c_need_wheel
  have c_over := ok_over (P := l.prog) (w := w) (base := base) T D_over c_need_long c_need_seen c_since_of
  have c_first_over := ok_first_over (P := l.prog) (w := w) (base := base) T D_first_over c_need_long
  have c_apart := ok_apart (P := l.prog) (w := w) (base := base) T D_apart c_need_long
  have c__law_start := ok_start (P := l.prog) (w := w) (base := base) T D__law_start 
  have c__law_drawn := ok_drawn (P := l.prog) (w := w) (base := base) T D__law_drawn 
  have c__law_same := ok_same1 (P := l.prog) (w := w) (base := base) T D__law_same 
  have c__law_far := ok__law_far (P := l.prog) (w := w) (base := base) T D__law_far c__law_drawn
  have c__law_wheel := ok_wheel (P := l.prog) (w := w) (base := base) T D__law_wheel c__law_drawn
  exact ok_law T l14 c14 (hTB (cL, PL) (List.mem_singleton.mpr rfl)) D__law_kind c__law_start c__law_wheel c__law_far c__law_drawn c_over c_first_over c_apart c__law_same
end
end My
open PySem PySem.W PyProof.Rows
set_option maxRecDepth 100000 in
set_option maxHeartbeats 0 in
theorem PySem.Challenge.cw_wraptime_k11_timers_holds : PySem.Challenge.rw_wraptime_k11_timers.Holds := by
  w_on; o_law; k_head; (case hw => w_witness2)
  k_fill
  refine LamX.walk_ofOwn (n := 63) (k := 7) (x := "_law_script") (CX := fun w => L2.CX (PySem.Challenge.rw_wraptime_k11_timers).prog w) rfl (by decide) rfl (by exact ⟨rfl, by decide, by decide⟩) (by decide +kernel) (fun w h Y => PySem.W.km_in_of Y) ?F (fun _ _ _ _ _ h => by obtain ⟨_, _, _, _, _, _, _, _, _, _, _, _, z⟩ := h; exact z)
  case F =>
    intro w mg fa h Y KX G hmg own
    refine' My.all_mk KX G hmg own ?a0 ?l0 ?c0 ?k0 ?a1 ?l1 ?c1 ?k1 ?a2 ?l2 ?c2 ?k2 ?a3 ?l3 ?c3 ?k3 ?a4 ?l4 ?c4 ?k4 ?a5 ?l5 ?c5 ?k5 ?a6 ?l6 ?c6 ?k6 ?a7 ?l7 ?c7 ?k7 ?a8 ?l8 ?c8 ?k8 ?a9 ?l9 ?c9 ?k9 ?a10 ?l10 ?c10 ?k10 ?a11 ?l11 ?c11 ?k11 ?a12 ?l12 ?c12 ?k12 ?a13 ?l13 ?c13 ?k13 ?a14 ?l14 ?c14 ?k14 ?g_MOST_WHEEL ?z_ValueError ?z_enumerate ?z_isinstance ?z_str ?z_range ?z_len ?z_tuple ?z_list ?z_bool ?z_int ?z_sorted ?z_min ?z_abs ?eg_BadWheel ?ex_BadWheel ?ek_BadWheel ?eb_BadWheel ?et_BadWheel ?eg_BadRule ?ex_BadRule ?ek_BadRule ?eb_BadRule ?et_BadRule ?eg_BadSeen ?ex_BadSeen ?ek_BadSeen ?eb_BadSeen ?et_BadSeen ?eg_BadGaps ?ex_BadGaps ?ek_BadGaps ?eb_BadGaps ?et_BadGaps ?eg_BadSpan ?ex_BadSpan ?ek_BadSpan ?eb_BadSpan ?et_BadSpan ?eg_BadLong ?ex_BadLong ?ek_BadLong ?eb_BadLong ?et_BadLong ?eg_NoGap ?ex_NoGap ?ek_NoGap ?eb_NoGap ?et_NoGap ?eg_NoSpan ?ex_NoSpan ?ek_NoSpan ?eb_NoSpan ?et_NoSpan ?eg_WrapError ?ex_WrapError ?ek_WrapError ?eb_WrapError ?et_WrapError ?ox_BadWheel ?ox_BadRule ?ox_BadSeen ?ox_BadGaps ?ox_BadSpan ?ox_BadLong ?ox_NoGap ?ox_NoSpan ?ox_WrapError ?ohg_BadWheel ?ohk_BadWheel ?oha_BadWheel ?ohm_BadWheel ?osw_BadWheel ?osv_BadWheel ?ok0_BadWheel ?ok1_BadWheel ?oz1_BadWheel ?ok2_BadWheel ?oz2_BadWheel ?ok3_BadWheel ?oz3_BadWheel ?ok4_BadWheel ?oz4_BadWheel ?ok5_BadWheel ?oz5_BadWheel ?ok6_BadWheel ?oz6_BadWheel ?ok7_BadWheel ?oz7_BadWheel ?ohg_BadLong ?ohk_BadLong ?oha_BadLong ?ohm_BadLong ?osw_BadLong ?osv_BadLong ?ok0_BadLong ?oz0_BadLong ?ok1_BadLong ?oz1_BadLong ?ok2_BadLong ?oz2_BadLong ?ok3_BadLong ?oz3_BadLong ?ok4_BadLong ?oz4_BadLong ?ok5_BadLong ?ok6_BadLong ?oz6_BadLong ?ok7_BadLong ?oz7_BadLong ?ohg_BadSeen ?ohk_BadSeen ?oha_BadSeen ?ohm_BadSeen ?osw_BadSeen ?osv_BadSeen ?ok0_BadSeen ?oz0_BadSeen ?ok1_BadSeen ?oz1_BadSeen ?ok2_BadSeen ?ok3_BadSeen ?oz3_BadSeen ?ok4_BadSeen ?oz4_BadSeen ?ok5_BadSeen ?oz5_BadSeen ?ok6_BadSeen ?oz6_BadSeen ?ok7_BadSeen ?oz7_BadSeen ?ohg_BadGaps ?ohk_BadGaps ?oha_BadGaps ?ohm_BadGaps ?osw_BadGaps ?osv_BadGaps ?ok0_BadGaps ?oz0_BadGaps ?ok1_BadGaps ?oz1_BadGaps ?ok2_BadGaps ?oz2_BadGaps ?ok3_BadGaps ?ok4_BadGaps ?oz4_BadGaps ?ok5_BadGaps ?oz5_BadGaps ?ok6_BadGaps ?oz6_BadGaps ?ok7_BadGaps ?oz7_BadGaps ?ohn ?oht ?lcL ?vL ?hdL ?nPL
    (case a0 => k_is)
    (case l0 => k_is)
    (case c0 => k_is)
    (case k0 => k_is)
    (case a1 => k_is)
    (case l1 => k_is)
    (case c1 => k_is)
    (case k1 => k_is)
    (case a2 => k_is)
    (case l2 => k_is)
    (case c2 => k_is)
    (case k2 => k_is)
    (case a3 => k_is)
    (case l3 => k_is)
    (case c3 => k_is)
    (case k3 => k_is)
    (case a4 => k_is)
    (case l4 => k_is)
    (case c4 => k_is)
    (case k4 => k_is)
    (case a5 => k_is)
    (case l5 => k_is)
    (case c5 => k_is)
    (case k5 => k_is)
    (case a6 => k_is)
    (case l6 => k_is)
    (case c6 => k_is)
    (case k6 => k_is)
    (case a7 => k_is)
    (case l7 => k_is)
    (case c7 => k_is)
    (case k7 => k_is)
    (case a8 => k_is)
    (case l8 => k_is)
    (case c8 => k_is)
    (case k8 => k_is)
    (case a9 => k_is)
    (case l9 => k_is)
    (case c9 => k_is)
    (case k9 => k_is)
    (case a10 => k_is)
    (case l10 => k_is)
    (case c10 => k_is)
    (case k10 => k_is)
    (case a11 => k_is)
    (case l11 => k_is)
    (case c11 => k_is)
    (case k11 => k_is)
    (case a12 => k_is)
    (case l12 => k_is)
    (case c12 => k_is)
    (case k12 => k_is)
    (case a13 => k_is)
    (case l13 => k_is)
    (case c13 => k_is)
    (case k13 => k_is)
    (case a14 => k_is)
    (case l14 => k_is)
    (case c14 => k_is)
    (case k14 => k_is)
    (case g_MOST_WHEEL => k_is)
    (case z_ValueError => k_is)
    (case z_enumerate => k_is)
    (case z_isinstance => k_is)
    (case z_str => k_is)
    (case z_range => k_is)
    (case z_len => k_is)
    (case z_tuple => k_is)
    (case z_list => k_is)
    (case z_bool => k_is)
    (case z_int => k_is)
    (case z_sorted => k_is)
    (case z_min => k_is)
    (case z_abs => k_is)
    (case eg_BadWheel => k_is)
    (case ex_BadWheel => k_exc)
    (case ek_BadWheel => k_is)
    (case eb_BadWheel => k_is)
    (case et_BadWheel => k_is)
    (case eg_BadRule => k_is)
    (case ex_BadRule => k_exc)
    (case ek_BadRule => k_is)
    (case eb_BadRule => k_is)
    (case et_BadRule => k_is)
    (case eg_BadSeen => k_is)
    (case ex_BadSeen => k_exc)
    (case ek_BadSeen => k_is)
    (case eb_BadSeen => k_is)
    (case et_BadSeen => k_is)
    (case eg_BadGaps => k_is)
    (case ex_BadGaps => k_exc)
    (case ek_BadGaps => k_is)
    (case eb_BadGaps => k_is)
    (case et_BadGaps => k_is)
    (case eg_BadSpan => k_is)
    (case ex_BadSpan => k_exc)
    (case ek_BadSpan => k_is)
    (case eb_BadSpan => k_is)
    (case et_BadSpan => k_is)
    (case eg_BadLong => k_is)
    (case ex_BadLong => k_exc)
    (case ek_BadLong => k_is)
    (case eb_BadLong => k_is)
    (case et_BadLong => k_is)
    (case eg_NoGap => k_is)
    (case ex_NoGap => k_exc)
    (case ek_NoGap => k_is)
    (case eb_NoGap => k_is)
    (case et_NoGap => k_is)
    (case eg_NoSpan => k_is)
    (case ex_NoSpan => k_exc)
    (case ek_NoSpan => k_is)
    (case eb_NoSpan => k_is)
    (case et_NoSpan => k_is)
    (case eg_WrapError => k_is)
    (case ex_WrapError => k_exc)
    (case ek_WrapError => k_is)
    (case eb_WrapError => k_is)
    (case et_WrapError => k_is)
    (case ox_BadWheel => k_is)
    (case ox_BadRule => k_is)
    (case ox_BadSeen => k_is)
    (case ox_BadGaps => k_is)
    (case ox_BadSpan => k_is)
    (case ox_BadLong => k_is)
    (case ox_NoGap => k_is)
    (case ox_NoSpan => k_is)
    (case ox_WrapError => k_is)
    (case ohg_BadWheel => k_is)
    (case ohk_BadWheel => k_is)
    (case oha_BadWheel => k_is)
    (case ohm_BadWheel => k_is)
    (case osw_BadWheel => k_is)
    (case osv_BadWheel => k_is)
    (case ok0_BadWheel => k_is)
    (case ok1_BadWheel => k_is)
    (case oz1_BadWheel => decide)
    (case ok2_BadWheel => k_is)
    (case oz2_BadWheel => decide)
    (case ok3_BadWheel => k_is)
    (case oz3_BadWheel => decide)
    (case ok4_BadWheel => k_is)
    (case oz4_BadWheel => decide)
    (case ok5_BadWheel => k_is)
    (case oz5_BadWheel => decide)
    (case ok6_BadWheel => k_is)
    (case oz6_BadWheel => decide)
    (case ok7_BadWheel => k_is)
    (case oz7_BadWheel => decide)
    (case ohg_BadLong => k_is)
    (case ohk_BadLong => k_is)
    (case oha_BadLong => k_is)
    (case ohm_BadLong => k_is)
    (case osw_BadLong => k_is)
    (case osv_BadLong => k_is)
    (case ok0_BadLong => k_is)
    (case oz0_BadLong => decide)
    (case ok1_BadLong => k_is)
    (case oz1_BadLong => decide)
    (case ok2_BadLong => k_is)
    (case oz2_BadLong => decide)
    (case ok3_BadLong => k_is)
    (case oz3_BadLong => decide)
    (case ok4_BadLong => k_is)
    (case oz4_BadLong => decide)
    (case ok5_BadLong => k_is)
    (case ok6_BadLong => k_is)
    (case oz6_BadLong => decide)
    (case ok7_BadLong => k_is)
    (case oz7_BadLong => decide)
    (case ohg_BadSeen => k_is)
    (case ohk_BadSeen => k_is)
    (case oha_BadSeen => k_is)
    (case ohm_BadSeen => k_is)
    (case osw_BadSeen => k_is)
    (case osv_BadSeen => k_is)
    (case ok0_BadSeen => k_is)
    (case oz0_BadSeen => decide)
    (case ok1_BadSeen => k_is)
    (case oz1_BadSeen => decide)
    (case ok2_BadSeen => k_is)
    (case ok3_BadSeen => k_is)
    (case oz3_BadSeen => decide)
    (case ok4_BadSeen => k_is)
    (case oz4_BadSeen => decide)
    (case ok5_BadSeen => k_is)
    (case oz5_BadSeen => decide)
    (case ok6_BadSeen => k_is)
    (case oz6_BadSeen => decide)
    (case ok7_BadSeen => k_is)
    (case oz7_BadSeen => decide)
    (case ohg_BadGaps => k_is)
    (case ohk_BadGaps => k_is)
    (case oha_BadGaps => k_is)
    (case ohm_BadGaps => k_is)
    (case osw_BadGaps => k_is)
    (case osv_BadGaps => k_is)
    (case ok0_BadGaps => k_is)
    (case oz0_BadGaps => decide)
    (case ok1_BadGaps => k_is)
    (case oz1_BadGaps => decide)
    (case ok2_BadGaps => k_is)
    (case oz2_BadGaps => decide)
    (case ok3_BadGaps => k_is)
    (case ok4_BadGaps => k_is)
    (case oz4_BadGaps => decide)
    (case ok5_BadGaps => k_is)
    (case oz5_BadGaps => decide)
    (case ok6_BadGaps => k_is)
    (case oz6_BadGaps => decide)
    (case ok7_BadGaps => k_is)
    (case oz7_BadGaps => decide)
    (case ohn => k_is)
    (case oht => k_is)
    (case lcL => k_is)
    (case vL => rfl)
    (case hdL => kernel_rfl)
    (case nPL => kernel_rfl)

