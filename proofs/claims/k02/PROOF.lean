import PyProof.Rows.All
import Wide.All
import OpenK.AllK
import Wide.FinOn
import HandS.ForMost
import HandS.Exc
import HandS.TryOnly
import HandS.ExcOwn
import HandS.WordsExc
import HandS.Lambda
import HandS.EndTab
import HandS.EndOwn
import HandS.Wide
import HandS.IsInst
import HandS.ExcIs
import HandS.Defaults
import HandS.SortInts
import HandS.SortKw
import HandS.Strs
import PySem.Challenge.RW_wraptime_k02_rules_looked_at
set_option Elab.async false
set_option linter.all false
set_option maxRecDepth 100000
set_option maxHeartbeats 4000000
set_option Elab.async false
set_option linter.all false
set_option maxRecDepth 100000
set_option maxHeartbeats 4000000
namespace My
open PySem PySem.Spec PyProof.Rows L2
open LamX (Tabs TabS CodeO ExtN)
/-! ### what is known of a def -/
structure Knows (P : Program) (w : World) (K : PySem.W.Frag) (mg : Str → Option Value) (base : Heap) (k : Nat) (x : Str) (ps : List Str) (sp : Sp) : Prop where
  ex : ∃ (f : Addr) (fd : FuncData), FnOk P w K mg base (L2.CX P w) k f fd ps sp ∧ mg x = some (.ref f) ∧ PySem.W.keepIn K (.ref f) = true ∧ Binds K fd ps []
structure DefAt (K : PySem.W.Frag) (mg : Str → Option Value) (x : Str) (st : Stmt) (f : Addr) (fd : FuncData) : Prop where
  fn : Fun K x x st f fd
  g : mg x = some (.ref f)
structure ExcAt (K : PySem.W.Frag) (mg : Str → Option Value) (x : Str) (C : Addr) : Prop where
  g : mg x = some (.ref C)
  x : PySem.W.excIn K C [.type "ValueError", .type "Exception", .type "BaseException", .type "object"] "ValueError.__new__" = true
  k : PySem.W.keepIn K (.ref C) = true
  b : PySem.W.subIn K (.ref C) (.type "BaseException") = some true
  t : PySem.W.typeIn K (.ref C) = some (.type "type")
theorem pe_callN {X : Cx} {k : Nat} {x : Str} {ps : List Str} {sp : Sp} {E : XK} {p pos : Pos} {e : Expr} {es : List Expr} {t : TA} (c : Knows X.prog X.w X.K X.mg X.base k x ps sp) (hr : Room k X.A) (hx : Passes (L2.CX X.prog X.w) X E)
    (ha : PA X (e :: es) t) (hg : Gl X x := by rfl) (hdb : (x == ("__debug__" : Str)) = false := by decide) (he : starEach (e :: es) X.env = (false, eval e X.env) :: starEach es X.env := by rfl) (hpl : (backTo pos (starEach es X.env)).any (·.1) = false := by rfl) :
    PE X (.Call (.Name x p) (e :: es) [] pos) (tCall sp [] E t) := by
  obtain ⟨f, fd, F, hm, hk, hb⟩ := c.ex
  exact pe_call F hr hg hm hk hb .nil hx ha hdb he hpl
section
variable {P : Program} {w : World} {K : PySem.W.Frag} {mg : Str → Option Value} {base : Heap} {N : List Str} {qual : Str} {scope : Scope} {f : Addr} {cd : Value} {A : Around} {outer : List Env} {s : Shared} {H : Hp} {E : XK}
theorem takesD : Takes (cxOf (L2.CX P w) P w K mg base N qual scope f cd A outer s H E) (fun cls d _ H => E cls d H) := takes_of rfl rfl rfl rfl
theorem passD : Passes (L2.CX P w) (cxOf (L2.CX P w) P w K mg base N qual scope f cd A outer s H E) E := passes_call takesD (fun _ _ _ _ h => h)
theorem passO : PassesOwn (model P w) (A.deeper (envOfC qual scope s.heap.objs.size f cd)) (envOfC qual scope s.heap.objs.size f cd) (cxOf (L2.CX P w) P w K mg base N qual scope f cd A outer s H E).xe := PassesOwn.leaving
theorem ps_raiseN {x m : Str} {C : Addr} {j : Nat} {p p2 pos pos2 : Pos} (e : ExcAt K mg x C) (hg : Gl (cxOf (L2.CX P w) P w K mg base N qual scope f cd A outer s H E) x := by rfl) (hdb : (x == ("__debug__" : Str)) = false := by decide) :
    PS (cxOf (L2.CX P w) P w K mg base N qual scope f cd A outer s H E) (.Raise (some (.Call (.Name x p) [.Constant (.str m) j p2] [] pos)) none pos2) (fun _ _ H' => E (.ref C) none H') :=
  ps_raise rfl takesD (pmk_own PySem.F.excBase_ValueError e.x e.g e.k (raises_own e.b e.t) hg hdb)
end
/-! ### rules by name -/
def rLenN (K : PySem.W.Frag) : List V → Hp → VK → Prop := fun xs H Q => ∃ (x : V) (n : Nat), xs = [x] ∧ LenV K x H n ∧ Q (.int n) H
theorem call_lenN {X : Cx} : CallR X (.builtin "len") (rLenN X.K) := call_len
def rMin2 : List V → Hp → VK → Prop := fun xs H Q => ∃ i j : Int, xs = [.int i, .int j] ∧ Q (.int (if j < i then j else i)) H
def rMax2 : List V → Hp → VK → Prop := fun xs H Q => ∃ i j : Int, xs = [.int i, .int j] ∧ Q (.int (if j > i then j else i)) H
theorem call_min2N {X : Cx} (hc : X.calm = true) : CallR X (.builtin "min") rMin2 := call_min2 hc
theorem call_max2N {X : Cx} (hc : X.calm = true) : CallR X (.builtin "max") rMax2 := call_max2 hc
def rAbs : List V → Hp → VK → Prop := fun xs H Q => ∃ i : Int, xs = [.int i] ∧ Q (.int (if i < 0 then -i else i)) H
theorem call_absN {X : Cx} : CallR X (.builtin "abs") rAbs := call_abs
def rInt1 : List V → Hp → VK → Prop := fun xs H Q => (∃ i : Int, xs = [.int i] ∧ Q (.int i) H) ∨ ∃ k : Bool, xs = [.bl k] ∧ Q (.int (if k then 1 else 0)) H
theorem call_intN {X : Cx} : CallR X (.type "int") rInt1 := call_int1
def rListOf (K : PySem.W.Frag) : List V → Hp → VK → Prop := fun xs H Q => ∃ (p : Addr) (ys : List V), xs = [.ref p] ∧ (SqL K H p ys ∨ SqT K H p ys) ∧ ∀ l, H l = none → Q (.ref l) (upd H l (.lst ys))
theorem call_listN {X : Cx} : CallR X (.type "list") (rListOf X.K) := call_list_of
def rIsN : R2 := fun x y H Q => y = .non ∧ Q (.bl (decide (x = .non))) H
def rNotN : R2 := fun x y H Q => y = .non ∧ Q (.bl (!decide (x = .non))) H
theorem op_isNN {X : Cx} : OpR X (compareOp .Is) rIsN := op_isN
theorem op_notNN {X : Cx} : OpR X (compareOp .IsNot) rNotN := op_notN
/-! ### a reading, step by step -/
section
variable {σ : L2.St} {H : Hp} {i : Nat} {v : V} {ta tb tc : TE} {t u : TT} {r r' : R2} {Q : VK} {QB : Bool → Hp → Prop} {QA : List V → Hp → Prop} {D : Ends} {g : TG} {a b : Int} {te : TE} {tl : TA} {s1 s2 : TS}
theorem g_var (h : σ[i]? = some (some v)) (q : Q v H) : tVar i σ H Q := ⟨v, h, q⟩
theorem g_var0 {r : L2.St} (q : Q v H) : tVar 0 (some v :: r) H Q := ⟨v, rfl, q⟩
theorem g_var1 {x0 : Option V} {r : L2.St} (q : Q v H) : tVar 1 (x0 :: some v :: r) H Q := ⟨v, rfl, q⟩
theorem g_var2 {x0 x1 : Option V} {r : L2.St} (q : Q v H) : tVar 2 (x0 :: x1 :: some v :: r) H Q := ⟨v, rfl, q⟩
theorem g_var3 {x0 x1 x2 : Option V} {r : L2.St} (q : Q v H) : tVar 3 (x0 :: x1 :: x2 :: some v :: r) H Q := ⟨v, rfl, q⟩
theorem g_var4 {x0 x1 x2 x3 : Option V} {r : L2.St} (q : Q v H) : tVar 4 (x0 :: x1 :: x2 :: x3 :: some v :: r) H Q := ⟨v, rfl, q⟩
theorem g_var5 {x0 x1 x2 x3 x4 : Option V} {r : L2.St} (q : Q v H) : tVar 5 (x0 :: x1 :: x2 :: x3 :: x4 :: some v :: r) H Q := ⟨v, rfl, q⟩
theorem g_var6 {x0 x1 x2 x3 x4 x5 : Option V} {r : L2.St} (q : Q v H) : tVar 6 (x0 :: x1 :: x2 :: x3 :: x4 :: x5 :: some v :: r) H Q := ⟨v, rfl, q⟩
theorem g_var7 {x0 x1 x2 x3 x4 x5 x6 : Option V} {r : L2.St} (q : Q v H) : tVar 7 (x0 :: x1 :: x2 :: x3 :: x4 :: x5 :: x6 :: some v :: r) H Q := ⟨v, rfl, q⟩
theorem g_var8 {x0 x1 x2 x3 x4 x5 x6 x7 : Option V} {r : L2.St} (q : Q v H) : tVar 8 (x0 :: x1 :: x2 :: x3 :: x4 :: x5 :: x6 :: x7 :: some v :: r) H Q := ⟨v, rfl, q⟩
theorem g_var9 {x0 x1 x2 x3 x4 x5 x6 x7 x8 : Option V} {r : L2.St} (q : Q v H) : tVar 9 (x0 :: x1 :: x2 :: x3 :: x4 :: x5 :: x6 :: x7 :: x8 :: some v :: r) H Q := ⟨v, rfl, q⟩
theorem g_var10 {x0 x1 x2 x3 x4 x5 x6 x7 x8 x9 : Option V} {r : L2.St} (q : Q v H) : tVar 10 (x0 :: x1 :: x2 :: x3 :: x4 :: x5 :: x6 :: x7 :: x8 :: x9 :: some v :: r) H Q := ⟨v, rfl, q⟩
theorem g_var11 {x0 x1 x2 x3 x4 x5 x6 x7 x8 x9 x10 : Option V} {r : L2.St} (q : Q v H) : tVar 11 (x0 :: x1 :: x2 :: x3 :: x4 :: x5 :: x6 :: x7 :: x8 :: x9 :: x10 :: some v :: r) H Q := ⟨v, rfl, q⟩
theorem g_var12 {x0 x1 x2 x3 x4 x5 x6 x7 x8 x9 x10 x11 : Option V} {r : L2.St} (q : Q v H) : tVar 12 (x0 :: x1 :: x2 :: x3 :: x4 :: x5 :: x6 :: x7 :: x8 :: x9 :: x10 :: x11 :: some v :: r) H Q := ⟨v, rfl, q⟩
theorem g_var13 {x0 x1 x2 x3 x4 x5 x6 x7 x8 x9 x10 x11 x12 : Option V} {r : L2.St} (q : Q v H) : tVar 13 (x0 :: x1 :: x2 :: x3 :: x4 :: x5 :: x6 :: x7 :: x8 :: x9 :: x10 :: x11 :: x12 :: some v :: r) H Q := ⟨v, rfl, q⟩
theorem g_var14 {x0 x1 x2 x3 x4 x5 x6 x7 x8 x9 x10 x11 x12 x13 : Option V} {r : L2.St} (q : Q v H) : tVar 14 (x0 :: x1 :: x2 :: x3 :: x4 :: x5 :: x6 :: x7 :: x8 :: x9 :: x10 :: x11 :: x12 :: x13 :: some v :: r) H Q := ⟨v, rfl, q⟩
theorem g_var15 {x0 x1 x2 x3 x4 x5 x6 x7 x8 x9 x10 x11 x12 x13 x14 : Option V} {r : L2.St} (q : Q v H) : tVar 15 (x0 :: x1 :: x2 :: x3 :: x4 :: x5 :: x6 :: x7 :: x8 :: x9 :: x10 :: x11 :: x12 :: x13 :: x14 :: some v :: r) H Q := ⟨v, rfl, q⟩
theorem g_var16 {x0 x1 x2 x3 x4 x5 x6 x7 x8 x9 x10 x11 x12 x13 x14 x15 : Option V} {r : L2.St} (q : Q v H) : tVar 16 (x0 :: x1 :: x2 :: x3 :: x4 :: x5 :: x6 :: x7 :: x8 :: x9 :: x10 :: x11 :: x12 :: x13 :: x14 :: x15 :: some v :: r) H Q := ⟨v, rfl, q⟩
theorem g_var17 {x0 x1 x2 x3 x4 x5 x6 x7 x8 x9 x10 x11 x12 x13 x14 x15 x16 : Option V} {r : L2.St} (q : Q v H) : tVar 17 (x0 :: x1 :: x2 :: x3 :: x4 :: x5 :: x6 :: x7 :: x8 :: x9 :: x10 :: x11 :: x12 :: x13 :: x14 :: x15 :: x16 :: some v :: r) H Q := ⟨v, rfl, q⟩
theorem g_var18 {x0 x1 x2 x3 x4 x5 x6 x7 x8 x9 x10 x11 x12 x13 x14 x15 x16 x17 : Option V} {r : L2.St} (q : Q v H) : tVar 18 (x0 :: x1 :: x2 :: x3 :: x4 :: x5 :: x6 :: x7 :: x8 :: x9 :: x10 :: x11 :: x12 :: x13 :: x14 :: x15 :: x16 :: x17 :: some v :: r) H Q := ⟨v, rfl, q⟩
theorem g_var19 {x0 x1 x2 x3 x4 x5 x6 x7 x8 x9 x10 x11 x12 x13 x14 x15 x16 x17 x18 : Option V} {r : L2.St} (q : Q v H) : tVar 19 (x0 :: x1 :: x2 :: x3 :: x4 :: x5 :: x6 :: x7 :: x8 :: x9 :: x10 :: x11 :: x12 :: x13 :: x14 :: x15 :: x16 :: x17 :: x18 :: some v :: r) H Q := ⟨v, rfl, q⟩
theorem g_var20 {x0 x1 x2 x3 x4 x5 x6 x7 x8 x9 x10 x11 x12 x13 x14 x15 x16 x17 x18 x19 : Option V} {r : L2.St} (q : Q v H) : tVar 20 (x0 :: x1 :: x2 :: x3 :: x4 :: x5 :: x6 :: x7 :: x8 :: x9 :: x10 :: x11 :: x12 :: x13 :: x14 :: x15 :: x16 :: x17 :: x18 :: x19 :: some v :: r) H Q := ⟨v, rfl, q⟩
theorem g_var21 {x0 x1 x2 x3 x4 x5 x6 x7 x8 x9 x10 x11 x12 x13 x14 x15 x16 x17 x18 x19 x20 : Option V} {r : L2.St} (q : Q v H) : tVar 21 (x0 :: x1 :: x2 :: x3 :: x4 :: x5 :: x6 :: x7 :: x8 :: x9 :: x10 :: x11 :: x12 :: x13 :: x14 :: x15 :: x16 :: x17 :: x18 :: x19 :: x20 :: some v :: r) H Q := ⟨v, rfl, q⟩
theorem g_var22 {x0 x1 x2 x3 x4 x5 x6 x7 x8 x9 x10 x11 x12 x13 x14 x15 x16 x17 x18 x19 x20 x21 : Option V} {r : L2.St} (q : Q v H) : tVar 22 (x0 :: x1 :: x2 :: x3 :: x4 :: x5 :: x6 :: x7 :: x8 :: x9 :: x10 :: x11 :: x12 :: x13 :: x14 :: x15 :: x16 :: x17 :: x18 :: x19 :: x20 :: x21 :: some v :: r) H Q := ⟨v, rfl, q⟩
theorem g_var23 {x0 x1 x2 x3 x4 x5 x6 x7 x8 x9 x10 x11 x12 x13 x14 x15 x16 x17 x18 x19 x20 x21 x22 : Option V} {r : L2.St} (q : Q v H) : tVar 23 (x0 :: x1 :: x2 :: x3 :: x4 :: x5 :: x6 :: x7 :: x8 :: x9 :: x10 :: x11 :: x12 :: x13 :: x14 :: x15 :: x16 :: x17 :: x18 :: x19 :: x20 :: x21 :: x22 :: some v :: r) H Q := ⟨v, rfl, q⟩
theorem g_var24 {x0 x1 x2 x3 x4 x5 x6 x7 x8 x9 x10 x11 x12 x13 x14 x15 x16 x17 x18 x19 x20 x21 x22 x23 : Option V} {r : L2.St} (q : Q v H) : tVar 24 (x0 :: x1 :: x2 :: x3 :: x4 :: x5 :: x6 :: x7 :: x8 :: x9 :: x10 :: x11 :: x12 :: x13 :: x14 :: x15 :: x16 :: x17 :: x18 :: x19 :: x20 :: x21 :: x22 :: x23 :: some v :: r) H Q := ⟨v, rfl, q⟩
theorem g_var25 {x0 x1 x2 x3 x4 x5 x6 x7 x8 x9 x10 x11 x12 x13 x14 x15 x16 x17 x18 x19 x20 x21 x22 x23 x24 : Option V} {r : L2.St} (q : Q v H) : tVar 25 (x0 :: x1 :: x2 :: x3 :: x4 :: x5 :: x6 :: x7 :: x8 :: x9 :: x10 :: x11 :: x12 :: x13 :: x14 :: x15 :: x16 :: x17 :: x18 :: x19 :: x20 :: x21 :: x22 :: x23 :: x24 :: some v :: r) H Q := ⟨v, rfl, q⟩
theorem g_c (q : Q v H) : tC v σ H Q := q
theorem g_op (q : ta σ H fun x H1 => tb σ H1 fun y H2 => r x y H2 Q) : tOp r ta tb σ H Q := q
theorem g_un {r1 : V → Hp → VK → Prop} (q : ta σ H fun x H1 => r1 x H1 Q) : tUn r1 ta σ H Q := q
theorem g_rI0 {k : Int → Int → V} (q : Q (k a b) H) : rI0 k (.int a) (.int b) H Q := ⟨a, b, rfl, rfl, q⟩
theorem g_rU {k : Int → V} (q : Q (k a) H) : rU k (.int a) H Q := ⟨a, rfl, q⟩
theorem g_rI {C : Int → Int → Prop} {k : Int → Int → V} (h : C a b) (q : Q (k a b) H) : rI C k (.int a) (.int b) H Q := ⟨a, b, rfl, rfl, h, q⟩
theorem g_eq {x y : V} (h : scal x y = true) (q : Q (.bl (decide (x = y))) H) : rEq x y H Q := ⟨h, q⟩
theorem g_ne {x y : V} (h : scal x y = true) (q : Q (.bl (!decide (x = y))) H) : rNe x y H Q := ⟨h, q⟩
theorem g_isN {x : V} (q : Q (.bl (decide (x = .non))) H) : rIsN x .non H Q := ⟨rfl, q⟩
theorem g_notN {x : V} (q : Q (.bl (!decide (x = .non))) H) : rNotN x .non H Q := ⟨rfl, q⟩
theorem g_test (q : ta σ H fun x H' => ∃ k, x = .bl k ∧ QB k H') : tTest ta σ H QB := q
theorem g_tB (q : ta σ H fun x H' => ∃ k, x = .bl k ∧ QB k H') : tB ta σ H QB := q
theorem g_bl {c : Bool} (q : QB c H) : ∃ k, V.bl c = .bl k ∧ QB k H := ⟨c, rfl, q⟩
theorem g_not (q : t σ H fun c H1 => QB (!c) H1) : tNot t σ H QB := q
theorem g_and (q : t σ H fun c H1 => if c = true then u σ H1 QB else QB false H1) : tAnd t u σ H QB := q
theorem g_or (q : t σ H fun c H1 => if c = true then QB true H1 else u σ H1 QB) : tOr t u σ H QB := q
theorem g_andV (q : ta σ H fun x H1 => ∃ c, x = .bl c ∧ if c = true then tb σ H1 Q else Q (.bl false) H1) : tAndV ta tb σ H Q := q
theorem g_orV (q : ta σ H fun x H1 => ∃ c, x = .bl c ∧ if c = true then Q (.bl true) H1 else tb σ H1 Q) : tOrV ta tb σ H Q := q
theorem g_notV (q : ta σ H fun x H1 => ∃ c, x = .bl c ∧ Q (.bl (!c)) H1) : tNotV ta σ H Q := q
theorem g_if (q : t σ H fun c H1 => if c = true then ta σ H1 Q else tb σ H1 Q) : tIf t ta tb σ H Q := q
theorem g_sub {to ti : TE} {st : TSet} {Qs : L2.St → Hp → Prop} (q : to σ H fun o H1 => ti σ H1 fun i H2 => st o i v H2 fun H3 => Qs σ H3) : gSub to ti st v σ H Qs := q
theorem g_sz {n : Nat} {B : Prop} (h : n ≤ 100000) (q : B) : n ≤ sizeLine ∧ B := ⟨Nat.le_trans h (by decide), q⟩
theorem g_lenL {K : PySem.W.Frag} {p : Addr} {xs : List V} (h : SqL K H p xs) (q : Q (.int (xs.length : Nat)) H) : rLenN K [V.ref p] H Q := ⟨_, _, rfl, Or.inl ⟨xs, h, rfl⟩, q⟩
theorem g_lenT {K : PySem.W.Frag} {p : Addr} {xs : List V} (h : SqT K H p xs) (q : Q (.int (xs.length : Nat)) H) : rLenN K [V.ref p] H Q := ⟨_, _, rfl, Or.inr ⟨xs, h, rfl⟩, q⟩
theorem g_min2 (q : Q (.int (if b < a then b else a)) H) : rMin2 [.int a, .int b] H Q := ⟨a, b, rfl, q⟩
theorem g_max2 (q : Q (.int (if b > a then b else a)) H) : rMax2 [.int a, .int b] H Q := ⟨a, b, rfl, q⟩
theorem g_abs (q : Q (.int (if a < 0 then -a else a)) H) : rAbs [.int a] H Q := ⟨a, rfl, q⟩
theorem g_intI (q : Q (.int a) H) : rInt1 [.int a] H Q := .inl ⟨a, rfl, q⟩
theorem g_intB {k : Bool} (q : Q (.int (if k then 1 else 0)) H) : rInt1 [.bl k] H Q := .inr ⟨k, rfl, q⟩
theorem g_listL {K : PySem.W.Frag} {p : Addr} {xs : List V} (h : SqL K H p xs) (q : ∀ l, H l = none → Q (.ref l) (upd H l (.lst xs))) : rListOf K [.ref p] H Q := ⟨p, xs, rfl, .inl h, q⟩
theorem g_set41 {p : Addr} {x0 x1 x2 x3 : V} {QS : Hp → Prop} (h : H p = some (.lst [x0, x1, x2, x3])) (q : QS (upd H p (.lst [x0, v, x2, x3]))) : rSetL (.ref p) (.int 1) v H QS := ⟨p, _, 1, 1, rfl, rfl, h, rfl, q⟩
theorem g_set42 {p : Addr} {x0 x1 x2 x3 : V} {QS : Hp → Prop} (h : H p = some (.lst [x0, x1, x2, x3])) (q : QS (upd H p (.lst [x0, x1, v, x3]))) : rSetL (.ref p) (.int 2) v H QS := ⟨p, _, 2, 2, rfl, rfl, h, rfl, q⟩
theorem g_set43 {p : Addr} {x0 x1 x2 x3 : V} {QS : Hp → Prop} (h : H p = some (.lst [x0, x1, x2, x3])) (q : QS (upd H p (.lst [x0, x1, x2, v]))) : rSetL (.ref p) (.int 3) v H QS := ⟨p, _, 3, 3, rfl, rfl, h, rfl, q⟩
theorem g_setL {p : Addr} {xs ys : List V} {j : Nat} {QS : Hp → Prop} (h : H p = some (.lst xs)) (h2 : ixN xs.length a = some j) (h3 : xs.set j v = ys) (q : QS (upd H p (.lst ys))) : rSetL (.ref p) (.int a) v H QS := ⟨p, xs, a, j, rfl, rfl, h, h2, h3 ▸ q⟩
theorem g_chain (q : ta σ H fun x H1 => tb σ H1 fun y H2 => r x y H2 fun z H3 => ∃ k, z = .bl k ∧ (if k = true then tc σ H3 fun w' H4 => r' y w' H4 Q else Q (.bl false) H3)) : tChain r r' ta tb tc σ H Q := q
theorem g_nil (q : QA [] H) : tNil σ H QA := q
theorem g_cons {tr : TA} (q : te σ H fun x H1 => tr σ H1 fun xs H2 => QA (x :: xs) H2) : tCons te tr σ H QA := q
theorem g_call {sp : Sp} {dvs : List V} {E : XK} (q : tl σ H fun vs H1 => sp (vs ++ dvs) H1 Q E) : tCall sp dvs E tl σ H Q := q
theorem g_callB {rc : List V → Hp → VK → Prop} (q : tl σ H fun vs H1 => rc vs H1 Q) : tCB rc tl σ H Q := q
theorem g_lst (q : tl σ H fun xs H1 => xs.length ≤ sizeLine ∧ ∀ p, H1 p = none → Q (.ref p) (upd H1 p (.lst xs))) : tLst tl σ H Q := q
theorem g_tup (q : tl σ H fun xs H1 => xs.length ≤ sizeLine ∧ ∀ p, H1 p = none → Q (.ref p) (upd H1 p (.tup xs))) : tTup tl σ H Q := q
theorem g_seq (q : s1 { D with nx := s2 D } σ H) : tSeq s1 s2 D σ H := q
theorem g_asg (q : te σ H fun x H1 => g x σ H1 D.nx) : tAsg te g D σ H := q
theorem g_name {Qs : L2.St → Hp → Prop} (q : Qs (σ.set i (some v)) H) : gName i v σ H Qs := q
theorem g_name0 {x0 : Option V} {r : L2.St} {Qs : L2.St → Hp → Prop} (q : Qs (some v :: r) H) : gName 0 v (x0 :: r) H Qs := q
theorem g_name1 {x0 x1 : Option V} {r : L2.St} {Qs : L2.St → Hp → Prop} (q : Qs (x0 :: some v :: r) H) : gName 1 v (x0 :: x1 :: r) H Qs := q
theorem g_name2 {x0 x1 x2 : Option V} {r : L2.St} {Qs : L2.St → Hp → Prop} (q : Qs (x0 :: x1 :: some v :: r) H) : gName 2 v (x0 :: x1 :: x2 :: r) H Qs := q
theorem g_name3 {x0 x1 x2 x3 : Option V} {r : L2.St} {Qs : L2.St → Hp → Prop} (q : Qs (x0 :: x1 :: x2 :: some v :: r) H) : gName 3 v (x0 :: x1 :: x2 :: x3 :: r) H Qs := q
theorem g_name4 {x0 x1 x2 x3 x4 : Option V} {r : L2.St} {Qs : L2.St → Hp → Prop} (q : Qs (x0 :: x1 :: x2 :: x3 :: some v :: r) H) : gName 4 v (x0 :: x1 :: x2 :: x3 :: x4 :: r) H Qs := q
theorem g_name5 {x0 x1 x2 x3 x4 x5 : Option V} {r : L2.St} {Qs : L2.St → Hp → Prop} (q : Qs (x0 :: x1 :: x2 :: x3 :: x4 :: some v :: r) H) : gName 5 v (x0 :: x1 :: x2 :: x3 :: x4 :: x5 :: r) H Qs := q
theorem g_name6 {x0 x1 x2 x3 x4 x5 x6 : Option V} {r : L2.St} {Qs : L2.St → Hp → Prop} (q : Qs (x0 :: x1 :: x2 :: x3 :: x4 :: x5 :: some v :: r) H) : gName 6 v (x0 :: x1 :: x2 :: x3 :: x4 :: x5 :: x6 :: r) H Qs := q
theorem g_name7 {x0 x1 x2 x3 x4 x5 x6 x7 : Option V} {r : L2.St} {Qs : L2.St → Hp → Prop} (q : Qs (x0 :: x1 :: x2 :: x3 :: x4 :: x5 :: x6 :: some v :: r) H) : gName 7 v (x0 :: x1 :: x2 :: x3 :: x4 :: x5 :: x6 :: x7 :: r) H Qs := q
theorem g_name8 {x0 x1 x2 x3 x4 x5 x6 x7 x8 : Option V} {r : L2.St} {Qs : L2.St → Hp → Prop} (q : Qs (x0 :: x1 :: x2 :: x3 :: x4 :: x5 :: x6 :: x7 :: some v :: r) H) : gName 8 v (x0 :: x1 :: x2 :: x3 :: x4 :: x5 :: x6 :: x7 :: x8 :: r) H Qs := q
theorem g_name9 {x0 x1 x2 x3 x4 x5 x6 x7 x8 x9 : Option V} {r : L2.St} {Qs : L2.St → Hp → Prop} (q : Qs (x0 :: x1 :: x2 :: x3 :: x4 :: x5 :: x6 :: x7 :: x8 :: some v :: r) H) : gName 9 v (x0 :: x1 :: x2 :: x3 :: x4 :: x5 :: x6 :: x7 :: x8 :: x9 :: r) H Qs := q
theorem g_name10 {x0 x1 x2 x3 x4 x5 x6 x7 x8 x9 x10 : Option V} {r : L2.St} {Qs : L2.St → Hp → Prop} (q : Qs (x0 :: x1 :: x2 :: x3 :: x4 :: x5 :: x6 :: x7 :: x8 :: x9 :: some v :: r) H) : gName 10 v (x0 :: x1 :: x2 :: x3 :: x4 :: x5 :: x6 :: x7 :: x8 :: x9 :: x10 :: r) H Qs := q
theorem g_name11 {x0 x1 x2 x3 x4 x5 x6 x7 x8 x9 x10 x11 : Option V} {r : L2.St} {Qs : L2.St → Hp → Prop} (q : Qs (x0 :: x1 :: x2 :: x3 :: x4 :: x5 :: x6 :: x7 :: x8 :: x9 :: x10 :: some v :: r) H) : gName 11 v (x0 :: x1 :: x2 :: x3 :: x4 :: x5 :: x6 :: x7 :: x8 :: x9 :: x10 :: x11 :: r) H Qs := q
theorem g_name12 {x0 x1 x2 x3 x4 x5 x6 x7 x8 x9 x10 x11 x12 : Option V} {r : L2.St} {Qs : L2.St → Hp → Prop} (q : Qs (x0 :: x1 :: x2 :: x3 :: x4 :: x5 :: x6 :: x7 :: x8 :: x9 :: x10 :: x11 :: some v :: r) H) : gName 12 v (x0 :: x1 :: x2 :: x3 :: x4 :: x5 :: x6 :: x7 :: x8 :: x9 :: x10 :: x11 :: x12 :: r) H Qs := q
theorem g_name13 {x0 x1 x2 x3 x4 x5 x6 x7 x8 x9 x10 x11 x12 x13 : Option V} {r : L2.St} {Qs : L2.St → Hp → Prop} (q : Qs (x0 :: x1 :: x2 :: x3 :: x4 :: x5 :: x6 :: x7 :: x8 :: x9 :: x10 :: x11 :: x12 :: some v :: r) H) : gName 13 v (x0 :: x1 :: x2 :: x3 :: x4 :: x5 :: x6 :: x7 :: x8 :: x9 :: x10 :: x11 :: x12 :: x13 :: r) H Qs := q
theorem g_name14 {x0 x1 x2 x3 x4 x5 x6 x7 x8 x9 x10 x11 x12 x13 x14 : Option V} {r : L2.St} {Qs : L2.St → Hp → Prop} (q : Qs (x0 :: x1 :: x2 :: x3 :: x4 :: x5 :: x6 :: x7 :: x8 :: x9 :: x10 :: x11 :: x12 :: x13 :: some v :: r) H) : gName 14 v (x0 :: x1 :: x2 :: x3 :: x4 :: x5 :: x6 :: x7 :: x8 :: x9 :: x10 :: x11 :: x12 :: x13 :: x14 :: r) H Qs := q
theorem g_name15 {x0 x1 x2 x3 x4 x5 x6 x7 x8 x9 x10 x11 x12 x13 x14 x15 : Option V} {r : L2.St} {Qs : L2.St → Hp → Prop} (q : Qs (x0 :: x1 :: x2 :: x3 :: x4 :: x5 :: x6 :: x7 :: x8 :: x9 :: x10 :: x11 :: x12 :: x13 :: x14 :: some v :: r) H) : gName 15 v (x0 :: x1 :: x2 :: x3 :: x4 :: x5 :: x6 :: x7 :: x8 :: x9 :: x10 :: x11 :: x12 :: x13 :: x14 :: x15 :: r) H Qs := q
theorem g_name16 {x0 x1 x2 x3 x4 x5 x6 x7 x8 x9 x10 x11 x12 x13 x14 x15 x16 : Option V} {r : L2.St} {Qs : L2.St → Hp → Prop} (q : Qs (x0 :: x1 :: x2 :: x3 :: x4 :: x5 :: x6 :: x7 :: x8 :: x9 :: x10 :: x11 :: x12 :: x13 :: x14 :: x15 :: some v :: r) H) : gName 16 v (x0 :: x1 :: x2 :: x3 :: x4 :: x5 :: x6 :: x7 :: x8 :: x9 :: x10 :: x11 :: x12 :: x13 :: x14 :: x15 :: x16 :: r) H Qs := q
theorem g_name17 {x0 x1 x2 x3 x4 x5 x6 x7 x8 x9 x10 x11 x12 x13 x14 x15 x16 x17 : Option V} {r : L2.St} {Qs : L2.St → Hp → Prop} (q : Qs (x0 :: x1 :: x2 :: x3 :: x4 :: x5 :: x6 :: x7 :: x8 :: x9 :: x10 :: x11 :: x12 :: x13 :: x14 :: x15 :: x16 :: some v :: r) H) : gName 17 v (x0 :: x1 :: x2 :: x3 :: x4 :: x5 :: x6 :: x7 :: x8 :: x9 :: x10 :: x11 :: x12 :: x13 :: x14 :: x15 :: x16 :: x17 :: r) H Qs := q
theorem g_name18 {x0 x1 x2 x3 x4 x5 x6 x7 x8 x9 x10 x11 x12 x13 x14 x15 x16 x17 x18 : Option V} {r : L2.St} {Qs : L2.St → Hp → Prop} (q : Qs (x0 :: x1 :: x2 :: x3 :: x4 :: x5 :: x6 :: x7 :: x8 :: x9 :: x10 :: x11 :: x12 :: x13 :: x14 :: x15 :: x16 :: x17 :: some v :: r) H) : gName 18 v (x0 :: x1 :: x2 :: x3 :: x4 :: x5 :: x6 :: x7 :: x8 :: x9 :: x10 :: x11 :: x12 :: x13 :: x14 :: x15 :: x16 :: x17 :: x18 :: r) H Qs := q
theorem g_name19 {x0 x1 x2 x3 x4 x5 x6 x7 x8 x9 x10 x11 x12 x13 x14 x15 x16 x17 x18 x19 : Option V} {r : L2.St} {Qs : L2.St → Hp → Prop} (q : Qs (x0 :: x1 :: x2 :: x3 :: x4 :: x5 :: x6 :: x7 :: x8 :: x9 :: x10 :: x11 :: x12 :: x13 :: x14 :: x15 :: x16 :: x17 :: x18 :: some v :: r) H) : gName 19 v (x0 :: x1 :: x2 :: x3 :: x4 :: x5 :: x6 :: x7 :: x8 :: x9 :: x10 :: x11 :: x12 :: x13 :: x14 :: x15 :: x16 :: x17 :: x18 :: x19 :: r) H Qs := q
theorem g_name20 {x0 x1 x2 x3 x4 x5 x6 x7 x8 x9 x10 x11 x12 x13 x14 x15 x16 x17 x18 x19 x20 : Option V} {r : L2.St} {Qs : L2.St → Hp → Prop} (q : Qs (x0 :: x1 :: x2 :: x3 :: x4 :: x5 :: x6 :: x7 :: x8 :: x9 :: x10 :: x11 :: x12 :: x13 :: x14 :: x15 :: x16 :: x17 :: x18 :: x19 :: some v :: r) H) : gName 20 v (x0 :: x1 :: x2 :: x3 :: x4 :: x5 :: x6 :: x7 :: x8 :: x9 :: x10 :: x11 :: x12 :: x13 :: x14 :: x15 :: x16 :: x17 :: x18 :: x19 :: x20 :: r) H Qs := q
theorem g_name21 {x0 x1 x2 x3 x4 x5 x6 x7 x8 x9 x10 x11 x12 x13 x14 x15 x16 x17 x18 x19 x20 x21 : Option V} {r : L2.St} {Qs : L2.St → Hp → Prop} (q : Qs (x0 :: x1 :: x2 :: x3 :: x4 :: x5 :: x6 :: x7 :: x8 :: x9 :: x10 :: x11 :: x12 :: x13 :: x14 :: x15 :: x16 :: x17 :: x18 :: x19 :: x20 :: some v :: r) H) : gName 21 v (x0 :: x1 :: x2 :: x3 :: x4 :: x5 :: x6 :: x7 :: x8 :: x9 :: x10 :: x11 :: x12 :: x13 :: x14 :: x15 :: x16 :: x17 :: x18 :: x19 :: x20 :: x21 :: r) H Qs := q
theorem g_name22 {x0 x1 x2 x3 x4 x5 x6 x7 x8 x9 x10 x11 x12 x13 x14 x15 x16 x17 x18 x19 x20 x21 x22 : Option V} {r : L2.St} {Qs : L2.St → Hp → Prop} (q : Qs (x0 :: x1 :: x2 :: x3 :: x4 :: x5 :: x6 :: x7 :: x8 :: x9 :: x10 :: x11 :: x12 :: x13 :: x14 :: x15 :: x16 :: x17 :: x18 :: x19 :: x20 :: x21 :: some v :: r) H) : gName 22 v (x0 :: x1 :: x2 :: x3 :: x4 :: x5 :: x6 :: x7 :: x8 :: x9 :: x10 :: x11 :: x12 :: x13 :: x14 :: x15 :: x16 :: x17 :: x18 :: x19 :: x20 :: x21 :: x22 :: r) H Qs := q
theorem g_name23 {x0 x1 x2 x3 x4 x5 x6 x7 x8 x9 x10 x11 x12 x13 x14 x15 x16 x17 x18 x19 x20 x21 x22 x23 : Option V} {r : L2.St} {Qs : L2.St → Hp → Prop} (q : Qs (x0 :: x1 :: x2 :: x3 :: x4 :: x5 :: x6 :: x7 :: x8 :: x9 :: x10 :: x11 :: x12 :: x13 :: x14 :: x15 :: x16 :: x17 :: x18 :: x19 :: x20 :: x21 :: x22 :: some v :: r) H) : gName 23 v (x0 :: x1 :: x2 :: x3 :: x4 :: x5 :: x6 :: x7 :: x8 :: x9 :: x10 :: x11 :: x12 :: x13 :: x14 :: x15 :: x16 :: x17 :: x18 :: x19 :: x20 :: x21 :: x22 :: x23 :: r) H Qs := q
theorem g_name24 {x0 x1 x2 x3 x4 x5 x6 x7 x8 x9 x10 x11 x12 x13 x14 x15 x16 x17 x18 x19 x20 x21 x22 x23 x24 : Option V} {r : L2.St} {Qs : L2.St → Hp → Prop} (q : Qs (x0 :: x1 :: x2 :: x3 :: x4 :: x5 :: x6 :: x7 :: x8 :: x9 :: x10 :: x11 :: x12 :: x13 :: x14 :: x15 :: x16 :: x17 :: x18 :: x19 :: x20 :: x21 :: x22 :: x23 :: some v :: r) H) : gName 24 v (x0 :: x1 :: x2 :: x3 :: x4 :: x5 :: x6 :: x7 :: x8 :: x9 :: x10 :: x11 :: x12 :: x13 :: x14 :: x15 :: x16 :: x17 :: x18 :: x19 :: x20 :: x21 :: x22 :: x23 :: x24 :: r) H Qs := q
theorem g_name25 {x0 x1 x2 x3 x4 x5 x6 x7 x8 x9 x10 x11 x12 x13 x14 x15 x16 x17 x18 x19 x20 x21 x22 x23 x24 x25 : Option V} {r : L2.St} {Qs : L2.St → Hp → Prop} (q : Qs (x0 :: x1 :: x2 :: x3 :: x4 :: x5 :: x6 :: x7 :: x8 :: x9 :: x10 :: x11 :: x12 :: x13 :: x14 :: x15 :: x16 :: x17 :: x18 :: x19 :: x20 :: x21 :: x22 :: x23 :: x24 :: some v :: r) H) : gName 25 v (x0 :: x1 :: x2 :: x3 :: x4 :: x5 :: x6 :: x7 :: x8 :: x9 :: x10 :: x11 :: x12 :: x13 :: x14 :: x15 :: x16 :: x17 :: x18 :: x19 :: x20 :: x21 :: x22 :: x23 :: x24 :: x25 :: r) H Qs := q
theorem g_start {t : TS} {σ' : L2.St} (h : σ' = σ) (q : t D σ H) : t D σ' H := h ▸ q
theorem g_ifS (q : t σ H fun b H1 => if b = true then s1 D σ H1 else s2 D σ H1) : tIfS t s1 s2 D σ H := q
theorem g_ret (q : te σ H D.rt) : tRet te D σ H := q
theorem g_retN (q : D.rt .non H) : tRetN D σ H := q
theorem g_drop (q : te σ H fun _ H1 => D.nx σ H1) : tDrop te D σ H := q
theorem g_next (q : D.nx σ H) : tNext D σ H := q
theorem g_ixL {K : PySem.W.Frag} {p : Addr} {xs : List V} (h : SqL K H p xs) (h2 : atI xs a = some v) (q : Q v H) : rIxL K (.ref p) (.int a) H Q := ⟨p, xs, a, v, rfl, rfl, h, h2, q⟩
theorem g_ixAny {K : PySem.W.Frag} {p : Addr} {xs : List V} (h : SqL K H p xs) (h0 : 0 ≤ a) (h1 : a < (xs.length : Int)) (q : ∀ v, v ∈ xs → Q v H) : rIxL K (.ref p) (.int a) H Q := by
  obtain ⟨j, rfl⟩ : ∃ j : Nat, a = (j : Int) := ⟨a.toNat, by omega⟩
  have hl : j < xs.length := by omega
  exact ⟨p, xs, _, xs[j], rfl, rfl, h, atI_nat (by simp [hl]), q _ (List.getElem_mem hl)⟩
theorem g_ixT {K : PySem.W.Frag} {p : Addr} {xs : List V} (h : SqT K H p xs) (h2 : atI xs a = some v) (q : Q v H) : rIxT K (.ref p) (.int a) H Q := ⟨p, xs, a, v, rfl, rfl, h, h2, q⟩
theorem ite_nT {A B : Prop} (h : B) : if (!true) = true then A else B := h
theorem ite_nF {A B : Prop} (h : A) : if (!false) = true then A else B := h
theorem ite_dec {c : Prop} [Decidable c] {A B : Prop} (h1 : c → A) (h2 : ¬ c → B) : if decide c = true then A else B := by
  by_cases h : c
  · rw [if_pos (decide_eq_true h)]
    exact h1 h
  · rw [if_neg (by rw [decide_eq_false h]; decide)]
    exact h2 h
theorem ite_ndec {c : Prop} [Decidable c] {A B : Prop} (h1 : ¬ c → A) (h2 : c → B) : if (!decide c) = true then A else B := by
  by_cases h : c
  · rw [if_neg (by rw [decide_eq_true h]; decide)]
    exact h2 h
  · rw [if_pos (by rw [decide_eq_false h]; decide)]
    exact h1 h
theorem ite_eqT {x : V} {A B : Prop} (h : A) : if decide (x = x) = true then A else B := by
  rw [if_pos (decide_eq_true rfl)]
  exact h
theorem ite_neF {x : V} {A B : Prop} (h : B) : if (!decide (x = x)) = true then A else B := by
  rw [if_neg (by rw [decide_eq_true rfl]; decide)]
  exact h
theorem ite_strF {s t : Str} {A B : Prop} (hs : s ≠ t) (h : B) : if decide (V.str s = V.str t) = true then A else B := by
  rw [if_neg (by rw [decide_eq_false (fun z => hs (V.str.inj z))]; decide)]
  exact h
theorem ite_strT {s t : Str} {A B : Prop} (hs : s ≠ t) (h : A) : if (!decide (V.str s = V.str t)) = true then A else B := by
  rw [if_pos (by rw [decide_eq_false (fun z => hs (V.str.inj z))]; decide)]
  exact h
theorem ite_bool {c : Bool} {A B : Prop} (h1 : c = true → A) (h2 : c = false → B) : if c = true then A else B := by
  cases c with
  | true => exact iteT (h1 rfl)
  | false => exact iteF (h2 rfl)
end
/-! ### heaps -/
theorem Same.at {H H' : Hp} (e : Same H H') {b : Addr} {o : HO} (h : H b = some o) : H' b = some o := e b o h
theorem Same.new {H : Hp} {p : Addr} {o : HO} (h : H p = none) : Same H (upd H p o) := fun a u e => by
  rw [upd_ne (ne_of_none e h)]
  exact e
theorem Same.seqT {K : PySem.W.Frag} {H H' : Hp} {a : Addr} {xs : List V} (e : Same H H') (h : SqT K H a xs) : SqT K H' a xs := by
  rcases h with (h | ⟨o, h⟩) | h
  · exact .inl (.inl (e _ _ h))
  · exact .inl (.inr ⟨o, e _ _ h⟩)
  · exact .inr h
theorem upd_old {H : Hp} {a p : Addr} {o u : HO} (h : H a = some o) (hp : H p = none) : upd H p u a = some o := by
  rw [upd_ne (ne_of_none h hp)]
  exact h
theorem sz {n : Nat} (h : n ≤ 100000) : n ≤ sizeLine := Nat.le_trans h (by decide)
theorem szl {n : Nat} (h : n < 100000) : n < sizeLine := Nat.lt_of_lt_of_le h (by decide)
theorem int_at {ns : List Int} {i : Nat} {y : V} (h : (ns.map V.int)[i]? = some y) : ∃ z, y = V.int z ∧ ns[i]? = some z := by
  rw [List.getElem?_map] at h
  cases e : ns[i]? with
  | none => rw [e] at h; cases h
  | some z => rw [e] at h; exact ⟨z, (Option.some.inj h).symm, rfl⟩
/-- all that is tracked stays, but what stands at a -/
def Kp (a : Addr) (H H' : Hp) : Prop := ∀ b o, H b = some o → b ≠ a → H' b = some o
theorem Kp.refl {a : Addr} {H : Hp} : Kp a H H := fun _ _ h _ => h
theorem Kp.trans {a : Addr} {H H1 H2 : Hp} (x : Kp a H H1) (y : Kp a H1 H2) : Kp a H H2 := fun b o h n => y b o (x b o h n) n
theorem Kp.same {a : Addr} {H H' : Hp} (e : Same H H') : Kp a H H' := fun b o h _ => e b o h
theorem Kp.upd {a : Addr} {H : Hp} {o : HO} : Kp a H (upd H a o) := fun b u h n => by
  rw [upd_ne n]
  exact h
/-- the drawing state at a: the script at s, how many cells are begun, two numbers more -/
structure Dr (K : PySem.W.Frag) (a s : Addr) (H : Hp) : Prop where
  ex : ∃ (ns : List Int) (i m l : Int), H a = some (.lst [.ref s, .int i, .int m, .int l]) ∧ (∀ o, SqL K (upd H a o) s (ns.map V.int)) ∧ ns.length ≤ 63 ∧ 0 ≤ i
theorem Same.upd {H H' : Hp} (e : Same H H') (a : Addr) (o : HO) : Same (upd H a o) (upd H' a o) := fun b u h => by
  by_cases hb : b = a
  · subst hb
    rw [upd_same] at h ⊢
    exact h
  · rw [upd_ne hb] at h ⊢
    exact e b u h
theorem Dr.same {K : PySem.W.Frag} {a s : Addr} {H H' : Hp} (d : Dr K a s H) (e : Same H H') : Dr K a s H' := by
  obtain ⟨ns, i, m, l, h1, h2, h3, h4⟩ := d.ex
  exact ⟨ns, i, m, l, e _ _ h1, fun o => (Same.upd e a o).seq (h2 o), h3, h4⟩
theorem Dr.ne {K : PySem.W.Frag} {a s p : Addr} {H : Hp} (d : Dr K a s H) (h : H p = none) : p ≠ a := by
  obtain ⟨ns, i, m, l, h1, _⟩ := d.ex
  exact (ne_of_none h1 h).symm
theorem Dr.ne2 {K : PySem.W.Frag} {a s p : Addr} {H : Hp} (h : H p = none) (d : Dr K a s H) : p ≠ a := d.ne h
theorem upd_self {H : Hp} {a : Addr} {o : HO} (h : H a = some o) : L2.upd H a o = H := by
  funext b
  by_cases hb : b = a
  · subst hb
    rw [upd_same, h]
  · rw [upd_ne hb]
/-- a new thing, not known to H, is changed: the state stays one -/
theorem Dr.mut {K : PySem.W.Frag} {a s D : Addr} {H H' : Hp} {o : HO} (d : Dr K a s H) (d' : Dr K a s H') (h : H D = none) : Dr K a s (L2.upd H' D o) := by
  obtain ⟨ns, i, m, l, h1, h2, h3, h4⟩ := d.ex
  obtain ⟨ns', i', m', l', g1, g2, g3, g4⟩ := d'.ex
  have nDa : a ≠ D := ne_of_none h1 h
  rcases h2 (.tbl #[]) with hr | hk
  · have nDs : s ≠ D := fun e => by
      subst e
      have z : L2.upd H a (.tbl #[]) s = none := by rw [upd_ne nDa.symm]; exact h
      rcases hr with hr | ⟨_, hr⟩ <;> rw [z] at hr <;> cases hr
    refine ⟨ns', i', m', l', by rw [upd_ne nDa]; exact g1, fun o' => ?_, g3, g4⟩
    have e : L2.upd (L2.upd H' D o) a o' s = L2.upd H' a o' s := by
      by_cases z : s = a
      · subst z; rw [upd_same, upd_same]
      · rw [upd_ne z, upd_ne z, upd_ne nDs]
    rcases g2 o' with q | q
    · refine .inl ?_
      rcases q with q | ⟨u, q⟩
      · exact .inl (e.trans q)
      · exact .inr ⟨u, e.trans q⟩
    · exact .inr q
  · exact ⟨ns, i', m', l', by rw [upd_ne nDa]; exact g1, fun o' => .inr hk, h3, g4⟩
/-- a def that only draws: the state stays a state, all else stays -/
structure Go (K : PySem.W.Frag) (a s : Addr) (H H' : Hp) : Prop where
  dr : Dr K a s H'
  kp : Kp a H H'
section
variable {K : PySem.W.Frag} {a s b D : Addr} {H H1 H2 H' : Hp} {o : HO}
theorem Go.trans (x : Go K a s H H1) (y : Go K a s H1 H2) : Go K a s H H2 := ⟨y.dr, x.kp.trans y.kp⟩
theorem Go.same (d : Dr K a s H) (e : Same H H') : Go K a s H H' := ⟨d.same e, Kp.same e⟩
theorem Go.refl (d : Dr K a s H) : Go K a s H H := ⟨d, Kp.refl⟩
theorem Go.at (x : Go K a s H H') (h : H b = some o) (n : b ≠ a) : H' b = some o := x.kp b o h n
theorem Go.then (x : Go K a s H H1) (e : Same H1 H2) : Go K a s H H2 := ⟨x.dr.same e, x.kp.trans (Kp.same e)⟩
/-- behind a new thing -/
theorem Go.pre (x : Go K a s H1 H2) (e : Same H H1) : Go K a s H H2 := ⟨x.dr, (Kp.same e).trans x.kp⟩
theorem Go.new (x : Go K a s (upd H D o) H2) (h : H D = none) : Go K a s H H2 := x.pre (Same.new h)
theorem Go.mut (g : Go K a s H H') (d : Dr K a s H) (h : H D = none) : Go K a s H (L2.upd H' D o) := ⟨d.mut g.dr h, fun b u hb hn => by
  rw [upd_ne (ne_of_none hb h)]
  exact g.kp b u hb hn⟩
theorem Go.seq {xs : List V} {p : Addr} (g : Go K a s H H') (h : SqL K H p xs) (n : p ≠ a) : SqL K H' p xs := by
  rcases h with (h | ⟨o, h⟩) | h
  · exact .inl (.inl (g.kp _ _ h n))
  · exact .inl (.inr ⟨o, g.kp _ _ h n⟩)
  · exact .inr h
end
theorem Same.mut {H H' : Hp} {D : Addr} {o : HO} (e : Same H H') (h : H D = none) : Same H (L2.upd H' D o) := fun b u hb => by
  rw [upd_ne (ne_of_none hb h)]
  exact e b u hb
/-! ### comprehensions: J tells of the turn, of what is made so far, of the heap; it does not look at the new list D -/
def LcP (J : Nat → List V → Hp → Prop) (D : Addr) (i : Nat) (H : Hp) : Prop := ∃ acc, J i acc H ∧ H D = some (.lst acc) ∧ acc.length ≤ i
section
variable {K : PySem.W.Frag} {a : Addr} {xs : List V} {g : TG} {tt : TT} {te : TE} {vs : List Nat} {σ : L2.St} {H1 : Hp} {D : Addr} {Qd : Hp → Prop}
theorem lc_leaf {J : Nat → List V → Hp → Prop} {i : Nat} {acc : List V} {H : Hp} {y : V} (hI : ∀ i acc H o, J i acc H → J i acc (upd H D o)) (hD : H D = some (.lst acc)) (hl : acc.length ≤ i) (hi : i < 100000) (hJ : J (i + 1) (acc ++ [y]) H) :
    ∃ acc, H D = some (.lst acc) ∧ acc.length < sizeLine ∧ LcP J D (i + 1) (upd H D (.lst (acc ++ [y]))) :=
  ⟨acc, hD, szl (by omega), acc ++ [y], hI _ _ _ _ hJ, upd_same, by rw [List.length_append, List.length_singleton]; omega⟩
theorem lc_skip {J : Nat → List V → Hp → Prop} {i : Nat} {acc : List V} {H : Hp} (hD : H D = some (.lst acc)) (hl : acc.length ≤ i) (hJ : J (i + 1) acc H) : LcP J D (i + 1) H := ⟨acc, hJ, hD, by omega⟩
theorem lc_L (J : Nat → List V → Hp → Prop) (hI : ∀ i acc H o, J i acc H → J i acc (upd H D o)) (h0 : J 0 [] H1) (hl : ∀ i acc H, J i acc H → SqL K H a xs)
    (hs : ∀ i x acc H, xs[i]? = some x → J i acc H → H D = some (.lst acc) → acc.length ≤ i → g x (wipe σ vs) H fun σ2 H2 => wipe σ2 vs = wipe σ vs ∧ tt σ2 H2 fun b H3 =>
      if b = true then te σ2 H3 fun y H4 => ∃ acc, H4 D = some (.lst acc) ∧ acc.length < sizeLine ∧ LcP J D (i + 1) (upd H4 D (.lst (acc ++ [y]))) else LcP J D (i + 1) H3)
    (hd : ∀ acc H, J xs.length acc H → H D = some (.lst acc) → Qd H) :
    ∃ W : Nat → Nat → Hp → Prop, (∃ m, W 0 m (upd H1 D (.lst []))) ∧ ∀ i m H, W i m H →
      ((Itl K a).stop i H ∧ Qd H) ∨ ((Itl K a).go i H ∧ ∃ Nx : Hp → Prop, (∀ H', Nx H' → ∃ m', m' < m ∧ W (i + 1) m' H') ∧ ∀ x H', (Itl K a).yld i H x H' → g x (wipe σ vs) H' fun σ2 H2 => wipe σ2 vs = wipe σ vs ∧ tt σ2 H2 fun b H3 =>
        if b = true then te σ2 H3 fun y H4 => ∃ acc, H4 D = some (.lst acc) ∧ acc.length < sizeLine ∧ Nx (upd H4 D (.lst (acc ++ [y]))) else Nx H3) :=
  lc_list (K := K) (a := a) (xs := xs) (LcP J D) ⟨[], hI _ _ _ _ h0, upd_same, Nat.le_refl _⟩ (fun i H _ ⟨acc, h, _⟩ => hl i acc H h) (fun i x H hi ⟨acc, hJ, hD, hlen⟩ => hs i x acc H hi hJ hD hlen) (fun H ⟨acc, h1, h2, _⟩ => hd acc H h1 h2)
theorem lc_R (lo : Int) (n : Nat) (J : Nat → List V → Hp → Prop) (hI : ∀ i acc H o, J i acc H → J i acc (upd H D o)) (h0 : J 0 [] H1)
    (hs : ∀ i acc H, i < n → J i acc H → H D = some (.lst acc) → acc.length ≤ i → g (.int (lo + i)) (wipe σ vs) H fun σ2 H2 => wipe σ2 vs = wipe σ vs ∧ tt σ2 H2 fun b H3 =>
      if b = true then te σ2 H3 fun y H4 => ∃ acc, H4 D = some (.lst acc) ∧ acc.length < sizeLine ∧ LcP J D (i + 1) (upd H4 D (.lst (acc ++ [y]))) else LcP J D (i + 1) H3)
    (hd : ∀ acc H, J n acc H → H D = some (.lst acc) → Qd H) :
    ∃ W : Nat → Nat → Hp → Prop, (∃ m, W 0 m (upd H1 D (.lst []))) ∧ ∀ i m H, W i m H →
      ((Itr lo n).stop i H ∧ Qd H) ∨ ((Itr lo n).go i H ∧ ∃ Nx : Hp → Prop, (∀ H', Nx H' → ∃ m', m' < m ∧ W (i + 1) m' H') ∧ ∀ x H', (Itr lo n).yld i H x H' → g x (wipe σ vs) H' fun σ2 H2 => wipe σ2 vs = wipe σ vs ∧ tt σ2 H2 fun b H3 =>
        if b = true then te σ2 H3 fun y H4 => ∃ acc, H4 D = some (.lst acc) ∧ acc.length < sizeLine ∧ Nx (upd H4 D (.lst (acc ++ [y]))) else Nx H3) :=
  lc_range (lo := lo) (n := n) (LcP J D) ⟨[], hI _ _ _ _ h0, upd_same, Nat.le_refl _⟩ (fun i H hi ⟨acc, hJ, hD, hlen⟩ => hs i acc H hi hJ hD hlen) (fun H ⟨acc, h1, h2, _⟩ => hd acc H h1 h2)
theorem g_for {wi : TI} {tb : TS} {D : Ends} {H : Hp} (q : wi σ H fun J H1 => ∃ W : Nat → Nat → L2.St → Hp → Prop, (∃ m, W 0 m σ H1) ∧ ∀ i m σ H, W i m σ H →
  (J.stop i H ∧ D.nx σ H) ∨ (J.go i H ∧ ∃ N : L2.St → Hp → Prop, (∀ σ' H', N σ' H' → ∃ m', m' < m ∧ W (i + 1) m' σ' H') ∧ ∀ x H', J.yld i H x H' → g x σ H' fun σ2 H2 => tb { D with nx := N, ct := N, bk := D.nx } σ2 H2)) : tFor wi g tb D σ H := q
theorem g_lc {wi : TI} {H : Hp} {Q : VK} (q : wi σ H fun J H1 => ∀ D, H1 D = none → ∃ W : Nat → Nat → Hp → Prop, (∃ m, W 0 m (upd H1 D (.lst []))) ∧ ∀ i m H, W i m H →
  (J.stop i H ∧ Q (.ref D) H) ∨ (J.go i H ∧ ∃ Nx : Hp → Prop, (∀ H', Nx H' → ∃ m', m' < m ∧ W (i + 1) m' H') ∧ ∀ x H', J.yld i H x H' → g x (wipe σ vs) H' fun σ2 H2 => wipe σ2 vs = wipe σ vs ∧ tt σ2 H2 fun b H3 =>
    if b = true then te σ2 H3 fun y H4 => ∃ acc, H4 D = some (.lst acc) ∧ acc.length < sizeLine ∧ Nx (upd H4 D (.lst (acc ++ [y]))) else Nx H3)) : tLc wi g tt te vs σ H Q := q
theorem g_iL {tl : TE} {H : Hp} {R : It → Hp → Prop} (q : tl σ H fun x H1 => ∃ a, x = .ref a ∧ (∃ xs, SqL K H1 a xs) ∧ R (Itl K a) H1) : iList K tl σ H R := q
theorem g_iT {tl : TE} {H : Hp} {R : It → Hp → Prop} (q : tl σ H fun x H1 => ∃ a, x = .ref a ∧ (∃ xs, SqT K H1 a xs) ∧ R (Itt K a) H1) : iTup K tl σ H R := q
theorem g_iR1 {ta : TA} {H : Hp} {R : It → Hp → Prop} (q : ta σ H fun vs H1 => ∃ j : Int, vs = [.int j] ∧ -(2 ^ 62) ≤ j ∧ j < 2 ^ 62 ∧ R (Itr 0 j.toNat) H1) : iRng1 ta σ H R := q
theorem g_iR2 {ta : TA} {H : Hp} {R : It → Hp → Prop} (q : ta σ H fun vs H1 => ∃ i j : Int, vs = [.int i, .int j] ∧ (-(2 ^ 62) ≤ i ∧ i < 2 ^ 62 ∧ -(2 ^ 62) ≤ j ∧ j < 2 ^ 62) ∧ R (Itr i (j - i).toNat) H1) : iRng2 ta σ H R := q
theorem g_iE {ta : TA} {H : Hp} {R : It → Hp → Prop} (q : ta σ H fun vs H1 => ∃ a xs, vs = [.ref a] ∧ SqL K H1 a xs ∧ R (Ite K a) H1) : iEnum K ta σ H R := q
theorem g_bm {T : String} {r : V → List V → Hp → VK → Prop} {to : TE} {t : TA} {H : Hp} {Q : VK} (q : to σ H fun x H1 => tyV K T x H1 ∧ t σ H1 fun xs H2 => r x xs H2 Q) : tBM K T r to t σ H Q := q
theorem g_app {p : Addr} {xs : List V} {y : V} {H : Hp} {Q : VK} (h : H p = some (.lst xs)) (hl : xs.length < 100000) (q : Q .non (upd H p (.lst (xs ++ [y])))) : rAppend (.ref p) [y] H Q := ⟨p, xs, y, rfl, rfl, h, szl hl, q⟩
theorem g_tyL {p : Addr} {xs : List V} {H : Hp} {B : Prop} (h : SqL K H p xs) (q : B) : tyV K "list" (.ref p) H ∧ B := ⟨Or.inl ⟨rfl, xs, h⟩, q⟩
theorem g_cat {p r : Addr} {xs ys : List V} {H : Hp} {Q : VK} (h : H p = some (.lst xs)) (h2 : H r = some (.lst ys)) (hl : xs.length + ys.length ≤ 100000) (q : ∀ l, H l = none → Q (.ref l) (upd H l (.lst (xs ++ ys)))) : rCat (.ref p) (.ref r) H Q := ⟨p, r, xs, ys, rfl, rfl, h, h2, sz hl, q⟩
/-- what follows a test is shown once, from M -/
theorem g_cut {t : TT} {H : Hp} {QB : Bool → Hp → Prop} (M : Bool → Hp → Prop) (h : ∀ QB' : Bool → Hp → Prop, (∀ b H', M b H' → QB' b H') → t σ H QB') (q : ∀ b H', M b H' → QB b H') : t σ H QB := h QB q
/-- .. an expression -/
theorem g_cutE {t : TE} {H : Hp} {Q : VK} (M : V → Hp → Prop) (h : ∀ Q' : VK, (∀ v H', M v H' → Q' v H') → t σ H Q') (q : ∀ v H', M v H' → Q v H') : t σ H Q := h Q q
/-- .. a statement -/
theorem g_cutS {t : TS} {D : Ends} {H : Hp} (M : L2.St → Hp → Prop) (h : ∀ N : L2.St → Hp → Prop, (∀ σ' H', M σ' H' → N σ' H') → t { D with nx := N } σ H) (q : ∀ σ' H', M σ' H' → D.nx σ' H') : t D σ H := h D.nx q
theorem g_yes {QB : Bool → Hp → Prop} {H : Hp} (q : QB true H) : tYes σ H QB := q
theorem g_tup2 {g1 g2 : TG} {x y : V} {p : Addr} {H : Hp} {Qs : L2.St → Hp → Prop} (h : SqT K H p [x, y]) (q : g1 x σ H fun σ1 H2 => g2 y σ1 H2 Qs) : gTup K 2 (gCons g1 (gCons g2 gNil)) (.ref p) σ H Qs := by
  refine ⟨p, _, rfl, h, rfl, x, _, rfl, ?_⟩
  revert q
  intro q
  exact (show (g1 x σ H fun σ1 H2 => ∃ v r, [y] = v :: r ∧ g2 v σ1 H2 fun σ' H' => r = [] ∧ Qs σ' H') from by
    have e : (fun (σ1 : L2.St) (H2 : Hp) => ∃ (v : V) (r : List V), [y] = v :: r ∧ g2 v σ1 H2 fun σ' H' => r = [] ∧ Qs σ' H') = fun σ1 H2 => g2 y σ1 H2 Qs := by
      funext σ1 H2
      refine propext ⟨?_, ?_⟩
      · rintro ⟨v, r, e, h⟩
        cases e
        have e2 : (fun (σ' : L2.St) (H' : Hp) => ([] : List V) = [] ∧ Qs σ' H') = Qs := by
          funext σ' H'
          exact propext ⟨fun h => h.2, fun h => ⟨rfl, h⟩⟩
        rw [e2] at h
        exact h
      · intro h
        refine ⟨y, [], rfl, ?_⟩
        have e2 : (fun (σ' : L2.St) (H' : Hp) => ([] : List V) = [] ∧ Qs σ' H') = Qs := by
          funext σ' H'
          exact propext ⟨fun h => h.2, fun h => ⟨rfl, h⟩⟩
        rw [e2]
        exact h
    rw [e]
    exact q)
/-- loops, what follows and the body any way -/
theorem for_E {H : Hp} {B : (L2.St → Hp → Prop) → L2.St → Hp → Prop} {nx : L2.St → Hp → Prop} (Pv : Nat → L2.St → Hp → Prop) (h0 : Pv 0 σ H) (hl : ∀ i σ H, i ≤ xs.length → Pv i σ H → SqL K H a xs)
    (hs : ∀ i x σ H T, xs[i]? = some x → Pv i σ H → H T = none → g (.ref T) σ (upd H T (.tup [.int (i : Nat), x])) fun σ2 H2 => B (Pv (i + 1)) σ2 H2) (hd : ∀ σ H, Pv xs.length σ H → nx σ H) :
    ∃ W : Nat → Nat → L2.St → Hp → Prop, (∃ m, W 0 m σ H) ∧ ∀ i m σ H, W i m σ H →
      ((Ite K a).stop i H ∧ nx σ H) ∨ ((Ite K a).go i H ∧ ∃ N : L2.St → Hp → Prop, (∀ σ' H', N σ' H' → ∃ m', m' < m ∧ W (i + 1) m' σ' H') ∧ ∀ x H', (Ite K a).yld i H x H' → g x σ H' fun σ2 H2 => B N σ2 H2) := by
  refine ⟨fun i m σ H => m = xs.length - i ∧ i ≤ xs.length ∧ Pv i σ H, ⟨xs.length, by simp, Nat.zero_le _, h0⟩, ?_⟩
  rintro i m σ H ⟨rfl, hi, p⟩
  have q := hl i σ H hi p
  by_cases hlt : i < xs.length
  · refine .inr ⟨⟨xs, xs[i], q, by simp [hlt]⟩, Pv (i + 1), fun σ' H' p' => ⟨xs.length - (i + 1), by omega, rfl, hlt, p'⟩, fun x H' y => ?_⟩
    obtain ⟨T, z, e1, e2, e3, e4⟩ := y
    subst e1 e3
    exact hs i z σ H T (e4 xs q) p e2
  · have e : i = xs.length := by omega
    subst e
    exact .inl ⟨⟨xs, q, Nat.le_refl _⟩, hd σ H p⟩
theorem for_L {H : Hp} {B : (L2.St → Hp → Prop) → L2.St → Hp → Prop} {nx : L2.St → Hp → Prop} (Pv : Nat → L2.St → Hp → Prop) (h0 : Pv 0 σ H) (hl : ∀ i σ H, i ≤ xs.length → Pv i σ H → SqL K H a xs)
    (hs : ∀ i x σ H, xs[i]? = some x → Pv i σ H → g x σ H fun σ2 H2 => B (Pv (i + 1)) σ2 H2) (hd : ∀ σ H, Pv xs.length σ H → nx σ H) :
    ∃ W : Nat → Nat → L2.St → Hp → Prop, (∃ m, W 0 m σ H) ∧ ∀ i m σ H, W i m σ H →
      ((Itl K a).stop i H ∧ nx σ H) ∨ ((Itl K a).go i H ∧ ∃ N : L2.St → Hp → Prop, (∀ σ' H', N σ' H' → ∃ m', m' < m ∧ W (i + 1) m' σ' H') ∧ ∀ x H', (Itl K a).yld i H x H' → g x σ H' fun σ2 H2 => B N σ2 H2) := by
  refine ⟨fun i m σ H => m = xs.length - i ∧ i ≤ xs.length ∧ Pv i σ H, ⟨xs.length, by simp, Nat.zero_le _, h0⟩, ?_⟩
  rintro i m σ H ⟨rfl, hi, p⟩
  have q := hl i σ H hi p
  by_cases hlt : i < xs.length
  · refine .inr ⟨⟨xs, xs[i], q, by simp [hlt]⟩, Pv (i + 1), fun σ' H' p' => ⟨xs.length - (i + 1), by omega, rfl, hlt, p'⟩, fun x H' y => ?_⟩
    obtain ⟨e, y⟩ := y
    subst e
    exact hs i x σ _ (y xs q) p
  · have e : i = xs.length := by omega
    subst e
    exact .inl ⟨⟨xs, q, Nat.le_refl _⟩, hd σ H p⟩
theorem for_R {H : Hp} {lo : Int} {n : Nat} {B : (L2.St → Hp → Prop) → L2.St → Hp → Prop} {nx : L2.St → Hp → Prop} (Pv : Nat → L2.St → Hp → Prop) (h0 : Pv 0 σ H)
    (hs : ∀ i σ H, i < n → Pv i σ H → g (.int (lo + i)) σ H fun σ2 H2 => B (Pv (i + 1)) σ2 H2) (hd : ∀ σ H, Pv n σ H → nx σ H) :
    ∃ W : Nat → Nat → L2.St → Hp → Prop, (∃ m, W 0 m σ H) ∧ ∀ i m σ H, W i m σ H →
      ((Itr lo n).stop i H ∧ nx σ H) ∨ ((Itr lo n).go i H ∧ ∃ N : L2.St → Hp → Prop, (∀ σ' H', N σ' H' → ∃ m', m' < m ∧ W (i + 1) m' σ' H') ∧ ∀ x H', (Itr lo n).yld i H x H' → g x σ H' fun σ2 H2 => B N σ2 H2) := by
  refine ⟨fun i m σ H => m = n - i ∧ i ≤ n ∧ Pv i σ H, ⟨n, by simp, Nat.zero_le _, h0⟩, ?_⟩
  rintro i m σ H ⟨rfl, hi, p⟩
  by_cases hlt : i < n
  · refine .inr ⟨hlt, Pv (i + 1), fun σ' H' p' => ⟨n - (i + 1), by omega, rfl, hlt, p'⟩, fun x H' y => ?_⟩
    obtain ⟨e, y⟩ := y
    subst e y
    exact hs i σ _ hlt p
  · have e : i = n := by omega
    subst e
    exact .inl ⟨Nat.le_refl _, hd σ H p⟩
end
end My
namespace My
open PySem PySem.Spec PyProof.Rows L2
structure Fn (K : PySem.W.Frag) (mg : Str → Option Value) (x : Str) (st : Stmt) : Prop where
  ex : ∃ (f : Addr) (fd : FuncData), Fun K x x st f fd ∧ mg x = some (.ref f)
section
variable {P : Program} {w : World} {K : PySem.W.Frag} {mg : Str → Option Value} {base : Heap}
theorem Knows.mk' {x : Str} {st : Stmt} {N ps : List Str} {k : Nat} {sp : Sp} (D : Fn K mg x st) (S : FnScope N ps (defScope st))
    (hb : ∀ (kV doc pm : Value) (an : Option Addr) (cdv ct : Value) (us : List Value), us.length = ps.length → bindArgs (PySem.W.fnOf x x (defArgs st) (defBody st) (defScope st) .none kV doc pm an cdv ct) ⟨us, []⟩ = pure (ps.zip us))
    (len : ∀ vs H Q E, sp vs H Q E → vs.length = ps.length)
    (hbody : ∀ (f : Addr) (cdv : Value) (A : Around) (outer : List Env) (s : Shared) (H : Hp) (vs : List V) (Q : VK) (E : XK), Room k (A.deeper (envOfC x (defScope st) s.heap.objs.size f cdv)) → sp vs H Q E →
      ∃ t, PSs (cxOf (L2.CX P w) P w K mg base N x (defScope st) f cdv A outer s H E) (defBody st) t ∧ t { nx := fun _ H' => Q .non H', rt := Q } (start N vs) H) : Knows P w K mg base (k + 1) x ps sp := by
  obtain ⟨f, fd, F, g⟩ := D.ex
  exact ⟨f, fd, F.okX S len fun cdv A outer s H vs Q E hr h => hbody f cdv A outer s H vs Q E hr h, g, F.kp, F.binds hb⟩
theorem fnok_mk {x : Str} {st : Stmt} {f : Addr} {fd : FuncData} {N ps : List Str} {k : Nat} {sp : Sp} (F : Fun K x x st f fd) (S : FnScope N ps (defScope st)) (len : ∀ vs H Q E, sp vs H Q E → vs.length = ps.length)
    (hbody : ∀ (cdv : Value) (A : Around) (outer : List Env) (s : Shared) (H : Hp) (vs : List V) (Q : VK) (E : XK), Room k (A.deeper (envOfC x (defScope st) s.heap.objs.size f cdv)) → sp vs H Q E →
      ∃ t, PSs (cxOf (L2.CX P w) P w K mg base N x (defScope st) f cdv A outer s H E) (defBody st) t ∧ t { nx := fun _ H' => Q .non H', rt := Q } (start N vs) H) : FnOk P w K mg base (L2.CX P w) (k + 1) f fd ps sp :=
  F.okX S len fun cdv A outer s H vs Q E hr h => hbody cdv A outer s H vs Q E hr h
theorem Knows.mono {x : Str} {ps : List Str} {j k : Nat} {sp : Sp} (c : Knows P w K mg base j x ps sp) (h : j ≤ k) : Knows P w K mg base k x ps sp := by
  obtain ⟨f, fd, F, a, b, d⟩ := c.ex
  exact ⟨f, fd, F.mono h, a, b, d⟩
end
theorem pe_powc {X : Cx} {a b v : Int} {j1 j2 : Nat} {p1 p2 pos : Pos} (h : CPow a b) (e : a ^ b.toNat = v) : PE X (.BinOp (.Constant (.int a) j1 p1) .Pow (.Constant (.int b) j2 p2) pos) (tC (.int v)) :=
  ⟨fun pins s σ H Q I q => (pe_op op_pow pe_int pe_int).run pins s σ H Q I ⟨a, b, rfl, rfl, h, (show Q (.int (a ^ b.toNat)) H from e ▸ q)⟩⟩
theorem cdivw {i j : Int} (h0 : 0 < j) (h : j < 2 ^ 200) : CDivW i j := wide_div (b := 200) h0 (by omega) (by decide) (by decide)
theorem pe_gl {X : Cx} {x : Str} {i : Int} {pos : Pos} (hm : ∃ t, X.mg x = some (.int i t)) (hg : Gl X x := by rfl) (hd : (x == ("__debug__" : Str)) = false := by decide) : PE X (.Name x pos) (tC (.int i)) := by
  obtain ⟨t, h⟩ := hm
  exact pe_glob hg h ⟨t, rfl⟩ hd
structure Ec where
  (BadWheel BadRule BadSeen BadGaps BadSpan BadLong NoGap NoSpan WrapError Reader : Addr)
/-! ### equality of lists of ints -/
section
variable {K : PySem.W.Frag} {H : Hp} {a b : Addr} {Q : VK}
theorem dpAll_ints : ∀ ns : List Int, DpAll K H (ns.map V.int) (ns.map PyData.int)
  | [] => .nil
  | n :: r => .cons (.int n) (dpAll_ints r)
theorem dp_ints {ns : List Int} (h : SqL K H a (ns.map V.int)) : Dp K H (.ref a) (.list (ns.map PyData.int)) := .lst h (dpAll_ints ns)
theorem eqvAll_ints : ∀ ns ms : List Int, PyData.eqvAll (ns.map PyData.int) (ms.map PyData.int) = decide (ns = ms)
  | [], [] => rfl
  | [], _ :: _ => rfl
  | _ :: _, [] => rfl
  | x :: r, y :: t => by
    simp only [List.map_cons, PyData.eqvAll, PyData.eqv, eqvAll_ints r t]
    by_cases h : x = y <;> by_cases h' : r = t <;> simp [h, h']
theorem eqv_ints (ns ms : List Int) : PyData.eqv (.list (ns.map PyData.int)) (.list (ms.map PyData.int)) = decide (ns = ms) := by
  rw [PyData.eqv]
  exact eqvAll_ints ns ms
theorem g_eqInts {ns ms : List Int} (h1 : SqL K H a (ns.map V.int)) (h2 : SqL K H b (ms.map V.int)) (q : Q (.bl (decide (ns = ms))) H) : rEqD K (.ref a) (.ref b) H Q :=
  ⟨_, _, dp_ints h1, dp_ints h2, PySem.W.ke_shaped_ints _, PySem.W.ke_shaped_ints _, by rw [eqv_ints]; exact q⟩
theorem g_neInts {ns ms : List Int} (h1 : SqL K H a (ns.map V.int)) (h2 : SqL K H b (ms.map V.int)) (q : Q (.bl (!decide (ns = ms))) H) : rNeD K (.ref a) (.ref b) H Q :=
  ⟨_, _, dp_ints h1, dp_ints h2, PySem.W.ke_shaped_ints _, PySem.W.ke_shaped_ints _, by rw [eqv_ints]; exact q⟩
theorem g_sortedI {ns : List Int} (h : SqL K H a (ns.map V.int)) (q : ∀ (ns' : List Int) (p : Addr), ns'.Perm ns → ns'.Pairwise (· ≤ ·) → H p = none → Q (.ref p) (upd H p (.lst (ns'.map V.int)))) : rSortedI K [.ref a] H Q := ⟨a, ns, rfl, h, q⟩
end
theorem take_more {α : Type} : ∀ {l : List α} {i : Nat} {x : α}, l[i]? = some x → l.take (i + 1) = l.take i ++ [x]
  | [], i, x, h => by simp at h
  | a :: l, 0, x, h => by
    have e : a = x := Option.some.inj h
    subst e
    rfl
  | a :: l, i + 1, x, h => by
    have ih := take_more (l := l) (i := i) (x := x) h
    show a :: l.take (i + 1) = a :: l.take i ++ [x]
    rw [ih]
    rfl
/-- sorted and of the same items: one list -/
theorem sorted_same : ∀ {l m : List Int}, l.Perm m → l.Pairwise (· ≤ ·) → m.Pairwise (· ≤ ·) → l = m := fun {l m} p h1 h2 =>
  List.Perm.eq_of_pairwise (le := fun a b => a ≤ b) (fun a b _ _ h1 h2 => Int.le_antisymm h1 h2) h1 h2 p
/-! ### like data: what the laws' own comparison is asked -/
inductive SD (H : Hp) : Nat → V → V → Prop
  | non {d : Nat} : SD H d .non .non
  | bl {d : Nat} (b : Bool) : SD H d (.bl b) (.bl b)
  | int {d : Nat} (i : Int) : SD H d (.int i) (.int i)
  | str {d : Nat} (x : Str) : SD H d (.str x) (.str x)
  | lst {d : Nat} {a b : Addr} {xs ys : List V} (h1 : H a = some (.lst xs)) (h2 : H b = some (.lst ys)) (hl : xs.length = ys.length) (hz : xs.length ≤ 100000) (hi : ∀ (i : Nat) x y, xs[i]? = some x → ys[i]? = some y → SD H d x y) : SD H (d + 1) (.ref a) (.ref b)
  | tup {d : Nat} {a b : Addr} {xs ys : List V} (h1 : H a = some (.tup xs)) (h2 : H b = some (.tup ys)) (hl : xs.length = ys.length) (hz : xs.length ≤ 100000) (hi : ∀ (i : Nat) x y, xs[i]? = some x → ys[i]? = some y → SD H d x y) : SD H (d + 1) (.ref a) (.ref b)
theorem SD.same {H H' : Hp} (e : Same H H') {d : Nat} {x y : V} (h : SD H d x y) : SD H' d x y := by
  induction h with
  | non => exact .non
  | bl b => exact .bl b
  | int i => exact .int i
  | str x => exact .str x
  | lst h1 h2 hl hz _ ih => exact .lst (e _ _ h1) (e _ _ h2) hl hz ih
  | tup h1 h2 hl hz _ ih => exact .tup (e _ _ h1) (e _ _ h2) hl hz ih
theorem SD.flat {H : Hp} {d : Nat} {xs ys : List V} (h : ∀ x ∈ xs, ∀ d, SD H d x x) (e : xs = ys) : ∀ (i : Nat) x y, xs[i]? = some x → ys[i]? = some y → SD H d x y := fun i x y hx hy => by
  subst e
  rw [hx] at hy
  cases hy
  exact h x (List.mem_of_getElem? hx) d
def sp_same (d : Nat) : Sp := fun vs H Q _ => ∃ x y : V, vs = [x, y] ∧ SD H d x y ∧ ∀ H', Same H H' → Q (.bl true) H'
/-- what the recursion may lean on -/
def sp_samep : Nat → Sp
  | 0 => fun _ _ _ _ => False
  | d + 1 => sp_same d
theorem knows_false {P : Program} {w : World} {K : PySem.W.Frag} {mg : Str → Option Value} {base : Heap} {x : Str} {st : Stmt} {ps : List Str} (D : Fn K mg x st)
    (hb : ∀ (kV doc pm : Value) (an : Option Addr) (cdv ct : Value) (us : List Value), us.length = ps.length → bindArgs (PySem.W.fnOf x x (defArgs st) (defBody st) (defScope st) .none kV doc pm an cdv ct) ⟨us, []⟩ = pure (ps.zip us)) :
    Knows P w K mg base 0 x ps (sp_samep 0) := by
  obtain ⟨f, fd, F, g⟩ := D.ex
  exact ⟨f, fd, ⟨fun _ _ _ _ h => h.elim, fun _ _ _ _ _ _ _ _ _ _ _ _ _ h => h.elim⟩, g, F.kp, F.binds hb⟩
section
variable {K : PySem.W.Frag} {H : Hp} {x : V} {a b : String} {r r1 r2 : Bool} {Q : VK} {tp p q : Addr}
theorem g_isi (ty : TyX K H x (.type a)) (e : kitB a b = some r) (k : Q (.bl r) H) : rIsi K [x, .ty b] H Q := ⟨x, .ty b, .type a, .type b, r, rfl, .ty b, ty, kit_ty e, k⟩
theorem g_isiTL (ty : TyX K H x (.type a)) (h : H tp = some (.tup [.ty "tuple", .ty "list"])) (e1 : kitB a "tuple" = some r1) (e2 : kitB a "list" = some r2) (hr : (r1 || r2) = r) (k : Q (.bl r) H) : rIsiT K [x, .ref tp] H Q := by
  subst hr
  refine ⟨x, tp, _, .type a, [.type "tuple", .type "list"], r1 || r2, rfl, h, .cons (.ty _) (.cons (.ty _) .nil), ty, ?_, k⟩
  refine kitAny_cons (kit_ty e1) (fun h1 => kitAny_cons (b := r2) (kit_ty e2) (fun h2 => ?_) (fun h2 => ?_)) (fun h1 => ?_)
  · rw [kitAny_nil, h1, h2]; rfl
  · rw [h2]; simp
  · rw [h1]; simp
theorem dpAll_strs : ∀ ns : List Str, DpAll K H (ns.map V.str) (ns.map PyData.str)
  | [] => .nil
  | n :: r => .cons (.str n) (dpAll_strs r)
theorem eqvAll_strs : ∀ ns ms : List Str, PyData.eqvAll (ns.map PyData.str) (ms.map PyData.str) = decide (ns = ms)
  | [], [] => rfl
  | [], _ :: _ => rfl
  | _ :: _, [] => rfl
  | x :: r, y :: t => by
    simp only [List.map_cons, PyData.eqvAll, PyData.eqv, eqvAll_strs r t]
    by_cases h : x = y <;> by_cases h' : r = t <;> simp [h, h']
theorem canAll_strs : ∀ ns : List Str, ns.all PyData.strOk = true → PyData.canLayAll0 (ns.map PyData.str) = true
  | [], _ => rfl
  | x :: r, h => by
    rw [List.all_cons, Bool.and_eq_true] at h
    simp [PyData.canLayAll0, PyData.canLay0, canAll_strs r h.2, h.1]
theorem depthAll_strs : ∀ ns : List Str, PyData.depthAll (ns.map PyData.str) = 0
  | [] => rfl
  | _ :: r => by simp [PyData.depthAll, PyData.depth, depthAll_strs r]
theorem shaped_strs {ns : List Str} (h : ns.all PyData.strOk = true) : SeqAt.shaped (.list (ns.map PyData.str)) = true := by
  simp [SeqAt.shaped, PyData.canLay0, PyData.depth, canAll_strs ns h, depthAll_strs]
theorem g_eqStrs {ns ms : List Str} (h1 : SqL K H p (ns.map V.str)) (h2 : SqL K H q (ms.map V.str)) (o1 : ns.all PyData.strOk = true) (o2 : ms.all PyData.strOk = true) (k : Q (.bl (decide (ns = ms))) H) : rEqD K (.ref p) (.ref q) H Q :=
  ⟨_, _, .lst h1 (dpAll_strs ns), .lst h2 (dpAll_strs ms), shaped_strs o1, shaped_strs o2, by rw [PyData.eqv, eqvAll_strs]; exact k⟩
theorem g_neStrs {ns ms : List Str} (h1 : SqL K H p (ns.map V.str)) (h2 : SqL K H q (ms.map V.str)) (o1 : ns.all PyData.strOk = true) (o2 : ms.all PyData.strOk = true) (k : Q (.bl (!decide (ns = ms))) H) : rNeD K (.ref p) (.ref q) H Q :=
  ⟨_, _, .lst h1 (dpAll_strs ns), .lst h2 (dpAll_strs ms), shaped_strs o1, shaped_strs o2, by rw [PyData.eqv, eqvAll_strs]; exact k⟩
end
/-! ### a class's methods -/
structure FnI (K : PySem.W.Frag) (C : Addr) (qual : Str) (st : Stmt) : Prop where
  ex : ∃ (f : Addr) (fd : FuncData), Fun K "__init__" qual st f fd ∧ Mk K C f
structure FnM (K : PySem.W.Frag) (C : Addr) (m qual : Str) (st : Stmt) : Prop where
  ex : ∃ (f : Addr) (fd : FuncData), Fun K m qual st f fd ∧ Meth K C m f
structure FnD (K : PySem.W.Frag) (C : Addr) (m qual : Str) (dvs : List V) (st : Stmt) : Prop where
  ex : ∃ (f : Addr) (fd : FuncData), FunD K m qual (defArgs st) (defBody st) (defScope st) dvs [] f fd ∧ Meth K C m f
structure KnowsI (P : Program) (w : World) (K : PySem.W.Frag) (mg : Str → Option Value) (base : Heap) (k : Nat) (C : Addr) (ps : List Str) (sp : Sp) : Prop where
  ex : ∃ (f : Addr) (fd : FuncData), FnOk P w K mg base (L2.CX P w) k f fd ps sp ∧ Mk K C f ∧ Binds K fd ps []
structure KnowsM (P : Program) (w : World) (K : PySem.W.Frag) (mg : Str → Option Value) (base : Heap) (k : Nat) (C : Addr) (m : Str) (ps : List Str) (dvs : List V) (sp : Sp) : Prop where
  ex : ∃ (f : Addr) (fd : FuncData) (ds : List Value), FnOk P w K mg base (L2.CX P w) k f fd ps sp ∧ Meth K C m f ∧ Binds K fd ps ds ∧ Vals dvs ds
section
variable {P : Program} {w : World} {K : PySem.W.Frag} {mg : Str → Option Value} {base : Heap}
theorem KnowsI.mk' {C : Addr} {qual : Str} {st : Stmt} {N ps : List Str} {k : Nat} {sp : Sp} (D : FnI K C qual st) (S : FnScope N ps (defScope st))
    (hb : ∀ (kV doc pm : Value) (an : Option Addr) (cdv ct : Value) (us : List Value), us.length = ps.length → bindArgs (PySem.W.fnOf "__init__" qual (defArgs st) (defBody st) (defScope st) .none kV doc pm an cdv ct) ⟨us, []⟩ = pure (ps.zip us))
    (len : ∀ vs H Q E, sp vs H Q E → vs.length = ps.length)
    (hbody : ∀ (f : Addr) (cdv : Value) (A : Around) (outer : List Env) (s : Shared) (H : Hp) (vs : List V) (Q : VK) (E : XK), Room k (A.deeper (envOfC qual (defScope st) s.heap.objs.size f cdv)) → sp vs H Q E →
      ∃ t, PSs (cxOf (L2.CX P w) P w K mg base N qual (defScope st) f cdv A outer s H E) (defBody st) t ∧ t { nx := fun _ H' => Q .non H', rt := Q } (start N vs) H) : KnowsI P w K mg base (k + 1) C ps sp := by
  obtain ⟨f, fd, F, m⟩ := D.ex
  exact ⟨f, fd, F.okX S len fun cdv A outer s H vs Q E hr h => hbody f cdv A outer s H vs Q E hr h, m, F.binds hb⟩
theorem KnowsM.mk' {C : Addr} {m qual : Str} {st : Stmt} {N ps : List Str} {k : Nat} {sp : Sp} (D : FnM K C m qual st) (S : FnScope N ps (defScope st))
    (hb : ∀ (kV doc pm : Value) (an : Option Addr) (cdv ct : Value) (us : List Value), us.length = ps.length → bindArgs (PySem.W.fnOf m qual (defArgs st) (defBody st) (defScope st) .none kV doc pm an cdv ct) ⟨us, []⟩ = pure (ps.zip us))
    (len : ∀ vs H Q E, sp vs H Q E → vs.length = ps.length)
    (hbody : ∀ (f : Addr) (cdv : Value) (A : Around) (outer : List Env) (s : Shared) (H : Hp) (vs : List V) (Q : VK) (E : XK), Room k (A.deeper (envOfC qual (defScope st) s.heap.objs.size f cdv)) → sp vs H Q E →
      ∃ t, PSs (cxOf (L2.CX P w) P w K mg base N qual (defScope st) f cdv A outer s H E) (defBody st) t ∧ t { nx := fun _ H' => Q .non H', rt := Q } (start N vs) H) : KnowsM P w K mg base (k + 1) C m ps [] sp := by
  obtain ⟨f, fd, F, mm⟩ := D.ex
  exact ⟨f, fd, [], F.okX S len fun cdv A outer s H vs Q E hr h => hbody f cdv A outer s H vs Q E hr h, mm, F.binds hb, .nil⟩
theorem KnowsD.mk' {C : Addr} {m qual : Str} {st : Stmt} {N ps : List Str} {k : Nat} {sp : Sp} (D : FnD K C m qual [.non] st) (S : FnScope N ps (defScope st))
    (hb : ∀ (T : Addr) (kV doc pm : Value) (an : Option Addr) (cdv ct : Value) (us its : List Value), us.length = ps.length → its.length = 1 →
      ∃ k, bindArgs (PySem.W.fnOf m qual (defArgs st) (defBody st) (defScope st) (.ref T) kV doc pm an cdv ct) ⟨us, []⟩ = seqItems? (.ref T) >>= k ∧ k (some its.toArray) = pure (ps.zip (us ++ its.drop 1)))
    (len : ∀ vs H Q E, sp vs H Q E → vs.length = ps.length)
    (hbody : ∀ (f : Addr) (cdv : Value) (A : Around) (outer : List Env) (s : Shared) (H : Hp) (vs : List V) (Q : VK) (E : XK), Room k (A.deeper (envOfC qual (defScope st) s.heap.objs.size f cdv)) → sp vs H Q E →
      ∃ t, PSs (cxOf (L2.CX P w) P w K mg base N qual (defScope st) f cdv A outer s H E) (defBody st) t ∧ t { nx := fun _ H' => Q .non H', rt := Q } (start N vs) H) : KnowsM P w K mg base (k + 1) C m ps [] sp := by
  obtain ⟨f, fd, F, mm⟩ := D.ex
  obtain ⟨ds, hd, hB⟩ := F.binds1 ps.length 1 (by simp) (by simp) hb
  exact ⟨f, fd, ds, F.ok S len fun cdv A outer s H vs Q E hr h => hbody f cdv A outer s H vs Q E hr h, mm, hB, hd⟩
end
/-- with all arguments, and with the last one by default -/
structure KnowsM2 (P : Program) (w : World) (K : PySem.W.Frag) (mg : Str → Option Value) (base : Heap) (k : Nat) (C : Addr) (m : Str) (ps : List Str) (sp : Sp) : Prop where
  three : KnowsM P w K mg base k C m ps [] sp
  two : KnowsM P w K mg base k C m ps [.non] sp
section
variable {P : Program} {w : World} {K : PySem.W.Frag} {mg : Str → Option Value} {base : Heap}
theorem KnowsD.mk2 {C : Addr} {m qual : Str} {st : Stmt} {N ps : List Str} {k : Nat} {sp : Sp} (D : FnD K C m qual [.non] st) (S : FnScope N ps (defScope st))
    (hb : ∀ (T : Addr) (kV doc pm : Value) (an : Option Addr) (cdv ct : Value) (us its : List Value), us.length = ps.length → its.length = 1 →
      ∃ k, bindArgs (PySem.W.fnOf m qual (defArgs st) (defBody st) (defScope st) (.ref T) kV doc pm an cdv ct) ⟨us, []⟩ = seqItems? (.ref T) >>= k ∧ k (some its.toArray) = pure (ps.zip (us ++ its.drop 1)))
    (hb2 : ∀ (T : Addr) (kV doc pm : Value) (an : Option Addr) (cdv ct : Value) (us its : List Value), us.length = ps.length - 1 → its.length = 1 →
      ∃ k, bindArgs (PySem.W.fnOf m qual (defArgs st) (defBody st) (defScope st) (.ref T) kV doc pm an cdv ct) ⟨us, []⟩ = seqItems? (.ref T) >>= k ∧ k (some its.toArray) = pure (ps.zip (us ++ its.drop 0)))
    (len : ∀ vs H Q E, sp vs H Q E → vs.length = ps.length)
    (hbody : ∀ (f : Addr) (cdv : Value) (A : Around) (outer : List Env) (s : Shared) (H : Hp) (vs : List V) (Q : VK) (E : XK), Room k (A.deeper (envOfC qual (defScope st) s.heap.objs.size f cdv)) → sp vs H Q E →
      ∃ t, PSs (cxOf (L2.CX P w) P w K mg base N qual (defScope st) f cdv A outer s H E) (defBody st) t ∧ t { nx := fun _ H' => Q .non H', rt := Q } (start N vs) H) (hps : 0 < ps.length := by decide) : KnowsM2 P w K mg base (k + 1) C m ps sp := by
  refine ⟨KnowsD.mk' D S hb len hbody, ?_⟩
  obtain ⟨f, fd, F, mm⟩ := D.ex
  obtain ⟨ds, hd, hB⟩ := F.binds1 (ps.length - 1) 0 (by simp) (by simp; omega) hb2
  exact ⟨f, fd, ds, F.ok S len fun cdv A outer s H vs Q E hr h => hbody f cdv A outer s H vs Q E hr h, mm, hB, hd⟩
end
section
variable {X : Cx} {k : Nat} {C : Addr} {m x : Str} {ps : List Str} {sp : Sp} {E : XK} {o e : Expr} {es : List Expr} {ta : TE} {t : TA} {apos pos p : Pos}
theorem pe_methN {dvs : List V} {pl : Sem Bool} (he : PE X o ta) (c : Cls X.K C) (h : KnowsM X.prog X.w X.K X.mg X.base k C m ps dvs sp) (hr : Room k X.A) (hx : Passes (L2.CX X.prog X.w) X E) (ha : PA X (e :: es) t)
    (hst : starEach (e :: es) X.env = (false, eval e X.env) :: starEach es X.env := by rfl) (hpl : (backTo pos (starEach es X.env)).any (·.1) = false := by rfl)
    (ht : eval (.Call (.Attribute o m apos) (e :: es) [] pos) X.env = (do
      let ov ← eval o X.env
      standAt apos.atName
      let (f, first) ← holding [ov] (getMethod ov m pl)
      callWith pos f first (backTo pos (starEach (e :: es) X.env)) (backToKw pos (keywordEach [] X.env))) := by rfl) :
    PE X (.Call (.Attribute o m apos) (e :: es) [] pos) (tMeth C m sp dvs E ta t) := by
  obtain ⟨f, fd, ds, F, mm, hb, hd⟩ := h.ex
  exact pe_meth he c mm F hr hb hd hx ha hst hpl ht
theorem pe_methN0 {pl : Sem Bool} (he : PE X o ta) (c : Cls X.K C) (h : KnowsM X.prog X.w X.K X.mg X.base k C m ps [] sp) (hr : Room k X.A) (hx : Passes (L2.CX X.prog X.w) X E)
    (ht : eval (.Call (.Attribute o m apos) [] [] pos) X.env = (do
      let ov ← eval o X.env
      standAt apos.atName
      let (f, first) ← holding [ov] (getMethod ov m pl)
      callWith pos f first (backTo pos (starEach [] X.env)) (backToKw pos (keywordEach [] X.env))) := by rfl) :
    PE X (.Call (.Attribute o m apos) [] [] pos) (tMeth C m sp [] E ta tNil) := by
  obtain ⟨f, fd, ds, F, mm, hb, hd⟩ := h.ex
  exact pe_meth0 he c mm F hr hb hd hx ht
theorem pe_makeN (h : KnowsI X.prog X.w X.K X.mg X.base k C ps sp) (hr : Room (k + 1) X.A) (hm : X.mg x = some (.ref C)) (hx : Passes (L2.CX X.prog X.w) X E)
    (ha : PA X (e :: es) t) (hg : Gl X x := by rfl) (hdb : (x == ("__debug__" : Str)) = false := by decide) (he : starEach (e :: es) X.env = (false, eval e X.env) :: starEach es X.env := by rfl) (hpl : (backTo pos (starEach es X.env)).any (·.1) = false := by rfl) :
    PE X (.Call (.Name x p) (e :: es) [] pos) (tMake C sp [] E t) := by
  obtain ⟨f, fd, F, M, hb⟩ := h.ex
  exact pe_make M F hr hg hm hb .nil hx ha hdb he hpl
/-- whatever stands in the frame -/
theorem passA {W : WX} (tk : Takes X W) : Passes (L2.CX X.prog X.w) X (fun cls d H => ∀ σ, W cls d σ H) := passes_call (W := W) tk (fun _ _ σ _ h => h σ)
end
section
variable {K : PySem.W.Frag} {σ : L2.St} {H : Hp} {ta : TE} {t : TA} {Q : VK} {f m : Str} {D : Ends} {tv : TE} {C : Addr} {sp : Sp} {E : XK} {dvs : List V}
def rFld (K : PySem.W.Frag) (f : Str) : V → Hp → VK → Prop := fun x H Q => ∃ a C dx fs v, x = .ref a ∧ H a = some (.ins C dx fs) ∧ Cls K C ∧ NoAttr K C f ∧ fs.lookup f = some v ∧ Q v H
theorem g_fld0 (q : ta σ H fun x H1 => rFld K f x H1 Q) : tFld K ta f σ H Q := q
theorem g_fldR {p dx : Addr} {fs : List (Str × V)} {v : V} (c : Cls K C) (na : NoAttr K C f) (h : H p = some (.ins C dx fs)) (l : fs.lookup f = some v) (q : Q v H) : rFld K f (.ref p) H Q := ⟨p, C, dx, fs, v, rfl, h, c, na, l, q⟩
theorem g_sfld (q : tv σ H fun y H1 => ta σ H1 fun x H2 => ∃ a C dx fs, x = .ref a ∧ H2 a = some (.ins C dx fs) ∧ Cls K C ∧ NoAttr K C f ∧ fs.length < 1000 ∧ D.nx σ (upd H2 a (.ins C dx (putF f y fs)))) : sFld K ta tv f D σ H := q
theorem g_meth (q : ta σ H fun x H1 => ∃ a dx fs, x = .ref a ∧ H1 a = some (.ins C dx fs) ∧ fs.lookup m = none ∧ t σ H1 fun vs H2 => sp (x :: (vs ++ dvs)) H2 Q E) : tMeth C m sp dvs E ta t σ H Q := q
theorem g_make (q : t σ H fun vs H1 => ∀ x dx, H1 x = none → H1 dx = none → dx ≠ x → sp (.ref x :: (vs ++ dvs)) (upd (upd H1 dx (.own x)) x (.ins C dx [])) (fun v H2 => v = .non ∧ Q (.ref x) H2) E) : tMake C sp dvs E t σ H Q := q
theorem g_par {i j : Nat} (q : t σ H fun vs H1 => ∃ v w, vs = [v, w] ∧ D.nx ((σ.set i (some v)).set j (some w)) H1) : tPar i j t D σ H := q
end
def sp_law (K : PySem.W.Frag) : Sp := fun vs H Q _ => ∃ (s : Addr) (ns : List Int), vs = [.ref s] ∧ SqL K H s (ns.map V.int) ∧ ns.length ≤ 63 ∧ ∀ H', Q (.bl true) H'
theorem walk {l : PySem.W.OpenLaw} {k : Nat} {q : Program} {loose : List Str} {XP : (Str → Option Value) → Heap → Prop} {YP : World → Heap → Prop} {d : DefRec} {K : Params → PySem.W.Frag} (hn : l.most = some 63) (hdf : d.params.defaults = []) (hr : Room k callerA)
    (hY : ∀ (w : World) (h : Heap), YP w h → (K w.params).In h)
    (F : ∀ (w : World) (mg : Str → Option Value) (fa : Addr) (h : Heap), (K w.params).In h → h.Ns mainGlobals mg → mg d.name = some (.ref fa) →
      ∃ fd : FuncData, (∀ (s : Shared) (u : Value), BindsTo s fd ⟨[u], []⟩ [("_law_script", u)]) ∧ ∀ base : Heap, (K w.params).In base → base.Ns mainGlobals mg → FnOk l.prog w (K w.params) mg base (L2.CX l.prog w) k fa fd ["_law_script"] (sp_law (K w.params))) :
    PySem.W.WalkO q loose XP YP l.row.toRowW d [] (fun f vs => PySem.call f vs) :=
  L2.walk_of (n := 63) (k := k) (x := "_law_script") (CX := fun w => L2.CX l.prog w) (sp := fun w => sp_law (K w.params)) hn (by decide) hdf hr hY F (fun _ _ a ns hl _ hS => ⟨a, ns, rfl, hS, hl, fun _ => rfl⟩) fun _ _ _ _ _ h => by
    obtain ⟨_, _, _, _, _, _, _, _, _, _, _, _, z⟩ := h
    exact z
end My
local macro_rules | `(tactic| walk_at "go0") => `(tactic| first
  | with_reducible refine My.g_var0 ?_
  | with_reducible refine My.g_var1 ?_
  | with_reducible refine My.g_var2 ?_
  | with_reducible refine My.g_var3 ?_
  | with_reducible refine My.g_var4 ?_
  | with_reducible refine My.g_var5 ?_
  | with_reducible refine My.g_var6 ?_
  | with_reducible refine My.g_var7 ?_
  | with_reducible refine My.g_var8 ?_
  | with_reducible refine My.g_var9 ?_
  | with_reducible refine My.g_var10 ?_
  | with_reducible refine My.g_var11 ?_
  | with_reducible refine My.g_var12 ?_
  | with_reducible refine My.g_var13 ?_
  | with_reducible refine My.g_var14 ?_
  | with_reducible refine My.g_var15 ?_
  | with_reducible refine My.g_var16 ?_
  | with_reducible refine My.g_var17 ?_
  | with_reducible refine My.g_var18 ?_
  | with_reducible refine My.g_var19 ?_
  | with_reducible refine My.g_var20 ?_
  | with_reducible refine My.g_var21 ?_
  | with_reducible refine My.g_var22 ?_
  | with_reducible refine My.g_var23 ?_
  | with_reducible refine My.g_var24 ?_
  | with_reducible refine My.g_var25 ?_
  | with_reducible refine My.g_c ?_
  | with_reducible refine My.g_op ?_
  | with_reducible refine My.g_rI0 ?_
  | with_reducible refine My.g_test ?_
  | with_reducible refine My.g_tB ?_
  | with_reducible refine My.g_not ?_
  | with_reducible refine My.g_and ?_
  | with_reducible refine My.g_or ?_
  | with_reducible refine My.g_andV ?_
  | with_reducible refine My.g_orV ?_
  | with_reducible refine My.g_notV ?_
  | with_reducible refine My.g_chain ?_
  | with_reducible refine My.g_nil ?_
  | with_reducible refine My.g_cons ?_
  | with_reducible refine My.g_call ?_
  | with_reducible refine My.g_callB ?_
  | with_reducible refine My.g_lst ?_
  | with_reducible refine My.g_tup ?_
  | with_reducible refine My.g_seq ?_
  | with_reducible refine My.g_asg ?_
  | with_reducible refine My.g_name0 ?_
  | with_reducible refine My.g_name1 ?_
  | with_reducible refine My.g_name2 ?_
  | with_reducible refine My.g_name3 ?_
  | with_reducible refine My.g_name4 ?_
  | with_reducible refine My.g_name5 ?_
  | with_reducible refine My.g_name6 ?_
  | with_reducible refine My.g_name7 ?_
  | with_reducible refine My.g_name8 ?_
  | with_reducible refine My.g_name9 ?_
  | with_reducible refine My.g_name10 ?_
  | with_reducible refine My.g_name11 ?_
  | with_reducible refine My.g_name12 ?_
  | with_reducible refine My.g_name13 ?_
  | with_reducible refine My.g_name14 ?_
  | with_reducible refine My.g_name15 ?_
  | with_reducible refine My.g_name16 ?_
  | with_reducible refine My.g_name17 ?_
  | with_reducible refine My.g_name18 ?_
  | with_reducible refine My.g_name19 ?_
  | with_reducible refine My.g_name20 ?_
  | with_reducible refine My.g_name21 ?_
  | with_reducible refine My.g_name22 ?_
  | with_reducible refine My.g_name23 ?_
  | with_reducible refine My.g_name24 ?_
  | with_reducible refine My.g_name25 ?_
  | with_reducible refine L2.iteT ?_
  | with_reducible refine L2.iteF ?_
  | with_reducible refine My.ite_nT ?_
  | with_reducible refine My.ite_eqT ?_
  | with_reducible refine My.ite_neF ?_
  | ((with_reducible refine' My.ite_strF ?hs ?_); (case hs => decide))
  | ((with_reducible refine' My.ite_strT ?hs ?_); (case hs => decide))
  | with_reducible refine My.ite_nF ?_
  | with_reducible refine My.g_ret ?_
  | with_reducible refine My.g_par ?_
  | with_reducible refine My.g_fld0 ?_
  | with_reducible refine My.g_sfld ?_
  | with_reducible refine My.g_meth ?_
  | with_reducible refine My.g_make ?_
  | with_reducible refine My.g_retN ?_
  | with_reducible refine My.g_drop ?_
  | with_reducible refine My.g_next ?_
  | with_reducible refine My.g_un ?_
  | with_reducible refine My.g_sub ?_
  | with_reducible refine My.g_for ?_
  | with_reducible refine My.g_lc ?_
  | with_reducible refine My.g_iL ?_
  | with_reducible refine My.g_iT ?_
  | with_reducible refine My.g_iR1 ?_
  | with_reducible refine My.g_iR2 ?_
  | with_reducible refine My.g_iE ?_
  | with_reducible refine My.g_bm ?_
  | with_reducible refine My.g_yes ?_
  | with_reducible refine My.g_isN ?_
  | with_reducible refine My.g_notN ?_
  | with_reducible refine My.g_min2 ?_
  | with_reducible refine My.g_max2 ?_
  | with_reducible refine My.g_abs ?_
  | with_reducible refine My.g_intI ?_
  | with_reducible refine My.g_intB ?_
  | ((with_reducible refine' My.g_sz ?gz ?_); (case gz => simp))
  | with_reducible refine My.g_rU ?_
  | ((with_reducible refine' My.g_rI ?gi ?_); (case gi => first
      | (show (0 : Int) < _; first | assumption | decide | omega)
      | exact My.cdivw (by omega) (by omega)
      | exact (show L2.CMul _ _ from Or.inl ⟨by omega, by omega⟩)
      | exact (show L2.CMul _ _ from Or.inr ⟨by omega, by omega⟩)))
  | ((with_reducible refine' My.g_eq ?ge ?_); (case ge => rfl))
  | ((with_reducible refine' My.g_ne ?ge ?_); (case ge => rfl))
  | with_reducible refine Exists.intro _ (And.intro rfl ?_))
local macro_rules | `(tactic| walk_at "go1") => `(tactic| first | walk_at "go0" | with_reducible refine My.g_if ?_)
local macro_rules | `(tactic| walk_at "goE") => `(tactic| repeat (first | walk_at "go0" | with_reducible refine My.g_ifS ?_ | dsimp only))
local macro_rules | `(tactic| walk_at "go") => `(tactic| repeat (first | walk_at "go1" | with_reducible refine My.g_ifS ?_ | dsimp only))
local macro_rules | `(tactic| walk_at "goS") => `(tactic| repeat (first | walk_at "go1" | dsimp only))
local macro_rules | `(tactic| walk_at "dr") => `(tactic| first
  | assumption
  | exact My.Go.dr (by assumption)
  | (refine My.Dr.same ?_ (My.Same.new (by assumption)); walk_at "dr")
  | (refine My.Dr.same ?_ (by assumption); walk_at "dr")
  | (refine My.Dr.mut (by assumption) ?_ (by assumption); walk_at "dr"))
local macro_rules | `(tactic| walk_at "ne") => `(tactic| first
  | assumption
  | exact My.Dr.ne2 (by assumption) (by walk_at "dr")
  | exact Ne.symm (My.Dr.ne2 (by assumption) (by walk_at "dr"))
  | exact L2.ne_of_none (by walk_at "hp") (by assumption)
  | exact Ne.symm (L2.ne_of_none (by walk_at "hp") (by assumption)))
local macro_rules | `(tactic| walk_at "hp") => `(tactic| first
  | assumption
  | exact L2.upd_same
  | (refine My.upd_old ?_ (by assumption); walk_at "hp")
  | (refine My.Same.at (by assumption) ?_; walk_at "hp")
  | (refine My.Go.at (by assumption) ?_ ?_; ((walk_at "hp")); walk_at "ne"))
local macro_rules | `(tactic| walk_at "wp") => `(tactic| try simp only [List.map_cons, List.map_nil, L2.wipe, List.set_cons_succ, List.set_cons_zero])
namespace My
open PySem PySem.Spec PyProof.Rows L2
/-! ### promises: wheels -/
abbrev Wh (n : Int) : Prop := 2 ≤ n ∧ n ≤ 1000000000000
abbrev Se (n i : Int) : Prop := 0 ≤ i ∧ i < n
def sp_is_wheel : Sp := fun vs H Q _ => ∃ n : Int, vs = [.int n] ∧ Q (.bl (decide (Wh n))) H
def sp_need_wheel (ec : Ec) : Sp := fun vs H Q E => ∃ n : Int, vs = [.int n] ∧ (Wh n → Q .non H) ∧ (¬ Wh n → E (.ref ec.BadWheel) none H)
def sp_need_seen (ec : Ec) : Sp := fun vs H Q E => ∃ n i : Int, vs = [.int n, .int i] ∧ (Se n i → Q .non H) ∧ (¬ Se n i → E (.ref ec.BadSeen) none H)
def sp_since_of : Sp := fun vs H Q _ => ∃ n i j : Int, vs = [.int n, .int i, .int j] ∧ 0 < n ∧ Q (.int ((j - i) % n)) H
end My
namespace My
open PySem PySem.Spec PyProof.Rows L2
/-! ### promises: drawing -/
/-- how many there are to draw from -/
abbrev Mn (n : Int) : Prop := 0 < n ∧ n < 2 ^ 150
def sp_drawn (K : PySem.W.Frag) : Sp := fun vs H Q _ => ∃ (a s : Addr) (n : Int), vs = [.ref a, .int n] ∧ Dr K a s H ∧ Mn n ∧ ∀ r H', 0 ≤ r → r < n → Go K a s H H' → Q (.int r) H'
def sp_start (K : PySem.W.Frag) : Sp := fun vs H Q _ => ∃ (s : Addr) (ns : List Int), vs = [.ref s] ∧ SqL K H s (ns.map V.int) ∧ ns.length ≤ 63 ∧ ∀ a H', H a = none → Same H H' → Dr K a s H' → Q (.ref a) H'
end My
namespace My
open PySem PySem.Spec PyProof.Rows L2
def sp_wheel (K : PySem.W.Frag) : Sp := fun vs H Q _ => ∃ (a s : Addr), vs = [.ref a] ∧ Dr K a s H ∧ ∀ r H', Wh r → Go K a s H H' → Q (.int r) H'
/-- one of a list of ints -/
theorem one_int {zs : List Int} {v : V} (h : v ∈ zs.map V.int) : ∃ z, v = .int z ∧ z ∈ zs := by
  obtain ⟨z, h1, h2⟩ := List.mem_map.mp h
  exact ⟨z, h2.symm, h1⟩
end My
namespace My
open PySem PySem.Spec PyProof.Rows L2
/-! ### rules, in plain Lean -/
inductive Rule where
  | up (l : Int) | near | pair (o : Int) | about (f : Int)
def RuleOk (n : Int) : Rule → Prop
  | .up l => 0 ≤ l ∧ l ≤ 1000000000000
  | .near => True
  | .pair o => Wh o
  | .about f => 0 ≤ 2 * f ∧ 2 * f < n
def ruleV : Rule → List V
  | .up l => [.str "up", .int l]
  | .near => [.str "near"]
  | .pair o => [.str "pair", .int o]
  | .about f => [.str "about", .int f]
def lcmI (n o : Int) : Int := ((Nat.lcm n.toNat o.toNat : Nat) : Int)
def gcdI (n o : Int) : Int := ((Nat.gcd n.toNat o.toNat : Nat) : Int)
def loR (n : Int) : Rule → Int
  | .up l => l
  | .near => 0 - (n - 1) / 2
  | .pair _ => 0
  | .about f => 0 - f
def hiR (n : Int) : Rule → Int
  | .up l => l + n - 1
  | .near => n / 2
  | .pair o => lcmI n o - 1
  | .about f => f
def shR (r : Rule) (a : Int) : Int := match r with
  | .about _ => a
  | _ => 0
def sec (r : Rule) (t : Int) : Int := match r with
  | .pair o => t % o
  | _ => 0
/-- what the wheels show of a time: the second one of a pair alone -/
def shownR (n : Int) (r : Rule) (t : Int) : Int × Int := (t % n, sec r t)
def SeenR (n : Int) (r : Rule) (x : Int × Int) : Prop := Se n x.1 ∧ match r with
  | .pair o => Se o x.2
  | _ => x.2 = 0
/-- a number with the rests -/
def Cg (n : Int) (r : Rule) (x y : Int × Int) (g : Int) : Prop := n ∣ g - (y.1 - x.1) ∧ match r with
  | .pair o => o ∣ g - (y.2 - x.2)
  | _ => True
def Gp (n : Int) (r : Rule) (x y : Int × Int) (a g : Int) : Prop := loR n r + shR r a ≤ g ∧ g ≤ hiR n r + shR r a ∧ Cg n r x y g
theorem gcdI_pos {n o : Int} (h : 0 < n) : 0 < gcdI n o := by
  unfold gcdI
  have : 0 < Nat.gcd n.toNat o.toNat := Nat.gcd_pos_of_pos_left _ (by omega)
  omega
theorem gcdI_dvd {n o : Int} (hn : 0 < n) (ho : 0 < o) : gcdI n o ∣ n ∧ gcdI n o ∣ o := by
  unfold gcdI
  constructor
  · have h := Int.natCast_dvd_natCast.mpr (Nat.gcd_dvd_left n.toNat o.toNat)
    rwa [show ((n.toNat : Nat) : Int) = n by omega] at h
  · have h := Int.natCast_dvd_natCast.mpr (Nat.gcd_dvd_right n.toNat o.toNat)
    rwa [show ((o.toNat : Nat) : Int) = o by omega] at h
theorem lcmI_eq {n o : Int} (hn : 0 < n) (ho : 0 < o) : lcmI n o = n * (o / gcdI n o) ∧ lcmI n o = n / gcdI n o * o ∧ lcmI n o = n * o / gcdI n o := by
  obtain ⟨N, rfl⟩ : ∃ N : Nat, n = N := ⟨n.toNat, by omega⟩
  obtain ⟨O, rfl⟩ : ∃ O : Nat, o = O := ⟨o.toNat, by omega⟩
  unfold lcmI gcdI
  rw [Int.toNat_natCast, Int.toNat_natCast]
  have hg : 0 < Nat.gcd N O := Nat.gcd_pos_of_pos_left _ (by omega)
  have e : Nat.lcm N O = N * O / Nat.gcd N O := rfl
  have e1 : N * O / Nat.gcd N O = N * (O / Nat.gcd N O) := Nat.mul_div_assoc _ (Nat.gcd_dvd_right N O)
  have e2 : N * O / Nat.gcd N O = N / Nat.gcd N O * O := by
    rw [Nat.mul_comm, Nat.mul_div_assoc _ (Nat.gcd_dvd_left N O), Nat.mul_comm]
  refine ⟨?_, ?_, ?_⟩
  · rw [← Int.natCast_ediv, ← Int.natCast_mul, e, e1]
  · rw [← Int.natCast_ediv, ← Int.natCast_mul, e, e2]
  · rw [← Int.natCast_mul, ← Int.natCast_ediv, e]
theorem lcmI_pos {n o : Int} (hn : 0 < n) (ho : 0 < o) : 0 < lcmI n o := by
  unfold lcmI
  have : 0 < Nat.lcm n.toNat o.toNat := Nat.lcm_pos (by omega) (by omega)
  omega
theorem lcmI_dvd {n o d : Int} (hn : 0 < n) (ho : 0 < o) (h1 : n ∣ d) (h2 : o ∣ d) : lcmI n o ∣ d := by
  have a1 := Int.natAbs_dvd_natAbs.mpr h1
  have a2 := Int.natAbs_dvd_natAbs.mpr h2
  rw [← Int.natAbs_dvd_natAbs]
  unfold lcmI
  rw [Int.natAbs_natCast]
  refine Nat.lcm_dvd ?_ ?_
  · rwa [show n.natAbs = n.toNat by omega] at a1
  · rwa [show o.natAbs = o.toNat by omega] at a2
theorem lcmI_le {n o : Int} (hn : 0 < n) (ho : 0 < o) : lcmI n o ≤ n * o := by
  rw [(lcmI_eq hn ho).1]
  have h1 : o / gcdI n o ≤ o := Int.ediv_le_self _ (by omega)
  exact Int.mul_le_mul_of_nonneg_left h1 (by omega)
/-- near nought and divided by m: nought -/
theorem zero_of {m d : Int} (h : m ∣ d) (h1 : -m < d) (h2 : d < m) : d = 0 := by
  obtain ⟨k, rfl⟩ := h
  by_cases z : k = 0
  · rw [z]; omega
  · exfalso
    have hm : 0 < m := by omega
    rcases Int.lt_or_gt_of_ne z with q | q
    · have : m * k ≤ m * (-1) := Int.mul_le_mul_of_nonneg_left (by omega) (by omega)
      omega
    · have : m * 1 ≤ m * k := Int.mul_le_mul_of_nonneg_left (by omega) (by omega)
      omega
theorem Gp.uniq {n : Int} {r : Rule} {x y : Int × Int} {a g g' : Int} (hw : Wh n) (hr : RuleOk n r) (h : Gp n r x y a g) (h' : Gp n r x y a g') : g = g' := by
  obtain ⟨h1, h2, h3, h4⟩ := h
  obtain ⟨q1, q2, q3, q4⟩ := h'
  have hn : 0 < n := by have := hw.1; omega
  have d1 : n ∣ g - g' := by
    have := Int.dvd_sub h3 q3
    rwa [show g - (y.1 - x.1) - (g' - (y.1 - x.1)) = g - g' by omega] at this
  have key : g - g' = 0 := by
    cases r with
    | up l => exact zero_of d1 (by simp only [loR, hiR, shR] at *; omega) (by simp only [loR, hiR, shR] at *; omega)
    | near => exact zero_of d1 (by simp only [loR, hiR, shR] at *; omega) (by simp only [loR, hiR, shR] at *; omega)
    | about f =>
      have := hr.2
      exact zero_of d1 (by simp only [loR, hiR, shR] at *; omega) (by simp only [loR, hiR, shR] at *; omega)
    | pair o =>
      have ho : 0 < o := by have := hr.1; omega
      have d2 : o ∣ g - g' := by
        have := Int.dvd_sub h4 q4
        rwa [show g - (y.2 - x.2) - (g' - (y.2 - x.2)) = g - g' by omega] at this
      exact zero_of (lcmI_dvd hn ho d1 d2) (by simp only [loR, hiR, shR] at *; omega) (by simp only [loR, hiR, shR] at *; omega)
  omega
theorem dvd_rest {n t t' : Int} : n ∣ (t' - t) - (t' % n - t % n) := by
  have h1 : n ∣ t' - t' % n := Int.dvd_self_sub_emod
  have h2 : n ∣ t - t % n := Int.dvd_self_sub_emod
  have := Int.dvd_sub h1 h2
  rwa [show t' - t' % n - (t - t % n) = (t' - t) - (t' % n - t % n) by omega] at this
theorem Cg.true {n : Int} {r : Rule} {t t' : Int} : Cg n r (shownR n r t) (shownR n r t') (t' - t) := by
  refine ⟨dvd_rest, ?_⟩
  cases r with
  | pair o => exact dvd_rest
  | _ => trivial
/-- the number with the rest from lo on -/
theorem rest_from {n lo e : Int} (hn : 0 < n) : lo ≤ lo + (e - lo) % n ∧ lo + (e - lo) % n ≤ lo + n - 1 ∧ n ∣ lo + (e - lo) % n - e := by
  have h1 := Int.emod_nonneg (e - lo) (show n ≠ 0 by omega)
  have h2 := Int.emod_lt_of_pos (e - lo) hn
  refine ⟨by omega, by omega, ?_⟩
  have h3 : n ∣ (e - lo) - (e - lo) % n := Int.dvd_self_sub_emod
  have := Int.dvd_neg.mpr h3
  rwa [show -((e - lo) - (e - lo) % n) = lo + (e - lo) % n - e by omega] at this
/-- the pair's number -/
theorem pair_core {n o rest more c inv : Int} (hn : 0 < n) (ho : 0 < o) (h0 : 0 ≤ rest) (h1 : rest < n) (hc : c = gcdI n o) (hd : c ∣ more - rest) (hs : 1 < o / c) (hi : o / c ∣ n / c * inv - 1) :
    ∀ t, t = (more - rest) / c * inv % (o / c) → 0 ≤ rest + n * t ∧ rest + n * t ≤ lcmI n o - 1 ∧ n ∣ rest + n * t - rest ∧ o ∣ rest + n * t - more := by
  intro t ht
  have hs0 : 0 < o / c := by omega
  have t0 : 0 ≤ t := by rw [ht]; exact Int.emod_nonneg _ (by omega)
  have t1 : t ≤ o / c - 1 := by have := Int.emod_lt_of_pos ((more - rest) / c * inv) hs0; omega
  obtain ⟨cn, co⟩ := gcdI_dvd hn ho
  rw [← hc] at cn co
  have hcp : 0 < c := by rw [hc]; exact gcdI_pos hn
  have en : n = c * (n / c) := (Int.mul_ediv_cancel' cn).symm
  have eo : o = c * (o / c) := (Int.mul_ediv_cancel' co).symm
  have ed : more - rest = c * ((more - rest) / c) := (Int.mul_ediv_cancel' hd).symm
  have nt : n * t ≤ n * (o / c - 1) := Int.mul_le_mul_of_nonneg_left t1 (by omega)
  have nt0 : 0 ≤ n * t := Int.mul_nonneg (by omega) t0
  have el := (lcmI_eq hn ho).1
  rw [← hc] at el
  have e3 : n * (o / c - 1) = n * (o / c) - n := by rw [Int.mul_sub, Int.mul_one]
  refine ⟨by omega, by omega, ⟨t, by omega⟩, ?_⟩
  have q1 : o / c ∣ (more - rest) / c * inv - t := by rw [ht]; exact Int.dvd_self_sub_emod
  -- n/c * t - far/c is divided by o/c
  have q2 : o / c ∣ n / c * t - (more - rest) / c := by
    have a1 : o / c ∣ (more - rest) / c * (n / c * inv - 1) := Int.dvd_mul_of_dvd_right hi
    have a2 : o / c ∣ n / c * ((more - rest) / c * inv - t) := Int.dvd_mul_of_dvd_right q1
    have a3 := Int.dvd_sub a1 a2
    have e : (more - rest) / c * (n / c * inv - 1) - n / c * ((more - rest) / c * inv - t) = n / c * t - (more - rest) / c := by
      rw [Int.mul_sub, Int.mul_sub, Int.mul_one, ← Int.mul_assoc, ← Int.mul_assoc, Int.mul_comm ((more - rest) / c) (n / c)]
      omega
    rwa [e] at a3
  obtain ⟨z, hz⟩ := q2
  refine ⟨z, ?_⟩
  have e4 : rest + n * t - more = c * (n / c * t - (more - rest) / c) := by
    rw [Int.mul_sub, ← Int.mul_assoc, ← en, ← ed]
    omega
  rw [e4, hz, ← Int.mul_assoc, ← eo]
theorem pair_one {n o rest more : Int} (hn : 0 < n) (ho : 0 < o) (h0 : 0 ≤ rest) (h1 : rest < n) (hd : gcdI n o ∣ more - rest) (hs : o / gcdI n o ≤ 1) : 0 ≤ rest ∧ rest ≤ lcmI n o - 1 ∧ n ∣ rest - rest ∧ o ∣ rest - more := by
  obtain ⟨cn, co⟩ := gcdI_dvd hn ho
  have hcp : 0 < gcdI n o := gcdI_pos hn
  have eo : o = gcdI n o * (o / gcdI n o) := (Int.mul_ediv_cancel' co).symm
  have hq : o / gcdI n o = 1 := by
    have : 0 < o / gcdI n o := by
      rcases Int.lt_or_le 0 (o / gcdI n o) with q | q
      · exact q
      · have : gcdI n o * (o / gcdI n o) ≤ 0 := Int.mul_nonpos_of_nonneg_of_nonpos (by omega) q
        omega
    omega
  have ee : o = gcdI n o := by rw [hq] at eo; omega
  have el := (lcmI_eq hn ho).1
  rw [hq] at el
  refine ⟨h0, by omega, ⟨0, by omega⟩, ?_⟩
  rw [ee]
  have := Int.dvd_neg.mpr hd
  rwa [show -(more - rest) = rest - more by omega] at this
/-- no number has both rests -/
theorem pair_none {n o rest more g : Int} (hn : 0 < n) (ho : 0 < o) (h1 : n ∣ g - rest) (h2 : o ∣ g - more) : gcdI n o ∣ more - rest := by
  obtain ⟨cn, co⟩ := gcdI_dvd hn ho
  have a := Int.dvd_trans cn h1
  have b := Int.dvd_trans co h2
  have := Int.dvd_sub a b
  rwa [show g - rest - (g - more) = more - rest by omega] at this
end My
namespace My
open PySem PySem.Spec PyProof.Rows L2
/-! ### promises: rules -/
/-- what is handed in as a rule -/
inductive Raw where
  | nil | one (s : Str) | two (s : Str) (a : Int) | three (s : Str) (a b : Int)
  deriving DecidableEq
def rawV : Raw → List V
  | .nil => []
  | .one s => [.str s]
  | .two s a => [.str s, .int a]
  | .three s a b => [.str s, .int a, .int b]
def RawS : Raw → Prop
  | .nil => True
  | .one s => PyData.strOk s = true
  | .two s _ => PyData.strOk s = true
  | .three s _ _ => PyData.strOk s = true
def RawOk (n : Int) : Raw → Prop
  | .one s => s = "near"
  | .two s a => (s = "up" ∧ 0 ≤ a ∧ a ≤ 1000000000000) ∨ (s = "pair" ∧ Wh a) ∨ (s = "about" ∧ 0 ≤ 2 * a ∧ 2 * a < n)
  | _ => False
instance {n : Int} {r : Raw} : Decidable (RawOk n r) := match r with
  | .nil => inferInstanceAs (Decidable False)
  | .one s => inferInstanceAs (Decidable (s = "near"))
  | .two s a => inferInstanceAs (Decidable ((s = "up" ∧ 0 ≤ a ∧ a ≤ 1000000000000) ∨ (s = "pair" ∧ Wh a) ∨ (s = "about" ∧ 0 ≤ 2 * a ∧ 2 * a < n)))
  | .three _ _ _ => inferInstanceAs (Decidable False)
def toRaw : Rule → Raw
  | .up l => .two "up" l
  | .near => .one "near"
  | .pair o => .two "pair" o
  | .about f => .two "about" f
theorem rawV_to (r : Rule) : rawV (toRaw r) = ruleV r := by cases r <;> rfl
theorem rawS_to (r : Rule) : RawS (toRaw r) := by cases r <;> (show PyData.strOk _ = true; decide +kernel)
theorem rawOk_to {n : Int} {r : Rule} : RawOk n (toRaw r) ↔ RuleOk n r := by
  cases r with
  | up l => exact ⟨fun h => by rcases h with h | h | h <;> first | exact h.2 | exact absurd h.1 (by decide), fun h => .inl ⟨rfl, h⟩⟩
  | near => exact ⟨fun _ => trivial, fun _ => rfl⟩
  | pair o => exact ⟨fun h => by rcases h with h | h | h <;> first | exact h.2 | exact absurd h.1 (by decide), fun h => .inr (.inl ⟨rfl, h⟩)⟩
  | about f => exact ⟨fun h => by rcases h with h | h | h <;> first | exact h.2 | exact absurd h.1 (by decide), fun h => .inr (.inr ⟨rfl, h⟩)⟩
theorem rule_of {n : Int} {w : Raw} (h : RawOk n w) : ∃ r, w = toRaw r ∧ RuleOk n r := by
  cases w with
  | nil => exact h.elim
  | three _ _ _ => exact h.elim
  | one s =>
    have e : s = "near" := h
    exact ⟨.near, by rw [e]; rfl, trivial⟩
  | two s a =>
    rcases h with ⟨e, h⟩ | ⟨e, h⟩ | ⟨e, h⟩
    · exact ⟨.up a, by rw [e]; rfl, h⟩
    · exact ⟨.pair a, by rw [e]; rfl, h⟩
    · exact ⟨.about a, by rw [e]; rfl, h⟩
theorem toRaw_inj {r r' : Rule} (h : toRaw r = toRaw r') : r = r' := by
  cases r <;> cases r' <;> first
    | rfl
    | (injection h with h1 h2; subst h2; rfl)
    | (injection h with h1 h2; exact absurd h1 (by decide))
    | (injection h)
def sp_is_rule : Sp := fun vs H Q _ => ∃ (n : Int) (p : Addr) (w : Raw), vs = [.int n, .ref p] ∧ H p = some (.tup (rawV w)) ∧ RawS w ∧ ∀ H', Same H H' → Q (.bl (decide (RawOk n w))) H'
def sp_need_rule (ec : Ec) : Sp := fun vs H Q E => ∃ (n : Int) (p : Addr) (w : Raw), vs = [.int n, .ref p] ∧ H p = some (.tup (rawV w)) ∧ RawS w ∧ (Wh n → RawOk n w → ∀ H', Same H H' → Q .non H') ∧
  (¬ Wh n → E (.ref ec.BadWheel) none H) ∧ (Wh n → ¬ RawOk n w → ∀ H', Same H H' → E (.ref ec.BadRule) none H')
def sp_divisor : Sp := fun vs H Q _ => ∃ n o : Int, vs = [.int n, .int o] ∧ 0 < n ∧ 0 < o ∧ Q (.int (gcdI n o)) H
/-- what is shown: a number, for a pair a tuple of both -/
def SeenAt (H : Hp) (r : Rule) (v : V) (x : Int × Int) : Prop := match r with
  | .pair _ => ∃ q, v = .ref q ∧ H q = some (.tup [.int x.1, .int x.2])
  | _ => v = .int x.1
theorem SeenAt.same {H H' : Hp} {r : Rule} {v : V} {x : Int × Int} (e : Same H H') (h : SeenAt H r v x) : SeenAt H' r v x := by
  cases r with
  | pair o =>
    obtain ⟨q, h1, h2⟩ := h
    exact ⟨q, h1, e _ _ h2⟩
  | _ => exact h
def SeenOk (n : Int) (r : Rule) (x : Int × Int) : Prop := Se n x.1 ∧ match r with
  | .pair o => Se o x.2
  | _ => True
theorem SeenOk.true {n : Int} {r : Rule} {t : Int} (hw : Wh n) (hr : RuleOk n r) : SeenOk n r (shownR n r t) := by
  have hn : 0 < n := by have := hw.1; omega
  refine ⟨⟨Int.emod_nonneg _ (by omega), Int.emod_lt_of_pos _ hn⟩, ?_⟩
  cases r with
  | pair o =>
    have ho : 0 < o := by have := hr.1; omega
    exact ⟨Int.emod_nonneg _ (by omega), Int.emod_lt_of_pos _ ho⟩
  | _ => trivial
def sp_shown_of : Sp := fun vs H Q _ => ∃ (n : Int) (p : Addr) (r : Rule) (t : Int), vs = [.int n, .ref p, .int t] ∧ H p = some (.tup (ruleV r)) ∧ Wh n ∧ RuleOk n r ∧ ∀ v H', Same H H' → SeenAt H' r v (shownR n r t) → Q v H'
def sp_shown (ec : Ec) : Sp := fun vs H Q E => ∃ (n : Int) (p : Addr) (w : Raw) (t : Int), vs = [.int n, .ref p, .int t] ∧ H p = some (.tup (rawV w)) ∧ RawS w ∧
  (∀ r, w = toRaw r → Wh n → RuleOk n r → ∀ v H', Same H H' → SeenAt H' r v (shownR n r t) → Q v H') ∧ (¬ Wh n → E (.ref ec.BadWheel) none H) ∧ (Wh n → ¬ RawOk n w → ∀ H', Same H H' → E (.ref ec.BadRule) none H')
def sp_need_shown (ec : Ec) : Sp := fun vs H Q E => ∃ (n : Int) (p : Addr) (r : Rule) (v : V) (x : Int × Int), vs = [.int n, .ref p, v] ∧ H p = some (.tup (ruleV r)) ∧ SeenAt H r v x ∧ (SeenOk n r x → Q .non H) ∧ (¬ SeenOk n r x → E (.ref ec.BadSeen) none H)
def sp_inverse : Sp := fun vs H Q _ => ∃ k m : Int, vs = [.int k, .int m] ∧ 1 < m ∧ m ≤ 1000000000000 ∧ 0 < k ∧ gcdI k m = 1 ∧ ∀ v H', 0 ≤ v → v < m → m ∣ k * v - 1 → Same H H' → Q (.int v) H'
def sp_paired (ec : Ec) : Sp := fun vs H Q E => ∃ n o x y : Int, vs = [.int n, .int o, .int x, .int y] ∧ Wh n ∧ Wh o ∧ Se n x ∧ Se o y ∧
  (∀ g H', 0 ≤ g → g ≤ lcmI n o - 1 → n ∣ g - x → o ∣ g - y → Same H H' → Q (.int g) H') ∧ ((¬ gcdI n o ∣ y - x) → E (.ref ec.NoGap) none H)
def aboutV (r : Rule) (v : V) (a : Int) : Prop := match r with
  | .about _ => v = .int a
  | _ => True
/-- that no number is so, told by the rests -/
def NoGp (n : Int) (r : Rule) (x y : Int × Int) (a : Int) : Prop := match r with
  | .pair o => ¬ gcdI n o ∣ (y.2 - x.2) - (y.1 - x.1)
  | .about f => 2 * f < (y.1 - x.1 - (a - f)) % n
  | _ => False
theorem NoGp.no {n : Int} {r : Rule} {x y : Int × Int} {a : Int} (hw : Wh n) (hr : RuleOk n r) (h : NoGp n r x y a) : ∀ g, ¬ Gp n r x y a g := by
  have hn : 0 < n := by have := hw.1; omega
  rintro g ⟨h1, h2, h3, h4⟩
  cases r with
  | pair o => exact h (pair_none hn (by have := hr.1; omega) h3 h4)
  | about f =>
    obtain ⟨c1, c2, c3⟩ := rest_from (lo := a - f) (e := y.1 - x.1) hn
    have h : 2 * f < (y.1 - x.1 - (a - f)) % n := h
    have h1 : 0 - f + a ≤ g := h1
    have h2 : g ≤ f + a := h2
    have hr1 : 2 * f < n := hr.2
    have z := zero_of (Int.dvd_sub c3 h3) (by omega) (by omega)
    omega
  | _ => exact h
def sp_gap_of (ec : Ec) : Sp := fun vs H Q E => ∃ (n : Int) (p : Addr) (r : Rule) (v1 v2 v3 : V) (x y : Int × Int) (a : Int), vs = [.int n, .ref p, v1, v2, v3] ∧ H p = some (.tup (ruleV r)) ∧ Wh n ∧ RuleOk n r ∧ SeenAt H r v1 x ∧ SeenAt H r v2 y ∧
  aboutV r v3 a ∧ (∀ g H', Gp n r x y a g → Same H H' → Q (.int g) H') ∧ (NoGp n r x y a → E (.ref ec.NoGap) none H)
def sp_gap (ec : Ec) : Sp := fun vs H Q E => ∃ (n : Int) (p : Addr) (w : Raw) (v1 v2 v3 : V), vs = [.int n, .ref p, v1, v2, v3] ∧ H p = some (.tup (rawV w)) ∧ RawS w ∧ (¬ Wh n → E (.ref ec.BadWheel) none H) ∧ (Wh n → ¬ RawOk n w → ∀ H', Same H H' → E (.ref ec.BadRule) none H') ∧
  (∀ r, w = toRaw r → Wh n → RuleOk n r → ∃ (x y : Int × Int) (a : Int), SeenAt H r v1 x ∧ SeenAt H r v2 y ∧ aboutV r v3 a ∧ (SeenOk n r x → SeenOk n r y → ∀ g H', Gp n r x y a g → Same H H' → Q (.int g) H') ∧
    (SeenOk n r x → SeenOk n r y → NoGp n r x y a → ∀ H', Same H H' → E (.ref ec.NoGap) none H') ∧ (¬ (SeenOk n r x ∧ SeenOk n r y) → ∀ H', Same H H' → E (.ref ec.BadSeen) none H'))
end My
namespace My
open PySem PySem.Spec PyProof.Rows L2
open LamX (Tabs TabS CodeO ExtN TabB)
/-! ### the laws' own telling of an error -/
def namesL : List Str := ["BadWheel", "BadRule", "BadSeen", "BadGaps", "BadSpan", "BadLong", "NoGap", "NoSpan"]
structure KindOf (K : PySem.W.Frag) (ec : Ec) (D : Addr) (j : Nat) : Prop where
  c : ExcC K D
  m : PySem.W.exmOne K (.ref D) (.ref ec.WrapError) = some true
  v : PySem.W.kitOne K (.ref D) (.type "ValueError") = some true
  i0 : PySem.W.kitOne K (.ref D) (.ref ec.BadWheel) = some (decide (0 = j))
  i1 : PySem.W.kitOne K (.ref D) (.ref ec.BadRule) = some (decide (1 = j))
  i2 : PySem.W.kitOne K (.ref D) (.ref ec.BadSeen) = some (decide (2 = j))
  i3 : PySem.W.kitOne K (.ref D) (.ref ec.BadGaps) = some (decide (3 = j))
  i4 : PySem.W.kitOne K (.ref D) (.ref ec.BadSpan) = some (decide (4 = j))
  i5 : PySem.W.kitOne K (.ref D) (.ref ec.BadLong) = some (decide (5 = j))
  i6 : PySem.W.kitOne K (.ref D) (.ref ec.NoGap) = some (decide (6 = j))
  i7 : PySem.W.kitOne K (.ref D) (.ref ec.NoSpan) = some (decide (7 = j))
  lt : j < 8
theorem kit_yes {K : PySem.W.Frag} {t : Value} {C : Addr} (hd : PySem.W.hasDictIn K C = true) (ht : PySem.W.typeIn K (.ref C) = some (.type "type")) (h : PySem.W.subIn K t (.ref C) = some true) : PySem.W.kitOne K t (.ref C) = some true := by
  obtain ⟨cd, hc, _⟩ := PySem.W.any_some hd
  have e2 : ((PySem.W.clsIn K C).isSome && PySem.W.typeIn K (.ref C) == some (.type "type")) = true := by rw [hc, ht] <;> rfl
  show (if (t == .ref C) = true then some true else (if ((PySem.W.clsIn K C).isSome && PySem.W.typeIn K (.ref C) == some (.type "type")) = true then PySem.W.subIn K t (.ref C) else none)) = some true
  by_cases z : (t == .ref C) = true
  · rw [if_pos z]
  · rw [if_neg z, if_pos e2]
    exact h
theorem kit_no {K : PySem.W.Frag} {D C : Addr} (hd : PySem.W.hasDictIn K C = true) (ht : PySem.W.typeIn K (.ref C) = some (.type "type")) (hn : D ≠ C) (h : PySem.W.subIn K (.ref D) (.ref C) = some false) : PySem.W.kitOne K (.ref D) (.ref C) = some false := by
  obtain ⟨cd, hc, _⟩ := PySem.W.any_some hd
  have e2 : ((PySem.W.clsIn K C).isSome && PySem.W.typeIn K (.ref C) == some (.type "type")) = true := by rw [hc, ht] <;> rfl
  show (if ((.ref D : Value) == .ref C) = true then some true else (if ((PySem.W.clsIn K C).isSome && PySem.W.typeIn K (.ref C) == some (.type "type")) = true then PySem.W.subIn K (.ref D) (.ref C) else none)) = some false
  rw [if_neg (fun z => hn (by simpa using z)), if_pos e2]
  exact h
theorem kit_ve {K : PySem.W.Frag} {D : Addr} (h : PySem.W.subIn K (.ref D) (.type "ValueError") = some true) : PySem.W.kitOne K (.ref D) (.type "ValueError") = some true := by
  show (if ((.ref D : Value) == .type "ValueError") = true then some true else (if PySem.W.kitMeta "ValueError" = true then PySem.W.subIn K (.ref D) (.type "ValueError") else none)) = some true
  rw [if_neg (by simp), if_pos (by decide +kernel)]
  exact h
/-- what is told of an exception that a lambda lets out -/
def EKind (K : PySem.W.Frag) (ec : Ec) (Q : VK) : XK := fun cls d H' => ∃ D j, cls = .ref D ∧ d = none ∧ KindOf K ec D j ∧ ∀ H'', Same H' H'' → Q (.str (namesL.getD j "")) H''
def TKind (K : PySem.W.Frag) (ec : Ec) : (XK → Hp → VK → Prop) → Hp → VK → Prop := fun tl H Q => tl (EKind K ec Q) H Q
theorem EKind.mk {K : PySem.W.Frag} {ec : Ec} {Q : VK} {D : Addr} {j : Nat} {H : Hp} (h : KindOf K ec D j) (q : ∀ H'', Same H H'' → Q (.str (namesL.getD j "")) H'') : EKind K ec Q (.ref D) none H := ⟨D, j, rfl, rfl, h, q⟩
/-! ### list.count, flat items -/
def rCountF (K : PySem.W.Frag) : V → List V → Hp → VK → Prop := fun x xs H Q => ∃ (a : Addr) (ys : List V) (y : V), x = V.ref a ∧ xs = [y] ∧ SqL K H a ys ∧ flatV y = true ∧ ys.all flatV = true ∧ Q (.int (ys.countP (fun z => eqV z y) : Nat)) H
theorem count_eqU {y : V} : ∀ {ys : List V} {us : List Value}, Vals ys us → ys.all flatV = true → us.countP (eqU y) = ys.countP fun z => eqV z y
  | _, _, .nil, _ => rfl
  | x :: xs, u :: us, .cons r t, f => by
    rw [List.all_cons, Bool.and_eq_true] at f
    rw [List.countP_cons, List.countP_cons, count_eqU t f.2, eqU_of r f.1]
theorem mt_countF {X : Cx} : MtR X "list.count" (rCountF X.K) := by
  intro pins s σ H x xs v us Q I rx rxs h
  obtain ⟨a, ys, y, rfl, rfl, hs, fy, fys, q⟩ := h
  cases rx
  cases rxs with
  | cons ry rt =>
    rename_i uy ut
    cases rt
    obtain ⟨its, rv, ⟨⟨cls, dd, data, sl⟩, n, ho, hc, hdn, hd⟩, hlen⟩ := I.list hs
    simp only at hc hd
    subst hc hd
    refine call_meets PySem.F.slot_list_count ⟨_, ho, rfl⟩ PySem.F.entry_list_count (PySem.F.args_list_count_2 _ _)
      (SeqAt.list_countAt a its.toArray n dd sl uy (eqU y)) ⟨ho, fun u' hu' => mem_eqAt ry fy rv fys u' (by simpa using hu'), ?_⟩
    refine ⟨.int (ys.countP (fun z => eqV z y) : Nat), H, I.tok _, ⟨s.toks, ?_⟩, q⟩
    show Value.int ((its.toArray.toList.countP (eqU y) : Nat) : Int) s.toks = Value.int ((ys.countP (fun z => eqV z y) : Nat) : Int) s.toks
    rw [show its.toArray.toList = its from rfl, count_eqU rv fys]
theorem g_count {K : PySem.W.Frag} {a : Addr} {ys : List V} {y : V} {H : Hp} {Q : VK} (h : SqL K H a ys) (fy : flatV y = true) (fys : ys.all flatV = true) (q : Q (.int (ys.countP (fun z => eqV z y) : Nat)) H) : rCountF K (.ref a) [y] H Q := ⟨a, ys, y, rfl, rfl, h, fy, fys, q⟩
theorem g_index {K : PySem.W.Frag} {a : Addr} {ys : List V} {y z : V} {j : Nat} {H : Hp} {Q : VK} (h : SqL K H a ys) (fy : flatV y = true) (fys : ys.all flatV = true) (hz : ys[j]? = some z) (he : eqV z y = true)
    (hn : ∀ (m : Nat) (z' : V), m < j → ys[m]? = some z' → eqV z' y = false) (q : Q (.int (j : Nat)) H) : rIndex K (.ref a) [y] H Q := ⟨a, ys, y, j, z, rfl, rfl, h, fy, fys, hz, he, hn, q⟩
theorem g_isE {K : PySem.W.Frag} {D a C : Addr} {b : Bool} {H : Hp} {Q : VK} (h : PySem.W.kitOne K (.ref D) (.ref C) = some b) (q : Q (.bl b) H) : rIsE K D a [.ref a, .ref C] H Q := ⟨.ref C, .ref C, b, rfl, fun _ r => r, h, q⟩
theorem g_isET {K : PySem.W.Frag} {D a : Addr} {t : String} {b : Bool} {H : Hp} {Q : VK} (h : PySem.W.kitOne K (.ref D) (.type t) = some b) (q : Q (.bl b) H) : rIsE K D a [.ref a, .ty t] H Q := ⟨.ty t, .type t, b, rfl, fun _ r => r, h, q⟩
def kindsL (j : Nat) : List V := [.bl (decide (0 = j)), .bl (decide (1 = j)), .bl (decide (2 = j)), .bl (decide (3 = j)), .bl (decide (4 = j)), .bl (decide (5 = j)), .bl (decide (6 = j)), .bl (decide (7 = j))]
theorem kinds_count : ∀ j, j < 8 → (kindsL j).countP (fun z => eqV z (.bl true)) = 1 := by decide
theorem kinds_flat (j : Nat) : (kindsL j).all flatV = true := rfl
theorem kinds_at : ∀ j, j < 8 → (kindsL j)[j]? = some (.bl true) := by
  intro j hj
  have : j = 0 ∨ j = 1 ∨ j = 2 ∨ j = 3 ∨ j = 4 ∨ j = 5 ∨ j = 6 ∨ j = 7 := by omega
  rcases this with rfl | rfl | rfl | rfl | rfl | rfl | rfl | rfl <;> rfl
theorem kinds_no {j : Nat} (hj : j < 8) (m : Nat) (z : V) (hm : m < j) (h : (kindsL j)[m]? = some z) : eqV z (.bl true) = false := by
  have a : j = 0 ∨ j = 1 ∨ j = 2 ∨ j = 3 ∨ j = 4 ∨ j = 5 ∨ j = 6 ∨ j = 7 := by omega
  have b : m = 0 ∨ m = 1 ∨ m = 2 ∨ m = 3 ∨ m = 4 ∨ m = 5 ∨ m = 6 ∨ m = 7 := by omega
  rcases a with rfl | rfl | rfl | rfl | rfl | rfl | rfl | rfl <;> rcases b with rfl | rfl | rfl | rfl | rfl | rfl | rfl | rfl <;> first | omega | (cases h; rfl)
theorem names_at : ∀ j, j < 8 → (namesL.map V.str)[j]? = some (.str (namesL.getD j "")) := by
  intro j hj
  have : j = 0 ∨ j = 1 ∨ j = 2 ∨ j = 3 ∨ j = 4 ∨ j = 5 ∨ j = 6 ∨ j = 7 := by omega
  rcases this with rfl | rfl | rfl | rfl | rfl | rfl | rfl | rfl <;> rfl
/-! ### tables of code objects, kept -/
theorem extN_same {H H' : Hp} (e : Same H H') : ExtN H H' := ExtN.of e
theorem tabs_same {T : List (Addr × Str)} {H H' : Hp} (t : Tabs T H) (e : Same H H') : Tabs T H' := t.ext e
theorem tabs_kp {T : List (Addr × Str)} {H H' : Hp} {a : Addr} (t : Tabs T H) (h1 : ∀ ps, H a ≠ some (.tbl ps)) (h2 : ∀ c q, H a ≠ some (CodeO c q)) (k : Kp a H H') : Tabs T H' := fun p hp => by
  obtain ⟨ps, e1, e2, e3⟩ := t p hp
  refine ⟨ps, k _ _ e1 fun z => h1 ps (by rw [← z]; exact e1), e2, fun pos cv hc => ?_⟩
  obtain ⟨c, z1, z2⟩ := e3 pos cv hc
  exact ⟨c, z1, k _ _ z2 fun z => h2 c p.2 (by rw [← z]; exact z2)⟩
theorem tabs_go {K : PySem.W.Frag} {a s : Addr} {T : List (Addr × Str)} {H H' : Hp} (t : Tabs T H) (d : Dr K a s H) (g : Go K a s H H') : Tabs T H' := by
  obtain ⟨ns, i, m, l, h1, _⟩ := d.ex
  refine tabs_kp t (fun ps z => ?_) (fun c q z => ?_) g.kp
  · rw [h1] at z; cases z
  · rw [h1] at z; unfold CodeO at z; cases z
theorem Dr.ext {K : PySem.W.Frag} {a s : Addr} {H H' : Hp} (d : Dr K a s H) (e : ExtN H H') : Dr K a s H' := by
  obtain ⟨ns, i, m, l, h1, h2, h3, h4⟩ := d.ex
  refine ⟨ns, i, m, l, e _ _ h1 (fun ps z => by cases z), fun o => ?_, h3, h4⟩
  rcases h2 o with (h | ⟨u, h⟩) | h
  · refine .inl (.inl ?_)
    by_cases z : s = a
    · subst z; rw [upd_same] at h ⊢; exact h
    · rw [upd_ne z] at h ⊢; exact e _ _ h (fun ps z => by cases z)
  · refine .inl (.inr ⟨u, ?_⟩)
    by_cases z : s = a
    · subst z; rw [upd_same] at h ⊢; exact h
    · rw [upd_ne z] at h ⊢; exact e _ _ h (fun ps z => by cases z)
  · exact .inr h
theorem extN_tup {H H' : Hp} (e : ExtN H H') {p : Addr} {xs : List V} (h : H p = some (.tup xs)) : H' p = some (.tup xs) := e _ _ h fun _ z => by cases z
theorem extN_lst {H H' : Hp} (e : ExtN H H') {p : Addr} {xs : List V} (h : H p = some (.lst xs)) : H' p = some (.lst xs) := e _ _ h fun _ z => by cases z
theorem extN_ins {H H' : Hp} (e : ExtN H H') {p C dx : Addr} {fs : List (Str × V)} (h : H p = some (.ins C dx fs)) : H' p = some (.ins C dx fs) := e _ _ h fun _ z => by cases z
theorem pss_by {X : Cx} {sts : List Stmt} {tt : TS} (h : ∀ Dd σ H, σ.length = X.N.length → tt Dd σ H → ∃ t, PSs X sts t ∧ t Dd σ H) : PSs X sts tt := ⟨fun pins s σ H D I hh => by
  obtain ⟨t, p, q⟩ := h D σ H I.len hh
  exact p.run pins s σ H D I q⟩
theorem SeenAt.ext {H H' : Hp} {r : Rule} {v : V} {x : Int × Int} (e : LamX.ExtN H H') (h : SeenAt H r v x) : SeenAt H' r v x := by
  cases r with
  | pair o =>
    obtain ⟨p, h1, h2⟩ := h
    exact ⟨p, h1, extN_tup e h2⟩
  | _ => exact h
/-! ### x(lambda: ..), x a known def -/
structure FnL (K : PySem.W.Frag) (mg : Str → Option Value) (x : Str) (st : Stmt) : Prop where
  ex : ∃ (f : Addr) (oc : Value) (od : Option Addr) (kV doc pm : Value) (an : Option Addr) (cdv ct : Value) (osl : Array (Option Value)),
    K.lookup f = some ⟨oc, od, .func (PySem.W.fnOf x x (defArgs st) (defBody st) (defScope st) .none kV doc pm an cdv ct), osl⟩ ∧ PySem.W.codeIn K cdv x = true ∧ PySem.W.keepIn K (.ref f) = true ∧ mg x = some (.ref f)
theorem pe_lamN {X : Cx} {T : List (Addr × Str)} {TT : (XK → Hp → VK → Prop) → Hp → VK → Prop} {x a : Str} {c P : Addr} {k : Nat} {st : Stmt} {Ng : List Str}
    {params : Arguments} {body : Expr} {scope : Scope} {t : XK → TE} {p lpos pos : Pos} (D : FnL X.K X.mg x st) (hg : Gl X x)
    (hb : ∀ (kV doc pm : Value) (an : Option Addr) (cdv ct : Value) (us : List Value), us.length = [a].length → bindArgs (PySem.W.fnOf x x (defArgs st) (defBody st) (defScope st) .none kV doc pm an cdv ct) ⟨us, []⟩ = pure ([a].zip us))
    (Sg : FnScope Ng [a] (defScope st)) (hNg : Ng[0]? = some a) (hva : Vis (defScope st) a)
    (hG : ∀ (g : Addr) (cdv : Value), LamX.GivesTo X Ng x (defScope st) g cdv (defBody st) a (X.env.qual ++ "<lambda>") TT)
    (TB : TabB X.base X.mg c P) (hcode : X.env.code = .ref c) (hmT : (P, X.env.qual ++ "<lambda>") ∈ T) (hu : ∀ p ∈ T, p.1 = P → p.2 = X.env.qual ++ "<lambda>") (hr : Room (k + 2) X.A) (L : LamX.LamS X.env.scope scope) (hdef : defaultsOf params X.env = ([], []))
    (hbind : ∀ (q : Str) (cl : List (Str × Addr)) (pm cv ctv : Value), bindArgs (PySem.W.kla_fn "<lambda>" q params body scope cl pm cv ctv) ⟨[], []⟩ = pure [])
    (hbody : ∀ (A : Around) (outer : List Env) (s : Shared) (H : Hp) (E : XK) (f c' : Addr), Room k (A.deeper (LamX.lamEnv X scope s.heap.objs.size f c')) → PE (LamX.lamCx X A outer s H E scope f c') body (t E))
    (hdb : (x == ("__debug__" : Str)) = false := by decide) (hd : (a == ("__debug__" : Str)) = false := by decide) (hcd : (a == ("__classdict__" : Str)) = false := by decide) :
    PE X (.Call (.Name x p) [.Lambda params body scope lpos] [] pos) (LamX.tLam T TT t) := by
  obtain ⟨g, oc, od, kV, doc, pm, an, cdv, ct, osl, lk, hcg, hk, hm⟩ := D.ex
  exact LamX.pe_lamcall hg hm hk lk hcg (Binds.all fun us hl => hb kV doc pm an cdv ct us hl) Sg hNg hva (hG g cdv) TB hcode hmT hu hr L hdef hbind hbody hdb hd hcd
theorem passLam {X : Cx} {A : Around} {outer : List Env} {s : Shared} {H : Hp} {E : XK} {scope : Scope} {f c' : Addr} : Passes (L2.CX X.prog X.w) (LamX.lamCx X A outer s H E scope f c') E :=
  passes_call (W := fun cls d _ H => E cls d H) (takes_of rfl rfl rfl rfl) (fun _ _ _ _ h => h)
theorem pe_callL {X : Cx} {A : Around} {outer : List Env} {s : Shared} {H : Hp} {E : XK} {scope : Scope} {f c' : Addr} {k : Nat} {x : Str} {ps : List Str} {sp : Sp} {p pos : Pos} {e : Expr} {es : List Expr} {t : TA} (c : Knows X.prog X.w X.K X.mg X.base k x ps sp)
    (hr : Room k (A.deeper (LamX.lamEnv X scope s.heap.objs.size f c'))) (ha : PA (LamX.lamCx X A outer s H E scope f c') (e :: es) t) (hg : Gl (LamX.lamCx X A outer s H E scope f c') x := by rfl) (hdb : (x == ("__debug__" : Str)) = false := by decide)
    (he : starEach (e :: es) (LamX.lamCx X A outer s H E scope f c').env = (false, eval e (LamX.lamCx X A outer s H E scope f c').env) :: starEach es (LamX.lamCx X A outer s H E scope f c').env := by rfl) (hpl : (backTo pos (starEach es (LamX.lamCx X A outer s H E scope f c').env)).any (·.1) = false := by rfl) :
    PE (LamX.lamCx X A outer s H E scope f c') (.Call (.Name x p) (e :: es) [] pos) (tCall sp [] E t) :=
  pe_callN (X := LamX.lamCx X A outer s H E scope f c') c hr (passLam (X := X)) ha hg hdb he hpl
theorem pe_methL {X : Cx} {A : Around} {outer : List Env} {s : Shared} {H : Hp} {E : XK} {scope : Scope} {f c' C : Addr} {k : Nat} {m : Str} {ps : List Str} {dvs : List V} {sp : Sp} {apos pos : Pos} {o e : Expr} {es : List Expr} {ta : TE} {t : TA} {pl : Sem Bool}
    (he : PE (LamX.lamCx X A outer s H E scope f c') o ta) (c : Cls X.K C) (h : KnowsM X.prog X.w X.K X.mg X.base k C m ps dvs sp) (hr : Room k (A.deeper (LamX.lamEnv X scope s.heap.objs.size f c'))) (ha : PA (LamX.lamCx X A outer s H E scope f c') (e :: es) t)
    (hst : starEach (e :: es) (LamX.lamCx X A outer s H E scope f c').env = (false, eval e (LamX.lamCx X A outer s H E scope f c').env) :: starEach es (LamX.lamCx X A outer s H E scope f c').env := by rfl) (hpl : (backTo pos (starEach es (LamX.lamCx X A outer s H E scope f c').env)).any (·.1) = false := by rfl)
    (ht : eval (.Call (.Attribute o m apos) (e :: es) [] pos) (LamX.lamCx X A outer s H E scope f c').env = (do
      let ov ← eval o (LamX.lamCx X A outer s H E scope f c').env
      standAt apos.atName
      let (g, first) ← holding [ov] (getMethod ov m pl)
      callWith pos g first (backTo pos (starEach (e :: es) (LamX.lamCx X A outer s H E scope f c').env)) (backToKw pos (keywordEach [] (LamX.lamCx X A outer s H E scope f c').env))) := by rfl) :
    PE (LamX.lamCx X A outer s H E scope f c') (.Call (.Attribute o m apos) (e :: es) [] pos) (tMeth C m sp dvs E ta t) :=
  pe_methN (X := LamX.lamCx X A outer s H E scope f c') he c h hr (passLam (X := X)) ha hst hpl ht
theorem g_lam {T : List (Addr × Str)} {TT : (XK → Hp → VK → Prop) → Hp → VK → Prop} {t : XK → TE} {σ : L2.St} {H : Hp} {Q : VK} (hT : Tabs T H) (q : ∀ H1, ExtN H H1 → Tabs T H1 → TT (fun E H' Q' => t E σ H' Q') H1 Q) : LamX.tLam T TT t σ H Q := ⟨hT, q⟩
structure FnC (K : PySem.W.Frag) (mg : Str → Option Value) (x : Str) (st : Stmt) (c : Addr) : Prop where
  ex : ∃ (f : Addr) (oc : Value) (od : Option Addr) (kV doc pm : Value) (an : Option Addr) (ct : Value) (osl : Array (Option Value)),
    K.lookup f = some ⟨oc, od, .func (PySem.W.fnOf x x (defArgs st) (defBody st) (defScope st) .none kV doc pm an (.ref c) ct), osl⟩ ∧ PySem.W.codeIn K (.ref c) x = true ∧ PySem.W.keepIn K (.ref f) = true ∧ mg x = some (.ref f)
theorem Knows.mkC {P : Program} {w : World} {K : PySem.W.Frag} {mg : Str → Option Value} {base : Heap} {x : Str} {st : Stmt} {c : Addr} {N ps : List Str} {k : Nat} {sp : Sp} (D : FnC K mg x st c) (S : FnScope N ps (defScope st))
    (hb : ∀ (kV doc pm : Value) (an : Option Addr) (cdv ct : Value) (us : List Value), us.length = ps.length → bindArgs (PySem.W.fnOf x x (defArgs st) (defBody st) (defScope st) .none kV doc pm an cdv ct) ⟨us, []⟩ = pure (ps.zip us))
    (len : ∀ vs H Q E, sp vs H Q E → vs.length = ps.length)
    (hbody : ∀ (f : Addr) (A : Around) (outer : List Env) (s : Shared) (H : Hp) (vs : List V) (Q : VK) (E : XK), Room k (A.deeper (envOfC x (defScope st) s.heap.objs.size f (.ref c))) → sp vs H Q E →
      ∃ t, PSs (cxOf (L2.CX P w) P w K mg base N x (defScope st) f (.ref c) A outer s H E) (defBody st) t ∧ t { nx := fun _ H' => Q .non H', rt := Q } (start N vs) H) : Knows P w K mg base (k + 1) x ps sp := by
  obtain ⟨f, oc, od, kV, doc, pm, an, ct, osl, lk, hcd, hk, hm⟩ := D.ex
  exact ⟨f, _, fn_of lk hcd S len fun A outer s H vs Q E hr h => hbody f A outer s H vs Q E hr h, hm, hk, Binds.all fun us hl => hb kV doc pm an (.ref c) ct us hl⟩
theorem tab_u0 {P1 P2 : Addr} {q1 q2 : Str} (h : P1 ≠ P2) : ∀ p ∈ [(P1, q1), (P2, q2)], p.1 = P1 → p.2 = q1 := fun p hp e => by
  have hp : p = (P1, q1) ∨ p = (P2, q2) := by simpa using hp
  rcases hp with rfl | rfl
  · rfl
  · exact absurd e.symm h
theorem tab_u1 {P1 P2 : Addr} {q1 q2 : Str} (h : P1 ≠ P2) : ∀ p ∈ [(P1, q1), (P2, q2)], p.1 = P2 → p.2 = q2 := fun p hp e => by
  have hp : p = (P1, q1) ∨ p = (P2, q2) := by simpa using hp
  rcases hp with rfl | rfl
  · exact absurd e h
  · rfl
def sp_lawTs (K : PySem.W.Frag) (Ps : List Addr) : Sp := fun vs H Q _ => ∃ (s : Addr) (ns : List Int), vs = [.ref s] ∧ SqL K H s (ns.map V.int) ∧ ns.length ≤ 63 ∧ (∀ P ∈ Ps, H P = some (.tbl #[])) ∧ ∀ H', Q (.bl true) H'
/-- a def that draws and makes lambdas: the state, the tables, all else -/
structure GoT (K : PySem.W.Frag) (a s : Addr) (T : List (Addr × Str)) (H H' : Hp) : Prop where
  dr : Dr K a s H'
  tb : Tabs T H'
  kp : ∀ b o, H b = some o → b ≠ a → (∀ ps, o ≠ .tbl ps) → H' b = some o
theorem GoT.of {K : PySem.W.Frag} {a s : Addr} {T : List (Addr × Str)} {H H' : Hp} (t : Tabs T H) (d : Dr K a s H) (g : Go K a s H H') : GoT K a s T H H' := ⟨g.dr, tabs_go t d g, fun b o h n _ => g.kp b o h n⟩
theorem GoT.same {K : PySem.W.Frag} {a s : Addr} {T : List (Addr × Str)} {H H' : Hp} (t : Tabs T H) (d : Dr K a s H) (g : Same H H') : GoT K a s T H H' := .of t d (Go.same d g)
theorem GoT.ext {K : PySem.W.Frag} {a s : Addr} {T : List (Addr × Str)} {H H' : Hp} (d : Dr K a s H) (e : ExtN H H') (t : Tabs T H') : GoT K a s T H H' := ⟨d.ext e, t, fun b o h _ n => e b o h n⟩
theorem GoT.trans {K : PySem.W.Frag} {a s : Addr} {T : List (Addr × Str)} {H H1 H' : Hp} (x : GoT K a s T H H1) (y : GoT K a s T H1 H') : GoT K a s T H H' := ⟨y.dr, y.tb, fun b o h n m => y.kp b o (x.kp b o h n m) n m⟩
theorem GoT.tup {K : PySem.W.Frag} {a s : Addr} {T : List (Addr × Str)} {H H' : Hp} {p : Addr} {xs : List V} (g : GoT K a s T H H') (d : Dr K a s H) (h : H p = some (.tup xs)) : H' p = some (.tup xs) := by
  refine g.kp _ _ h ?_ (fun _ z => by cases z)
  intro z
  obtain ⟨ns, i, m, l, h1, _⟩ := d.ex
  rw [z, h1] at h
  cases h
def sp_lawT (K : PySem.W.Frag) (P : Addr) : Sp := fun vs H Q _ => ∃ (s : Addr) (ns : List Int), vs = [.ref s] ∧ SqL K H s (ns.map V.int) ∧ ns.length ≤ 63 ∧ H P = some (.tbl #[]) ∧ ∀ H', Q (.bl true) H'
end My
namespace My
open PySem PySem.Spec PyProof.Rows L2
def sp_multiple : Sp := fun vs H Q _ => ∃ n o : Int, vs = [.int n, .int o] ∧ Wh n ∧ Wh o ∧ Q (.int (lcmI n o)) H
def sp_bound_of : Sp := fun vs H Q _ => ∃ (n : Int) (q : Addr) (r : Rule), vs = [.int n, .ref q] ∧ H q = some (.tup (ruleV r)) ∧ Wh n ∧ RuleOk n r ∧ ∀ p H', Same H H' → H' p = some (.tup [.int (loR n r), .int (hiR n r)]) → Q (.ref p) H'
def sp_bound (ec : Ec) : Sp := fun vs H Q E => ∃ (n : Int) (q : Addr) (w : Raw), vs = [.int n, .ref q] ∧ H q = some (.tup (rawV w)) ∧ RawS w ∧
  (∀ r, w = toRaw r → Wh n → RuleOk n r → ∀ p H', Same H H' → H' p = some (.tup [.int (loR n r), .int (hiR n r)]) → Q (.ref p) H') ∧ (¬ Wh n → E (.ref ec.BadWheel) none H) ∧ (Wh n → ¬ RawOk n w → ∀ H', Same H H' → E (.ref ec.BadRule) none H')
end My
namespace My
open PySem PySem.Spec PyProof.Rows L2
def judgeW (n : Int) (r : Rule) (l : Int) : Int := if l < loR n r ∨ l > hiR n r then l else hiR n r + 1
def judgeV (n : Int) (r : Rule) (l m : Int) : List V := if loR n r ≤ l ∧ m ≤ hiR n r then [.str "right"] else [.str "wrong", .int (judgeW n r l)]
def sp_judged (ec : Ec) : Sp := fun vs H Q E => ∃ (n : Int) (q : Addr) (w : Raw) (l m : Int), vs = [.int n, .ref q, .int l, .int m] ∧ H q = some (.tup (rawV w)) ∧ RawS w ∧
  (∀ r, w = toRaw r → Wh n → RuleOk n r → l ≤ m → ∀ p H', Same H H' → H' p = some (.tup (judgeV n r l m)) → Q (.ref p) H') ∧ (¬ Wh n → E (.ref ec.BadWheel) none H) ∧ (Wh n → ¬ RawOk n w → ∀ H', Same H H' → E (.ref ec.BadRule) none H') ∧
  (Wh n → RawOk n w → m < l → ∀ H', Same H H' → E (.ref ec.BadGaps) none H')
def sp_is_told (K : PySem.W.Frag) (TL : List (Addr × Str)) : Sp := fun vs H Q _ => ∃ (a s : Addr) (n : Int) (q : Addr) (r : Rule) (f : Int), vs = [.ref a, .int n, .ref q, .int f] ∧ Dr K a s H ∧ LamX.Tabs TL H ∧ H q = some (.tup (ruleV r)) ∧ Wh n ∧ RuleOk n r ∧
  ∀ H', GoT K a s TL H H' → Q (.bl (decide (loR n r ≤ f ∧ f ≤ hiR n r))) H'
theorem two_sorted {a b : Int} {ns : List Int} (p : ns.Perm [a, b]) (h : ns.Pairwise (· ≤ ·)) : ∃ l m, ns = [l, m] ∧ l ≤ m := by
  have hl := p.length_eq
  match ns, hl with
  | [l, m], _ => exact ⟨l, m, rfl, by simpa using h⟩
end My
namespace My
open PySem PySem.Spec PyProof.Rows L2
def top (i : Nat) : Stmt := PySem.Challenge.pw_wraptime_k02_rules_looked_at.main.body.getD i (.Pass ⟨0, 0, 0, 0⟩)
abbrev s__wall : Stmt := top 0
abbrev s_is_wheel : Stmt := top 13
abbrev s_need_wheel : Stmt := top 14
abbrev s_need_seen : Stmt := top 15
abbrev s_is_rule : Stmt := top 18
abbrev s_need_rule : Stmt := top 19
abbrev s_divisor : Stmt := top 20
abbrev s_multiple : Stmt := top 21
abbrev s_shown_of : Stmt := top 22
abbrev s_shown : Stmt := top 23
abbrev s_need_shown : Stmt := top 24
abbrev s_inverse : Stmt := top 25
abbrev s_paired : Stmt := top 26
abbrev s_gap_of : Stmt := top 27
abbrev s_gap : Stmt := top 28
abbrev s_bound_of : Stmt := top 29
abbrev s_bound : Stmt := top 30
abbrev s_judged : Stmt := top 31
abbrev s_Reader_init : Stmt := inClass (top 33) 0
abbrev s_Reader_look : Stmt := inClass (top 33) 1
abbrev s_Reader_now : Stmt := inClass (top 33) 2
abbrev s_is_right : Stmt := top 34
abbrev s_first_wrong : Stmt := top 35
abbrev s__law_start : Stmt := top 37
abbrev s__law_drawn : Stmt := top 38
abbrev s__law_same : Stmt := top 39
abbrev s__law_kind : Stmt := top 40
abbrev s__law_far : Stmt := top 41
abbrev s__law_wheel : Stmt := top 42
abbrev s__law_rule : Stmt := top 43
abbrev s__law_time : Stmt := top 44
abbrev s__law_shown : Stmt := top 45
abbrev s__law_odd : Stmt := top 46
abbrev s__law_works : Stmt := top 47
abbrev s_law : Stmt := top 48
structure Txt (K : PySem.W.Frag) (mg : Str → Option Value) (ec : Ec) : Prop where
  g_MOST_WHEEL : ∃ t, mg "MOST_WHEEL" = some (.int 1000000000000 t)
  g_MOST_LEAST : ∃ t, mg "MOST_LEAST" = some (.int 1000000000000 t)
  ValueError : mg "ValueError" = none
  range : mg "range" = none
  isinstance : mg "isinstance" = none
  str : mg "str" = none
  len : mg "len" = none
  tuple : mg "tuple" = none
  list : mg "list" = none
  bool : mg "bool" = none
  int : mg "int" = none
  min : mg "min" = none
  abs : mg "abs" = none
  x_BadWheel : ExcAt K mg "BadWheel" ec.BadWheel
  x_BadRule : ExcAt K mg "BadRule" ec.BadRule
  x_BadSeen : ExcAt K mg "BadSeen" ec.BadSeen
  x_BadGaps : ExcAt K mg "BadGaps" ec.BadGaps
  x_BadSpan : ExcAt K mg "BadSpan" ec.BadSpan
  x_BadLong : ExcAt K mg "BadLong" ec.BadLong
  x_NoGap : ExcAt K mg "NoGap" ec.NoGap
  x_NoSpan : ExcAt K mg "NoSpan" ec.NoSpan
  x_WrapError : ExcAt K mg "WrapError" ec.WrapError
  k_Reader : Cls K ec.Reader
  g_Reader : mg "Reader" = some (.ref ec.Reader)
  n_Reader_last : NoAttr K ec.Reader "last"
  n_Reader_rule : NoAttr K ec.Reader "rule"
  n_Reader_told : NoAttr K ec.Reader "told"
  n_Reader_wheel : NoAttr K ec.Reader "wheel"
  q_BadWheel : KindOf K ec ec.BadWheel 0
  q_BadRule : KindOf K ec ec.BadRule 1
  q_BadSeen : KindOf K ec ec.BadSeen 2
  q_BadGaps : KindOf K ec ec.BadGaps 3
  h_NoGap : PySem.W.exmOne K (.ref ec.NoGap) (.ref ec.NoGap) = some true

section
variable {P : Program} {w : World} {K : PySem.W.Frag} {mg : Str → Option Value} {base : Heap} {ec : Ec}
theorem sc_is_wheel : FnScope ["wheel"] ["wheel"] (defScope s_is_wheel) := ⟨rfl, rfl, rfl, by decide +kernel, rfl, by decide +kernel, by decide +kernel⟩
theorem ok_is_wheel (T : Txt K mg ec) (D : Fn K mg "is_wheel" s_is_wheel) : Knows P w K mg base 1 "is_wheel" ["wheel"] sp_is_wheel := by
  refine Knows.mk' D sc_is_wheel (fun _ _ _ _ _ _ us hl => match us, hl with | [_], _ => rfl) (fun vs H Q E h => ?_) (fun f cdv A outer s H vs Q E hr h => ?_)
  · obtain ⟨n, rfl, _⟩ := h; rfl
  · obtain ⟨n, rfl, k⟩ := h
    refine ⟨_, (pss_one (ps_ret (pe_chain op_le op_le pe_int (pv 0) (pe_gl T.g_MOST_WHEEL)))), ?_⟩
    refine g_start (σ := [some _]) rfl ?_
    try dsimp only [cxOf]
    walk_at "go"
    refine ite_dec (fun h1 => ?_) (fun h1 => ?_)
    · walk_at "go"
      rw [show decide (Wh n) = decide (n ≤ 1000000000000) from decide_eq_decide.mpr ⟨fun h => h.2, fun h => ⟨h1, h⟩⟩] at k
      exact k
    · rw [show decide (Wh n) = false from decide_eq_false fun h => h1 h.1] at k
      exact k
theorem sc_need_wheel : FnScope ["wheel"] ["wheel"] (defScope s_need_wheel) := ⟨rfl, rfl, rfl, by decide +kernel, rfl, by decide +kernel, by decide +kernel⟩
theorem ok_need_wheel (T : Txt K mg ec) (D : Fn K mg "need_wheel" s_need_wheel) (c_is_wheel : Knows P w K mg base 1 "is_wheel" ["wheel"] sp_is_wheel) : Knows P w K mg base 2 "need_wheel" ["wheel"] (sp_need_wheel ec) := by
  refine Knows.mk' D sc_need_wheel (fun _ _ _ _ _ _ us hl => match us, hl with | [_], _ => rfl) (fun vs H Q E h => ?_) (fun f cdv A outer s H vs Q E hr h => ?_)
  · obtain ⟨n, rfl, _⟩ := h; rfl
  · obtain ⟨n, rfl, k1, k2⟩ := h
    refine ⟨_, (pss_one (ps_if (pt_not (pt_val (pe_callN c_is_wheel (hr.mono (by first | decide | omega)) passD (pa_cons (pv 0) pa_nil)) (by intro _; rfl))) (pss_one (ps_raiseN T.x_BadWheel)) pss_nil)), ?_⟩
    refine g_start (σ := [some _]) rfl ?_
    try dsimp only [cxOf]
    walk_at "go"
    refine ⟨n, rfl, ?_⟩
    walk_at "go"
    refine ite_ndec (fun h1 => ?_) (fun h1 => ?_)
    · exact k2 h1
    · walk_at "go"
      exact k1 h1
theorem sc_need_seen : FnScope ["wheel", "seen"] ["wheel", "seen"] (defScope s_need_seen) := ⟨rfl, rfl, rfl, by decide +kernel, rfl, by decide +kernel, by decide +kernel⟩
theorem ok_need_seen (T : Txt K mg ec) (D : Fn K mg "need_seen" s_need_seen) : Knows P w K mg base 1 "need_seen" ["wheel", "seen"] (sp_need_seen ec) := by
  refine Knows.mk' D sc_need_seen (fun _ _ _ _ _ _ us hl => match us, hl with | [_, _], _ => rfl) (fun vs H Q E h => ?_) (fun f cdv A outer s H vs Q E hr h => ?_)
  · obtain ⟨n, i, rfl, _⟩ := h; rfl
  · obtain ⟨n, i, rfl, k1, k2⟩ := h
    refine ⟨_, (pss_one (ps_if (pt_not (pt_chain op_le op_lt pe_int (pv 1) (pv 0))) (pss_one (ps_raiseN T.x_BadSeen)) pss_nil)), ?_⟩
    refine g_start (σ := [some _, some _]) rfl ?_
    try dsimp only [cxOf]
    walk_at "go"
    refine ite_dec (fun h1 => ?_) (fun h1 => ?_)
    · walk_at "go"
      refine ite_ndec (fun h2 => ?_) (fun h2 => ?_)
      · exact k2 fun h => h2 h.2
      · walk_at "go"
        exact k1 ⟨h1, h2⟩
    · walk_at "go"
      exact k2 fun h => h1 h.1
theorem raw_eq {H : Hp} {p q : Addr} {w : Raw} {Q : VK} (h1 : SqT K H p (rawV w)) (hs : RawS w) (h2 : SqT K H q [.str "near"]) (k : Q (.bl (decide (w = .one "near"))) H) : rEqD K (.ref p) (.ref q) H Q := by
  have nearOk : SeqAt.shaped (.tuple [.str "near"]) = true := by decide +kernel
  have dn : Dp K H (.ref q) (.tuple [.str "near"]) := .tup h2 (.cons (.str _) .nil)
  cases w with
  | nil =>
    refine ⟨.tuple [], .tuple [.str "near"], .tup h1 .nil, dn, by decide +kernel, nearOk, ?_⟩
    rw [decide_eq_false (by intro z; cases z)] at k
    exact k
  | one s =>
    have hs : PyData.strOk s = true := hs
    refine ⟨.tuple [.str s], .tuple [.str "near"], .tup h1 (.cons (.str _) .nil), dn, by simp [SeqAt.shaped, PyData.canLay0, PyData.canLayAll0, PyData.depth, PyData.depthAll, hs], nearOk, ?_⟩
    have e : PyData.eqv (.tuple [.str s]) (.tuple [.str "near"]) = decide (Raw.one s = .one "near") := by
      simp only [PyData.eqv, PyData.eqvAll, Bool.and_true]
      by_cases z : s = "near"
      · rw [z]; simp
      · rw [decide_eq_false (fun q => z (Raw.one.inj q))]
        simpa using z
    rw [e]
    exact k
  | two s a =>
    have hs : PyData.strOk s = true := hs
    refine ⟨.tuple [.str s, .int a], .tuple [.str "near"], .tup h1 (.cons (.str _) (.cons (.int _) .nil)), dn, by simp [SeqAt.shaped, PyData.canLay0, PyData.canLayAll0, PyData.depth, PyData.depthAll, hs], nearOk, ?_⟩
    have e : PyData.eqv (.tuple [.str s, .int a]) (.tuple [.str "near"]) = false := by simp [PyData.eqv, PyData.eqvAll]
    rw [e]
    rw [decide_eq_false (by intro z; cases z)] at k
    exact k
  | three s a b =>
    have hs : PyData.strOk s = true := hs
    refine ⟨.tuple [.str s, .int a, .int b], .tuple [.str "near"], .tup h1 (.cons (.str _) (.cons (.int _) (.cons (.int _) .nil))), dn, by simp [SeqAt.shaped, PyData.canLay0, PyData.canLayAll0, PyData.depth, PyData.depthAll, hs], nearOk, ?_⟩
    have e : PyData.eqv (.tuple [.str s, .int a, .int b]) (.tuple [.str "near"]) = false := by simp [PyData.eqv, PyData.eqvAll]
    rw [e]
    rw [decide_eq_false (by intro z; cases z)] at k
    exact k
theorem sc_is_rule : FnScope ["wheel", "rule"] ["wheel", "rule"] (defScope s_is_rule) := ⟨rfl, rfl, rfl, by decide +kernel, rfl, by decide +kernel, by decide +kernel⟩
theorem ok_is_rule (T : Txt K mg ec) (D : Fn K mg "is_rule" s_is_rule) (c_is_wheel : Knows P w K mg base 1 "is_wheel" ["wheel"] sp_is_wheel) : Knows P w K mg base 2 "is_rule" ["wheel", "rule"] sp_is_rule := by
  refine Knows.mk' D sc_is_rule (fun _ _ _ _ _ _ us hl => match us, hl with | [_, _], _ => rfl) (fun vs H Q E h => ?_) (fun f cdv A outer s H vs Q E hr h => ?_)
  · obtain ⟨n, p, raw, rfl, _⟩ := h; rfl
  · obtain ⟨n, p, raw, rfl, hp, hs, k⟩ := h
    refine ⟨_, (pss_cons (ps_if (pt_cmpR (op_eqD hr.units) (pv 1) (pe_tup (pa_cons pe_str pa_nil)) (nomark _)) (pss_one (ps_ret pe_bl)) pss_nil)
    (pss_cons (ps_if (pt_cmpR op_ne (pe_callB call_lenN (by rfl) T.len PySem.boot_len (pa_cons (pv 1) pa_nil)) pe_int (nomark _)) (pss_one (ps_ret pe_bl)) pss_nil)
    (pss_cons (ps_if (pt_cmpR op_eq (pe_ix ix_tup (pv 1) pe_int (fun _ _ => rfl)) pe_str (nomark _)) (pss_one (ps_ret (pe_chain op_le op_le pe_int (pe_ix ix_tup (pv 1) pe_int (fun _ _ => rfl)) (pe_gl T.g_MOST_LEAST)))) pss_nil)
    (pss_cons (ps_if (pt_cmpR op_eq (pe_ix ix_tup (pv 1) pe_int (fun _ _ => rfl)) pe_str (nomark _)) (pss_one (ps_ret (pe_callN c_is_wheel (hr.mono (by first | decide | omega)) passD (pa_cons (pe_ix ix_tup (pv 1) pe_int (fun _ _ => rfl)) pa_nil)))) pss_nil)
    (pss_one (ps_ret (pe_and (pe_cmpR op_eq (pe_ix ix_tup (pv 1) pe_int (fun _ _ => rfl)) pe_str (nomark _)) (pe_one (pe_chain op_le op_lt pe_int (pe_op op_mul pe_int (pe_ix ix_tup (pv 1) pe_int (fun _ _ => rfl))) (pv 0)))))))))), ?_⟩
    refine g_start (σ := [some _, some _]) rfl ?_
    try dsimp only [cxOf]
    walk_at "go"
    intro q hq
    have e1 : Same H (upd H q (.tup [.str "near"])) := Same.new hq
    refine raw_eq (SqT.of (e1 _ _ hp)) hs (SqT.of upd_same) ?_
    have hp1 := e1 _ _ hp
    have hk : ∀ b : Bool, b = decide (RawOk n raw) → Q (.bl b) (upd H q (.tup [.str "near"])) := fun b e => e ▸ k _ e1
    generalize upd H q (.tup [.str "near"]) = H1 at hp1 hk
    walk_at "go"
    refine ite_dec (fun h1 => ?_) (fun h1 => ?_)
    · walk_at "go"
      subst h1
      exact hk _ (decide_eq_true rfl).symm
    · walk_at "go"
      refine g_lenT (SqT.of hp1) ?_
      walk_at "go"
      cases raw with
      | nil =>
        refine ite_ndec (fun _ => ?_) (fun z => absurd (V.int.inj z) (by decide))
        walk_at "go"
        exact hk _ (decide_eq_false (fun z => z)).symm
      | one s =>
        refine ite_ndec (fun _ => ?_) (fun z => absurd (V.int.inj z) (by show ¬ ((1 : Int) = 2); decide))
        walk_at "go"
        exact hk _ (decide_eq_false (fun z => h1 (by have z : s = "near" := z; rw [z]))).symm
      | three s a b =>
        refine ite_ndec (fun _ => ?_) (fun z => absurd (V.int.inj z) (by show ¬ ((3 : Int) = 2); decide))
        walk_at "go"
        exact hk _ (decide_eq_false (fun z => z)).symm
      | two s a =>
        have a0 : atI (rawV (.two s a)) 0 = some (.str s) := rfl
        have a1 : atI (rawV (.two s a)) 1 = some (.int a) := rfl
        refine ite_ndec (fun z => (z rfl).elim) (fun _ => ?_)
        walk_at "go"
        refine g_ixT (SqT.of hp1) a0 ?_
        walk_at "go"
        by_cases s1 : s = "up"
        · subst s1
          walk_at "go"
          refine g_ixT (SqT.of hp1) a1 ?_
          walk_at "go"
          refine ite_dec (fun h2 => ?_) (fun h2 => ?_)
          · walk_at "go"
            exact hk _ (decide_eq_decide.mpr ⟨fun h3 => .inl ⟨rfl, h2, h3⟩, fun h => by rcases h with h | h | h <;> first | exact h.2.2 | exact absurd h.1 (by decide)⟩)
          · exact hk _ (decide_eq_false (fun h => by rcases h with h | h | h <;> first | exact h2 h.2.1 | exact absurd h.1 (by decide))).symm
        · refine ite_strF s1 ?_
          walk_at "go"
          refine g_ixT (SqT.of hp1) a0 ?_
          walk_at "go"
          by_cases s2 : s = "pair"
          · subst s2
            walk_at "go"
            refine g_ixT (SqT.of hp1) a1 ?_
            walk_at "go"
            refine ⟨a, rfl, hk _ (decide_eq_decide.mpr ⟨fun h => .inr (.inl ⟨rfl, h⟩), fun h => by rcases h with h | h | h <;> first | exact h.2 | exact absurd h.1 (by decide)⟩)⟩
          · refine ite_strF s2 ?_
            walk_at "go"
            refine g_ixT (SqT.of hp1) a0 ?_
            walk_at "go"
            by_cases s3 : s = "about"
            · subst s3
              walk_at "go"
              refine g_ixT (SqT.of hp1) a1 ?_
              walk_at "go"
              refine ite_dec (fun h2 => ?_) (fun h2 => ?_)
              · walk_at "go"
                exact hk _ (decide_eq_decide.mpr ⟨fun h3 => .inr (.inr ⟨rfl, h2, h3⟩), fun h => by rcases h with h | h | h <;> first | exact h.2.2 | exact absurd h.1 (by decide)⟩)
              · exact hk _ (decide_eq_false (fun h => by rcases h with h | h | h <;> first | exact h2 h.2.1 | exact absurd h.1 (by decide))).symm
            · refine ite_strF s3 ?_
              walk_at "go"
              exact hk _ (decide_eq_false (fun h => by rcases h with h | h | h <;> first | exact s1 h.1 | exact s2 h.1 | exact s3 h.1)).symm
theorem sc_need_rule : FnScope ["wheel", "rule"] ["wheel", "rule"] (defScope s_need_rule) := ⟨rfl, rfl, rfl, by decide +kernel, rfl, by decide +kernel, by decide +kernel⟩
theorem ok_need_rule (T : Txt K mg ec) (D : Fn K mg "need_rule" s_need_rule) (c_need_wheel : Knows P w K mg base 2 "need_wheel" ["wheel"] (sp_need_wheel ec)) (c_is_rule : Knows P w K mg base 2 "is_rule" ["wheel", "rule"] sp_is_rule) : Knows P w K mg base 3 "need_rule" ["wheel", "rule"] (sp_need_rule ec) := by
  refine Knows.mk' D sc_need_rule (fun _ _ _ _ _ _ us hl => match us, hl with | [_, _], _ => rfl) (fun vs H Q E h => ?_) (fun f cdv A outer s H vs Q E hr h => ?_)
  · obtain ⟨n, p, raw, rfl, _⟩ := h; rfl
  · obtain ⟨n, p, raw, rfl, hp, hs, k1, k2, k3⟩ := h
    refine ⟨_, (pss_cons (ps_expr (pe_callN c_need_wheel (hr.mono (by first | decide | omega)) passD (pa_cons (pv 0) pa_nil)))
    (pss_one (ps_if (pt_not (pt_val (pe_callN c_is_rule (hr.mono (by first | decide | omega)) passD (pa_cons (pv 0) (pa_cons (pv 1) pa_nil))) (by intro _; rfl))) (pss_one (ps_raiseN T.x_BadRule)) pss_nil))), ?_⟩
    refine g_start (σ := [some _, some _]) rfl ?_
    try dsimp only [cxOf]
    walk_at "go"
    refine ⟨n, rfl, fun hw => ?_, k2⟩
    walk_at "go"
    refine ⟨n, p, raw, rfl, hp, hs, fun H' e => ?_⟩
    walk_at "go"
    refine ite_ndec (fun h1 => ?_) (fun h1 => ?_)
    · exact k3 hw h1 _ e
    · walk_at "go"
      exact k1 hw h1 _ e
theorem sc_divisor : FnScope ["one", "other", "rest"] ["one", "other"] (defScope s_divisor) := ⟨rfl, rfl, rfl, by decide +kernel, rfl, by decide +kernel, by decide +kernel⟩
theorem ok_divisor (T : Txt K mg ec) (D : Fn K mg "divisor" s_divisor)  : Knows P w K mg base 1 "divisor" ["one", "other"] sp_divisor := by
  refine Knows.mk' D sc_divisor (fun _ _ _ _ _ _ us hl => match us, hl with | [_, _], _ => rfl) (fun vs H Q E h => ?_) (fun f cdv A outer s H vs Q E hr h => ?_)
  · obtain ⟨n, o, rfl, _⟩ := h; rfl
  · obtain ⟨n, o, rfl, hn, ho, k⟩ := h
    refine ⟨_, (pss_cons (ps_while passO (pt_cmpR op_gt (pv 1) pe_int (nomark _)) (pss_cons (ps_set (i := 2) sc_divisor.nd rfl (Or.inl rfl) (pe_op op_mod (pv 0) (pv 1)))
    (pss_cons (ps_set (i := 0) sc_divisor.nd rfl (Or.inl rfl) (pv 1))
    (pss_one (ps_set (i := 1) sc_divisor.nd rfl (Or.inl rfl) (pv 2))))))
    (pss_one (ps_ret (pv 0)))), ?_⟩
    refine g_start (σ := [some _, some _, none]) rfl ?_
    try dsimp only [cxOf]
    walk_at "go"
    refine ⟨fun m σ H' => H' = H ∧ ∃ (a b : Nat) (r : Option V), σ = [some (.int (a : Int)), some (.int (b : Int)), r] ∧ m = b ∧ Nat.gcd a b = Nat.gcd n.toNat o.toNat,
      ⟨o.toNat, rfl, n.toNat, o.toNat, none, by rw [Int.toNat_of_nonneg (by omega), Int.toNat_of_nonneg (by omega)], rfl, rfl⟩, ?_⟩
    rintro m σ H' ⟨rfl, a, b, r, rfl, rfl, hg⟩
    walk_at "go"
    refine ite_dec (fun h1 => ?_) (fun h1 => ?_)
    · refine ⟨fun σ' H1 => ∃ m', m' < m ∧ (H1 = H' ∧ ∃ (a b : Nat) (r : Option V), σ' = [some (.int (a : Int)), some (.int (b : Int)), r] ∧ m' = b ∧ Nat.gcd a b = Nat.gcd n.toNat o.toNat), fun _ _ h => h, ?_⟩
      walk_at "go"
      have hm : 0 < m := by omega
      refine ⟨a % m, Nat.mod_lt _ hm, rfl, m, a % m, _, by rw [Int.natCast_emod], rfl, ?_⟩
      rw [← hg, Nat.gcd_comm m, ← Nat.gcd_rec, Nat.gcd_comm]
    · walk_at "go"
      have hm : m = 0 := by omega
      subst hm
      rw [Nat.gcd_zero_right] at hg
      rw [hg]
      exact k
theorem sc_shown_of : FnScope ["wheel", "rule", "time"] ["wheel", "rule", "time"] (defScope s_shown_of) := ⟨rfl, rfl, rfl, by decide +kernel, rfl, by decide +kernel, by decide +kernel⟩
theorem ok_shown_of (T : Txt K mg ec) (D : Fn K mg "shown_of" s_shown_of)  : Knows P w K mg base 1 "shown_of" ["wheel", "rule", "time"] sp_shown_of := by
  refine Knows.mk' D sc_shown_of (fun _ _ _ _ _ _ us hl => match us, hl with | [_, _, _], _ => rfl) (fun vs H Q E h => ?_) (fun f cdv A outer s H vs Q E hr h => ?_)
  · obtain ⟨n, p, r, t, rfl, _⟩ := h; rfl
  · obtain ⟨n, p, r, t, rfl, hp, hw, hr0, k⟩ := h
    refine ⟨_, (pss_one (ps_ret (pe_ifExp (pt_cmpR op_eq (pe_ix ix_tup (pv 1) pe_int (fun _ _ => rfl)) pe_str (nomark _)) (pe_tup (pa_cons (pe_op op_mod (pv 2) (pv 0)) (pa_cons (pe_op op_mod (pv 2) (pe_ix ix_tup (pv 1) pe_int (fun _ _ => rfl))) pa_nil))) (pe_op op_mod (pv 2) (pv 0))))), ?_⟩
    refine g_start (σ := [some _, some _, some _]) rfl ?_
    try dsimp only [cxOf]
    have hn : 0 < n := by have := hw.1; omega
    walk_at "go"
    cases r with
    | pair o =>
      have ho : 0 < o := by have := hr0.1; omega
      refine g_ixT (SqT.of hp) (v := .str "pair") rfl ?_
      walk_at "go"
      refine g_ixT (SqT.of hp) (v := .int o) rfl ?_
      walk_at "go"
      intro q hq
      exact k _ _ (Same.new hq) ⟨q, rfl, upd_same⟩
    | up l =>
      refine g_ixT (SqT.of hp) (v := .str "up") rfl ?_
      walk_at "go"
      exact k _ _ (Same.refl _) rfl
    | near =>
      refine g_ixT (SqT.of hp) (v := .str "near") rfl ?_
      walk_at "go"
      exact k _ _ (Same.refl _) rfl
    | about l =>
      refine g_ixT (SqT.of hp) (v := .str "about") rfl ?_
      walk_at "go"
      exact k _ _ (Same.refl _) rfl
theorem sc_need_shown : FnScope ["wheel", "rule", "seen"] ["wheel", "rule", "seen"] (defScope s_need_shown) := ⟨rfl, rfl, rfl, by decide +kernel, rfl, by decide +kernel, by decide +kernel⟩
theorem ok_need_shown (T : Txt K mg ec) (D : Fn K mg "need_shown" s_need_shown) (c_need_seen : Knows P w K mg base 1 "need_seen" ["wheel", "seen"] (sp_need_seen ec)) : Knows P w K mg base 2 "need_shown" ["wheel", "rule", "seen"] (sp_need_shown ec) := by
  refine Knows.mk' D sc_need_shown (fun _ _ _ _ _ _ us hl => match us, hl with | [_, _, _], _ => rfl) (fun vs H Q E h => ?_) (fun f cdv A outer s H vs Q E hr h => ?_)
  · obtain ⟨n, p, r, v, x, rfl, _⟩ := h; rfl
  · obtain ⟨n, p, r, v, x, rfl, hp, hv, k1, k2⟩ := h
    refine ⟨_, (pss_one (ps_if (pt_cmpR op_eq (pe_ix ix_tup (pv 1) pe_int (fun _ _ => rfl)) pe_str (nomark _)) (pss_cons (ps_expr (pe_callN c_need_seen (hr.mono (by first | decide | omega)) passD (pa_cons (pv 0) (pa_cons (pe_ix ix_tup (pv 2) pe_int (fun _ _ => rfl)) pa_nil))))
    (pss_one (ps_expr (pe_callN c_need_seen (hr.mono (by first | decide | omega)) passD (pa_cons (pe_ix ix_tup (pv 1) pe_int (fun _ _ => rfl)) (pa_cons (pe_ix ix_tup (pv 2) pe_int (fun _ _ => rfl)) pa_nil)))))) (pss_one (ps_expr (pe_callN c_need_seen (hr.mono (by first | decide | omega)) passD (pa_cons (pv 0) (pa_cons (pv 2) pa_nil))))))), ?_⟩
    refine g_start (σ := [some _, some _, some _]) rfl ?_
    try dsimp only [cxOf]
    walk_at "go"
    cases r with
    | pair o =>
      obtain ⟨q, rfl, hq⟩ := hv
      refine g_ixT (SqT.of hp) (v := .str "pair") rfl ?_
      walk_at "go"
      refine g_ixT (SqT.of hq) (v := .int x.1) rfl ?_
      walk_at "go"
      refine ⟨n, x.1, rfl, fun h1 => ?_, fun h1 => k2 fun z => h1 z.1⟩
      walk_at "go"
      refine g_ixT (SqT.of hp) (v := .int o) rfl ?_
      walk_at "go"
      refine g_ixT (SqT.of hq) (v := .int x.2) rfl ?_
      walk_at "go"
      refine ⟨o, x.2, rfl, fun h2 => ?_, fun h2 => k2 fun z => h2 z.2⟩
      walk_at "go"
      exact k1 ⟨h1, h2⟩
    | up l =>
      refine g_ixT (SqT.of hp) (v := .str "up") rfl ?_
      walk_at "go"
      have hv : v = .int x.1 := hv
      subst hv
      refine ⟨n, x.1, rfl, fun h1 => ?_, fun h1 => k2 fun z => h1 z.1⟩
      walk_at "go"
      exact k1 ⟨h1, trivial⟩
    | near =>
      refine g_ixT (SqT.of hp) (v := .str "near") rfl ?_
      walk_at "go"
      have hv : v = .int x.1 := hv
      subst hv
      refine ⟨n, x.1, rfl, fun h1 => ?_, fun h1 => k2 fun z => h1 z.1⟩
      walk_at "go"
      exact k1 ⟨h1, trivial⟩
    | about l =>
      refine g_ixT (SqT.of hp) (v := .str "about") rfl ?_
      walk_at "go"
      have hv : v = .int x.1 := hv
      subst hv
      refine ⟨n, x.1, rfl, fun h1 => ?_, fun h1 => k2 fun z => h1 z.1⟩
      walk_at "go"
      exact k1 ⟨h1, trivial⟩
theorem inv_step {k m one other mine theirs q : Int} (h1 : m ∣ k * mine - one) (h2 : m ∣ k * theirs - other) : m ∣ k * (mine - q * theirs) - (one - q * other) := by
  have e1 : k * (q * theirs) = k * theirs * q := by rw [Int.mul_comm q theirs, Int.mul_assoc]
  have e2 : q * other = other * q := Int.mul_comm _ _
  have e : k * (mine - q * theirs) - (one - q * other) = (k * mine - one) - (k * theirs - other) * q := by
    rw [Int.mul_sub, Int.sub_mul, e1, e2]
    omega
  rw [e]
  exact Int.dvd_sub h1 (Int.dvd_mul_of_dvd_left h2)
theorem sc_inverse : FnScope ["number", "wheel", "one", "other", "mine", "theirs", "times"] ["number", "wheel"] (defScope s_inverse) := ⟨rfl, rfl, rfl, by decide +kernel, rfl, by decide +kernel, by decide +kernel⟩
theorem ok_inverse (T : Txt K mg ec) (D : Fn K mg "inverse" s_inverse)  : Knows P w K mg base 1 "inverse" ["number", "wheel"] sp_inverse := by
  refine Knows.mk' D sc_inverse (fun _ _ _ _ _ _ us hl => match us, hl with | [_, _], _ => rfl) (fun vs H Q E h => ?_) (fun f cdv A outer s H vs Q E hr h => ?_)
  · obtain ⟨k, m, rfl, _⟩ := h; rfl
  · obtain ⟨k, m, rfl, hm, hm2, hk, hgcd, kk⟩ := h
    refine ⟨_, (pss_cons (ps_par (i := 2) (j := 3) (by rfl) sc_inverse.nd rfl rfl (by decide) rfl rfl (pa_cons (pe_op op_mod (pv 0) (pv 1)) (pa_cons (pv 1) pa_nil)) (by rfl))
    (pss_cons (ps_asg (pe_tup (pa_cons pe_int (pa_cons pe_int pa_nil))) (pg_tup (n := 2) rfl (pgs_cons (pg_name (i := 4) sc_inverse.nd rfl (Or.inl rfl)) (pgs_cons (pg_name (i := 5) sc_inverse.nd rfl (Or.inl rfl)) pgs_nil))))
    (pss_cons (ps_while passO (pt_cmpR op_gt (pv 3) pe_int (nomark _)) (pss_cons (ps_set (i := 6) sc_inverse.nd rfl (Or.inl rfl) (pe_op op_fdivW (pv 2) (pv 3)))
    (pss_cons (ps_par (i := 2) (j := 3) (by rfl) sc_inverse.nd rfl rfl (by decide) rfl rfl (pa_cons (pv 3) (pa_cons (pe_op op_sub (pv 2) (pe_op op_mul (pv 6) (pv 3))) pa_nil)) (by rfl))
    (pss_one (ps_par (i := 4) (j := 5) (by rfl) sc_inverse.nd rfl rfl (by decide) rfl rfl (pa_cons (pv 5) (pa_cons (pe_op op_sub (pv 4) (pe_op op_mul (pv 6) (pv 5))) pa_nil)) (by rfl))))))
    (pss_one (ps_ret (pe_op op_mod (pv 4) (pv 1))))))), ?_⟩
    refine g_start (σ := [some _, some _, none, none, none, none, none]) rfl ?_
    try dsimp only [cxOf]
    have hm0 : 0 < m := by omega
    walk_at "go"
    refine ⟨_, _, rfl, ?_⟩
    walk_at "wp"
    walk_at "go"
    intro tp htp
    refine g_tup2 (SqT.of upd_same) ?_
    walk_at "go"
    have hk0 : 0 ≤ k % m := Int.emod_nonneg _ (by omega)
    have hk1 : k % m < m := Int.emod_lt_of_pos _ hm0
    have e0 : Same H (upd H tp (.tup [.int 1, .int 0])) := Same.new htp
    generalize upd H tp (.tup [.int 1, .int 0]) = H0 at e0
    refine ⟨fun z σ H' => H' = H0 ∧ ∃ (a b : Nat) (c d : Int) (r : Option V), σ = [some (.int k), some (.int m), some (.int (a : Int)), some (.int (b : Int)), some (.int c), some (.int d), r] ∧ z = b ∧ (a : Int) ≤ m ∧ (b : Int) ≤ m ∧ Nat.gcd a b = 1 ∧ m ∣ k * c - a ∧ m ∣ k * d - b,
      ⟨m.toNat, rfl, (k % m).toNat, m.toNat, 1, 0, none, by rw [Int.toNat_of_nonneg hk0, Int.toNat_of_nonneg (by omega)], rfl, by omega, by omega, ?_, ?_, ?_⟩, ?_⟩
    · have e : Nat.gcd k.toNat m.toNat = 1 := by unfold gcdI at hgcd; omega
      rw [Int.toNat_emod (by omega) (by omega), ← Nat.gcd_rec, Nat.gcd_comm]
      exact e
    · rw [Int.toNat_of_nonneg hk0, Int.mul_one]
      exact Int.dvd_self_sub_emod
    · rw [Int.toNat_of_nonneg (by omega : 0 ≤ m), Int.mul_zero, Int.zero_sub]
      exact Int.dvd_neg.mpr (Int.dvd_refl _)
    rintro z σ H' ⟨rfl, a, b, c, d, r, rfl, rfl, ha, hb, hg, h1, h2⟩
    walk_at "go"
    refine ite_dec (fun h3 => ?_) (fun h3 => ?_)
    · refine ⟨fun σ' H1 => ∃ z', z' < z ∧ (H1 = H' ∧ ∃ (a b : Nat) (c d : Int) (r : Option V), σ' = [some (.int k), some (.int m), some (.int (a : Int)), some (.int (b : Int)), some (.int c), some (.int d), r] ∧ z' = b ∧ (a : Int) ≤ m ∧ (b : Int) ≤ m ∧ Nat.gcd a b = 1 ∧ m ∣ k * c - a ∧ m ∣ k * d - b), fun _ _ h => h, ?_⟩
      have hz : 0 < z := by omega
      have hq0 : 0 ≤ (a : Int) / (z : Int) := Int.ediv_nonneg (by omega) (by omega)
      have hq1 : (a : Int) / (z : Int) ≤ a := Int.ediv_le_self _ (by omega)
      walk_at "go"
      refine ⟨_, _, rfl, ?_⟩
      walk_at "wp"
      walk_at "go"
      refine ⟨_, _, rfl, ?_⟩
      walk_at "wp"
      have e : (a : Int) - (a : Int) / (z : Int) * (z : Int) = ((a % z : Nat) : Int) := by
        rw [Int.natCast_emod]
        have := Int.mul_ediv_add_emod (a : Int) (z : Int)
        rw [Int.mul_comm] at this
        omega
      have hlt : a % z < z := Nat.mod_lt _ hz
      refine ⟨a % z, hlt, by first | rfl | trivial, z, a % z, d, _, _, by rw [e], rfl, hb, by omega, ?_, h2, ?_⟩
      · rw [← hg, Nat.gcd_comm z, ← Nat.gcd_rec, Nat.gcd_comm]
      · rw [← e]
        exact inv_step h1 h2
    · walk_at "go"
      have hz : z = 0 := by omega
      subst hz
      rw [Nat.gcd_zero_right] at hg
      subst hg
      refine kk _ _ (Int.emod_nonneg _ (by omega)) (Int.emod_lt_of_pos _ hm0) ?_ e0
      have a1 : m ∣ k * c - 1 := h1
      have a2 : m ∣ c - c % m := Int.dvd_self_sub_emod
      have e : k * (c % m) - 1 = (k * c - 1) - k * (c - c % m) := by rw [Int.mul_sub]; omega
      rw [e]
      exact Int.dvd_sub a1 (Int.dvd_mul_of_dvd_right a2)
theorem sc_shown : FnScope ["wheel", "rule", "time"] ["wheel", "rule", "time"] (defScope s_shown) := ⟨rfl, rfl, rfl, by decide +kernel, rfl, by decide +kernel, by decide +kernel⟩
theorem ok_shown (T : Txt K mg ec) (D : Fn K mg "shown" s_shown) (c_need_rule : Knows P w K mg base 3 "need_rule" ["wheel", "rule"] (sp_need_rule ec)) (c_shown_of : Knows P w K mg base 1 "shown_of" ["wheel", "rule", "time"] sp_shown_of) : Knows P w K mg base 4 "shown" ["wheel", "rule", "time"] (sp_shown ec) := by
  refine Knows.mk' D sc_shown (fun _ _ _ _ _ _ us hl => match us, hl with | [_, _, _], _ => rfl) (fun vs H Q E h => ?_) (fun f cdv A outer s H vs Q E hr h => ?_)
  · obtain ⟨n, p, raw, t, rfl, _⟩ := h; rfl
  · obtain ⟨n, p, raw, t, rfl, hp, hs, k1, k2, k3⟩ := h
    refine ⟨_, (pss_cons (ps_expr (pe_callN c_need_rule (hr.mono (by first | decide | omega)) passD (pa_cons (pv 0) (pa_cons (pv 1) pa_nil))))
    (pss_one (ps_ret (pe_callN c_shown_of (hr.mono (by first | decide | omega)) passD (pa_cons (pv 0) (pa_cons (pv 1) (pa_cons (pv 2) pa_nil))))))), ?_⟩
    refine g_start (σ := [some _, some _, some _]) rfl ?_
    try dsimp only [cxOf]
    walk_at "go"
    refine ⟨n, p, raw, rfl, hp, hs, fun hw hr1 H' e => ?_, k2, k3⟩
    obtain ⟨r, rfl, hr2⟩ := rule_of hr1
    walk_at "go"
    refine ⟨n, p, r, t, rfl, by rw [← rawV_to]; exact e _ _ hp, hw, hr2, fun v H1 e1 hv => ?_⟩
    exact k1 r rfl hw hr2 v _ (e.trans e1) hv
theorem paired_fin {n o x y c : Int} (hn : 0 < n) (ho : 0 < o) (hc : c = gcdI n o) : 0 < c ∧ 0 < n / c ∧ 0 < o / c ∧ n / c ≤ n ∧ o / c ≤ o ∧ (1 < o / c → gcdI (n / c) (o / c) = 1) := by
  obtain ⟨cn, co⟩ := gcdI_dvd hn ho
  have hcp : 0 < c := by rw [hc]; exact gcdI_pos hn
  rw [← hc] at cn co
  have en : n = c * (n / c) := (Int.mul_ediv_cancel' cn).symm
  have eo : o = c * (o / c) := (Int.mul_ediv_cancel' co).symm
  have pn : 0 < n / c := Int.ediv_pos_of_pos_of_dvd hn (by omega) cn
  have po : 0 < o / c := Int.ediv_pos_of_pos_of_dvd ho (by omega) co
  refine ⟨hcp, pn, po, Int.ediv_le_self _ (by omega), Int.ediv_le_self _ (by omega), fun _ => ?_⟩
  unfold gcdI at hc ⊢
  have ed : ∀ z : Int, 0 < z → (z / c).toNat = z.toNat / c.toNat := fun z hz => by
    have e : z / c = ((z.toNat / c.toNat : Nat) : Int) := by rw [Int.natCast_ediv, Int.toNat_of_nonneg (by omega), Int.toNat_of_nonneg (by omega)]
    rw [e, Int.toNat_natCast]
  have e1 := ed n hn
  have e2 := ed o ho
  have e3 : c.toNat = Nat.gcd n.toNat o.toNat := by omega
  rw [e1, e2, e3, Nat.gcd_div (Nat.gcd_dvd_left _ _) (Nat.gcd_dvd_right _ _), Nat.div_self (by omega)]
  rfl
theorem sc_paired : FnScope ["wheel", "other", "rest", "more", "common", "far", "small", "times"] ["wheel", "other", "rest", "more"] (defScope s_paired) := ⟨rfl, rfl, rfl, by decide +kernel, rfl, by decide +kernel, by decide +kernel⟩
theorem ok_paired (T : Txt K mg ec) (D : Fn K mg "paired" s_paired) (c_divisor : Knows P w K mg base 1 "divisor" ["one", "other"] sp_divisor) (c_inverse : Knows P w K mg base 1 "inverse" ["number", "wheel"] sp_inverse) : Knows P w K mg base 2 "paired" ["wheel", "other", "rest", "more"] (sp_paired ec) := by
  refine Knows.mk' D sc_paired (fun _ _ _ _ _ _ us hl => match us, hl with | [_, _, _, _], _ => rfl) (fun vs H Q E h => ?_) (fun f cdv A outer s H vs Q E hr h => ?_)
  · obtain ⟨n, o, x, y, rfl, _⟩ := h; rfl
  · obtain ⟨n, o, x, y, rfl, hw, hwo, hx, hy, k1, k2⟩ := h
    refine ⟨_, (pss_cons (ps_set (i := 4) sc_paired.nd rfl (Or.inl rfl) (pe_callN c_divisor (hr.mono (by first | decide | omega)) passD (pa_cons (pv 0) (pa_cons (pv 1) pa_nil))))
    (pss_cons (ps_set (i := 5) sc_paired.nd rfl (Or.inl rfl) (pe_op op_sub (pv 3) (pv 2)))
    (pss_cons (ps_if (pt_cmpR op_ne (pe_op op_mod (pv 5) (pv 4)) pe_int (nomark _)) (pss_one (ps_raiseN T.x_NoGap)) pss_nil)
    (pss_cons (ps_set (i := 6) sc_paired.nd rfl (Or.inl rfl) (pe_op op_fdivW (pv 1) (pv 4)))
    (pss_cons (ps_set (i := 7) sc_paired.nd rfl (Or.inl rfl) (pe_ifExp (pt_cmpR op_gt (pv 6) pe_int (nomark _)) (pe_op op_mod (pe_op op_mul (pe_op op_fdivW (pv 5) (pv 4)) (pe_callN c_inverse (hr.mono (by first | decide | omega)) passD (pa_cons (pe_op op_fdivW (pv 0) (pv 4)) (pa_cons (pv 6) pa_nil)))) (pv 6)) pe_int))
    (pss_one (ps_ret (pe_op op_add (pv 2) (pe_op op_mul (pv 0) (pv 7)))))))))), ?_⟩
    refine g_start (σ := [some _, some _, some _, some _, none, none, none, none]) rfl ?_
    try dsimp only [cxOf]
    have hn : 0 < n := by have := hw.1; omega
    have ho : 0 < o := by have := hwo.1; omega
    have hn2 := hw.2
    have ho2 := hwo.2
    walk_at "go"
    refine ⟨n, o, rfl, hn, ho, ?_⟩
    obtain ⟨c, hc⟩ : ∃ c, c = gcdI n o := ⟨_, rfl⟩
    rw [← hc]
    obtain ⟨hcp, pn, po, ln, lo, hgc⟩ := paired_fin (x := x) (y := y) hn ho hc
    have lc : c ≤ n := by
      have := (gcdI_dvd hn ho).1
      rw [← hc] at this
      exact Int.le_of_dvd hn this
    walk_at "go"
    refine ite_ndec (fun h1 => ?_) (fun h1 => ?_)
    · refine k2 fun z => h1 ?_
      rw [← hc] at z
      rw [Int.emod_eq_zero_of_dvd z]
    · have hd : c ∣ y - x := Int.dvd_of_emod_eq_zero (V.int.inj h1)
      walk_at "go"
      refine ite_dec (fun h2 => ?_) (fun h2 => ?_)
      · walk_at "go"
        refine ⟨n / c, o / c, rfl, h2, by omega, pn, hgc h2, fun v H1 hv0 hv1 hv e1 => ?_⟩
        walk_at "go"
        obtain ⟨q1, q2, q3, q4⟩ := pair_core hn ho hx.1 hx.2 hc hd h2 hv _ rfl
        exact k1 _ _ q1 q2 q3 q4 e1
      · walk_at "go"
        rw [hc] at hd h2
        obtain ⟨q1, q2, q3, q4⟩ := pair_one hn ho hx.1 hx.2 hd (by omega)
        have e : x + n * 0 = x := by omega
        rw [e]
        exact k1 _ _ q1 q2 q3 q4 (Same.refl _)
theorem sc_gap_of : FnScope ["wheel", "rule", "one", "other", "about", "low", "found"] ["wheel", "rule", "one", "other", "about"] (defScope s_gap_of) := ⟨rfl, rfl, rfl, by decide +kernel, rfl, by decide +kernel, by decide +kernel⟩
theorem ok_gap_of (T : Txt K mg ec) (D : Fn K mg "gap_of" s_gap_of) (c_paired : Knows P w K mg base 2 "paired" ["wheel", "other", "rest", "more"] (sp_paired ec)) : Knows P w K mg base 3 "gap_of" ["wheel", "rule", "one", "other", "about"] (sp_gap_of ec) := by
  refine Knows.mk' D sc_gap_of (fun _ _ _ _ _ _ us hl => match us, hl with | [_, _, _, _, _], _ => rfl) (fun vs H Q E h => ?_) (fun f cdv A outer s H vs Q E hr h => ?_)
  · obtain ⟨n, p, r, v1, v2, v3, x, y, a, rfl, _⟩ := h; rfl
  · obtain ⟨n, p, r, v1, v2, v3, x, y, a, rfl, hp, hw, hr0, hv1, hv2, hv3, k1, k2⟩ := h
    refine ⟨_, (pss_cons (ps_if (pt_cmpR op_eq (pe_ix ix_tup (pv 1) pe_int (fun _ _ => rfl)) pe_str (nomark _)) (pss_one (ps_ret (pe_callN c_paired (hr.mono (by first | decide | omega)) passD (pa_cons (pv 0) (pa_cons (pe_ix ix_tup (pv 1) pe_int (fun _ _ => rfl)) (pa_cons (pe_op op_mod (pe_op op_sub (pe_ix ix_tup (pv 3) pe_int (fun _ _ => rfl)) (pe_ix ix_tup (pv 2) pe_int (fun _ _ => rfl))) (pv 0)) (pa_cons (pe_op op_mod (pe_op op_sub (pe_ix ix_tup (pv 3) pe_int (fun _ _ => rfl)) (pe_ix ix_tup (pv 2) pe_int (fun _ _ => rfl))) (pe_ix ix_tup (pv 1) pe_int (fun _ _ => rfl))) pa_nil))))))) pss_nil)
    (pss_cons (ps_if (pt_cmpR op_eq (pe_ix ix_tup (pv 1) pe_int (fun _ _ => rfl)) pe_str (nomark _)) (pss_one (ps_ret (pe_op op_add (pe_ix ix_tup (pv 1) pe_int (fun _ _ => rfl)) (pe_op op_mod (pe_op op_sub (pe_op op_sub (pv 3) (pv 2)) (pe_ix ix_tup (pv 1) pe_int (fun _ _ => rfl))) (pv 0))))) pss_nil)
    (pss_cons (ps_if (pt_cmpR op_eq (pe_ix ix_tup (pv 1) pe_int (fun _ _ => rfl)) pe_str (nomark _)) (pss_cons (ps_set (i := 5) sc_gap_of.nd rfl (Or.inl rfl) (pe_op op_sub pe_int (pe_op op_fdivW (pe_op op_sub (pv 0) pe_int) pe_int)))
    (pss_one (ps_ret (pe_op op_add (pv 5) (pe_op op_mod (pe_op op_sub (pe_op op_sub (pv 3) (pv 2)) (pv 5)) (pv 0)))))) pss_nil)
    (pss_cons (ps_set (i := 5) sc_gap_of.nd rfl (Or.inl rfl) (pe_op op_sub (pv 4) (pe_ix ix_tup (pv 1) pe_int (fun _ _ => rfl))))
    (pss_cons (ps_set (i := 6) sc_gap_of.nd rfl (Or.inl rfl) (pe_op op_add (pv 5) (pe_op op_mod (pe_op op_sub (pe_op op_sub (pv 3) (pv 2)) (pv 5)) (pv 0))))
    (pss_cons (ps_if (pt_cmpR op_gt (pv 6) (pe_op op_add (pv 4) (pe_ix ix_tup (pv 1) pe_int (fun _ _ => rfl))) (nomark _)) (pss_one (ps_raiseN T.x_NoGap)) pss_nil)
    (pss_one (ps_ret (pv 6))))))))), ?_⟩
    refine g_start (σ := [some _, some _, some _, some _, some _, none, none]) rfl ?_
    try dsimp only [cxOf]
    have hn : 0 < n := by have := hw.1; omega
    have hn2 := hw.2
    walk_at "go"
    cases r with
    | pair o =>
      have ho : 0 < o := by have := hr0.1; omega
      obtain ⟨q1, rfl, hq1⟩ := hv1
      obtain ⟨q2, rfl, hq2⟩ := hv2
      refine g_ixT (SqT.of hp) (v := .str "pair") rfl ?_
      walk_at "go"
      refine g_ixT (SqT.of hp) (v := .int o) rfl ?_
      walk_at "go"
      refine g_ixT (SqT.of hq2) (v := .int y.1) rfl ?_
      walk_at "go"
      refine g_ixT (SqT.of hq1) (v := .int x.1) rfl ?_
      walk_at "go"
      refine g_ixT (SqT.of hq2) (v := .int y.2) rfl ?_
      walk_at "go"
      refine g_ixT (SqT.of hq1) (v := .int x.2) rfl ?_
      walk_at "go"
      refine g_ixT (SqT.of hp) (v := .int o) rfl ?_
      walk_at "go"
      have m1 : n ∣ (y.1 - x.1) - (y.1 - x.1) % n := Int.dvd_self_sub_emod
      have m2 : o ∣ (y.2 - x.2) - (y.2 - x.2) % o := Int.dvd_self_sub_emod
      refine ⟨n, o, _, _, rfl, hw, hr0, ⟨Int.emod_nonneg _ (by omega), Int.emod_lt_of_pos _ hn⟩, ⟨Int.emod_nonneg _ (by omega), Int.emod_lt_of_pos _ ho⟩, fun g H1 g0 g1 g2 g3 e1 => k1 g H1 ⟨?_, ?_, ?_, ?_⟩ e1, fun hd => k2 fun hg => hd ?_⟩
      · show 0 + 0 ≤ g; omega
      · show g ≤ lcmI n o - 1 + 0; omega
      · have := Int.dvd_sub g2 m1
        rw [show g - (y.1 - x.1) % n - (y.1 - x.1 - (y.1 - x.1) % n) = g - (y.1 - x.1) by omega] at this
        exact this
      · have := Int.dvd_sub g3 m2
        rw [show g - (y.2 - x.2) % o - (y.2 - x.2 - (y.2 - x.2) % o) = g - (y.2 - x.2) by omega] at this
        exact this
      · obtain ⟨cn, co⟩ := gcdI_dvd hn ho
        have b1 := Int.dvd_trans cn m1
        have b2 := Int.dvd_trans co m2
        have b3 := Int.dvd_sub hg (Int.dvd_sub b2 b1)
        rw [show y.2 - x.2 - (y.1 - x.1) - (y.2 - x.2 - (y.2 - x.2) % o - (y.1 - x.1 - (y.1 - x.1) % n)) = (y.2 - x.2) % o - (y.1 - x.1) % n by omega] at b3
        exact b3
    | up l =>
      have hv1 : v1 = .int x.1 := hv1
      have hv2 : v2 = .int y.1 := hv2
      subst hv1 hv2
      refine g_ixT (SqT.of hp) (v := .str "up") rfl ?_
      walk_at "go"
      refine g_ixT (SqT.of hp) (v := .str "up") rfl ?_
      walk_at "go"
      refine g_ixT (SqT.of hp) (v := .int l) rfl ?_
      walk_at "go"
      refine g_ixT (SqT.of hp) (v := .int l) rfl ?_
      walk_at "go"
      obtain ⟨c1, c2, c3⟩ := rest_from (lo := l) (e := y.1 - x.1) hn
      exact k1 _ _ ⟨by show l + 0 ≤ _; omega, by show _ ≤ l + n - 1 + 0; omega, c3, trivial⟩ (Same.refl _)
    | near =>
      have hv1 : v1 = .int x.1 := hv1
      have hv2 : v2 = .int y.1 := hv2
      subst hv1 hv2
      refine g_ixT (SqT.of hp) (v := .str "near") rfl ?_
      walk_at "go"
      refine g_ixT (SqT.of hp) (v := .str "near") rfl ?_
      walk_at "go"
      refine g_ixT (SqT.of hp) (v := .str "near") rfl ?_
      walk_at "go"
      obtain ⟨c1, c2, c3⟩ := rest_from (lo := 0 - (n - 1) / 2) (e := y.1 - x.1) hn
      exact k1 _ _ ⟨by show 0 - (n - 1) / 2 + 0 ≤ _; omega, by show _ ≤ n / 2 + 0; omega, c3, trivial⟩ (Same.refl _)
    | about f =>
      have hv1 : v1 = .int x.1 := hv1
      have hv2 : v2 = .int y.1 := hv2
      have hv3 : v3 = .int a := hv3
      subst hv1 hv2 hv3
      have hr1 : 2 * f < n := hr0.2
      have hr2 : 0 ≤ 2 * f := hr0.1
      refine g_ixT (SqT.of hp) (v := .str "about") rfl ?_
      walk_at "go"
      refine g_ixT (SqT.of hp) (v := .str "about") rfl ?_
      walk_at "go"
      refine g_ixT (SqT.of hp) (v := .str "about") rfl ?_
      walk_at "go"
      refine g_ixT (SqT.of hp) (v := .int f) rfl ?_
      walk_at "go"
      refine g_ixT (SqT.of hp) (v := .int f) rfl ?_
      walk_at "go"
      obtain ⟨c1, c2, c3⟩ := rest_from (lo := a - f) (e := y.1 - x.1) hn
      refine ite_dec (fun h1 => ?_) (fun h1 => ?_)
      · refine k2 ?_
        show 2 * f < (y.1 - x.1 - (a - f)) % n
        omega
      · walk_at "go"
        exact k1 _ _ ⟨by show 0 - f + a ≤ _; omega, by show _ ≤ f + a; omega, c3, trivial⟩ (Same.refl _)
theorem sc_gap : FnScope ["wheel", "rule", "one", "other", "about"] ["wheel", "rule", "one", "other", "about"] (defScope s_gap) := ⟨rfl, rfl, rfl, by decide +kernel, rfl, by decide +kernel, by decide +kernel⟩
theorem ok_gap (T : Txt K mg ec) (D : Fn K mg "gap" s_gap) (c_need_rule : Knows P w K mg base 3 "need_rule" ["wheel", "rule"] (sp_need_rule ec)) (c_need_shown : Knows P w K mg base 2 "need_shown" ["wheel", "rule", "seen"] (sp_need_shown ec)) (c_gap_of : Knows P w K mg base 3 "gap_of" ["wheel", "rule", "one", "other", "about"] (sp_gap_of ec)) : Knows P w K mg base 4 "gap" ["wheel", "rule", "one", "other", "about"] (sp_gap ec) := by
  refine Knows.mk' D sc_gap (fun _ _ _ _ _ _ us hl => match us, hl with | [_, _, _, _, _], _ => rfl) (fun vs H Q E h => ?_) (fun f cdv A outer s H vs Q E hr h => ?_)
  · obtain ⟨n, p, w, v1, v2, v3, rfl, _⟩ := h; rfl
  · obtain ⟨n, p, raw, v1, v2, v3, rfl, hp, hs, k1, k2, k3⟩ := h
    refine ⟨_, (pss_cons (ps_expr (pe_callN c_need_rule (hr.mono (by first | decide | omega)) passD (pa_cons (pv 0) (pa_cons (pv 1) pa_nil))))
    (pss_cons (ps_expr (pe_callN c_need_shown (hr.mono (by first | decide | omega)) passD (pa_cons (pv 0) (pa_cons (pv 1) (pa_cons (pv 2) pa_nil)))))
    (pss_cons (ps_expr (pe_callN c_need_shown (hr.mono (by first | decide | omega)) passD (pa_cons (pv 0) (pa_cons (pv 1) (pa_cons (pv 3) pa_nil)))))
    (pss_one (ps_ret (pe_callN c_gap_of (hr.mono (by first | decide | omega)) passD (pa_cons (pv 0) (pa_cons (pv 1) (pa_cons (pv 2) (pa_cons (pv 3) (pa_cons (pv 4) pa_nil))))))))))), ?_⟩
    refine g_start (σ := [some _, some _, some _, some _, some _]) rfl ?_
    try dsimp only [cxOf]
    walk_at "go"
    refine ⟨n, p, raw, rfl, hp, hs, fun hw hr1 H1 e1 => ?_, k1, k2⟩
    obtain ⟨r, rfl, hr2⟩ := rule_of hr1
    obtain ⟨x, y, a, hx, hy, ha, q1, q2, q3⟩ := k3 r rfl hw hr2
    have hp1 := e1 _ _ hp
    rw [rawV_to] at hp1
    walk_at "go"
    refine ⟨n, p, r, v1, x, rfl, hp1, hx.same e1, fun hx2 => ?_, fun hx2 => q3 (fun z => hx2 z.1) _ e1⟩
    walk_at "go"
    refine ⟨n, p, r, v2, y, rfl, hp1, hy.same e1, fun hy2 => ?_, fun hy2 => q3 (fun z => hy2 z.2) _ e1⟩
    walk_at "go"
    exact ⟨n, p, r, v1, v2, v3, x, y, a, rfl, hp1, hw, hr2, hx.same e1, hy.same e1, ha, fun g H2 hg e2 => q1 hx2 hy2 g H2 hg (e1.trans e2), fun hno => q2 hx2 hy2 hno _ e1⟩
theorem sc_multiple : FnScope ["one", "other"] ["one", "other"] (defScope s_multiple) := ⟨rfl, rfl, rfl, by decide +kernel, rfl, by decide +kernel, by decide +kernel⟩
theorem ok_multiple (T : Txt K mg ec) (D : Fn K mg "multiple" s_multiple) (c_divisor : Knows P w K mg base 1 "divisor" ["one", "other"] sp_divisor) : Knows P w K mg base 2 "multiple" ["one", "other"] sp_multiple := by
  refine Knows.mk' D sc_multiple (fun _ _ _ _ _ _ us hl => match us, hl with | [_, _], _ => rfl) (fun vs H Q E h => ?_) (fun f cdv A outer s H vs Q E hr h => ?_)
  · obtain ⟨n, o, rfl, _⟩ := h; rfl
  · obtain ⟨n, o, rfl, hw, hwo, k⟩ := h
    refine ⟨_, (pss_one (ps_ret (pe_op op_mul (pe_op op_fdivW (pv 0) (pe_callN c_divisor (hr.mono (by first | decide | omega)) passD (pa_cons (pv 0) (pa_cons (pv 1) pa_nil)))) (pv 1)))), ?_⟩
    refine g_start (σ := [some _, some _]) rfl ?_
    try dsimp only [cxOf]
    have hn : 0 < n := by have := hw.1; omega
    have ho : 0 < o := by have := hwo.1; omega
    have hn2 := hw.2
    have hg0 : 0 < gcdI n o := gcdI_pos hn
    have hg1 : gcdI n o ≤ n := Int.le_of_dvd hn (gcdI_dvd hn ho).1
    have hd0 : 0 ≤ n / gcdI n o := Int.ediv_nonneg (by omega) (by omega)
    have hd1 : n / gcdI n o ≤ n := Int.ediv_le_self _ (by omega)
    walk_at "go"
    refine ⟨n, o, rfl, hn, ho, ?_⟩
    walk_at "go"
    rw [← (lcmI_eq hn ho).2.1]
    exact k
theorem sc_bound_of : FnScope ["wheel", "rule"] ["wheel", "rule"] (defScope s_bound_of) := ⟨rfl, rfl, rfl, by decide +kernel, rfl, by decide +kernel, by decide +kernel⟩
theorem ok_bound_of (T : Txt K mg ec) (D : Fn K mg "bound_of" s_bound_of) (c_multiple : Knows P w K mg base 2 "multiple" ["one", "other"] sp_multiple) : Knows P w K mg base 3 "bound_of" ["wheel", "rule"] sp_bound_of := by
  refine Knows.mk' D sc_bound_of (fun _ _ _ _ _ _ us hl => match us, hl with | [_, _], _ => rfl) (fun vs H Q E h => ?_) (fun f cdv A outer s H vs Q E hr h => ?_)
  · obtain ⟨n, q, r, rfl, _⟩ := h; rfl
  · obtain ⟨n, q, r, rfl, hq, hw, hr0, k⟩ := h
    refine ⟨_, (pss_cons (ps_if (pt_cmpR op_eq (pe_ix ix_tup (pv 1) pe_int (fun _ _ => rfl)) pe_str (nomark _)) (pss_one (ps_ret (pe_tup (pa_cons (pe_ix ix_tup (pv 1) pe_int (fun _ _ => rfl)) (pa_cons (pe_op op_sub (pe_op op_add (pe_ix ix_tup (pv 1) pe_int (fun _ _ => rfl)) (pv 0)) pe_int) pa_nil))))) pss_nil)
    (pss_cons (ps_if (pt_cmpR op_eq (pe_ix ix_tup (pv 1) pe_int (fun _ _ => rfl)) pe_str (nomark _)) (pss_one (ps_ret (pe_tup (pa_cons (pe_op op_sub pe_int (pe_op op_fdivW (pe_op op_sub (pv 0) pe_int) pe_int)) (pa_cons (pe_op op_fdivW (pv 0) pe_int) pa_nil))))) pss_nil)
    (pss_cons (ps_if (pt_cmpR op_eq (pe_ix ix_tup (pv 1) pe_int (fun _ _ => rfl)) pe_str (nomark _)) (pss_one (ps_ret (pe_tup (pa_cons pe_int (pa_cons (pe_op op_sub (pe_callN c_multiple (hr.mono (by first | decide | omega)) passD (pa_cons (pv 0) (pa_cons (pe_ix ix_tup (pv 1) pe_int (fun _ _ => rfl)) pa_nil))) pe_int) pa_nil))))) pss_nil)
    (pss_one (ps_ret (pe_tup (pa_cons (pe_op op_sub pe_int (pe_ix ix_tup (pv 1) pe_int (fun _ _ => rfl))) (pa_cons (pe_ix ix_tup (pv 1) pe_int (fun _ _ => rfl)) pa_nil)))))))), ?_⟩
    refine g_start (σ := [some _, some _]) rfl ?_
    try dsimp only [cxOf]
    walk_at "go"
    cases r with
    | up l =>
      refine g_ixT (SqT.of hq) (v := .str "up") rfl ?_
      walk_at "go"
      refine g_ixT (SqT.of hq) (v := .int l) rfl ?_
      walk_at "go"
      refine g_ixT (SqT.of hq) (v := .int l) rfl ?_
      walk_at "go"
      intro p hp
      exact k p _ (Same.new hp) upd_same
    | near =>
      refine g_ixT (SqT.of hq) (v := .str "near") rfl ?_
      walk_at "go"
      refine g_ixT (SqT.of hq) (v := .str "near") rfl ?_
      walk_at "go"
      intro p hp
      exact k p _ (Same.new hp) upd_same
    | pair o =>
      refine g_ixT (SqT.of hq) (v := .str "pair") rfl ?_
      walk_at "go"
      refine g_ixT (SqT.of hq) (v := .str "pair") rfl ?_
      walk_at "go"
      refine g_ixT (SqT.of hq) (v := .str "pair") rfl ?_
      walk_at "go"
      refine g_ixT (SqT.of hq) (v := .int o) rfl ?_
      walk_at "go"
      refine ⟨n, o, rfl, hw, hr0, ?_⟩
      walk_at "go"
      intro p hp
      exact k p _ (Same.new hp) upd_same
    | about f =>
      refine g_ixT (SqT.of hq) (v := .str "about") rfl ?_
      walk_at "go"
      refine g_ixT (SqT.of hq) (v := .str "about") rfl ?_
      walk_at "go"
      refine g_ixT (SqT.of hq) (v := .str "about") rfl ?_
      walk_at "go"
      refine g_ixT (SqT.of hq) (v := .int f) rfl ?_
      walk_at "go"
      refine g_ixT (SqT.of hq) (v := .int f) rfl ?_
      walk_at "go"
      intro p hp
      exact k p _ (Same.new hp) upd_same
theorem sc_bound : FnScope ["wheel", "rule"] ["wheel", "rule"] (defScope s_bound) := ⟨rfl, rfl, rfl, by decide +kernel, rfl, by decide +kernel, by decide +kernel⟩
theorem ok_bound (T : Txt K mg ec) (D : Fn K mg "bound" s_bound) (c_need_rule : Knows P w K mg base 3 "need_rule" ["wheel", "rule"] (sp_need_rule ec)) (c_bound_of : Knows P w K mg base 3 "bound_of" ["wheel", "rule"] sp_bound_of) : Knows P w K mg base 4 "bound" ["wheel", "rule"] (sp_bound ec) := by
  refine Knows.mk' D sc_bound (fun _ _ _ _ _ _ us hl => match us, hl with | [_, _], _ => rfl) (fun vs H Q E h => ?_) (fun f cdv A outer s H vs Q E hr h => ?_)
  · obtain ⟨n, q, w, rfl, _⟩ := h; rfl
  · obtain ⟨n, q, w, rfl, hq, hs, k1, k2, k3⟩ := h
    refine ⟨_, (pss_cons (ps_expr (pe_callN c_need_rule (hr.mono (by first | decide | omega)) passD (pa_cons (pv 0) (pa_cons (pv 1) pa_nil))))
    (pss_one (ps_ret (pe_callN c_bound_of (hr.mono (by first | decide | omega)) passD (pa_cons (pv 0) (pa_cons (pv 1) pa_nil)))))), ?_⟩
    refine g_start (σ := [some _, some _]) rfl ?_
    try dsimp only [cxOf]
    walk_at "go"
    refine ⟨n, q, w, rfl, hq, hs, fun hw hr1 H1 e1 => ?_, k2, k3⟩
    obtain ⟨r, rfl, hr2⟩ := rule_of hr1
    walk_at "go"
    exact ⟨n, q, r, rfl, by rw [← rawV_to]; exact e1 _ _ hq, hw, hr2, fun p H2 e2 hp => k1 r rfl hw hr2 p H2 (e1.trans e2) hp⟩
theorem sc_judged : FnScope ["wheel", "rule", "least", "most", "low", "high"] ["wheel", "rule", "least", "most"] (defScope s_judged) := ⟨rfl, rfl, rfl, by decide +kernel, rfl, by decide +kernel, by decide +kernel⟩
theorem ok_judged (T : Txt K mg ec) (D : Fn K mg "judged" s_judged) (c_need_rule : Knows P w K mg base 3 "need_rule" ["wheel", "rule"] (sp_need_rule ec)) (c_bound_of : Knows P w K mg base 3 "bound_of" ["wheel", "rule"] sp_bound_of) : Knows P w K mg base 4 "judged" ["wheel", "rule", "least", "most"] (sp_judged ec) := by
  refine Knows.mk' D sc_judged (fun _ _ _ _ _ _ us hl => match us, hl with | [_, _, _, _], _ => rfl) (fun vs H Q E h => ?_) (fun f cdv A outer s H vs Q E hr h => ?_)
  · obtain ⟨n, q, w, l, m, rfl, _⟩ := h; rfl
  · obtain ⟨n, q, w, l, m, rfl, hq, hs, k1, k2, k3, k4⟩ := h
    refine ⟨_, (pss_cons (ps_expr (pe_callN c_need_rule (hr.mono (by first | decide | omega)) passD (pa_cons (pv 0) (pa_cons (pv 1) pa_nil))))
    (pss_cons (ps_if (pt_cmpR op_gt (pv 2) (pv 3) (nomark _)) (pss_one (ps_raiseN T.x_BadGaps)) pss_nil)
    (pss_cons (ps_asg (pe_callN c_bound_of (hr.mono (by first | decide | omega)) passD (pa_cons (pv 0) (pa_cons (pv 1) pa_nil))) (pg_tup (n := 2) rfl (pgs_cons (pg_name (i := 4) sc_judged.nd rfl (Or.inl rfl)) (pgs_cons (pg_name (i := 5) sc_judged.nd rfl (Or.inl rfl)) pgs_nil))))
    (pss_cons (ps_if (PW.pt (pw_and (pt_cmpR op_le (pv 4) (pv 2) (nomark _)) (pw_and1 (pt_cmpR op_le (pv 3) (pv 5) (nomark _))))) (pss_one (ps_ret (pe_tup (pa_cons pe_str pa_nil)))) pss_nil)
    (pss_one (ps_ret (pe_tup (pa_cons pe_str (pa_cons (pe_ifExp (PW.pt (pw_or (pt_cmpR op_lt (pv 2) (pv 4) (nomark _)) (pw_or1 (pt_cmpR op_gt (pv 2) (pv 5) (nomark _))))) (pv 2) (pe_op op_add (pv 5) pe_int)) pa_nil))))))))), ?_⟩
    refine g_start (σ := [some _, some _, some _, some _, none, none]) rfl ?_
    try dsimp only [cxOf]
    walk_at "go"
    refine ⟨n, q, w, rfl, hq, hs, fun hw hr1 H1 e1 => ?_, k2, k3⟩
    obtain ⟨r, rfl, hr2⟩ := rule_of hr1
    walk_at "go"
    refine ite_dec (fun h1 => ?_) (fun h1 => ?_)
    · exact k4 hw (rawOk_to.mpr hr2) (by omega) _ e1
    · walk_at "go"
      refine ⟨n, q, r, rfl, by rw [← rawV_to]; exact e1 _ _ hq, hw, hr2, fun p H2 e2 hp => ?_⟩
      have k5 : ∀ p H', Same H2 H' → H' p = some (.tup (judgeV n r l m)) → Q (.ref p) H' := fun p H' e h => k1 r rfl hw hr2 (by omega) p H' ((e1.trans e2).trans e) h
      walk_at "go"
      refine g_tup2 (SqT.of hp) ?_
      walk_at "go"
      have wr : ¬ (loR n r ≤ l ∧ m ≤ hiR n r) → ∀ v, v = judgeW n r l → ∀ p, H2 p = none → Q (.ref p) (upd H2 p (.tup [V.str "wrong", V.int v])) := fun hb v e p hp => by
        refine k5 _ _ (Same.new hp) ?_
        rw [upd_same, e]
        unfold judgeV
        rw [if_neg hb]
      refine ite_dec (fun h2 => ?_) (fun h2 => ?_)
      · walk_at "go"
        refine ite_dec (fun h3 => ?_) (fun h3 => ?_)
        · walk_at "go"
          intro p hp
          refine k5 _ _ (Same.new hp) ?_
          rw [upd_same]
          unfold judgeV
          rw [if_pos ⟨h2, h3⟩]
        · walk_at "go"
          refine ite_dec (fun h4 => ?_) (fun h4 => ?_)
          · walk_at "go"
            exact fun p hp => wr (fun z => h3 z.2) l (by unfold judgeW; rw [if_pos (.inl h4)]) p hp
          · walk_at "go"
            refine ite_dec (fun h5 => ?_) (fun h5 => ?_)
            · walk_at "go"
              exact fun p hp => wr (fun z => h3 z.2) l (by unfold judgeW; rw [if_pos (.inr h5)]) p hp
            · walk_at "go"
              exact fun p hp => wr (fun z => h3 z.2) _ (by unfold judgeW; rw [if_neg (by rintro (z | z) <;> contradiction)]) p hp
      · walk_at "go"
        refine ite_dec (fun h4 => ?_) (fun h4 => ?_)
        · walk_at "go"
          exact fun p hp => wr (fun z => h2 z.1) l (by unfold judgeW; rw [if_pos (.inl h4)]) p hp
        · walk_at "go"
          refine ite_dec (fun h5 => ?_) (fun h5 => ?_)
          · walk_at "go"
            exact fun p hp => wr (fun z => h2 z.1) l (by unfold judgeW; rw [if_pos (.inr h5)]) p hp
          · walk_at "go"
            exact fun p hp => wr (fun z => h2 z.1) _ (by unfold judgeW; rw [if_neg (by rintro (z | z) <;> contradiction)]) p hp
theorem sc__law_start : FnScope ["_law_script", "_law_mixed", "_law_cell"] ["_law_script"] (defScope s__law_start) := ⟨rfl, rfl, rfl, by decide +kernel, rfl, by decide +kernel, by decide +kernel⟩
theorem ok_start (T : Txt K mg ec) (D : Fn K mg "_law_start" s__law_start) : Knows P w K mg base 1 "_law_start" ["_law_script"] (sp_start K) := by
  refine Knows.mk' D sc__law_start (fun _ _ _ _ _ _ us hl => match us, hl with | [_], _ => rfl) (fun vs H Q E h => ?_) (fun f cdv A outer s H vs Q E hr h => ?_)
  · obtain ⟨s, ns, rfl, _⟩ := h; rfl
  · obtain ⟨s, ns, rfl, hS, hl, k⟩ := h
    refine ⟨_, (pss_cons (ps_set (i := 1) sc__law_start.nd rfl (Or.inl rfl) pe_int)
    (pss_cons (ps_for passO rfl (pi_list (pv 0)) (pg_name (i := 2) sc__law_start.nd rfl (Or.inl rfl)) (pss_one (ps_set (i := 1) sc__law_start.nd rfl (Or.inl rfl) (pe_op op_mod (pe_op op_add (pe_op op_add (pe_op op_mul (pv 1) pe_int) (pv 2)) pe_int) pe_int))))
    (pss_one (ps_ret (pe_lst (pa_cons (pv 0) (pa_cons pe_int (pa_cons (pv 1) (pa_cons pe_int pa_nil))))))))), ?_⟩
    refine g_start (σ := [some _, none, none]) rfl ?_
    try dsimp only [cxOf]
    walk_at "go"
    refine ⟨⟨_, hS⟩, for_L (K := K) (a := s) (xs := ns.map V.int) (fun i σ H' => H' = H ∧ ∃ (m : Int) (c : Option V), σ = [some (.ref s), some (.int m), c]) ⟨rfl, 1, none, rfl⟩ (fun i σ H' _ h => h.1 ▸ hS) ?_ ?_⟩
    · rintro i y σ H' hi ⟨rfl, m, c, rfl⟩
      obtain ⟨z, hz, _⟩ := int_at hi
      subst hz
      walk_at "go"
      exact ⟨rfl, _, _, rfl⟩
    · rintro σ H' ⟨rfl, m, c, rfl⟩
      walk_at "go"
      intro p hp
      exact k p _ hp (Same.new hp) ⟨ns, 0, m, 0, upd_same, fun o => by rw [upd_upd]; exact (Same.new hp).seq hS, hl, Int.le_refl 0⟩
theorem sc__law_drawn : FnScope ["_law_state", "_law_many", "_law_found", "_law_cell"] ["_law_state", "_law_many"] (defScope s__law_drawn) := ⟨rfl, rfl, rfl, by decide +kernel, rfl, by decide +kernel, by decide +kernel⟩
theorem ok_drawn (T : Txt K mg ec) (D : Fn K mg "_law_drawn" s__law_drawn) : Knows P w K mg base 1 "_law_drawn" ["_law_state", "_law_many"] (sp_drawn K) := by
  refine Knows.mk' D sc__law_drawn (fun _ _ _ _ _ _ us hl => match us, hl with | [_, _], _ => rfl) (fun vs H Q E h => ?_) (fun f cdv A outer s H vs Q E hr h => ?_)
  · obtain ⟨a, sc, n, rfl, _⟩ := h; rfl
  · obtain ⟨a, sc, n, rfl, hD, ⟨hn0, hn1⟩, k⟩ := h
    refine ⟨_, (pss_cons (ps_if (pt_cmpR op_gt (pe_ix ix_list (pv 0) pe_int (fun _ _ => rfl)) pe_int (nomark _)) (pss_cons (ps_set (i := 2) sc__law_drawn.nd rfl (Or.inl rfl) (pe_op op_mod (pe_ix ix_list (pv 0) pe_int (fun _ _ => rfl)) (pv 1)))
    (pss_cons (ps_asg (pe_op op_fdivW (pe_ix ix_list (pv 0) pe_int (fun _ _ => rfl)) (pv 1)) (pg_sub (pv 0) pe_int set_list))
    (pss_one (ps_ret (pv 2))))) pss_nil)
    (pss_cons (ps_asg (pe_op op_add (pe_ix ix_list (pv 0) pe_int (fun _ _ => rfl)) pe_int) (pg_sub (pv 0) pe_int set_list))
    (pss_cons (ps_if (pt_cmpR op_le (pe_ix ix_list (pv 0) pe_int (fun _ _ => rfl)) (pe_callB call_lenN (by rfl) T.len PySem.boot_len (pa_cons (pe_ix ix_list (pv 0) pe_int (fun _ _ => rfl)) pa_nil)) (nomark _)) (pss_cons (ps_set (i := 3) sc__law_drawn.nd rfl (Or.inl rfl) (pe_ix ix_list (pe_ix ix_list (pv 0) pe_int (fun _ _ => rfl)) (pe_op op_sub (pe_ix ix_list (pv 0) pe_int (fun _ _ => rfl)) pe_int) (fun _ _ => rfl)))
    (pss_cons (ps_asg (pe_ifExp (pt_cmpR op_ge (pv 3) (pe_powc (v := 1000000000000000000) ⟨by decide, by decide, by decide⟩ (by decide)) (nomark _)) (pe_op op_fdivW (pv 3) (pv 1)) pe_int) (pg_sub (pv 0) pe_int set_list))
    (pss_one (ps_ret (pe_op op_mod (pv 3) (pv 1)))))) pss_nil)
    (pss_cons (ps_asg (pe_op op_mod (pe_op op_add (pe_op op_mul (pe_ix ix_list (pv 0) pe_int (fun _ _ => rfl)) pe_int) pe_int) pe_int) (pg_sub (pv 0) pe_int set_list))
    (pss_one (ps_ret (pe_op op_mod (pe_op op_fdivW (pe_ix ix_list (pv 0) pe_int (fun _ _ => rfl)) pe_int) (pv 1)))))))), ?_⟩
    refine g_start (σ := [some _, some _, none, none]) rfl ?_
    try dsimp only [cxOf]
    obtain ⟨ns, i, m, l, ha, hS, hl, hi⟩ := hD.ex
    have fin : ∀ i' m' l' : Int, 0 ≤ i' → Go K a sc H (upd H a (.lst [.ref sc, .int i', .int m', .int l'])) := fun i' m' l' h =>
      ⟨⟨ns, i', m', l', upd_same, fun o => by rw [upd_upd]; exact hS o, hl, h⟩, Kp.upd⟩
    walk_at "go"
    refine g_ixL (SqL.of ha) rfl ?_
    walk_at "go"
    refine ite_dec (fun h1 => ?_) (fun h1 => ?_)
    · walk_at "go"
      refine g_ixL (SqL.of ha) rfl ?_
      walk_at "go"
      refine g_ixL (SqL.of ha) rfl ?_
      walk_at "go"
      refine g_set43 ha ?_
      walk_at "go"
      exact k _ _ (Int.emod_nonneg _ (by omega)) (Int.emod_lt_of_pos _ hn0) (fin _ _ _ hi)
    · walk_at "go"
      refine g_ixL (SqL.of ha) rfl ?_
      walk_at "go"
      refine g_set41 ha ?_
      walk_at "go"
      refine g_ixL (SqL.of upd_same) rfl ?_
      walk_at "go"
      refine g_ixL (SqL.of upd_same) rfl ?_
      walk_at "go"
      refine g_lenL (hS _) ?_
      walk_at "go"
      rw [List.length_map]
      refine ite_dec (fun h2 => ?_) (fun h2 => ?_)
      · walk_at "go"
        refine g_ixL (SqL.of upd_same) rfl ?_
        walk_at "go"
        refine g_ixL (SqL.of upd_same) rfl ?_
        walk_at "go"
        refine g_ixAny (hS _) (by omega) (by rw [List.length_map]; omega) (fun v hv => ?_)
        obtain ⟨c, _, rfl⟩ := List.mem_map.mp hv
        walk_at "go"
        refine ite_dec (fun h3 => ?_) (fun h3 => ?_)
        · walk_at "go"
          refine g_set43 upd_same ?_
          rw [upd_upd]
          walk_at "go"
          exact k _ _ (Int.emod_nonneg _ (by omega)) (Int.emod_lt_of_pos _ hn0) (fin _ _ _ (by omega))
        · walk_at "go"
          refine g_set43 upd_same ?_
          rw [upd_upd]
          walk_at "go"
          exact k _ _ (Int.emod_nonneg _ (by omega)) (Int.emod_lt_of_pos _ hn0) (fin _ _ _ (by omega))
      · walk_at "go"
        refine g_ixL (SqL.of upd_same) rfl ?_
        walk_at "go"
        refine g_set42 upd_same ?_
        rw [upd_upd]
        walk_at "go"
        refine g_ixL (SqL.of upd_same) rfl ?_
        walk_at "go"
        exact k _ _ (Int.emod_nonneg _ (by omega)) (Int.emod_lt_of_pos _ hn0) (fin _ _ _ (by omega))
theorem sc__law_wheel : FnScope ["_law_state", "_law_wide"] ["_law_state"] (defScope s__law_wheel) := ⟨rfl, rfl, rfl, by decide +kernel, rfl, by decide +kernel, by decide +kernel⟩
theorem ok_wheel (T : Txt K mg ec) (D : Fn K mg "_law_wheel" s__law_wheel) (c__law_drawn : Knows P w K mg base 1 "_law_drawn" ["_law_state", "_law_many"] (sp_drawn K)) : Knows P w K mg base 2 "_law_wheel" ["_law_state"] (sp_wheel K) := by
  refine Knows.mk' D sc__law_wheel (fun _ _ _ _ _ _ us hl => match us, hl with | [_], _ => rfl) (fun vs H Q E h => ?_) (fun f cdv A outer s H vs Q E hr h => ?_)
  · obtain ⟨a, sc, rfl, _⟩ := h; rfl
  · obtain ⟨a, sc, rfl, hD, k⟩ := h
    refine ⟨_, (pss_cons (ps_set (i := 1) sc__law_wheel.nd rfl (Or.inl rfl) (pe_ix ix_list (pe_lst (pa_cons pe_int (pa_cons pe_int (pa_cons (pe_op op_sub (pe_powc (v := 1000000000000) ⟨by decide, by decide, by decide⟩ (by decide)) pe_int) pa_nil)))) (pe_callN c__law_drawn (hr.mono (by first | decide | omega)) passD (pa_cons (pv 0) (pa_cons pe_int pa_nil))) (fun _ _ => rfl)))
    (pss_cons (ps_if (pt_cmpR op_eq (pe_callN c__law_drawn (hr.mono (by first | decide | omega)) passD (pa_cons (pv 0) (pa_cons pe_int pa_nil))) pe_int (nomark _)) (pss_one (ps_ret (pe_ix ix_list (pe_lst (pa_cons pe_int (pa_cons pe_int (pa_cons pe_int (pa_cons pe_int (pa_cons pe_int (pa_cons (pe_powc (v := 65536) ⟨by decide, by decide, by decide⟩ (by decide)) (pa_cons (pe_powc (v := 4294967296) ⟨by decide, by decide, by decide⟩ (by decide)) (pa_cons (pe_powc (v := 549755813888) ⟨by decide, by decide, by decide⟩ (by decide)) pa_nil))))))))) (pe_callN c__law_drawn (hr.mono (by first | decide | omega)) passD (pa_cons (pv 0) (pa_cons pe_int pa_nil))) (fun _ _ => rfl)))) pss_nil)
    (pss_one (ps_ret (pe_op op_add pe_int (pe_callN c__law_drawn (hr.mono (by first | decide | omega)) passD (pa_cons (pv 0) (pa_cons (pv 1) pa_nil)))))))), ?_⟩
    refine g_start (σ := [some _, none]) rfl ?_
    try dsimp only [cxOf]
    walk_at "go"
    intro p hp
    walk_at "go"
    refine ⟨a, sc, 3, rfl, (by walk_at "dr"), (by decide), fun r1 H1 h0 h1 g1 => ?_⟩
    have hne : p ≠ a := by walk_at "ne"
    refine g_ixAny (SqL.of (by walk_at "hp")) h0 (by simpa using h1) (fun v hv => ?_)
    obtain ⟨z, rfl, hz⟩ := one_int (zs := [6, 60, 1000000000000 - 1]) hv
    have hz2 : 6 ≤ z ∧ z ≤ 999999999999 := by
      simp only [List.mem_cons, List.not_mem_nil, or_false] at hz
      omega
    have g1' := g1.new hp
    walk_at "go"
    refine ⟨a, sc, 4, rfl, (by walk_at "dr"), (by decide), fun r2 H2 h0 h1 g2 => ?_⟩
    walk_at "go"
    refine ite_dec (fun h2 => ?_) (fun h2 => ?_)
    · walk_at "go"
      intro q hq
      walk_at "go"
      refine ⟨a, sc, 8, rfl, (by walk_at "dr"), (by decide), fun r3 H3 h0 h1 g3 => ?_⟩
      have hne : q ≠ a := by walk_at "ne"
      refine g_ixAny (SqL.of (by walk_at "hp")) h0 (by simpa using h1) (fun v hv => ?_)
      obtain ⟨z, rfl, hz⟩ := one_int (zs := [2, 4, 8, 64, 256, 65536, 4294967296, 549755813888]) hv
      simp only [List.mem_cons, List.not_mem_nil, or_false] at hz
      exact k _ _ (by show 2 ≤ z ∧ z ≤ 1000000000000; omega) ((g1'.trans g2).trans (g3.new hq))
    · walk_at "go"
      refine ⟨a, sc, z, rfl, (by walk_at "dr"), (by omega), fun r3 H3 h0 h1 g3 => ?_⟩
      walk_at "go"
      exact k _ _ (by show 2 ≤ 2 + r3 ∧ 2 + r3 ≤ 1000000000000; omega) ((g1'.trans g2).trans g3)
theorem sc__law_same : FnScope ["_law_found", "_law_due", "_law_k"] ["_law_found", "_law_due"] (defScope s__law_same) := ⟨rfl, rfl, rfl, by decide +kernel, rfl, by decide +kernel, by decide +kernel⟩
theorem same_step (T : Txt K mg ec) (D : Fn K mg "_law_same" s__law_same) (d : Nat) (c__law_same : Knows P w K mg base d "_law_same" ["_law_found", "_law_due"] (sp_samep d)) : Knows P w K mg base (d + 1) "_law_same" ["_law_found", "_law_due"] (sp_same d) := by
  refine Knows.mk' D sc__law_same (fun _ _ _ _ _ _ us hl => match us, hl with | [_, _], _ => rfl) (fun vs H Q E h => ?_) (fun f cdv A outer s H vs Q E hr h => ?_)
  · obtain ⟨x, y, rfl, _⟩ := h; rfl
  · obtain ⟨x, y, rfl, hsd, k⟩ := h
    refine ⟨_, (pss_cons (ps_if (pt_val (pe_callB call_isiT (by rfl) T.isinstance (by decide +kernel) (pa_cons (pv 1) (pa_cons (pe_tup (pa_cons (pe_bltn (v := .ty "tuple") (u := .type "tuple") (by rfl) T.tuple (by decide +kernel) rfl) (pa_cons (pe_bltn (v := .ty "list") (u := .type "list") (by rfl) T.list (by decide +kernel) rfl) pa_nil))) pa_nil))) (by intro _; rfl)) (pss_cons (ps_if (PW.pt (pw_or (pt_not (pt_val (pe_callB call_isiT (by rfl) T.isinstance (by decide +kernel) (pa_cons (pv 0) (pa_cons (pe_tup (pa_cons (pe_bltn (v := .ty "tuple") (u := .type "tuple") (by rfl) T.tuple (by decide +kernel) rfl) (pa_cons (pe_bltn (v := .ty "list") (u := .type "list") (by rfl) T.list (by decide +kernel) rfl) pa_nil))) pa_nil))) (by intro _; rfl))) (pw_or1 (pt_cmpR op_ne (pe_callB call_isi (by rfl) T.isinstance (by decide +kernel) (pa_cons (pv 0) (pa_cons (pe_bltn (v := .ty "list") (u := .type "list") (by rfl) T.list (by decide +kernel) rfl) pa_nil))) (pe_callB call_isi (by rfl) T.isinstance (by decide +kernel) (pa_cons (pv 1) (pa_cons (pe_bltn (v := .ty "list") (u := .type "list") (by rfl) T.list (by decide +kernel) rfl) pa_nil))) (nomark _))))) (pss_one (ps_ret pe_bl)) pss_nil)
    (pss_cons (ps_if (pt_cmpR op_ne (pe_callB call_lenN (by rfl) T.len PySem.boot_len (pa_cons (pv 0) pa_nil)) (pe_callB call_lenN (by rfl) T.len PySem.boot_len (pa_cons (pv 1) pa_nil)) (nomark _)) (pss_one (ps_ret pe_bl)) pss_nil)
    (pss_one (ps_ret (pe_cmpR (op_eqD hr.units) (pe_lc (own := [("_law_k", 2)]) (g := gName 2) rfl sc__law_same.nd (pi_range1 (by rfl) T.range (pa_cons (pe_callB call_lenN (by rfl) T.len PySem.boot_len (pa_cons (pv 1) pa_nil)) pa_nil)) (blkOk_by (own := [("_law_k", 2)]) (N := ["_law_found", "_law_due", "_law_k"]) (sc := defScope s__law_same) (by decide +kernel)) (fun _ _ _ _ _ => (pg_name (i := 2) sc__law_same.nd rfl (Or.inl rfl))) (fun _ _ _ _ _ => (pts_one (pt_not (pt_val (pe_callN c__law_same (hr.mono (by first | decide | omega)) passL (pa_cons (pe_ix (r := rIx K) ix_seq (pv 0) (pv 2) (fun _ _ => rfl)) (pa_cons (pe_ix (r := rIx K) ix_seq (pv 1) (pv 2) (fun _ _ => rfl)) pa_nil))) (by intro _; rfl))))) (fun _ _ _ _ _ => (pv 2))) (pe_lst pa_nil) (nomark _)))))) pss_nil)
    (pss_cons (ps_if (pt_cmpR op_isNN (pv 1) pe_non (nomark _)) (pss_one (ps_ret (pe_cmpR op_isNN (pv 0) pe_non (nomark _)))) pss_nil)
    (pss_cons (ps_if (pt_val (pe_callB call_isi (by rfl) T.isinstance (by decide +kernel) (pa_cons (pv 1) (pa_cons (pe_bltn (v := .ty "str") (u := .type "str") (by rfl) T.str (by decide +kernel) rfl) pa_nil))) (by intro _; rfl)) (pss_one (ps_ret (pe_and (pe_callB call_isi (by rfl) T.isinstance (by decide +kernel) (pa_cons (pv 0) (pa_cons (pe_bltn (v := .ty "str") (u := .type "str") (by rfl) T.str (by decide +kernel) rfl) pa_nil))) (pe_one (pe_cmpR op_eq (pv 0) (pv 1) (nomark _)))))) pss_nil)
    (pss_cons (ps_if (PW.pt (pw_or (pt_val (pe_callB call_isi (by rfl) T.isinstance (by decide +kernel) (pa_cons (pv 1) (pa_cons (pe_bltn (v := .ty "bool") (u := .type "bool") (by rfl) T.bool (by decide +kernel) rfl) pa_nil))) (by intro _; rfl)) (pw_or1 (pt_val (pe_callB call_isi (by rfl) T.isinstance (by decide +kernel) (pa_cons (pv 0) (pa_cons (pe_bltn (v := .ty "bool") (u := .type "bool") (by rfl) T.bool (by decide +kernel) rfl) pa_nil))) (by intro _; rfl))))) (pss_one (ps_ret (pe_and (pe_callB call_isi (by rfl) T.isinstance (by decide +kernel) (pa_cons (pv 1) (pa_cons (pe_bltn (v := .ty "bool") (u := .type "bool") (by rfl) T.bool (by decide +kernel) rfl) pa_nil))) (pe_and (pe_callB call_isi (by rfl) T.isinstance (by decide +kernel) (pa_cons (pv 0) (pa_cons (pe_bltn (v := .ty "bool") (u := .type "bool") (by rfl) T.bool (by decide +kernel) rfl) pa_nil))) (pe_one (pe_cmpR op_eq (pv 0) (pv 1) (nomark _))))))) pss_nil)
    (pss_one (ps_ret (pe_and (pe_callB call_isi (by rfl) T.isinstance (by decide +kernel) (pa_cons (pv 0) (pa_cons (pe_bltn (v := .ty "int") (u := .type "int") (by rfl) T.int (by decide +kernel) rfl) pa_nil))) (pe_one (pe_cmpR op_eq (pv 0) (pv 1) (nomark _)))))))))), ?_⟩
    refine g_start (σ := [some _, some _, none]) rfl ?_
    try dsimp only [cxOf]
    walk_at "go"
    intro tp htp
    have e1 : Same H (upd H tp (.tup [.ty "tuple", .ty "list"])) := Same.new htp
    walk_at "go"
    cases hsd with
    | non =>
      refine g_isiTL (.base .non) upd_same (r1 := false) (r2 := false) (r := false) (by decide +kernel) (by decide +kernel) rfl ?_
      walk_at "go"
      try refine ite_dec (fun _ => ?_) (fun z => (z rfl).elim)
      walk_at "go"
      rw [decide_eq_true rfl]
      exact k _ e1
    | str z =>
      refine g_isiTL (.base (.str z)) upd_same (r1 := false) (r2 := false) (r := false) (by decide +kernel) (by decide +kernel) rfl ?_
      walk_at "go"
      refine ite_dec (fun z => nomatch z) (fun _ => ?_)
      walk_at "go"
      refine g_isi (.base (.str z)) (r := true) (by decide +kernel) ?_
      walk_at "go"
      refine g_isi (.base (.str z)) (r := true) (by decide +kernel) ?_
      walk_at "go"
      rw [decide_eq_true rfl]
      exact k _ e1
    | bl z =>
      refine g_isiTL (.base (.bl z)) upd_same (r1 := false) (r2 := false) (r := false) (by decide +kernel) (by decide +kernel) rfl ?_
      walk_at "go"
      refine ite_dec (fun z => nomatch z) (fun _ => ?_)
      walk_at "go"
      refine g_isi (.base (.bl z)) (r := false) (by decide +kernel) ?_
      walk_at "go"
      refine g_isi (.base (.bl z)) (r := true) (by decide +kernel) ?_
      walk_at "go"
      refine g_isi (.base (.bl z)) (r := true) (by decide +kernel) ?_
      walk_at "go"
      refine g_isi (.base (.bl z)) (r := true) (by decide +kernel) ?_
      walk_at "go"
      rw [decide_eq_true rfl]
      exact k _ e1
    | int z =>
      refine g_isiTL (.base (.int z)) upd_same (r1 := false) (r2 := false) (r := false) (by decide +kernel) (by decide +kernel) rfl ?_
      walk_at "go"
      refine ite_dec (fun z => nomatch z) (fun _ => ?_)
      walk_at "go"
      refine g_isi (.base (.int z)) (r := false) (by decide +kernel) ?_
      walk_at "go"
      refine g_isi (.base (.int z)) (r := false) (by decide +kernel) ?_
      walk_at "go"
      refine g_isi (.base (.int z)) (r := false) (by decide +kernel) ?_
      walk_at "go"
      refine g_isi (.base (.int z)) (r := true) (by decide +kernel) ?_
      walk_at "go"
      rw [decide_eq_true rfl]
      exact k _ e1
    | @lst d a b xs ys h1 h2 hl hz hi =>
      refine g_isiTL (.base (.lst (e1 _ _ h2))) upd_same (r1 := false) (r2 := true) (r := true) (by decide +kernel) (by decide +kernel) rfl ?_
      walk_at "go"
      intro tq htq
      have e2 := e1.trans (Same.new (o := .tup [.ty "tuple", .ty "list"]) htq)
      walk_at "go"
      refine g_isiTL (.base (.lst (e2 _ _ h1))) upd_same (r1 := false) (r2 := true) (r := true) (by decide +kernel) (by decide +kernel) rfl ?_
      walk_at "go"
      refine g_isi (.base (.lst (e2 _ _ h1))) (r := true) (by decide +kernel) ?_
      walk_at "go"
      refine g_isi (.base (.lst (e2 _ _ h2))) (r := true) (by decide +kernel) ?_
      walk_at "go"
      try refine ite_ndec (fun z => (z rfl).elim) (fun _ => ?_)
      walk_at "go"
      refine g_lenL (SqL.of (e2 _ _ h1)) ?_
      walk_at "go"
      refine g_lenL (SqL.of (e2 _ _ h2)) ?_
      walk_at "go"
      rw [hl]
      try refine ite_ndec (fun z => (z rfl).elim) (fun _ => ?_)
      walk_at "go"
      refine g_lenL (SqL.of (e2 _ _ h2)) ?_
      walk_at "go"
      refine ⟨by omega, by omega, fun L hL => lc_R 0 _ (fun i acc H' => acc = [] ∧ Same H H' ∧ Same (upd (upd H tp (.tup [.ty "tuple", .ty "list"])) tq (.tup [.ty "tuple", .ty "list"])) H') (fun i acc H' o h => ⟨h.1, Same.mut h.2.1 (e2.free hL), Same.mut h.2.2 hL⟩) ⟨rfl, e2, Same.refl _⟩ ?_ ?_⟩
      · rintro i acc H3 hil ⟨rfl, e3, e3'⟩ hDl hal
        walk_at "wp"
        walk_at "go"
        refine ⟨rfl, ?_⟩
        walk_at "go"
        have hil2 : i < ys.length := by omega
        have hil1 : i < xs.length := by omega
        refine Or.inl (g_ixL (v := xs[i]) (SqL.of (e3 _ _ h1)) (by rw [Int.zero_add]; exact atI_nat (List.getElem?_eq_getElem hil1)) ?_)
        walk_at "go"
        refine Or.inl (g_ixL (v := ys[i]) (SqL.of (e3 _ _ h2)) (by rw [Int.zero_add]; exact atI_nat (List.getElem?_eq_getElem hil2)) ?_)
        walk_at "go"
        refine ⟨_, _, rfl, (hi i _ _ (List.getElem?_eq_getElem hil1) (List.getElem?_eq_getElem hil2)).same e3, fun H4 e4 => ?_⟩
        walk_at "go"
        exact lc_skip (e4 _ _ hDl) hal ⟨rfl, e3.trans e4, e3'.trans e4⟩
      · rintro acc H3 ⟨rfl, e3, _⟩ hDl
        walk_at "go"
        intro z hz
        refine g_eqInts (ns := []) (ms := []) (SqL.of (by walk_at "hp")) (SqL.of upd_same) ?_
        rw [decide_eq_true rfl]
        exact k _ (e3.trans (Same.new hz))
    | @tup d a b xs ys h1 h2 hl hz hi =>
      refine g_isiTL (.base (.tup (e1 _ _ h2))) upd_same (r1 := true) (r2 := false) (r := true) (by decide +kernel) (by decide +kernel) rfl ?_
      walk_at "go"
      intro tq htq
      have e2 := e1.trans (Same.new (o := .tup [.ty "tuple", .ty "list"]) htq)
      walk_at "go"
      refine g_isiTL (.base (.tup (e2 _ _ h1))) upd_same (r1 := true) (r2 := false) (r := true) (by decide +kernel) (by decide +kernel) rfl ?_
      walk_at "go"
      refine g_isi (.base (.tup (e2 _ _ h1))) (r := false) (by decide +kernel) ?_
      walk_at "go"
      refine g_isi (.base (.tup (e2 _ _ h2))) (r := false) (by decide +kernel) ?_
      walk_at "go"
      try refine ite_ndec (fun z => (z rfl).elim) (fun _ => ?_)
      walk_at "go"
      refine g_lenT (SqT.of (e2 _ _ h1)) ?_
      walk_at "go"
      refine g_lenT (SqT.of (e2 _ _ h2)) ?_
      walk_at "go"
      rw [hl]
      try refine ite_ndec (fun z => (z rfl).elim) (fun _ => ?_)
      walk_at "go"
      refine g_lenT (SqT.of (e2 _ _ h2)) ?_
      walk_at "go"
      refine ⟨by omega, by omega, fun L hL => lc_R 0 _ (fun i acc H' => acc = [] ∧ Same H H' ∧ Same (upd (upd H tp (.tup [.ty "tuple", .ty "list"])) tq (.tup [.ty "tuple", .ty "list"])) H') (fun i acc H' o h => ⟨h.1, Same.mut h.2.1 (e2.free hL), Same.mut h.2.2 hL⟩) ⟨rfl, e2, Same.refl _⟩ ?_ ?_⟩
      · rintro i acc H3 hil ⟨rfl, e3, e3'⟩ hDl hal
        walk_at "wp"
        walk_at "go"
        refine ⟨rfl, ?_⟩
        walk_at "go"
        have hil2 : i < ys.length := by omega
        have hil1 : i < xs.length := by omega
        refine Or.inr (Or.inl (g_ixT (v := xs[i]) (SqT.of (e3 _ _ h1)) (by rw [Int.zero_add]; exact atI_nat (List.getElem?_eq_getElem hil1)) ?_))
        walk_at "go"
        refine Or.inr (Or.inl (g_ixT (v := ys[i]) (SqT.of (e3 _ _ h2)) (by rw [Int.zero_add]; exact atI_nat (List.getElem?_eq_getElem hil2)) ?_))
        walk_at "go"
        refine ⟨_, _, rfl, (hi i _ _ (List.getElem?_eq_getElem hil1) (List.getElem?_eq_getElem hil2)).same e3, fun H4 e4 => ?_⟩
        walk_at "go"
        exact lc_skip (e4 _ _ hDl) hal ⟨rfl, e3.trans e4, e3'.trans e4⟩
      · rintro acc H3 ⟨rfl, e3, _⟩ hDl
        walk_at "go"
        intro z hz
        refine g_eqInts (ns := []) (ms := []) (SqL.of (by walk_at "hp")) (SqL.of upd_same) ?_
        rw [decide_eq_true rfl]
        exact k _ (e3.trans (Same.new hz))
theorem ok_same0 (T : Txt K mg ec) (D : Fn K mg "_law_same" s__law_same) : Knows P w K mg base 1 "_law_same" ["_law_found", "_law_due"] (sp_same 0) := same_step T D 0 (knows_false D (fun _ _ _ _ _ _ us hl => match us, hl with | [_, _], _ => rfl))
theorem ok_same1 (T : Txt K mg ec) (D : Fn K mg "_law_same" s__law_same) : Knows P w K mg base 2 "_law_same" ["_law_found", "_law_due"] (sp_same 1) := same_step T D 1 (ok_same0 T D)
theorem sc__law_kind : FnScope ["_law_work", "e", "_law_kinds", "_law_words"] ["_law_work"] (defScope s__law_kind) := ⟨rfl, rfl, rfl, by decide +kernel, rfl, by decide +kernel, by decide +kernel⟩
theorem kind_gives (X : Cx) {ec : Ec} (T : Txt X.K X.mg ec) (g : Addr) (cdg : Value) (q : Str) : LamX.GivesTo X ["_law_work", "e", "_law_kinds", "_law_words"] "_law_kind" (defScope s__law_kind) g cdg (defBody s__law_kind) "_law_work" q (TKind X.K ec) := by
  intro f c' s H Q tl act hc h
  refine ⟨_, pss_one (ps_try_as (X := (cxOf C8.CX0 X.prog X.w X.K X.mg X.base ["_law_work", "e", "_law_kinds", "_law_words"] "_law_kind" (defScope s__law_kind) g cdg X.A X.stack s H C8.E0).nox) (c := .ref ec.WrapError) (i := 1)
      (tb := fun W D σ H => ∃ Ech : XK, (∀ cls d σ' H', Ech cls d H' → W cls d σ' H') ∧ σ[0]? = some (some (.ref f)) ∧ H c' = some (LamX.CodeO c' q) ∧ tl Ech H D.rt)
      (ts := fun a cls d Dd σ H => ∃ D j, cls = .ref D ∧ d = none ∧ KindOf X.K ec D j ∧ (∃ σ' : L2.St, σ = σ'.set 1 (some (.ref a))) ∧ ∀ H'', Same H H'' → Dd.rt (.str (namesL.getD j "")) H'')
      (Wout := fun _ _ _ _ => False) rfl rfl sc__law_kind.nd rfl rfl ⟨rfl, by decide, .inl T.x_WrapError.g⟩ LamX.takes0 (fun W pn xe tk _ => ?_) (fun a oe cls d pn hz hv => ?_)), ?_⟩
  · refine ⟨fun pins s' σ H' D I h' => ?_⟩
    obtain ⟨Ech, hW, h1, h2, h3⟩ := h'
    exact (pss_one (ps_ret (act W pn xe Ech _ _ tk hW))).run pins s' σ H' D I ⟨h1, h2, h3⟩
  · refine pss_by fun Dd σ H' hlen h' => ?_
    obtain ⟨D, j, rfl, rfl, kd, ⟨σ', rfl⟩, k⟩ := h'
    rw [List.length_set] at hlen
    obtain ⟨x0, x1, x2, x3, rfl⟩ : ∃ x0 x1 x2 x3, σ' = [x0, x1, x2, x3] := by
      match σ', hlen with
      | [x0, x1, x2, x3], _ => exact ⟨x0, x1, x2, x3, rfl⟩
    refine ⟨_, (pss_cons (ps_set (i := 2) sc__law_kind.nd rfl (Or.inl rfl) (pe_lst (pa_cons (pe_callB (call_isE kd.c hz hv) (by rfl) T.isinstance (by decide +kernel) (pa_cons (pv 1) (pa_cons (pe_glob (v := .ref ec.BadWheel) rfl T.x_BadWheel.g rfl) pa_nil))) (pa_cons (pe_callB (call_isE kd.c hz hv) (by rfl) T.isinstance (by decide +kernel) (pa_cons (pv 1) (pa_cons (pe_glob (v := .ref ec.BadRule) rfl T.x_BadRule.g rfl) pa_nil))) (pa_cons (pe_callB (call_isE kd.c hz hv) (by rfl) T.isinstance (by decide +kernel) (pa_cons (pv 1) (pa_cons (pe_glob (v := .ref ec.BadSeen) rfl T.x_BadSeen.g rfl) pa_nil))) (pa_cons (pe_callB (call_isE kd.c hz hv) (by rfl) T.isinstance (by decide +kernel) (pa_cons (pv 1) (pa_cons (pe_glob (v := .ref ec.BadGaps) rfl T.x_BadGaps.g rfl) pa_nil))) pa_nil))))))
    (pss_cons (ps_set (i := 2) sc__law_kind.nd rfl (Or.inl rfl) (pe_op op_cat (pv 2) (pe_lst (pa_cons (pe_callB (call_isE kd.c hz hv) (by rfl) T.isinstance (by decide +kernel) (pa_cons (pv 1) (pa_cons (pe_glob (v := .ref ec.BadSpan) rfl T.x_BadSpan.g rfl) pa_nil))) (pa_cons (pe_callB (call_isE kd.c hz hv) (by rfl) T.isinstance (by decide +kernel) (pa_cons (pv 1) (pa_cons (pe_glob (v := .ref ec.BadLong) rfl T.x_BadLong.g rfl) pa_nil))) (pa_cons (pe_callB (call_isE kd.c hz hv) (by rfl) T.isinstance (by decide +kernel) (pa_cons (pv 1) (pa_cons (pe_glob (v := .ref ec.NoGap) rfl T.x_NoGap.g rfl) pa_nil))) (pa_cons (pe_callB (call_isE kd.c hz hv) (by rfl) T.isinstance (by decide +kernel) (pa_cons (pv 1) (pa_cons (pe_glob (v := .ref ec.NoSpan) rfl T.x_NoSpan.g rfl) pa_nil))) pa_nil)))))))
    (pss_cons (ps_set (i := 3) sc__law_kind.nd rfl (Or.inl rfl) (pe_lst (pa_cons pe_str (pa_cons pe_str (pa_cons pe_str (pa_cons pe_str (pa_cons pe_str (pa_cons pe_str (pa_cons pe_str (pa_cons pe_str pa_nil))))))))))
    (pss_cons (ps_if (PW.pt (pw_or (pt_cmpR op_ne (pe_bm PySem.F.plainAttrs_list PySem.F.slot_list_count PySem.F.type_list_count mt_countF (pv 2) (pa_cons pe_bl pa_nil)) pe_int (nomark _)) (pw_or1 (pt_not (pt_val (pe_callB (call_isE kd.c hz hv) (by rfl) T.isinstance (by decide +kernel) (pa_cons (pv 1) (pa_cons (pe_bltn (v := .ty "ValueError") (u := .type "ValueError") (by rfl) T.ValueError (by decide +kernel) rfl) pa_nil))) (by intro _; rfl)))))) (pss_one (ps_ret pe_str)) pss_nil)
    (pss_one (ps_ret (pe_ix ix_list (pv 3) (pe_bm PySem.F.plainAttrs_list PySem.F.slot_list_index PySem.F.type_list_index mt_index (pv 2) (pa_cons pe_bl pa_nil)) (fun _ _ => rfl)))))))), ?_⟩
    try dsimp only [cxOf]
    walk_at "wp"
    walk_at "go"
    refine g_isE kd.i0 ?_
    walk_at "go"
    refine g_isE kd.i1 ?_
    walk_at "go"
    refine g_isE kd.i2 ?_
    walk_at "go"
    refine g_isE kd.i3 ?_
    walk_at "go"
    intro p1 hp1
    walk_at "go"
    refine g_isE kd.i4 ?_
    walk_at "go"
    refine g_isE kd.i5 ?_
    walk_at "go"
    refine g_isE kd.i6 ?_
    walk_at "go"
    refine g_isE kd.i7 ?_
    walk_at "go"
    intro p2 hp2
    refine g_cat (upd_old upd_same hp2) upd_same (by simp) (fun p3 hp3 => ?_)
    have e1 := ((Same.new hp1 (o := .lst [V.bl (decide (0 = j)), V.bl (decide (1 = j)), V.bl (decide (2 = j)), V.bl (decide (3 = j))])).trans (Same.new hp2 (o := .lst [V.bl (decide (4 = j)), V.bl (decide (5 = j)), V.bl (decide (6 = j)), V.bl (decide (7 = j))]))).trans (Same.new hp3 (o := .lst (kindsL j)))
    have u1 : upd (upd (upd H' p1 (.lst [V.bl (decide (0 = j)), V.bl (decide (1 = j)), V.bl (decide (2 = j)), V.bl (decide (3 = j))])) p2 (.lst [V.bl (decide (4 = j)), V.bl (decide (5 = j)), V.bl (decide (6 = j)), V.bl (decide (7 = j))])) p3 (.lst (kindsL j)) p3 = some (.lst (kindsL j)) := upd_same
    show gName _ _ _ (upd (upd (upd H' p1 (.lst [V.bl (decide (0 = j)), V.bl (decide (1 = j)), V.bl (decide (2 = j)), V.bl (decide (3 = j))])) p2 (.lst [V.bl (decide (4 = j)), V.bl (decide (5 = j)), V.bl (decide (6 = j)), V.bl (decide (7 = j))])) p3 (.lst (kindsL j))) _
    generalize upd (upd (upd H' p1 (.lst [V.bl (decide (0 = j)), V.bl (decide (1 = j)), V.bl (decide (2 = j)), V.bl (decide (3 = j))])) p2 (.lst [V.bl (decide (4 = j)), V.bl (decide (5 = j)), V.bl (decide (6 = j)), V.bl (decide (7 = j))])) p3 (.lst (kindsL j)) = H1 at *
    walk_at "go"
    intro p4 hp4
    have e2 := Same.new hp4 (o := .lst (namesL.map V.str))
    walk_at "go"
    refine g_tyL (SqL.of (e2 _ _ u1)) ?_
    walk_at "go"
    refine g_count (SqL.of (e2 _ _ u1)) rfl (kinds_flat j) ?_
    rw [kinds_count j kd.lt]
    walk_at "go"
    refine ite_ndec (fun z => (z rfl).elim) (fun _ => ?_)
    walk_at "go"
    refine g_isET kd.v ?_
    walk_at "go"
    refine g_tyL (SqL.of (e2 _ _ u1)) ?_
    walk_at "go"
    refine g_index (SqL.of (e2 _ _ u1)) rfl (kinds_flat j) (kinds_at j kd.lt) rfl (fun m z hm hz => kinds_no kd.lt m z hm hz) ?_
    walk_at "go"
    refine g_ixL (xs := namesL.map V.str) (SqL.of upd_same) (atI_nat (names_at j kd.lt)) ?_
    walk_at "go"
    exact k _ (e1.trans e2)
  · refine ⟨_, fun cls d σ' H' h' => ?_, rfl, hc, h⟩
    obtain ⟨D, j, rfl, rfl, kd, k⟩ := h'
    exact ⟨true, kd.m, fun _ a ha => ⟨D, j, rfl, rfl, kd, ⟨σ', rfl⟩, k⟩, fun z => by cases z⟩
theorem kind_givesY (X Y : Cx) {ec : Ec} (T : Txt X.K X.mg ec) (e1 : Y.K = X.K) (e2 : Y.mg = X.mg) (g : Addr) (cdg : Value) (q : Str) : LamX.GivesTo Y ["_law_work", "e", "_law_kinds", "_law_words"] "_law_kind" (defScope s__law_kind) g cdg (defBody s__law_kind) "_law_work" q (TKind X.K ec) := by
  rw [← e1]
  exact kind_gives Y (by rw [e1, e2]; exact T) g cdg q
end
end My
namespace My
open PySem PySem.Spec PyProof.Rows L2
open LamX (Tabs TabS CodeO ExtN TabB LamS lamEnv lamCx)
/-! ### lambdas as values -/
/-- a lambda's text -/
structure LamT where
  params : Arguments
  body : Expr
  scope : Scope
/-- the lambda that stands at f: its code object at d, its closure cl -/
def LamO (f d : Addr) (q : Str) (cl : List (Str × Addr)) (l : LamT) : HO := .ext fun h => ∃ pm ctv : Value, h.get? f = some (PySem.W.kla_obj "<lambda>" q l.params l.body l.scope cl pm d ctv)
theorem lamO_tbl {f d : Addr} {q : Str} {cl : List (Str × Addr)} {l : LamT} (ps : Array Value) : LamO f d q cl l ≠ .tbl ps := fun z => by
  unfold LamO at z
  cases z
def tMk (T : List (Addr × Str)) (q : Str) (cells : List (Str × Addr)) (l : LamT) : TE := fun σ H Q => Tabs T H ∧ ∀ (f d : Addr) (H1 : Hp), ExtN H H1 → Tabs T H1 → H1 f = none → H1 d = some (CodeO d q) → Q (.ref f) (upd H1 f (LamO f d q (cloFrom cells l.scope.names []) l))
section
variable {X : Cx}
/-- the table tells one more -/
theorem tabs_more {T : List (Addr × Str)} {H : Hp} {P d : Addr} {q : Str} {ps : Array Value} {pos : Pos} (t : Tabs T H) (hP : H P = some (.tbl ps)) (ok : TriplesOk ps.toList) (hq : ∀ p ∈ T, p.1 = P → p.2 = q) (nd : H d = none) :
    Tabs T (upd (upd H P (.tbl (ps ++ #[rawInt pos.line, rawInt pos.col, .ref d]))) d (CodeO d q)) := by
  have old : ∀ b o, H b = some o → (∀ v, o ≠ .tbl v) → upd (upd H P (.tbl (ps ++ #[rawInt pos.line, rawInt pos.col, .ref d]))) d (CodeO d q) b = some o := fun b o e n => by
    have n1 : b ≠ d := ne_of_none e nd
    have n2 : b ≠ P := fun z => by
      subst z
      exact n _ (Option.some.inj (e.symm.trans hP))
    rw [upd_ne n1, upd_ne n2]
    exact e
  have lst : (ps ++ #[rawInt pos.line, rawInt pos.col, .ref d]).toList = ps.toList ++ [rawInt pos.line, rawInt pos.col, .ref d] := by simp
  intro p hp
  obtain ⟨v, w1, w2, w3⟩ := t p hp
  have npd : p.1 ≠ d := ne_of_none w1 nd
  by_cases hpP : p.1 = P
  · have ev : v = ps := by
      rw [hpP, hP] at w1
      exact (HO.tbl.inj (Option.some.inj w1)).symm
    subst ev
    refine ⟨_, by rw [upd_ne npd, hpP, upd_same], by rw [lst]; exact PySem.TriplesOk_snoc _ _ _ _ ok, fun p2 cv hc => ?_⟩
    rw [lst] at hc
    rcases LamX.among_app _ ok hc with z | z
    · obtain ⟨e0, z1, z2⟩ := w3 p2 cv z
      exact ⟨e0, z1, old _ _ z2 LamX.codeO_ne⟩
    · exact ⟨d, z, by rw [hq p hp hpP]; exact upd_same⟩
  · refine ⟨v, by rw [upd_ne npd, upd_ne hpP]; exact w1, w2, fun p2 cv hc => ?_⟩
    obtain ⟨e0, z1, z2⟩ := w3 p2 cv hc
    exact ⟨e0, z1, old _ _ z2 LamX.codeO_ne⟩
/-- lambda: .. -/
theorem pe_lamV {T : List (Addr × Str)} {c P : Addr} {params : Arguments} {body : Expr} {scope : Scope} {pos : Pos} (TB : TabB X.base X.mg c P) (hcode : X.env.code = .ref c) (mem : (P, X.env.qual ++ "<lambda>") ∈ T)
    (hq : ∀ p ∈ T, p.1 = P → p.2 = X.env.qual ++ "<lambda>") (L : LamS X.env.scope scope) (nodef : defaultsOf params X.env = ([], [])) :
    PE X (.Lambda params body scope pos) (tMk T (X.env.qual ++ "<lambda>") X.env.cells ⟨params, body, scope⟩) := by
  refine ⟨fun pins s σ H Q I ⟨hT, k⟩ => PySem.W.kla_eval nodef ?_⟩
  obtain ⟨ps, hP, ok, _⟩ := id (hT _ mem)
  have tell := hT _ mem
  have cl := closure_ok (env := X.env) (L.has I.ok)
  have gl := I.mod.glob.keeps I.bk
  have cd := TB.code.keeps I.bk
  have bt : s.heap.BuiltinsAt X.mg P := TB.bm.keeps I.bk
  have oP : s.heap.get? P = some { cls := .none, data := .fields ps } := I.hok P _ hP
  have stays : ∀ {f d : Addr} {pm ctv : Value} {h1 h2 : Heap}, (∃ pm ctv : Value, h1.get? f = some (PySem.W.kla_obj "<lambda>" (X.env.qual ++ "<lambda>") params body scope (cloFrom X.env.cells scope.names []) pm d ctv)) → (∀ o, h1.get? f = some o → h2.get? f = some o) →
      ∃ pm ctv : Value, h2.get? f = some (PySem.W.kla_obj "<lambda>" (X.env.qual ++ "<lambda>") params body scope (cloFrom X.env.cells scope.names []) pm d ctv) := fun ⟨a, b, e⟩ st => ⟨a, b, st _ e⟩
  cases hc : codeAmong pos ps.toList with
  | none =>
    refine PySem.W.kla_makeFunction (mg := X.mg) (c := c) (P := P) (ps := ps) cl I.ok.glob gl hcode cd oP ok hc TB.gP bt fun d ctv h' tk grow big small rec tab => ?_
    obtain ⟨d2, oc, vs, t, e, g1, g2, g3⟩ := rec
    cases e
    have nd : H d = none := I.hok.fresh big
    have J := LamX.inv_table (q := X.env.qual ++ "<lambda>") (t' := tk) (more := #[rawInt pos.line, rawInt pos.col, .ref d]) (h' := h') I hP (fun b o hb e => grow b o hb e) tab big ⟨oc, vs, t, g1, g2, g3⟩
    have fresh := J.hok.fresh (Nat.le_refl h'.objs.size)
    have J2 := J.laid (t' := tk) (a := h'.objs.size) (o := LamO h'.objs.size d (X.env.qual ++ "<lambda>") (cloFrom X.env.cells scope.names []) ⟨params, body, scope⟩) (h' := h'.push (PySem.W.kla_obj "<lambda>" (X.env.qual ++ "<lambda>") params body scope (cloFrom X.env.cells scope.names []) ((X.mg "__name__").getD .none) d ctv))
      (fun b u e => Heap.get?_push_of_some _ e) (Nat.le_refl _) ⟨⟨_, _, Heap.get?_push_size _ rfl⟩, ⟨_, Heap.get?_push_size _ rfl⟩, fun h1 h2 x st => stays (pm := .none) (ctv := .none) x st⟩
    refine ⟨.ref h'.objs.size, _, J2, rfl, k _ d _ (fun b o e n => ?_) (tabs_more hT hP ok hq nd) fresh upd_same⟩
    rw [upd_ne (ne_of_none e nd), upd_ne (fun z => n ps (by subst z; exact Option.some.inj (e.symm.trans hP)))]
    exact e
  | some cv =>
    obtain ⟨ps2, hP2, _, ha⟩ := tell
    have e2 : ps2 = ps := HO.tbl.inj (Option.some.inj (hP2.symm.trans hP))
    subst e2
    obtain ⟨d, rfl, hd⟩ := ha pos cv hc
    refine PySem.W.kla_makeFunctionHit (mg := X.mg) (c := c) (P := P) (ps := ps2) cl I.ok.glob gl hcode cd oP ok hc bt fun ctv h' tk grow big => ?_
    have J : Inv X pins σ H { s with heap := h', toks := tk } := I.kept grow
    have fresh := J.hok.fresh (Nat.le_refl h'.objs.size)
    have J2 := J.laid (t' := tk) (a := h'.objs.size) (o := LamO h'.objs.size d (X.env.qual ++ "<lambda>") (cloFrom X.env.cells scope.names []) ⟨params, body, scope⟩) (h' := h'.push (PySem.W.kla_obj "<lambda>" (X.env.qual ++ "<lambda>") params body scope (cloFrom X.env.cells scope.names []) ((X.mg "__name__").getD .none) d ctv))
      (fun b u e => Heap.get?_push_of_some _ e) (Nat.le_refl _) ⟨⟨_, _, Heap.get?_push_size _ rfl⟩, ⟨_, Heap.get?_push_size _ rfl⟩, fun h1 h2 x st => stays (pm := .none) (ctv := .none) x st⟩
    exact ⟨.ref h'.objs.size, _, J2, rfl, k _ d _ (ExtN.refl H) hT fresh hd⟩
end
/-! ### what the closure's cells hold -/
structure CellsAt (cells : List (Str × Addr)) (sc : Scope) (N : List Str) (σ : L2.St) (H : Hp) (h : Heap) : Prop where
  inj : ∀ x y c, cells.lookup x = some c → cells.lookup y = some c → x = y
  at_ : ∀ y, (y, NameKind.free) ∈ sc.names → ∃ c, cells.lookup y = some c ∧ H c = none ∧ (∃ v, h.IsCell c v) ∧ ∀ (i : Nat) v, N[i]? = some y → σ[i]? = some (some v) → ∃ u, RelV v u ∧ h.IsCell c (some u)
theorem CellsAt.of {X : Cx} {pins : List (Addr × Obj)} {σ : L2.St} {H : Hp} {s : Shared} {sc : Scope} (I : Inv X pins σ H s) (L : LamS X.env.scope sc) : CellsAt X.env.cells sc X.N σ H s.heap := by
  refine ⟨I.ok.inj, fun y hy => ?_⟩
  obtain ⟨c, hc⟩ := L.has I.ok _ hy rfl
  refine ⟨c, hc, I.freeC _ _ hc, I.cell _ _ hc, fun i v e1 e2 => ?_⟩
  obtain ⟨m, _, hl⟩ := I.loc
  have kf := L.free _ hy rfl
  obtain ⟨u, r, q⟩ := hl i y v e1 e2 (kf.elim (fun z => .inr (.inl z)) (fun z => .inr (.inr z)))
  refine ⟨u, r, ?_⟩
  rcases q with ⟨z, _⟩ | ⟨_, c2, z, hz⟩
  · have z : X.env.scope.names.lookup y = some .local := z
    rcases kf with kf | kf <;> rw [show X.env.scope.names.lookup y = _ from kf] at z <;> cases z
  · rw [show X.env.cells.lookup y = some c from hc] at z
    cases z
    exact hz
theorem CellsAt.un {cells : List (Str × Addr)} {sc : Scope} {N : List Str} {σ : L2.St} {fs ex : List Addr} {H H' : Hp} {h h' : Heap} (C : CellsAt cells sc N σ H h) (u : Un fs ex H H' h h') (hx : ∀ y c, cells.lookup y = some c → c ∉ ex) : CellsAt cells sc N σ H' h' := by
  refine ⟨C.inj, fun y hy => ?_⟩
  obtain ⟨c, hc, nc, ⟨v, o, ho, hd⟩, hv⟩ := C.at_ y hy
  have one : ∀ {w : Option Value}, h.IsCell c w → h'.IsCell c w := fun ⟨o, ho, hd⟩ => by
    obtain ⟨sl, q⟩ := u.any ho nc (hx y c hc)
    exact ⟨_, q, hd⟩
  exact ⟨c, hc, u.free c o ho nc (hx y c hc), ⟨v, one ⟨o, ho, hd⟩⟩, fun i v e1 e2 => let ⟨w, r, z⟩ := hv i v e1 e2; ⟨w, r, one z⟩⟩
/-- the maker's names, from another place -/
abbrev _root_.L2.Cx.as (Y : Cx) (N : List Str) (e : Env) : Cx := { Y with N := N, env := e }
section
variable {Y : Cx} {Nd : List Str} {ed : Env} {σd : L2.St} {HZ : Hp} {s1 : Shared}
theorem lam_startC {A : Around} {outer : List Env} {E : XK} {scope : Scope} {f d : Addr} {h1 : Heap} {tk : Nat} (C : CellsAt ed.cells scope Nd σd HZ s1.heap) (L : LamS ed.scope scope) (hlen : σd.length = Nd.length) (e0 : Env0 Y.prog Y.w Y.K Y.mg Y.base A outer s1 HZ) (hd : A.handled = none)
    (new : h1.Ns s1.heap.objs.size fun y => ([] : List (Str × Value)).reverse.lookup y) (kp : ∀ b o, s1.heap.get? b = some o → h1.get? b = some o) :
    Inv (lamCx (Y.as Nd ed) A outer s1 HZ E scope f d) [] σd HZ { s1 with heap := h1, toks := tk } := by
  have from_ : ∀ {y c}, (cloFrom ed.cells scope.names []).lookup y = some c → (y, NameKind.free) ∈ scope.names ∧ ed.cells.lookup y = some c := fun {y c} e => by
    rcases cloFrom_mem (PySem.mem_of_lookup e) with z | ⟨z1, z2⟩
    · cases z
    · obtain ⟨c1, hc, _⟩ := C.at_ y z1
      refine ⟨z1, ?_⟩
      rw [z2, hc]
      rfl
  have into : ∀ {y}, scope.names.lookup y = some .free → ∃ c, (cloFrom ed.cells scope.names []).lookup y = some c := fun {y} e =>
    mem_lookup (cloFrom_has (cells := ed.cells) (acc := []) (PySem.mem_of_lookup e))
  have none_ : ∀ b : Addr, b ∉ (lamCx (Y.as Nd ed) A outer s1 HZ E scope f d).ex := fun b z => by cases (show b ∈ ([] : List Addr) from z)
  have ok : (lamCx (Y.as Nd ed) A outer s1 HZ E scope f d).Ok := by
    refine ⟨e0.mod, L.kind, rfl, rfl, Nat.le_refl _, fun y z c e1 e2 => C.inj y z c (from_ e1).2 (from_ e2).2, fun y hy => ?_, fun y c z _ => ?_, fun _ => hd, Around.frames_deeper e0.frames, .inr ⟨rfl, rfl⟩, fun b z => absurd z (none_ b), e0.bs, e0.bsz, fun b _ _ => none_ b, fun b z => absurd z (none_ b), e0.funs, e0.frf⟩
    · have hy : scope.names.lookup y = some .cell ∨ scope.names.lookup y = some .free := hy
      rcases hy with z | z
      · exact absurd rfl (L.own _ (PySem.mem_of_lookup z)).2
      · exact into z
    · have z : false = true := z
      cases z
  refine ⟨ok, rfl, e0.bare, Un.kept kp, ⟨_, new, fun i y v e1 e2 e3 => ?_⟩, fun y c e => ?_, e0.hok.fresh (Nat.le_refl _), fun y c e => ?_, fun p hp => (by cases (show p ∈ ([] : List (Addr × Obj)) ++ [] from hp)), e0.hok.kept kp, hlen⟩
  · have e3 : Vis scope y := e3
    rcases e3 with z | z | z
    · exact absurd rfl (L.own _ (PySem.mem_of_lookup z)).1
    · exact absurd rfl (L.own _ (PySem.mem_of_lookup z)).2
    · obtain ⟨c, hc⟩ := into z
      obtain ⟨c2, hc2, _, _, hv⟩ := C.at_ y (PySem.mem_of_lookup z)
      rw [(from_ hc).2] at hc2
      cases hc2
      obtain ⟨u, r, hz⟩ := hv i v e1 e2
      exact ⟨u, r, .inr ⟨.inr z, c, hc, hz.keeps kp⟩⟩
  · obtain ⟨z1, z2⟩ := from_ e
    obtain ⟨c2, hc2, _, ⟨v, hv⟩, _⟩ := C.at_ y z1
    rw [z2] at hc2
    cases hc2
    exact ⟨v, hv.keeps kp⟩
  · obtain ⟨z1, z2⟩ := from_ e
    obtain ⟨c2, hc2, n, _⟩ := C.at_ y z1
    rw [z2] at hc2
    cases hc2
    exact n
/-- what is known of a lambda's text: its body's reading -/
structure LamK (X : Cx) (k : Nat) (l : LamT) (t : XK → TE) : Prop where
  sc : LamS X.env.scope l.scope
  bind : ∀ (q : Str) (cl : List (Str × Addr)) (pm cv ctv : Value), bindArgs (PySem.W.kla_fn "<lambda>" q l.params l.body l.scope cl pm cv ctv) ⟨[], []⟩ = pure []
  body : ∀ (A : Around) (outer : List Env) (s : Shared) (H : Hp) (E : XK) (f d : Addr), Room k (A.deeper (lamEnv X l.scope s.heap.objs.size f d)) → PE (lamCx X A outer s H E l.scope f d) l.body (t E)
/-- a(), in the def that got the lambda -/
theorem pe_actC {CXg : CXT} {Eg : XK} {Ng : List Str} {qg q : Str} {sg : Scope} {g f d : Addr} {cdg : Value} {l : LamT} {t : XK → TE} {k i : Nat} {a : Str} {s : Shared} {H : Hp} {pn : List (Addr × Obj)} {xe : Value → Shared → Prop} {W : WX} {E : XK} {p1 p2 : Pos} (lk : LamK (Y.as Nd ed) k l t) (hlen : σd.length = Nd.length)
    (C : CellsAt ed.cells l.scope Nd σd H s.heap) (eq : q = ed.qual ++ "<lambda>") (tk : Takes ((cxOf CXg Y.prog Y.w Y.K Y.mg Y.base Ng qg sg g cdg Y.A Y.stack s H Eg).tr pn xe) W) (hW : ∀ cls d σ' H', E cls d H' → W cls d σ' H') (hr : Room (k + 1) (Y.A.deeper (envOfC qg sg s.heap.objs.size g cdg)))
    (hN : Ng[i]? = some a) (hv : Vis sg a) (hd : (a == ("__debug__" : Str)) = false := by decide) (hcd : (a == ("__classdict__" : Str)) = false := by decide) :
    PE ((cxOf CXg Y.prog Y.w Y.K Y.mg Y.base Ng qg sg g cdg Y.A Y.stack s H Eg).tr pn xe) (.Call (.Name a p1) [] [] p2)
      (fun σZ HZ Q => σZ[i]? = some (some (.ref f)) ∧ HZ d = some (CodeO d q) ∧ HZ f = some (LamO f d q (cloFrom ed.cells l.scope.names []) l) ∧ t E σd HZ Q) := by
  subst eq
  refine ⟨fun pz sz σz HZ Q IZ ⟨w1, w2, w3, w4⟩ => ?_⟩
  refine wpAny_Call_Name_kw (thn ((pe_var (pos := p1) (i := i) hN hv hd hcd).run pz sz σz HZ (fun v H1 => v = .ref f ∧ H1 = HZ) IZ ⟨.ref f, w1, rfl, rfl⟩) fun u s1 ⟨v, H1, I1, r1, ⟨ev, eH⟩⟩ => ?_)
  subst ev
  subst eH
  obtain rfl : u = Value.ref f := r1
  obtain ⟨⟨pm, ctv, ho⟩, _, _⟩ := I1.hok f _ w3
  obtain ⟨⟨oc, vs, tq, oc1, oc2, oc3⟩, _, _⟩ := I1.hok d _ w2
  have un : Un (frs Y.stack) [] H H1 s.heap s1.heap := I1.base
  have C1 := C.un un (fun _ _ _ z => by cases z)
  refine PySem.W.callWith_F0 ⟨_, _, _, _, ho⟩ ?_
  have run : codeAny (model Y.prog Y.w) (Y.A.deeper (envOfC qg sg s.heap.objs.size g cdg)) (.call (.ref f) ⟨[], []⟩) (CR (L2.CX Y.prog Y.w) (envOfC qg sg s.heap.objs.size g cdg :: Y.stack) Y.prog Y.w H1 s1 Q E) s1 := by
    refine PySem.W.kla_callFunE hr.depth ho rfl lk.sc.co lk.sc.gen rfl ⟨d, oc, vs, tq, rfl, oc1, oc2, oc3⟩ ?_
    rw [lk.bind]
    refine wpAny_pure (wpAny_newFunctionEnv (fun y hy => (lk.sc.own y hy).2) (fun y hy => by cases hy) (fun h1 new but => ⟨I1.nolimit.fresh _ but, ?_⟩) lk.sc.kind)
    show codeAny _ _ (.expr l.body (lamEnv (Y.as Nd ed) l.scope s1.heap.objs.size f d)) _ _
    have kp : ∀ b o, s1.heap.get? b = some o → h1.get? b = some o := fun b o e => but.extBut b o (Nat.ne_of_lt (Heap.lt_size e)) (Heap.get?_push_of_some _ e)
    have J := lam_startC (Y := Y) (A := Y.A.deeper (envOfC qg sg s.heap.objs.size g cdg)) (outer := envOfC qg sg s.heap.objs.size g cdg :: Y.stack) (E := E) (f := f) (d := d) (tk := s1.toks + ([] : List (Str × Value)).length) C1 lk.sc hlen I1.env0 hr.hd new kp
    refine PySem.W.kla_codeExpr (wpAny_mono ((lk.body _ _ s1 H1 E f d (hr.deeper _)).run [] _ _ H1 Q J w4) (fun v s' hq => ?_) fun e s' hq => hq)
    obtain ⟨w', H', J', rv, q⟩ := hq
    exact ⟨w', H', J'.os, J'.bare, J'.base, J'.hok, rv, q⟩
  have hx : Passes (L2.CX Y.prog Y.w) ((cxOf CXg Y.prog Y.w Y.K Y.mg Y.base Ng qg sg g cdg Y.A Y.stack s H Eg).tr pn xe) E := passes_call tk hW
  refine wpAny_call (codeAny_mono run fun r s' hq => ?_)
  match r, hq with
  | .error e, hq => exact hx pz σz H1 s1 e s' I1 hq
  | .ok (.ret u), hq => exact I1.after hq
/-- x(e), e a lambda that was made before -/
def tKV (te : TE) (ls : List (LamT × (XK → TE))) (q : Str) (cells : List (Str × Addr)) (σd : L2.St) (TT : (XK → Hp → VK → Prop) → Hp → VK → Prop) : TE := fun σ H Q => te σ H fun v H1 => ∃ (f d : Addr) (l : LamT) (t : XK → TE), v = .ref f ∧ (l, t) ∈ ls ∧
  H1 d = some (CodeO d q) ∧ H1 f = some (LamO f d q (cloFrom cells l.scope.names []) l) ∧ TT (fun E H' Q' => H' f = some (LamO f d q (cloFrom cells l.scope.names []) l) ∧ t E σd H' Q') H1 Q
theorem pe_kindV {TT : (XK → Hp → VK → Prop) → Hp → VK → Prop} {ls : List (LamT × (XK → TE))} {x a q : Str} {k : Nat} {st : Stmt} {Ng : List Str} {e : Expr} {te : TE} {p pos : Pos} (D : FnL Y.K Y.mg x st) (hg : Gl Y x)
    (hb : ∀ (kV doc pm : Value) (an : Option Addr) (cdv ct : Value) (us : List Value), us.length = [a].length → bindArgs (PySem.W.fnOf x x (defArgs st) (defBody st) (defScope st) .none kV doc pm an cdv ct) ⟨us, []⟩ = pure ([a].zip us))
    (Sg : FnScope Ng [a] (defScope st)) (hNg : Ng[0]? = some a) (hva : Vis (defScope st) a) (hG : ∀ (g : Addr) (cdv : Value), LamX.GivesTo Y Ng x (defScope st) g cdv (defBody st) a q TT) (eq : q = ed.qual ++ "<lambda>") (hr : Room (k + 2) Y.A) (lks : ∀ p ∈ ls, LamK (Y.as Nd ed) k p.1 p.2) (hlen : σd.length = Nd.length)
    (hC : ∀ (pins : List (Addr × Obj)) (σ' : L2.St) (H' : Hp) (s' : Shared), Inv Y pins σ' H' s' → ∀ p ∈ ls, CellsAt ed.cells p.1.scope Nd σd H' s'.heap) (he : PE Y e te)
    (hst : starEach [e] Y.env = (false, eval e Y.env) :: starEach [] Y.env := by rfl) (hdb : (x == ("__debug__" : Str)) = false := by decide) (hd : (a == ("__debug__" : Str)) = false := by decide) (hcd : (a == ("__classdict__" : Str)) = false := by decide) :
    PE Y (.Call (.Name x p) [e] [] pos) (tKV te ls q ed.cells σd TT) := by
  obtain ⟨g, oc, od, kV, doc, pm, an, cdv, ct, osl, lk, hcg, hk, hm⟩ := D.ex
  refine ⟨fun pins s σ H Q I h => wpAny_Call_Name_kw (ld_glob I hg hm ?_ hdb)⟩
  refine PySem.W.callWith_K (h₀ := Y.base) I.ok.mod.kin hk ?_ hst (by rfl)
  rw [hst]
  show wpAny _ _ (spliced ((false, eval e Y.env) :: backTo pos (starEach [] Y.env))) _ _ s
  refine Calls.spliced_cons (thn (he.run pins s σ H _ I h) fun u s1 ⟨v, H1, I1, r1, f, d, l, t, ev, hl, h2, h3, h4⟩ => ?_)
  subst ev
  obtain rfl : u = Value.ref f := r1
  refine Calls.spliced_nil ⟨I1.kIn, ?_⟩
  have run : codeAny (model Y.prog Y.w) Y.A (.call (.ref g) ⟨[.ref f], []⟩) (CR C8.CX0 Y.stack Y.prog Y.w H1 s1 Q C8.E0) s1 := by
    refine LamX.run_ofS (N := Ng) (ps := [a]) (us := [.ref f]) (vs := [.ref f]) lk hcg Sg hr I1.env0 (Binds.all (fun us hl => hb kV doc pm an cdv ct us hl) s1 [.ref f] I1.kIn rfl) (.cons rfl .nil) rfl fun hr' => ?_
    obtain ⟨t', ht', hq'⟩ := hG g cdv f d s1 H1 Q (fun E H' Q' => H' f = some (LamO f d q (cloFrom ed.cells l.scope.names []) l) ∧ t E σd H' Q')
      (fun W pn xe E p1 p2 tk hW => pe_actC (i := 0) (lks _ hl) hlen (hC _ _ _ _ I1 _ hl) eq tk hW hr' hNg hva hd hcd) h2 h4
    exact ⟨t', ht'.nox, hq'⟩
  refine wpAny_call (codeAny_mono run fun r s2 hq => ?_)
  match r, hq with
  | .ok (.ret u), hq => exact I1.after hq
end
end My
namespace My
open PySem PySem.Spec PyProof.Rows L2
open LamX (Tabs TabS CodeO ExtN TabB LamS lamEnv lamCx)
/-! ### what a frame's cells hold, once it is left -/
/-- the cell at c holds v, for good -/
def CellO (c : Addr) (v : V) : HO := .ext fun h => ∃ u, RelV v u ∧ h.IsCell c (some u)
theorem cellO_ok {P : Program} {w : World} {H : Hp} {h : Heap} {c : Addr} {v : V} {u : Value} (r : RelV v u) (x : h.IsCell c (some u)) : ObjOk P w H h c (CellO c v) := by
  obtain ⟨o, e, d⟩ := x
  exact ⟨⟨u, r, o, e, d⟩, ⟨o, e⟩, fun h1 h2 ⟨u', r', o', e', d'⟩ st => ⟨u', r', o', st _ e', d'⟩⟩
/-- H2 is H1 with the cells of the frame told -/
structure Left (N : List Str) (sc : Scope) (cells : List (Str × Addr)) (σ : L2.St) (H1 H2 : Hp) : Prop where
  at_ : ∀ (y : Str) (c : Addr) (i : Nat) (v : V), sc.names.lookup y = some .cell → cells.lookup y = some c → N[i]? = some y → σ[i]? = some (some v) → H2 c = some (CellO c v)
  same : Same H1 H2
  inj : ∀ x y c, cells.lookup x = some c → cells.lookup y = some c → x = y
/-- statements that end with a return, the slots told at it -/
structure PSsD (X : Cx) (sts : List Stmt) (t : L2.St → Hp → (L2.St → V → Hp → Prop) → Prop) : Prop where
  run : ∀ (pins : List (Addr × Obj)) (s : Shared) (σ : L2.St) (H : Hp) (R : L2.St → V → Hp → Prop), Inv X pins σ H s → t σ H R → wpAny (model X.prog X.w) X.A (execs sts X.env) (fun f s' => ∃ u v σ' H', f = .ret u ∧ Inv X pins σ' H' s' ∧ RelV v u ∧ R σ' v H') X.xe s
theorem pd_ret {X : Cx} {e : Expr} {te : TE} {pos : Pos} (he : PE X e te) : PSsD X [.Return (some e) pos] (fun σ H R => te σ H fun v H' => R σ v H') :=
  ⟨fun pins s σ H R I h => wpAny_execs_cons (wpAny_Return_some (thn (he.run pins s σ H _ I h) fun u s1 ⟨v, H1, I1, r, q⟩ => ⟨u, v, σ, H1, rfl, I1, r, q⟩))⟩
theorem pd_cons {X : Cx} {st : Stmt} {rest : List Stmt} {t : TS} {td : L2.St → Hp → (L2.St → V → Hp → Prop) → Prop} (h1 : PS X st t) (h2 : PSsD X rest td) :
    PSsD X (st :: rest) (fun σ H R => t { nx := fun σ' H' => td σ' H' R, rt := fun _ _ => False } σ H) :=
  ⟨fun pins s σ H R I h => wpAny_execs_cons (thn (h1.run pins s σ H _ I h) fun f s1 q => by
    match f, q with
    | .next, ⟨σ', H', I', q⟩ => exact h2.run pins s1 σ' H' R I' q
    | .ret _, ⟨_, _, _, _, _, z⟩ => exact z.elim
    | .brk, ⟨_, _, _, z⟩ => exact z.elim
    | .cont, ⟨_, _, _, z⟩ => exact z.elim)⟩
/-- the cells told -/
theorem left_of {CX : CXT} {P : Program} {w : World} {K : PySem.W.Frag} {mg : Str → Option Value} {base : Heap} {N ps : List Str} {qual : Str} {scope : Scope} {f : Addr} {cd : Value} {A : Around} {outer : List Env} {s s' : Shared} {H H1 : Hp} {E : XK} {σ : L2.St} (S : FnScope N ps scope)
    (J : Inv (cxOf CX P w K mg base N qual scope f cd A outer s H E) [] σ H1 s') : ∃ H2, Left N scope (envOfC qual scope s.heap.objs.size f cd).cells σ H1 H2 ∧ Un (frs outer) [] H H2 s.heap s'.heap ∧ HOk P w H2 s'.heap := by
  let is (b : Addr) (v : V) : Prop := ∃ (y : Str) (i : Nat), scope.names.lookup y = some .cell ∧ (envOfC qual scope s.heap.objs.size f cd).cells.lookup y = some b ∧ N[i]? = some y ∧ σ[i]? = some (some v)
  have one : ∀ {b v v'}, is b v → is b v' → v = v' := fun {b v v'} ⟨y, i, _, a2, a3, a4⟩ ⟨y', i', _, b2, b3, b4⟩ => by
    have e : y = y' := J.ok.inj _ _ _ a2 b2
    subst e
    have e2 : i = i' := nodup_ix S.nd a3 b3
    subst e2
    rw [a4] at b4
    cases b4
    rfl
  have fresh : ∀ {b v}, is b v → s.heap.objs.size ≤ b ∧ H1 b = none ∧ ∃ u, RelV v u ∧ s'.heap.IsCell b (some u) := fun {b v} ⟨y, i, a1, a2, a3, a4⟩ => by
    refine ⟨J.ok.cab y b rfl a2, J.freeC y b a2, ?_⟩
    obtain ⟨m, _, hl⟩ := J.loc
    obtain ⟨u, r, q⟩ := hl i y v a3 a4 (.inr (.inl a1))
    refine ⟨u, r, ?_⟩
    rcases q with ⟨z, _⟩ | ⟨_, c2, z, hz⟩
    · have z : scope.names.lookup y = some .local := z
      rw [a1] at z
      cases z
    · have z : (envOfC qual scope s.heap.objs.size f cd).cells.lookup y = some c2 := z
      rw [a2] at z
      cases z
      exact hz
  classical
  refine ⟨fun b => if h : ∃ v, is b v then some (CellO b h.choose) else H1 b, ?_⟩
  have told : ∀ {b v}, is b v → (fun b => if h : ∃ v, is b v then some (CellO b h.choose) else H1 b) b = some (CellO b v) := fun {b v} h => by
    have hx : ∃ v, is b v := ⟨v, h⟩
    show (if h : ∃ v, is b v then some (CellO b h.choose) else H1 b) = _
    rw [dif_pos hx, one hx.choose_spec h]
  have rest : ∀ {b}, (¬ ∃ v, is b v) → (fun b => if h : ∃ v, is b v then some (CellO b h.choose) else H1 b) b = H1 b := fun {b} h => dif_neg h
  have same : Same H1 (fun b => if h : ∃ v, is b v then some (CellO b h.choose) else H1 b) := fun b o e => by
    rw [rest (b := b) (fun ⟨v, h⟩ => by rw [(fresh h).2.1] at e; cases e)]
    exact e
  have un : Un (frs outer) [] H H1 s.heap s'.heap := J.base
  refine ⟨⟨fun y c i v a1 a2 a3 a4 => told ⟨y, i, a1, a2, a3, a4⟩, same, J.ok.inj⟩, ⟨un.keep, un.slot, fun b o e n hx => ?_, un.there, fun b xs e => same _ _ (un.tups b xs e), fun b o u e => same _ _ (un.frzs b o u e), fun b ps e => ?_⟩, fun b o e => ?_⟩
  · exact (rest (b := b) (fun ⟨v, h⟩ => absurd (Heap.lt_size e) (Nat.not_lt.mpr (fresh h).1))).trans (un.free b o e n hx)
  · obtain ⟨more, z⟩ := un.tbls b ps e
    exact ⟨more, same _ _ z⟩
  · by_cases hb : ∃ v, is b v
    · obtain ⟨v, h⟩ := hb
      rw [told h] at e
      cases e
      obtain ⟨_, _, u, r, z⟩ := fresh h
      exact cellO_ok r z
    · rw [rest hb] at e
      exact (J.hok b o e).stay (fun c u _ z => z) (fun c z => same _ _ z) (fun c xs z => same _ _ z)
theorem Knows.mkDead {P : Program} {w : World} {K : PySem.W.Frag} {mg : Str → Option Value} {base : Heap} {x : Str} {st : Stmt} {c : Addr} {N ps : List Str} {k : Nat} {sp : Sp} (D : FnC K mg x st c) (S : FnScope N ps (defScope st))
    (hb : ∀ (kV doc pm : Value) (an : Option Addr) (cdv ct : Value) (us : List Value), us.length = ps.length → bindArgs (PySem.W.fnOf x x (defArgs st) (defBody st) (defScope st) .none kV doc pm an cdv ct) ⟨us, []⟩ = pure (ps.zip us)) (len : ∀ vs H Q E, sp vs H Q E → vs.length = ps.length)
    (hbody : ∀ (f : Addr) (A : Around) (outer : List Env) (s : Shared) (H : Hp) (vs : List V) (Q : VK) (E : XK), Room k (A.deeper (envOfC x (defScope st) s.heap.objs.size f (.ref c))) → sp vs H Q E →
      ∃ t, PSsD (cxOf (L2.CX P w) P w K mg base N x (defScope st) f (.ref c) A outer s H E) (defBody st) t ∧ t (start N vs) H (fun σ v H1 => ∀ H2, Left N (defScope st) (envOfC x (defScope st) s.heap.objs.size f (.ref c)).cells σ H1 H2 → Q v H2)) : Knows P w K mg base (k + 1) x ps sp := by
  obtain ⟨f, oc, od, kV, doc, pm, an, ct, osl, lk, hcd, hk, hm⟩ := D.ex
  refine ⟨f, _, ⟨len, fun A outer s H args us vs Q E hr e0 hbd r hsp => ?_⟩, hm, hk, Binds.all fun us hl => hb kV doc pm an (.ref c) ct us hl⟩
  have KX : K.In s.heap := e0.mod.kin.keeps fun b o e => (e0.bs b o e).1
  have lim : s.heap.NoLimit := e0.mod.nolimit.keeps fun b o e => (e0.bs b o e).1
  have kinds : ∀ y ∈ ps.zip us, (defScope st).names.lookup y.1 = some .local ∨ ((defScope st).names.lookup y.1 = some .cell ∧ ((cellsFrom (s.heap.objs.size + 1) (defScope st).names []).lookup y.1).isSome = true) := fun y hy =>
    (S.par y.1 (List.of_mem_zip hy).1).imp id fun q => ⟨q, PySem.W.cellsFrom_some _ _ _ (.inl q)⟩
  refine codeAny_call_function hr.depth (KX _ _ lk) rfl S.co S.gen rfl (PySem.W.codeRec_of KX hcd) (hbd _ _ _ _ (wpAny_newFunctionEnv_cells S.kind kinds fun env he s1 x => ?_))
  subst he
  refine ⟨lim.keeps x.toInCall.keep, codeAny_func ?_⟩
  obtain ⟨t, ht, hq⟩ := hbody f A outer s H vs Q E (hr.deeper _) hsp
  refine wpAny_mono (ht.run [] s1 (start N vs) H _ (inv_start S hr.hd e0 (len _ _ _ _ hsp) r x) hq) (fun fl s' ⟨u, v, σ', H1, ef, J, rv, q⟩ => ?_) fun e s' hs => hs
  subst ef
  obtain ⟨H2, L, un, hok⟩ := left_of S J
  exact ⟨v, H2, J.os, J.bare, un, hok, rv, q H2 L⟩
/-! ### the heap without such cells -/
open Classical in
noncomputable def strip (H : Hp) : Hp := fun b => if ∃ v, H b = some (CellO b v) then none else H b
open Classical in
noncomputable def putBack (H H2 : Hp) : Hp := fun b => if ∃ v, H b = some (CellO b v) then H b else H2 b
section
variable {H H2 : Hp} {b : Addr} {o : HO}
theorem strip_no (h : ¬ ∃ v, H b = some (CellO b v)) : strip H b = H b := if_neg h
theorem strip_yes (h : ∃ v, H b = some (CellO b v)) : strip H b = none := if_pos h
theorem strip_none (h : H b = none) : strip H b = none := (strip_no (fun ⟨v, z⟩ => by rw [h] at z; cases z)).trans h
theorem strip_at (h : H b = some o) (n : ∀ φ, o ≠ .ext φ) : strip H b = some o := (strip_no (fun ⟨v, z⟩ => by rw [h] at z; exact n _ (Option.some.inj z))).trans h
theorem back_no (h : ¬ ∃ v, H b = some (CellO b v)) : putBack H H2 b = H2 b := if_neg h
theorem back_yes (h : ∃ v, H b = some (CellO b v)) : putBack H H2 b = H b := if_pos h
theorem of_strip (h : strip H b = some o) : H b = some o ∧ ¬ ∃ v, H b = some (CellO b v) := by
  by_cases z : ∃ v, H b = some (CellO b v)
  · rw [strip_yes z] at h; cases h
  · rw [strip_no z] at h; exact ⟨h, z⟩
theorem strip_tup {a : Addr} {xs : List V} (h : H a = some (.tup xs)) : strip H a = some (.tup xs) := strip_at h (fun _ z => by cases z)
theorem strip_own {a : Addr} (h : H a = some (.own b)) : strip H a = some (.own b) := strip_at h (fun _ z => by cases z)
theorem strip_ok {P : Program} {w : World} {h : Heap} (k : HOk P w H h) : HOk P w (strip H) h := fun b o e => by
  obtain ⟨e1, _⟩ := of_strip e
  exact (k b o e1).stay (fun c u _ z => z) (fun c z => strip_own z) (fun c xs z => strip_tup z)
end
section
variable {Y : Cx} {pins : List (Addr × Obj)} {σ : L2.St} {H1 : Hp} {s1 : Shared}
theorem Inv.env0S (I : Inv Y pins σ H1 s1) : Env0 Y.prog Y.w Y.K Y.mg Y.base Y.A Y.stack s1 (strip H1) := by
  have e := I.env0
  exact ⟨e.frames, e.mod, fun b o z => ⟨(e.bs b o z).1, strip_none (e.bs b o z).2⟩, e.bsz, e.funs, fun b z => strip_none (e.frf b z), strip_ok e.hok, e.bare⟩
/-- behind a call that ran without them -/
theorem Inv.afterS {Q : VK} {u : Value} {s2 : Shared} (I : Inv Y pins σ H1 s1) (h : CE Y.stack Y.prog Y.w (strip H1) s1 (fun v H2 => (∀ b, (∃ v, H1 b = some (CellO b v)) → H2 b = none) → Q v (putBack H1 H2)) u s2) : EP Y pins σ Q u s2 := by
  obtain ⟨v, H2, os, bare, un, hok, r, q⟩ := h
  have there : ∀ b, (∃ v, H1 b = some (CellO b v)) → ∃ o, s1.heap.get? b = some o := fun b ⟨v, z⟩ => by
    obtain ⟨_, z2, _⟩ := I.hok b _ z
    exact z2
  have gone : ∀ b, (∃ v, H1 b = some (CellO b v)) → H2 b = none := fun b z => by
    obtain ⟨o, e⟩ := there b z
    exact un.free b o e (strip_yes z) (fun z => by cases z)
  have kept : ∀ {b o}, strip H1 b = some o → H2 b = some o → putBack H1 H2 b = some o := fun {b o} e1 e2 => (back_no (of_strip e1).2).trans e2
  have un2 : Un (frs Y.stack) [] H1 (putBack H1 H2) s1.heap s2.heap := by
    refine ⟨fun b o e n => un.keep b o e (strip_none n), fun b o e n => un.slot b o e (strip_none n), fun b o e n hx => ?_, un.there, fun b xs e => ?_, fun b o u e => ?_, fun b ps e => ?_⟩
    · exact (back_no (fun ⟨v, z⟩ => by rw [n] at z; cases z)).trans (un.free b o e (strip_none n) hx)
    · exact kept (strip_tup e) (un.tups b xs (strip_tup e))
    · have z := strip_at e (fun _ z => by cases z)
      exact kept z (un.frzs b o u z)
    · have z := strip_at e (fun _ z => by cases z)
      obtain ⟨more, m⟩ := un.tbls b ps z
      exact ⟨more, (back_no (of_strip z).2).trans m⟩
  have hok2 : HOk Y.prog Y.w (putBack H1 H2) s2.heap := fun b o e => by
    by_cases z : ∃ v, H1 b = some (CellO b v)
    · rw [back_yes z] at e
      obtain ⟨ob, e1⟩ := there b z
      have e2 := un.keep b ob e1 (strip_yes z) (fun y => by
        have n := I.stkFree b y
        rw [e] at n
        cases n) (fun z => by cases z)
      obtain ⟨v, z⟩ := z
      rw [e] at z
      cases z
      obtain ⟨f1, _, f3⟩ := I.hok b _ e
      exact ⟨f3 _ _ f1 (fun o' y => by rw [e1] at y; cases y; exact e2), ⟨ob, e2⟩, f3⟩
    · rw [back_no z] at e
      have mv : ∀ c o, H2 c = some o → putBack H1 H2 c = some o := fun c o y => (back_no (fun z => by rw [gone c z] at y; cases y)).trans y
      exact (hok b o e).stay (fun c u _ z => z) (fun c z => mv _ _ z) (fun c xs z => mv _ _ z)
  exact I.after ⟨v, putBack H1 H2, os, bare, un2, hok2, r, q gone⟩
end
end My
namespace My
open PySem PySem.Spec PyProof.Rows L2
/-! ### a comprehension whose item may lean on the state at its start -/
section
variable {X : Cx}
theorem pe_lcX {elt tg iter : Expr} {scope : Scope} {own : List (Str × Nat)} {pos : Pos} {wi : TI} {g : TG} {te : L2.St → TE} (calm : X.calm = true) (nd : X.N.Nodup) (hi : PI X tg iter wi) (ok : BlkOk X.N X.env.scope scope own)
    (hg : ∀ (s : Shared) (H : Hp) (C : Addr) (cl : List (Str × Addr)) (fp : List Addr), PG (X.blk s H scope (compEnvC scope cl C X.env) fp) tg g)
    (he : ∀ (pins : List (Addr × Obj)) (σ : L2.St) (s : Shared) (H : Hp) (C : Addr) (cl : List (Str × Addr)) (fp : List Addr), Inv X pins σ H s → (∀ b ∈ fp, FpOk X pins H b) → PE (X.blk s H scope (compEnvC scope cl C X.env) fp) elt (te σ))
    (hs : ∀ x, foldedSetIterable iter X.env x = pure x := by intro _; rfl) : PE X (.ListComp elt [⟨tg, iter, [], 0⟩] scope pos) (fun σ H Q => tLc wi g tYes (te σ) (own.map (·.2)) σ H Q) := by
  refine ⟨fun pins s σ H Q I h => ?_⟩
  rw [eval_ListComp]
  have frees : ∀ y ∈ scope.names, y.2 = .free → ∃ c, X.env.cells.lookup y.1 = some c := fun y hy e => I.ok.has _ (ok.free y hy e)
  refine wpAny_comprehension_free (use := none) rfl hs (closure_ok frees) ok.kind (fun y hy e => (ok.uniq y hy).trans (congrArg some e)) (thn (hi.run pins s σ H _ I h) fun xv sa ha => thn ha fun itv sb hb => ?_)
  obtain ⟨it, fp, tn, J, Hb, rfl, Ib, T, tb, fb, q⟩ := hb
  refine wpAny_newObj_type (newEnv_comp ?_) (Nat.zero_le _)
  obtain ⟨D, hD⟩ : ∃ D, D = sb.heap.objs.size := ⟨_, rfl⟩
  have freeD : Hb D = none := Ib.hok.fresh (Nat.le_of_eq hD.symm)
  obtain ⟨W, ⟨m0, w0⟩, turn⟩ := q D freeD
  obtain ⟨s3, e3⟩ : ∃ s3 : Shared, s3 = { sb with heap := sb.heap.push { cls := .type "list", data := .seq ([] : List Value).toArray } } := ⟨_, rfl⟩
  obtain ⟨H3, eH⟩ : ∃ H3 : Hp, H3 = upd Hb D (.lst []) := ⟨_, rfl⟩
  have I3 : Inv X pins σ H3 s3 := by
    subst e3 eH hD
    exact Ib.laid (t' := sb.toks) (fun b o e => Heap.get?_push_of_some _ e) (Nat.le_refl _) ⟨Nat.zero_le _, [], 0, .nil, Heap.get?_push_size _ rfl⟩
  have f3 : ∀ b ∈ fp, FpOk X pins H3 b ∧ b < s3.heap.objs.size := fun b hb => by
    obtain ⟨o, e, _⟩ := T.obj _ _ tb b hb
    have lt := Heap.lt_size e
    subst e3 eH hD
    refine ⟨⟨?_, (fb b hb).2⟩, Nat.lt_of_lt_of_eq (Nat.lt_succ_of_lt lt) (Heap.size_push ..).symm⟩
    rw [upd_ne (Nat.ne_of_lt lt)]
    exact (fb b hb).1
  have t3 : tn 0 s3.heap := T.keep _ _ _ tb fun b _ o e => by
    subst e3
    exact Heap.get?_push_of_some _ e
  rw [← e3, ← hD]
  rw [← eH] at w0
  have I4 := block_start I3 ok nd f3
  have PGe := hg s3 H3 s3.heap.objs.size (cellsFrom (s3.heap.objs.size + 1) scope.names (cloFrom X.env.cells scope.names [])) fp
  have PEe := he pins σ s3 H3 s3.heap.objs.size (cellsFrom (s3.heap.objs.size + 1) scope.names (cloFrom X.env.cells scope.names [])) fp I3 fun b hb => (f3 b hb).1
  show codeAny _ _ (.compStart (.ListComp elt [⟨tg, iter, [], 0⟩] scope pos) 0 (.ref it) (.ref D) (compEnvC scope (cellsFrom (s3.heap.objs.size + 1) scope.names (cloFrom X.env.cells scope.names [])) s3.heap.objs.size X.env)) _ _
  obtain ⟨ce, ee⟩ : ∃ ce, ce = compEnvC scope (cellsFrom (s3.heap.objs.size + 1) scope.names (cloFrom X.env.cells scope.names [])) s3.heap.objs.size X.env := ⟨_, rfl⟩
  have locE : ce.locals = s3.heap.objs.size := by rw [ee]; rfl
  rw [← ee] at I4 PGe PEe ⊢
  obtain ⟨s4, e4⟩ : ∃ s4 : Shared, s4 = { s3 with heap := pushCells (s3.heap.push { cls := .type "dict", data := .dict #[] }) scope.names } := ⟨_, rfl⟩
  have t4 : tn 0 s4.heap := T.keep _ _ _ t3 fun b _ o e => by
    subst e4
    exact pushCells_keeps _ _ _ _ (Heap.get?_push_of_some _ e)
  rw [← e4] at I4 ⊢
  have own_fp : ∀ {σ' : L2.St} {H' : Hp} {s' : Shared}, Inv (X.blk s3 H3 scope ce fp) [] σ' H' s' → (∀ b ∈ fp, H' b = none) → ∀ b ∈ fp, FpOk (X.blk s3 H3 scope ce fp) [] H' b := fun {σ' H' s'} I' hn b hb =>
    ⟨hn b hb, (I'.ok.exf b hb).1, I'.ok.exfs b hb, Or.inl hb, (I'.ok.exf b hb).2, fun p hp => by cases (show p ∈ ([] : List (Addr × Obj)) ++ [] from hp)⟩
  have loop : codeAny (model X.prog X.w) X.A (.compLoop (.ListComp elt [⟨tg, iter, [], 0⟩] scope pos) 0 (.ref it) (.ref D) ce) (compPost (model X.prog X.w) X.A X.xe none (EP X pins σ Q) (.ref D) s3.heap.objs.size) s4 := by
    refine compLoop_any (fun n s' => ∃ (i : Nat) (H' : Hp), Inv (X.blk s3 H3 scope ce fp) [] (wipe σ (own.map (·.2))) H' s' ∧ tn i s'.heap ∧ (∀ b ∈ fp, H' b = none) ∧ W i n H') ?_ m0 ⟨0, H3, I4, t4, fun b hb => (f3 b hb).1.1, w0⟩
    intro n s5 ⟨i, H5, I5, t5, n5, w5⟩
    rcases turn i n H5 w5 with ⟨stop, done⟩ | ⟨go, Nx, next, step⟩
    · refine thnF (T.done (X.blk s3 H3 scope ce fp) rfl rfl rfl calm i [] s5 _ H5 (fun _ _ => False) I5 (own_fp I5 n5) t5 stop) fun r s6 ⟨er, I6⟩ => ?_
      subst er
      have I7 : Inv X pins σ H5 s6 := I3.call' (ch := fp) I6.os I6.base I6.hok I6.bare fun b hb => let z := (f3 b hb).1.2; ⟨z.2.2.1, z.1, z.2.2.2.1, z.2.2.2.2⟩
      have nC : H5 s3.heap.objs.size = none := locE ▸ I6.free
      obtain ⟨m, ns, _⟩ := I6.loc
      have ns : s6.heap.Ns s3.heap.objs.size m := locE ▸ ns
      obtain ⟨g0, g1, g2, g3, g4, g5⟩ := I3.fpOk (Nat.le_refl _) nC
      exact ⟨m, ns, fun h2 but => ⟨.ref D, H5, I7.turned (t' := s6.toks) (fun b o hb e => (but.2 b hb).trans e) g0 g1 g3 g4 g5, rfl, done⟩⟩
    · refine thnF (T.item (X.blk s3 H3 scope ce fp) rfl rfl rfl calm i [] s5 _ H5 (fun _ _ => False) I5 (own_fp I5 n5) t5 go) fun r s6 ⟨u, er, h6⟩ => ?_
      subst er
      refine thnF h6 fun _ s7 ⟨x, H7, I7, r7, y7, t7, n7⟩ => ?_
      have I7p := I7.pinned (own_fp I7 n7) (T.obj _ _ t7)
      refine thnF (PGe.run _ s7 _ H7 x u _ I7p r7 (step x H7 y7)) fun _ s8 ⟨σ8, H8, I8, same, q8⟩ => wpAny_tests_nil ?_
      have q8 : te σ σ8 H8 fun y H4 => ∃ acc, H4 D = some (.lst acc) ∧ acc.length < sizeLine ∧ Nx (upd H4 D (.lst (acc ++ [y]))) := q8
      refine thnF (PEe.run _ s8 σ8 H8 _ I8 q8) fun z s9 ⟨yv, H9, I9, r9, acc, aD, small, nx⟩ => ?_
      refine app_ok (X := X.blk s3 H3 scope ce fp) I9 aD small r9 fun s10 I10 => ?_
      obtain ⟨m2, less, w2⟩ := next _ nx
      have kept : ∀ b ∈ fp, ∀ o, s7.heap.get? b = some o → s10.heap.get? b = some o ∧ upd H9 D (.lst (acc ++ [yv])) b = none := fun b hb o e =>
        have pz := I10.pin (b, o) (List.mem_append_right _ (List.mem_append_right _ (mem_pinsAt hb e)))
        ⟨pz.1, pz.2.1⟩
      refine ⟨m2, less, i + 1, _, (I10.unpinned (pins := [])).weak (by rw [← same, wipe_length]) (fun j v e => ?_), T.keep _ _ _ t7 fun b hb o e => (kept b hb o e).1, fun b hb => ?_, w2⟩
      · rw [← same] at e
        exact (wipe_some e).1
      · obtain ⟨o, e, _⟩ := T.obj _ _ t7 b hb
        exact (kept b hb o e).2
  exact codeAny_compStart_list loop (T.self X.A 0 _ _ _ t4 loop)
end
end My
namespace My
open PySem PySem.Spec PyProof.Rows L2
open LamX (Tabs TabS CodeO ExtN TabB LamS lamEnv lamCx)
/-! ### where a lambda stands in a text -/
def stAt (l : List Stmt) (i : Nat) : Stmt := l.getD i (.Pass ⟨0, 0, 0, 0⟩)
def forB : Stmt → List Stmt
  | .For _ _ b _ _ => b
  | _ => []
def valE : Stmt → Expr
  | .Assign _ e _ => e
  | .Expr e _ => e
  | _ => .Tuple [] 0 ⟨0, 0, 0, 0⟩
def subE : Expr → Nat → Expr
  | .List es _, i => es.getD i (.Tuple [] 0 ⟨0, 0, 0, 0⟩)
  | .Call _ es _ _, i => es.getD i (.Tuple [] 0 ⟨0, 0, 0, 0⟩)
  | e, _ => e
def lamT : Expr → LamT
  | .Lambda a b s _ => ⟨a, b, s⟩
  | e => ⟨defArgs (.Pass ⟨0, 0, 0, 0⟩), e, defScope (.Pass ⟨0, 0, 0, 0⟩)⟩
/-- pe_lamV, the lambda told by its name -/
theorem pe_lamW {X : Cx} {T : List (Addr × Str)} {c P : Addr} {q : Str} {l : LamT} {pos : Pos} (TB : TabB X.base X.mg c P) (hcode : X.env.code = .ref c) (eq : q = X.env.qual ++ "<lambda>") (mem : (P, q) ∈ T) (hq : ∀ p ∈ T, p.1 = P → p.2 = q) (L : LamS X.env.scope l.scope) (nodef : defaultsOf l.params X.env = ([], [])) :
    PE X (.Lambda l.params l.body l.scope pos) (tMk T q X.env.cells l) := by
  subst eq
  exact pe_lamV TB hcode mem hq L nodef
theorem LamK.as {X : Cx} {s : Shared} {H : Hp} {scope : Scope} {ce : Env} {fp : List Addr} {k : Nat} {l : LamT} {t : XK → TE} (h : LamK X k l t) : LamK ((X.blk s H scope ce fp).as X.N X.env) k l t := ⟨h.sc, h.bind, h.body⟩
/-- [x(e) for ..], e a lambda made in the same frame -/
theorem pe_kinds {X : Cx} {ls : List (LamT × (XK → TE))} {x a q : Str} {k : Nat} {st : Stmt} {Ng : List Str} {e tg iter : Expr} {te : TE} {wi : TI} {g : TG} {scope : Scope} {own : List (Str × Nat)} {p pos pos2 : Pos} {TT : (XK → Hp → VK → Prop) → Hp → VK → Prop} (calm : X.calm = true) (nd : X.N.Nodup) (D : FnL X.K X.mg x st)
    (hb : ∀ (kV doc pm : Value) (an : Option Addr) (cdv ct : Value) (us : List Value), us.length = [a].length → bindArgs (PySem.W.fnOf x x (defArgs st) (defBody st) (defScope st) .none kV doc pm an cdv ct) ⟨us, []⟩ = pure ([a].zip us)) (Sg : FnScope Ng [a] (defScope st)) (hNg : Ng[0]? = some a) (hva : Vis (defScope st) a)
    (hG : ∀ (Y : Cx) (g : Addr) (cdv : Value), Y.K = X.K → Y.mg = X.mg → LamX.GivesTo Y Ng x (defScope st) g cdv (defBody st) a q TT) (eq : q = X.env.qual ++ "<lambda>") (hr : Room (k + 2) X.A) (lks : ∀ p ∈ ls, LamK X k p.1 p.2) (hi : PI X tg iter wi) (ok : BlkOk X.N X.env.scope scope own)
    (gl : ∀ (s : Shared) (H : Hp) (C : Addr) (cl : List (Str × Addr)) (fp : List Addr), Gl (X.blk s H scope (compEnvC scope cl C X.env) fp) x) (hg : ∀ (s : Shared) (H : Hp) (C : Addr) (cl : List (Str × Addr)) (fp : List Addr), PG (X.blk s H scope (compEnvC scope cl C X.env) fp) tg g)
    (he : ∀ (s : Shared) (H : Hp) (C : Addr) (cl : List (Str × Addr)) (fp : List Addr), PE (X.blk s H scope (compEnvC scope cl C X.env) fp) e te) (hst : ∀ env, starEach [e] env = (false, eval e env) :: starEach [] env := by intro _; rfl) (hs : ∀ x, foldedSetIterable iter X.env x = pure x := by intro _; rfl)
    (hdb : (x == ("__debug__" : Str)) = false := by decide) (hd : (a == ("__debug__" : Str)) = false := by decide) (hcd : (a == ("__classdict__" : Str)) = false := by decide) :
    PE X (.ListComp (.Call (.Name x p) [e] [] pos) [⟨tg, iter, [], 0⟩] scope pos2) (fun σ H Q => tLc wi g tYes (tKV te ls q X.env.cells σ TT) (own.map (·.2)) σ H Q) :=
  pe_lcX (te := fun σ => tKV te ls q X.env.cells σ TT) calm nd hi ok hg (fun pins σ s H C cl fp I hfp => pe_kindV (Nd := X.N) (ed := X.env) (σd := σ) D (gl s H C cl fp) hb Sg hNg hva (fun g cdv => hG _ g cdv rfl rfl) eq hr (fun p hp => (lks p hp).as) I.len
    (fun _ _ _ _ I2 p hp => (CellsAt.of I (lks p hp).sc).un I2.base (fun y c hc z => (hfp c z).2.2.2.2.1 y c hc rfl)) (he s H C cl fp) (hst _) hdb hd hcd) hs
/-! ### a list of lambdas -/
/-- behind H0, in which D was not: the list at D holds these lambdas, made in a frame with such cells -/
structure WorksAt (T : List (Addr × Str)) (q : Str) (cells : List (Str × Addr)) (H0 H : Hp) (D : Addr) (fs : List (Addr × Addr × LamT)) : Prop where
  l : H D = some (.lst (fs.map fun z => V.ref z.1))
  at_ : ∀ z ∈ fs, H z.1 = some (LamO z.1 z.2.1 q (cloFrom cells z.2.2.scope.names []) z.2.2) ∧ H z.2.1 = some (CodeO z.2.1 q)
  tb : Tabs T H
  kp : ExtN H0 H
  nw : ∀ o, H0 D = some o → ∃ ps, o = .tbl ps
theorem lamO_lst {f d : Addr} {q : Str} {cl : List (Str × Addr)} {l : LamT} (xs : List V) : LamO f d q cl l ≠ .lst xs := fun z => by
  unfold LamO at z
  cases z
theorem codeO_lst {d : Addr} {q : Str} (xs : List V) : CodeO d q ≠ .lst xs := fun z => by
  unfold LamX.CodeO at z
  cases z
section
variable {T : List (Addr × Str)} {q : Str} {cells : List (Str × Addr)} {H0 H : Hp} {D : Addr} {fs : List (Addr × Addr × LamT)} {l : LamT} {σ : L2.St} {K : PySem.W.Frag} {ec : Ec}
theorem g_works0 {Q : VK} (hT : Tabs T H) (k : ∀ (D f d : Addr) (H' : Hp), WorksAt T q cells H H' D [(f, d, l)] → Q (.ref D) H') : tLst (tCons (tMk T q cells l) tNil) σ H Q := by
  refine g_lst (g_cons ⟨hT, fun f d H1 e hT1 nf hd => g_nil ⟨by simp [sizeLine], fun D nD => ?_⟩⟩)
  have nDf : f ≠ D := ne_of_none (upd_same (H := H1) (a := f) (o := LamO f d q (cloFrom cells l.scope.names []) l)) nD
  have nD1 : H1 D = none := by rw [← upd_ne nDf.symm (H := H1) (o := LamO f d q (cloFrom cells l.scope.names []) l)]; exact nD
  have s1 : Same H1 (upd (upd H1 f (LamO f d q (cloFrom cells l.scope.names []) l)) D (.lst [.ref f])) := (Same.new nf).trans (Same.new nD)
  refine k D f d _ ⟨upd_same, fun z hz => ?_, tabs_same hT1 s1, e.trans (extN_same s1), ?_⟩
  · rw [List.mem_singleton.mp hz]
    exact ⟨by rw [upd_ne nDf, upd_same], s1 _ _ hd⟩
  · intro o h
    cases o with
    | tbl ps => exact ⟨ps, rfl⟩
    | _ =>
      rw [e _ _ h (fun ps z => by cases z)] at nD1
      cases nD1
theorem g_works (W : WorksAt T q cells H0 H D fs) {j : Nat} (hv : σ[j]? = some (some (.ref D))) (hl : fs.length < 1000) {Q : VK} (k : ∀ (f d : Addr) (H' : Hp), WorksAt T q cells H0 H' D (fs ++ [(f, d, l)]) → Q .non H') :
    tBM K "list" rAppend (tVar j) (tCons (tMk T q cells l) tNil) σ H Q := by
  refine g_bm ⟨_, hv, g_tyL (SqL.of W.l) (g_cons ⟨W.tb, fun f d H1 e hT1 nf hd => g_nil ?_⟩)⟩
  have s1 : Same H1 (upd H1 f (LamO f d q (cloFrom cells l.scope.names []) l)) := Same.new nf
  have lD := e _ _ W.l (fun _ z => by cases z)
  refine g_app (s1 _ _ lD) (by rw [List.length_map]; omega) (k f d _ ⟨by rw [upd_same, List.map_append]; rfl, fun z hz => ?_, tabs_lst' (tabs_same hT1 s1) (s1 _ _ lD), fun b o hb hn => ?_, W.nw⟩)
  · have old : ∀ {b o}, upd H1 f (LamO f d q (cloFrom cells l.scope.names []) l) b = some o → (∀ xs, o ≠ .lst xs) → upd (upd H1 f (LamO f d q (cloFrom cells l.scope.names []) l)) D (.lst (fs.map (fun z => V.ref z.1) ++ [.ref f])) b = some o := fun {b o} hb hn => by
      rw [upd_ne (fun z => by rw [z, s1 _ _ lD] at hb; exact hn _ (Option.some.inj hb).symm)]
      exact hb
    rcases List.mem_append.mp hz with hz | hz
    · obtain ⟨h1, h2⟩ := W.at_ z hz
      exact ⟨old (s1 _ _ (e _ _ h1 lamO_tbl)) lamO_lst, old (s1 _ _ (e _ _ h2 LamX.codeO_ne)) codeO_lst⟩
    · rw [List.mem_singleton.mp hz]
      exact ⟨old upd_same lamO_lst, old (s1 _ _ hd) codeO_lst⟩
  · rw [upd_ne (fun z => by rw [z] at hb; obtain ⟨ps, hp⟩ := W.nw _ hb; exact hn ps hp)]
    exact s1 _ _ (e _ _ (W.kp _ _ hb hn) hn)
where
  tabs_lst' {T : List (Addr × Str)} {H : Hp} {p : Addr} {xs : List V} {o : HO} (t : Tabs T H) (hp : H p = some (.lst xs)) : Tabs T (upd H p o) :=
    tabs_kp t (fun ps z => by rw [hp] at z; cases z) (fun c q z => by rw [hp] at z; unfold CodeO at z; cases z) Kp.upd
/-- a lambda of the list tells w -/
structure KindAt (K : PySem.W.Frag) (ec : Ec) (T : List (Addr × Str)) (ls : List (LamT × (XK → TE))) (q : Str) (cells : List (Str × Addr)) (σ : L2.St) (H : Hp) (v : V) (w : Str) : Prop where
  ex : ∃ (f d : Addr) (l : LamT) (t : XK → TE), v = .ref f ∧ (l, t) ∈ ls ∧ H d = some (CodeO d q) ∧ H f = some (LamO f d q (cloFrom cells l.scope.names []) l) ∧
    ∀ (H' : Hp) (Q' : VK), ExtN H H' → Tabs T H' → (∀ H'', ExtN H' H'' → Tabs T H'' → Q' (.str w) H'') → t (EKind K ec Q') σ H' Q'
/-- the tables, none of it at D -/
def TabsN (T : List (Addr × Str)) (D : Addr) (H : Hp) : Prop := ∀ p ∈ T, p.1 ≠ D ∧ ∃ ps : Array Value, H p.1 = some (.tbl ps) ∧ TriplesOk ps.toList ∧ ∀ (pos : Pos) (cv : Value), codeAmong pos ps.toList = some cv → ∃ c, cv = .ref c ∧ c ≠ D ∧ H c = some (CodeO c p.2)
theorem TabsN.upd {o : HO} (t : TabsN T D H) : TabsN T D (L2.upd H D o) := fun p hp => by
  obtain ⟨n, ps, e1, e2, e3⟩ := t p hp
  refine ⟨n, ps, by rw [upd_ne n]; exact e1, e2, fun pos cv hc => ?_⟩
  obtain ⟨c, z1, z2, z3⟩ := e3 pos cv hc
  exact ⟨c, z1, z2, by rw [upd_ne z2]; exact z3⟩
theorem TabsN.tabs (t : TabsN T D H) : Tabs T H := fun p hp => by
  obtain ⟨n, ps, e1, e2, e3⟩ := t p hp
  refine ⟨ps, e1, e2, fun pos cv hc => ?_⟩
  obtain ⟨c, z1, z2, z3⟩ := e3 pos cv hc
  exact ⟨c, z1, z3⟩
theorem TabsN.of {xs : List V} (t : Tabs T H) (h : H D = some (.lst xs) ∨ H D = none) : TabsN T D H := fun p hp => by
  obtain ⟨ps, e1, e2, e3⟩ := t p hp
  refine ⟨fun z => ?_, ps, e1, e2, fun pos cv hc => ?_⟩
  · rw [z] at e1
    rcases h with h | h <;> rw [h] at e1 <;> cases e1
  · obtain ⟨c, z1, z2⟩ := e3 pos cv hc
    refine ⟨c, z1, fun z => ?_, z2⟩
    rw [z] at z2
    rcases h with h | h <;> rw [h] at z2
    · exact codeO_lst xs (Option.some.inj z2).symm
    · cases z2
theorem g_kinds {ls : List (LamT × (XK → TE))} {xs : List V} {ws : List Str} {i j : Nat} {Q : VK} (hT : Tabs T H) (hD : H D = some (.lst xs)) (hv : σ[j]? = some (some (.ref D))) (hi : i < σ.length) (hl : xs.length = ws.length) (hs : xs.length < 1000)
    (hk : ∀ (m : Nat) x w, xs[m]? = some x → ws[m]? = some w → KindAt K ec T ls q cells σ H x w) (k : ∀ (D' : Addr) (H' : Hp), ExtN H H' → Tabs T H' → H' D' = some (.lst (ws.map V.str)) → Q (.ref D') H') :
    tLc (iList K (tVar j)) (gName i) tYes (tKV (tVar i) ls q cells σ (TKind K ec)) [i] σ H Q := by
  refine g_lc (g_iL ⟨_, hv, D, rfl, ⟨_, SqL.of hD⟩, fun D' nD => ?_⟩)
  have keep : ∀ {H1 : Hp} {o : HO}, ExtN H H1 → ExtN H (upd H1 D' o) := fun {H1 o} e b u hb hn => by
    rw [upd_ne (ne_of_none hb nD)]
    exact e _ _ hb hn
  refine lc_L (K := K) (a := D) (xs := xs) (fun m acc H1 => ExtN H H1 ∧ TabsN T D' H1 ∧ acc = (ws.take m).map V.str) (fun m acc H1 o h => ⟨keep h.1, h.2.1.upd, h.2.2⟩) ⟨ExtN.refl H, TabsN.of (xs := []) hT (.inr nD), rfl⟩ (fun m acc H1 h => SqL.of (h.1 _ _ hD fun _ z => by cases z)) ?_ ?_
  · rintro m x acc H1 hx ⟨e1, t1, rfl⟩ hacc hle
    have hm : m < ws.length := by
      obtain ⟨z, _⟩ := List.getElem?_eq_some_iff.mp hx
      omega
    obtain ⟨w, hw⟩ : ∃ w, ws[m]? = some w := ⟨ws[m], by simp [hm]⟩
    obtain ⟨f, d, l, t, rfl, mem, hd, hf, tell⟩ := (hk m x w hx hw).ex
    have w1 : wipe σ [i] = σ.set i none := rfl
    rw [w1]
    have hset : ((σ.set i none).set i (some (V.ref f)))[i]? = some (some (V.ref f)) := by
      rw [List.getElem?_set_self (by rw [List.length_set]; exact hi)]
    refine ⟨by show ((σ.set i none).set i (some (V.ref f))).set i none = _; rw [List.set_set, List.set_set], g_yes ?_⟩
    refine iteT ⟨_, hset, f, d, l, t, rfl, mem, e1 _ _ hd LamX.codeO_ne, e1 _ _ hf lamO_tbl, e1 _ _ hf lamO_tbl, ?_⟩
    refine tell _ _ e1 t1.tabs fun H2 e2 t2 => ?_
    have h2 := e2 _ _ hacc (fun _ z => by cases z)
    have tn : TabsN T D' H2 := TabsN.of t2 (.inl h2)
    refine lc_leaf (J := fun m acc H1 => ExtN H H1 ∧ TabsN T D' H1 ∧ acc = (ws.take m).map V.str) (fun m acc H1 o h => ⟨keep h.1, h.2.1.upd, h.2.2⟩) h2 hle (by omega) ⟨e1.trans e2, tn, ?_⟩
    rw [take_more hw, List.map_append]
    rfl
  · rintro acc H1 ⟨e1, t1, rfl⟩ hacc
    refine k D' H1 e1 t1.tabs ?_
    rw [hacc, hl, List.take_length]
end
end My
namespace My
open PySem PySem.Spec PyProof.Rows L2
open LamX (Tabs TabS CodeO ExtN TabB)
def del (H : Hp) (D : Addr) : Hp := fun b => if b = D then none else H b
section
variable {T : List (Addr × Str)} {q : Str} {cells : List (Str × Addr)} {H0 H H' : Hp} {D a s : Addr} {fs : List (Addr × Addr × LamT)} {K : PySem.W.Frag}
theorem del_ne {b : Addr} (h : b ≠ D) : del H D b = H b := if_neg h
theorem WorksAt.same (W : WorksAt T q cells H0 H D fs) (e : Same H H') : WorksAt T q cells H0 H' D fs :=
  ⟨e _ _ W.l, fun z hz => ⟨e _ _ (W.at_ z hz).1, e _ _ (W.at_ z hz).2⟩, tabs_same W.tb e, W.kp.trans (extN_same e), W.nw⟩
theorem WorksAt.na (W : WorksAt T q cells H0 H D fs) (d : Dr K a s H0) : D ≠ a := by
  intro z
  obtain ⟨ns, i, m, l, h1, _⟩ := d.ex
  rw [← z] at h1
  obtain ⟨ps, hp⟩ := W.nw _ h1
  cases hp
/-- a def that draws, in between -/
theorem WorksAt.turn (W : WorksAt T q cells H0 H D fs) (ne : fs ≠ []) (d : Dr K a s H0) (g : Go K a s H H') : WorksAt T q cells (del H' D) H' D fs ∧ Dr K a s (del H' D) := by
  have d1 : Dr K a s H := d.ext W.kp
  have na := W.na d
  have lD := g.at W.l na
  obtain ⟨ns, i, m, l, h1, _⟩ := d1.ex
  refine ⟨⟨lD, fun z hz => ?_, tabs_go W.tb d1 g, fun b o hb _ => ?_, fun o ho => ?_⟩, ?_⟩
  · obtain ⟨w1, w2⟩ := W.at_ z hz
    exact ⟨g.at w1 (ne_of w1 h1 (lamO_lst _)), g.at w2 (ne_of w2 h1 (codeO_lst _))⟩
  · by_cases e : b = D
    · rw [e, del, if_pos rfl] at hb; cases hb
    · rw [del_ne e] at hb; exact hb
  · rw [del, if_pos rfl] at ho; cases ho
  · obtain ⟨ns', i', m', l', k1, k2, k3, k4⟩ := g.dr.ex
    refine ⟨ns', i', m', l', by rw [del_ne na.symm]; exact k1, fun o => ?_, k3, k4⟩
    have key : ∀ u, upd H' a o s = some u → (∀ x r, u ≠ .lst (.ref x :: r)) → upd (del H' D) a o s = some u := fun u e n => by
      by_cases z : s = a
      · subst z; rw [upd_same] at e ⊢; exact e
      · rw [upd_ne z] at e ⊢
        rw [del_ne (fun y => ?_)]
        · exact e
        · rw [y, lD] at e
          cases fs with
          | nil => exact ne rfl
          | cons f0 fs => exact n _ _ (Option.some.inj e).symm
    rcases k2 o with (h | ⟨u, h⟩) | h
    · refine .inl (.inl (key _ h fun x r z => ?_))
      have z := HO.lst.inj z
      cases ns' with
      | nil => cases z
      | cons n0 ns' => injection z with z; cases z
    · exact .inl (.inr ⟨u, key _ h (fun x r z => by cases z)⟩)
    · exact .inr h
theorem g_rep1 {p : Addr} {v : V} {n : Nat} {Q : VK} (h : H p = some (.lst [v])) (hn : n ≤ 1000) (k : ∀ l, H l = none → Q (.ref l) (upd H l (.lst (List.replicate n v)))) : rRep (.ref p) (.int (n : Int)) H Q := by
  have e : (List.replicate ((n : Int)).toNat [v]).flatten = List.replicate n v := by simp
  refine ⟨p, (n : Int), [v], rfl, rfl, h, by omega, by omega, ?_, fun l hl => ?_⟩
  · show 1 * ((n : Int)).toNat ≤ sizeLine
    exact sz (by simp; omega)
  · rw [e]
    exact k l hl
end
end My
namespace My
open PySem PySem.Spec PyProof.Rows L2
open LamX (Tabs TabS CodeO ExtN TabB LamS lamEnv lamCx)
/-- the maker's names, the frame left -/
abbrev edOf (x : Str) (sc : Scope) (n : Nat) : Env := envOfC x sc n 0 .none
structure DeadAt (cells : List (Str × Addr)) (sc : Scope) (N : List Str) (σ : L2.St) (H : Hp) : Prop where
  inj : ∀ x y c, cells.lookup x = some c → cells.lookup y = some c → x = y
  at_ : ∀ y, (y, NameKind.free) ∈ sc.names → ∃ c v0, cells.lookup y = some c ∧ H c = some (CellO c v0) ∧ ∀ (i : Nat) v, N[i]? = some y → σ[i]? = some (some v) → v = v0
theorem DeadAt.same {cells : List (Str × Addr)} {sc : Scope} {N : List Str} {σ : L2.St} {H H' : Hp} (C : DeadAt cells sc N σ H) (e : Same H H') : DeadAt cells sc N σ H' :=
  ⟨C.inj, fun y hy => let ⟨c, v, a, b, z⟩ := C.at_ y hy; ⟨c, v, a, e _ _ b, z⟩⟩
theorem DeadAt.cells {cells : List (Str × Addr)} {sc : Scope} {N : List Str} {σ : L2.St} {P : Program} {w : World} {H : Hp} {h : Heap} (C : DeadAt cells sc N σ H) (k : HOk P w H h) : CellsAt cells sc N σ (strip H) h := by
  refine ⟨C.inj, fun y hy => ?_⟩
  obtain ⟨c, v0, a, b, z⟩ := C.at_ y hy
  obtain ⟨⟨u, r, x⟩, _, _⟩ := k c _ b
  refine ⟨c, a, strip_yes ⟨v0, b⟩, ⟨_, x⟩, fun i v e1 e2 => ⟨u, ?_, x⟩⟩
  rw [z i v e1 e2]
  exact r
/-- x(e), e a lambda of a frame that is left -/
def tKD (te : TE) (ls : List (LamT × (XK → TE))) (q x : Str) (sc : Scope) (Nd : List Str) (TT : (XK → Hp → VK → Prop) → Hp → VK → Prop) : TE := fun σ H Q => te σ H fun v H1 => ∃ (f d : Addr) (l : LamT) (t : XK → TE) (n : Nat) (σd : L2.St), v = .ref f ∧ (l, t) ∈ ls ∧
  H1 d = some (CodeO d q) ∧ H1 f = some (LamO f d q (cloFrom (edOf x sc n).cells l.scope.names []) l) ∧ σd.length = Nd.length ∧ DeadAt (edOf x sc n).cells l.scope Nd σd H1 ∧
  (strip H1 f = some (LamO f d q (cloFrom (edOf x sc n).cells l.scope.names []) l) → TT (fun E H' Q' => H' f = some (LamO f d q (cloFrom (edOf x sc n).cells l.scope.names []) l) ∧ t E σd H' Q') (strip H1) (fun v H2 => (∀ b, (∃ v, H1 b = some (CellO b v)) → H2 b = none) → Q v (putBack H1 H2)))
section
variable {Y : Cx} {Nd : List Str}
theorem pe_kindD {TT : (XK → Hp → VK → Prop) → Hp → VK → Prop} {ls : List (LamT × (XK → TE))} {x a q xd : Str} {k : Nat} {st : Stmt} {scd : Scope} {Ng : List Str} {e : Expr} {te : TE} {p pos : Pos} (D : FnL Y.K Y.mg x st) (hg : Gl Y x)
    (hb : ∀ (kV doc pm : Value) (an : Option Addr) (cdv ct : Value) (us : List Value), us.length = [a].length → bindArgs (PySem.W.fnOf x x (defArgs st) (defBody st) (defScope st) .none kV doc pm an cdv ct) ⟨us, []⟩ = pure ([a].zip us))
    (Sg : FnScope Ng [a] (defScope st)) (hNg : Ng[0]? = some a) (hva : Vis (defScope st) a) (hG : ∀ (g : Addr) (cdv : Value), LamX.GivesTo Y Ng x (defScope st) g cdv (defBody st) a q TT) (eq : ∀ n, q = (edOf xd scd n).qual ++ "<lambda>") (hr : Room (k + 2) Y.A) (lks : ∀ n, ∀ p ∈ ls, LamK (Y.as Nd (edOf xd scd n)) k p.1 p.2)
    (he : PE Y e te) (hst : starEach [e] Y.env = (false, eval e Y.env) :: starEach [] Y.env := by rfl) (hdb : (x == ("__debug__" : Str)) = false := by decide) (hd : (a == ("__debug__" : Str)) = false := by decide) (hcd : (a == ("__classdict__" : Str)) = false := by decide) :
    PE Y (.Call (.Name x p) [e] [] pos) (tKD te ls q xd scd Nd TT) := by
  obtain ⟨g, oc, od, kV, doc, pm, an, cdv, ct, osl, lk, hcg, hk, hm⟩ := D.ex
  refine ⟨fun pins s σ H Q I h => wpAny_Call_Name_kw (ld_glob I hg hm ?_ hdb)⟩
  refine PySem.W.callWith_K (h₀ := Y.base) I.ok.mod.kin hk ?_ hst (by rfl)
  rw [hst]
  show wpAny _ _ (spliced ((false, eval e Y.env) :: backTo pos (starEach [] Y.env))) _ _ s
  refine Calls.spliced_cons (thn (he.run pins s σ H _ I h) fun u s1 ⟨v, H1, I1, r1, f, d, l, t, n, σd, ev, hl, h2, h3, hlen, C, h4⟩ => ?_)
  subst ev
  obtain rfl : u = Value.ref f := r1
  refine Calls.spliced_nil ⟨I1.kIn, ?_⟩
  have sf : strip H1 f = some (LamO f d q (cloFrom (edOf xd scd n).cells l.scope.names []) l) := (strip_no (fun ⟨v, z⟩ => by
    obtain ⟨⟨_, _, e1⟩, _⟩ := I1.hok f _ h3
    obtain ⟨⟨_, _, o, e2, e3⟩, _⟩ := I1.hok f _ z
    rw [e1] at e2
    cases e2
    cases e3)).trans h3
  have sd : strip H1 d = some (CodeO d q) := (strip_no (fun ⟨v, z⟩ => by
    obtain ⟨⟨_, _, _, e1, e4, _⟩, _⟩ := I1.hok d _ h2
    obtain ⟨⟨_, _, o, e2, e3⟩, _⟩ := I1.hok d _ z
    rw [e1] at e2
    cases e2
    rw [e4] at e3
    cases e3)).trans h2
  have run : codeAny (model Y.prog Y.w) Y.A (.call (.ref g) ⟨[.ref f], []⟩) (CR C8.CX0 Y.stack Y.prog Y.w (strip H1) s1 (fun v H2 => (∀ b, (∃ v, H1 b = some (CellO b v)) → H2 b = none) → Q v (putBack H1 H2)) C8.E0) s1 := by
    refine LamX.run_ofS (N := Ng) (ps := [a]) (us := [.ref f]) (vs := [.ref f]) lk hcg Sg hr (Inv.env0S I1) (Binds.all (fun us hl => hb kV doc pm an cdv ct us hl) s1 [.ref f] I1.kIn rfl) (.cons rfl .nil) rfl fun hr' => ?_
    obtain ⟨t', ht', hq'⟩ := hG g cdv f d s1 (strip H1) _ (fun E H' Q' => H' f = some (LamO f d q (cloFrom (edOf xd scd n).cells l.scope.names []) l) ∧ t E σd H' Q')
      (fun W pn xe E p1 p2 tk hW => pe_actC (Nd := Nd) (ed := edOf xd scd n) (i := 0) (lks n _ hl) hlen (C.cells I1.hok) (eq n) tk hW hr' hNg hva hd hcd) sd (h4 sf)
    exact ⟨t', ht'.nox, hq'⟩
  refine wpAny_call (codeAny_mono run fun r s2 hq => ?_)
  match r, hq with
  | .ok (.ret u), hq => exact Inv.afterS I1 hq
end
/-- a lambda of the list tells w -/
structure KindAtD (K : PySem.W.Frag) (ec : Ec) (ls : List (LamT × (XK → TE))) (q x : Str) (sc : Scope) (Nd : List Str) (H : Hp) (v : V) (w : Str) : Prop where
  ex : ∃ (f d : Addr) (l : LamT) (t : XK → TE) (n : Nat) (σd : L2.St), v = .ref f ∧ (l, t) ∈ ls ∧ H d = some (CodeO d q) ∧ H f = some (LamO f d q (cloFrom (edOf x sc n).cells l.scope.names []) l) ∧ σd.length = Nd.length ∧ DeadAt (edOf x sc n).cells l.scope Nd σd H ∧
    ∀ (H' : Hp) (Q' : VK), Same H H' → (∀ H2, Same (strip H') H2 → Q' (.str w) H2) → t (EKind K ec Q') σd (strip H') Q'
theorem same_back {H H2 : Hp} (e : Same (strip H) H2) : Same H (putBack H H2) := fun b o h => by
  by_cases z : ∃ v, H b = some (CellO b v)
  · rw [back_yes z]
    exact h
  · rw [back_no z]
    exact e _ _ ((strip_no z).trans h)
/-- none of them tells another word -/
theorem g_kindsNo {K : PySem.W.Frag} {ec : Ec} {ls : List (LamT × (XK → TE))} {q x : Str} {sc : Scope} {Nd : List Str} {σ : L2.St} {H : Hp} {D D' : Addr} {xs : List V} {w : Str} {i : Nat} {Qd : Hp → Prop} (hD : H D = some (.lst xs)) (nD : H D' = none) (hi : i < σ.length) (hs : xs.length < 1000)
    (hk : ∀ v ∈ xs, KindAtD K ec ls q x sc Nd H v w) (k : ∀ H', Same H H' → H' D' = some (.lst []) → Qd H') :
    ∃ W : Nat → Nat → Hp → Prop, (∃ m, W 0 m (upd H D' (.lst []))) ∧ ∀ n m H, W n m H →
      ((Itl K D).stop n H ∧ Qd H) ∨ ((Itl K D).go n H ∧ ∃ Nx : Hp → Prop, (∀ H', Nx H' → ∃ m', m' < m ∧ W (n + 1) m' H') ∧ ∀ x_1 H', (Itl K D).yld n H x_1 H' → gName i x_1 (wipe σ [i]) H' fun σ2 H2 => wipe σ2 [i] = wipe σ [i] ∧ (tTest (tOp rNe (tKD (tVar i) ls q x sc Nd (TKind K ec)) (tC (.str w)))) σ2 H2 fun b H3 =>
        if b = true then (tVar i) σ2 H3 fun y H4 => ∃ acc, H4 D' = some (.lst acc) ∧ acc.length < sizeLine ∧ Nx (upd H4 D' (.lst (acc ++ [y]))) else Nx H3) := by
  refine lc_L (K := K) (a := D) (xs := xs) (fun m acc H1 => Same H H1 ∧ acc = []) (fun m acc H1 o h => ⟨Same.mut h.1 nD, h.2⟩) ⟨Same.refl H, rfl⟩ (fun m acc H1 h => SqL.of (h.1 _ _ hD)) ?_ ?_
  · rintro m v H1 H2 hx ⟨e1, rfl⟩ hacc hle
    obtain ⟨f, d, l, t, n, σd, rfl, mem, hd, hf, hlen, C, tell⟩ := (hk v (List.mem_of_getElem? hx)).ex
    rw [show wipe σ [i] = σ.set i none from rfl]
    refine ⟨by show ((σ.set i none).set i (some (V.ref f))).set i none = _; rw [List.set_set, List.set_set], ?_⟩
    refine g_test (g_op ⟨.ref f, List.getElem?_set_self (by rw [List.length_set]; exact hi), f, d, l, t, n, σd, rfl, mem, e1 _ _ hd, e1 _ _ hf, hlen, C.same e1, fun sf => ⟨sf, tell _ _ e1 fun H3 e3 gone => ?_⟩⟩)
    refine g_c (g_ne rfl ⟨_, rfl, iteF' ?_⟩)
    have e4 := same_back e3
    exact lc_skip (e4 _ _ hacc) hle ⟨e1.trans e4, rfl⟩
  · rintro acc H1 ⟨e1, rfl⟩ hacc
    exact k H1 e1 hacc
where
  iteF' {w : Str} {A B : Prop} (h : B) : if (!decide (V.str w = V.str w)) = true then A else B := ite_neF h
end My
namespace My
open PySem PySem.Spec PyProof.Rows L2
open LamX (Tabs TabS CodeO ExtN TabB LamS lamEnv lamCx)
theorem LamK.of2 {X : Cx} {N : List Str} {ed : Env} {s : Shared} {H : Hp} {scope : Scope} {ce : Env} {fp : List Addr} {k : Nat} {l : LamT} {t : XK → TE} (h : LamK (X.as N ed) k l t) : LamK ((X.blk s H scope ce fp).as N ed) k l t := ⟨h.sc, h.bind, h.body⟩
theorem pe_makeL {X : Cx} {A : Around} {outer : List Env} {s : Shared} {H : Hp} {E : XK} {scope : Scope} {f c' C : Addr} {k : Nat} {x : Str} {ps : List Str} {sp : Sp} {p pos : Pos} {e : Expr} {es : List Expr} {t : TA} (h : KnowsI X.prog X.w X.K X.mg X.base k C ps sp)
    (hr : Room (k + 1) (A.deeper (LamX.lamEnv X scope s.heap.objs.size f c'))) (hm : X.mg x = some (.ref C)) (ha : PA (LamX.lamCx X A outer s H E scope f c') (e :: es) t) (hg : Gl (LamX.lamCx X A outer s H E scope f c') x := by rfl) (hdb : (x == ("__debug__" : Str)) = false := by decide)
    (he : starEach (e :: es) (LamX.lamCx X A outer s H E scope f c').env = (false, eval e (LamX.lamCx X A outer s H E scope f c').env) :: starEach es (LamX.lamCx X A outer s H E scope f c').env := by rfl) (hpl : (backTo pos (starEach es (LamX.lamCx X A outer s H E scope f c').env)).any (·.1) = false := by rfl) :
    PE (LamX.lamCx X A outer s H E scope f c') (.Call (.Name x p) (e :: es) [] pos) (tMake C sp [] E t) :=
  pe_makeN (X := LamX.lamCx X A outer s H E scope f c') h hr hm (passLam (X := X)) ha hg hdb he hpl
/-- where a lambda's free names stand: among the first m slots, all of them filled -/
def freeB (l : Scope) (sc : Scope) (N : List Str) (m : Nat) : Bool := l.names.all fun y => !decide (y.2 = .free) || (decide (sc.names.lookup y.1 = some .cell) && decide (y.1 ∈ N.take m))
theorem DeadAt.of {x : Str} {sc l : Scope} {n m : Nat} {N : List Str} {σ : L2.St} {H1 H : Hp} (L : Left N sc (edOf x sc n).cells σ H1 H) (nd : N.Nodup) (h : freeB l sc N m = true) (hm : ∀ i, i < m → ∃ v, σ[i]? = some (some v)) : DeadAt (edOf x sc n).cells l N σ H := by
  refine ⟨L.inj, fun y hy => ?_⟩
  have h1 := List.all_eq_true.mp h _ hy
  simp only [Bool.or_eq_true, Bool.not_eq_true', decide_eq_false_iff_not, Bool.and_eq_true, decide_eq_true_eq] at h1
  have h1 := h1.resolve_left (fun z => z trivial)
  obtain ⟨c, hc⟩ := cell_has (n := n + 1) h1.1
  have hc : (edOf x sc n).cells.lookup y = some c := hc
  obtain ⟨i, hi⟩ := List.mem_iff_getElem?.mp h1.2
  rw [List.getElem?_take] at hi
  split at hi
  · rename_i him
    obtain ⟨v, hv⟩ := hm i him
    refine ⟨c, v, hc, L.at_ y c i v h1.1 hc hi hv, fun j v' e1 e2 => ?_⟩
    have := nodup_ix nd e1 hi
    subst this
    rw [hv] at e2
    cases e2
    rfl
  · cases hi
def sp_works0 (K : PySem.W.Frag) (TL : List (Addr × Str)) (q x : Str) (sc : Scope) (N : List Str) (ls : List LamT) : Sp := fun vs H Q _ => ∃ (n : Int) (p : Addr) (o : Int), vs = [.int n, .ref p, .int o] ∧ Tabs TL H ∧ ∀ (D : Addr) (m : Nat) (fs : List (Addr × Addr × LamT)) (H1 H2 : Hp), fs.map (·.2.2) = ls → WorksAt TL q (edOf x sc m).cells H H2 D fs →
  Left N sc (edOf x sc m).cells [some (.int n), some (.ref p), some (.int o), some (.ref D)] H1 H2 → Q (.ref D) H2
end My
namespace My
open PySem PySem.Spec PyProof.Rows L2
/-! ### promises: readers -/
def rdF (n : Int) (q : Addr) (v : V) (t : Int) : List (Str × V) := [("wheel", .int n), ("rule", .ref q), ("last", v), ("told", .int t)]
structure RdAt (C : Addr) (H : Hp) (p : Addr) (n : Int) (q : Addr) (v : V) (t : Int) : Prop where
  ob : ∃ dx, H p = some (.ins C dx (rdF n q v t))
theorem rdF_wheel {n : Int} {q : Addr} {v : V} {t : Int} : (rdF n q v t).lookup ("wheel" : Str) = some (.int n) := rfl
theorem rdF_rule {n : Int} {q : Addr} {v : V} {t : Int} : (rdF n q v t).lookup ("rule" : Str) = some (.ref q) := rfl
theorem rdF_last {n : Int} {q : Addr} {v : V} {t : Int} : (rdF n q v t).lookup ("last" : Str) = some v := rfl
theorem rdF_told {n : Int} {q : Addr} {v : V} {t : Int} : (rdF n q v t).lookup ("told" : Str) = some (.int t) := rfl
theorem rdF_look {n : Int} {q : Addr} {v : V} {t : Int} : (rdF n q v t).lookup ("look" : Str) = none := rfl
theorem rdF_now {n : Int} {q : Addr} {v : V} {t : Int} : (rdF n q v t).lookup ("now" : Str) = none := rfl
theorem rdF_pt {n : Int} {q : Addr} {v : V} {t t' : Int} : putF "told" (.int t') (rdF n q v t) = rdF n q v t' := rfl
theorem rdF_pl {n : Int} {q : Addr} {v v' : V} {t : Int} : putF "last" v' (rdF n q v t) = rdF n q v' t := rfl
theorem rdF_mk {n : Int} {q : Addr} {v : V} {t : Int} : putF "told" (.int t) (putF "last" v (putF "rule" (.ref q) (putF "wheel" (.int n) []))) = rdF n q v t := rfl
def sp_init (ec : Ec) : Sp := fun vs H Q E => ∃ (p dx : Addr) (n : Int) (q : Addr) (w : Raw) (t : Int), vs = [.ref p, .int n, .ref q, .int t] ∧ H p = some (.ins ec.Reader dx []) ∧ H q = some (.tup (rawV w)) ∧ RawS w ∧
  (∀ r, w = toRaw r → Wh n → RuleOk n r → ∀ v H', SeenAt H' r v (shownR n r t) → RdAt ec.Reader H' p n q v t → Kp p H H' → Q .non H') ∧ (¬ Wh n → E (.ref ec.BadWheel) none H) ∧ (Wh n → ¬ RawOk n w → ∀ H', Same H H' → E (.ref ec.BadRule) none H')
def sp_look (ec : Ec) : Sp := fun vs H Q E => ∃ (p : Addr) (n : Int) (q : Addr) (r : Rule) (v v2 v3 : V) (t : Int) (x y : Int × Int) (a : Int), vs = [.ref p, v2, v3] ∧ RdAt ec.Reader H p n q v t ∧ H q = some (.tup (ruleV r)) ∧ Wh n ∧ RuleOk n r ∧
  SeenAt H r v x ∧ SeenAt H r v2 y ∧ aboutV r v3 a ∧ (SeenOk n r y → ∀ g H', Gp n r x y a g → RdAt ec.Reader H' p n q v2 (t + g) → Kp p H H' → Q (.int (t + g)) H') ∧ (SeenOk n r y → (∀ g, ¬ Gp n r x y a g) → E (.ref ec.NoGap) none H) ∧
  (¬ SeenOk n r y → E (.ref ec.BadSeen) none H)
def sp_is_right (ec : Ec) : Sp := fun vs H Q _ => ∃ (p : Addr) (n : Int) (q : Addr) (r : Rule) (v v3 : V) (t time : Int) (x : Int × Int) (a : Int), vs = [.ref p, .int time, v3] ∧ RdAt ec.Reader H p n q v t ∧ H q = some (.tup (ruleV r)) ∧ Wh n ∧ RuleOk n r ∧
  SeenAt H r v x ∧ aboutV r v3 a ∧ (∀ g v2 H', Gp n r x (shownR n r time) a g → SeenAt H' r v2 (shownR n r time) → RdAt ec.Reader H' p n q v2 (t + g) → Kp p H H' → Q (.bl (decide (t + g = time))) H') ∧
  ((∀ g, ¬ Gp n r x (shownR n r time) a g) → ∀ H', Same H H' → Q (.bl false) H')
/-- is the k-th gap (of about: how much more it is) within the bound -/
def OkAt (n : Int) (r : Rule) (ts as : List Int) (k : Nat) : Prop := loR n r + shR r (as.getD (k - 1) 0) ≤ ts.getD k 0 - ts.getD (k - 1) 0 ∧ ts.getD k 0 - ts.getD (k - 1) 0 ≤ hiR n r + shR r (as.getD (k - 1) 0)
instance {n : Int} {r : Rule} {ts as : List Int} {k : Nat} : Decidable (OkAt n r ts as k) := inferInstanceAs (Decidable (_ ∧ _))
/-- the first one that errs -/
def FW (n : Int) (r : Rule) (ts as : List Int) : Option Nat → Prop
  | some k => 1 ≤ k ∧ k < ts.length ∧ ¬ OkAt n r ts as k ∧ ∀ j, 1 ≤ j → j < k → OkAt n r ts as j
  | none => ∀ j, 1 ≤ j → j < ts.length → OkAt n r ts as j
def optV : Option Nat → V
  | some i => .int (i : Nat)
  | none => .non
def wantN (w : Raw) (ts : List Int) : Int := match w with
  | .two s _ => if s = "about" then (ts.length : Int) - 1 else 0
  | _ => 0
def sp_first_wrong (K : PySem.W.Frag) (ec : Ec) : Sp := fun vs H Q E => ∃ (n : Int) (q : Addr) (w : Raw) (p1 p2 : Addr) (ts as : List Int), vs = [.int n, .ref q, .ref p1, .ref p2] ∧ H q = some (.tup (rawV w)) ∧ RawS w ∧ SqL K H p1 (ts.map V.int) ∧ SqL K H p2 (as.map V.int) ∧
  ts.length ≤ 100000 ∧ (∀ r, w = toRaw r → Wh n → RuleOk n r → ts ≠ [] → (as.length : Int) = wantN w ts → ∀ o H', FW n r ts as o → Same H H' → Q (optV o) H') ∧ (¬ Wh n → E (.ref ec.BadWheel) none H) ∧ (Wh n → ¬ RawOk n w → ∀ H', Same H H' → E (.ref ec.BadRule) none H') ∧
  (Wh n → RawOk n w → (ts = [] ∨ ¬ (as.length : Int) = wantN w ts) → ∀ H', Same H H' → E (.ref ec.BadGaps) none H')
theorem Kp.at {a b : Addr} {H H' : Hp} {o : HO} (k : Kp a H H') (h : H b = some o) (n : b ≠ a) : H' b = some o := k b o h n
theorem Kp.seq {K : PySem.W.Frag} {a p : Addr} {H H' : Hp} {xs : List V} (g : Kp a H H') (h : SqL K H p xs) (n : p ≠ a) : SqL K H' p xs := by
  rcases h with (h | ⟨o, h⟩) | h
  · exact .inl (.inl (g _ _ h n))
  · exact .inl (.inr ⟨o, g _ _ h n⟩)
  · exact .inr h
theorem SeenAt.kp {H H' : Hp} {r : Rule} {v : V} {x : Int × Int} {p C dx : Addr} {fs : List (Str × V)} (g : Kp p H H') (hp : H p = some (.ins C dx fs)) (h : SeenAt H r v x) : SeenAt H' r v x := by
  cases r with
  | pair o =>
    obtain ⟨q, h1, h2⟩ := h
    exact ⟨q, h1, g _ _ h2 (ne_of h2 hp (by intro z; cases z))⟩
  | _ => exact h
theorem int_getD {ts : List Int} {k : Nat} (h : k < ts.length) : atI (ts.map V.int) (k : Int) = some (.int (ts.getD k 0)) := by
  refine atI_nat ?_
  rw [List.getElem?_map, List.getElem?_eq_getElem h, List.getD_eq_getElem?_getD, List.getElem?_eq_getElem h]
  rfl
theorem Gp.ok {n : Int} {r : Rule} {ts as : List Int} {k : Nat} : OkAt n r ts as k ↔ Gp n r (shownR n r (ts.getD (k - 1) 0)) (shownR n r (ts.getD k 0)) (as.getD (k - 1) 0) (ts.getD k 0 - ts.getD (k - 1) 0) :=
  ⟨fun h => ⟨h.1, h.2, Cg.true⟩, fun h => ⟨h.1, h.2.1⟩⟩
theorem aboutV_int {r : Rule} {a : Int} : aboutV r (.int a) a := by cases r <;> first | rfl | trivial
theorem aboutV_non {r : Rule} {a : Int} (h : ∀ f, r ≠ .about f) : aboutV r .non a := by
  cases r with
  | about f => exact absurd rfl (h f)
  | _ => trivial
theorem wantA {f : Int} {ts : List Int} : wantN (toRaw (.about f)) ts = (ts.length : Int) - 1 := by
  show (if ("about" : Str) = "about" then (ts.length : Int) - 1 else 0) = _
  rw [if_pos rfl]
theorem wantU {f : Int} {ts : List Int} : wantN (toRaw (.up f)) ts = 0 := by
  show (if ("up" : Str) = "about" then (ts.length : Int) - 1 else 0) = _
  rw [if_neg (by decide)]
theorem wantP {f : Int} {ts : List Int} : wantN (toRaw (.pair f)) ts = 0 := by
  show (if ("pair" : Str) = "about" then (ts.length : Int) - 1 else 0) = _
  rw [if_neg (by decide)]
theorem want_about {r : Rule} {ts as : List Int} (h : (as.length : Int) = wantN (toRaw r) ts) (h2 : 1 < ts.length) (h3 : as = []) : ∀ f, r ≠ .about f := by
  rintro f rfl
  subst h3
  have : wantN (toRaw (.about f)) ts = (ts.length : Int) - 1 := wantA
  rw [this] at h
  simp at h
  omega
theorem want_len {r : Rule} {ts as : List Int} (h : (as.length : Int) = wantN (toRaw r) ts) (h2 : as ≠ []) : as.length = ts.length - 1 := by
  have h0 : 0 < as.length := List.length_pos_iff.mpr h2
  cases r with
  | about f =>
    have : wantN (toRaw (.about f)) ts = (ts.length : Int) - 1 := wantA
    omega
  | up l =>
    have : wantN (toRaw (.up l)) ts = 0 := wantU
    omega
  | pair l =>
    have : wantN (toRaw (.pair l)) ts = 0 := wantP
    omega
  | near =>
    have : wantN (toRaw .near) ts = 0 := rfl
    omega
end My
namespace My
open PySem PySem.Spec PyProof.Rows L2
section
variable {P : Program} {w : World} {K : PySem.W.Frag} {mg : Str → Option Value} {base : Heap} {ec : Ec}
theorem sc_Reader_init : FnScope ["self", "wheel", "rule", "begun"] ["self", "wheel", "rule", "begun"] (defScope s_Reader_init) := ⟨rfl, rfl, rfl, by decide +kernel, rfl, by decide +kernel, by decide +kernel⟩
theorem ok_Reader_init (T : Txt K mg ec) (D : FnI K ec.Reader "Reader.__init__" s_Reader_init) (c_need_rule : Knows P w K mg base 3 "need_rule" ["wheel", "rule"] (sp_need_rule ec)) (c_shown_of : Knows P w K mg base 1 "shown_of" ["wheel", "rule", "time"] sp_shown_of) : KnowsI P w K mg base 4 ec.Reader ["self", "wheel", "rule", "begun"] (sp_init ec) := by
  refine KnowsI.mk' D sc_Reader_init (fun _ _ _ _ _ _ us hl => match us, hl with | [_, _, _, _], _ => rfl) (fun vs H Q E h => ?_) (fun f cdv A outer s H vs Q E hr h => ?_)
  · obtain ⟨p, dx, n, q, raw, t, rfl, _⟩ := h; rfl
  · obtain ⟨p, dx, n, q, raw, t, rfl, hp, hq, hs, k1, k2, k3⟩ := h
    refine ⟨_, (pss_cons (ps_expr (pe_callN c_need_rule (hr.mono (by first | decide | omega)) passD (pa_cons (pv 1) (pa_cons (pv 2) pa_nil))))
    (pss_cons (ps_fld (pv 0) (pv 1) rfl)
    (pss_cons (ps_fld (pv 0) (pv 2) rfl)
    (pss_cons (ps_fld (pv 0) (pe_callN c_shown_of (hr.mono (by first | decide | omega)) passD (pa_cons (pv 1) (pa_cons (pv 2) (pa_cons (pv 3) pa_nil)))) rfl)
    (pss_one (ps_fld (pv 0) (pv 3) rfl)))))), ?_⟩
    refine g_start (σ := [some _, some _, some _, some _]) rfl ?_
    try dsimp only [cxOf]
    walk_at "go"
    refine ⟨n, q, raw, rfl, hq, hs, fun hw hr1 H1 e1 => ?_, k2, k3⟩
    obtain ⟨r, rfl, hr2⟩ := rule_of hr1
    have hp1 := e1 _ _ hp
    have hq1 := e1 _ _ hq
    rw [rawV_to] at hq1
    have nqp : q ≠ p := ne_of hq1 hp1 (by intro z; cases z)
    walk_at "go"
    refine ⟨p, ec.Reader, dx, _, rfl, hp1, T.k_Reader, T.n_Reader_wheel, by decide, ?_⟩
    walk_at "go"
    refine ⟨p, ec.Reader, dx, _, rfl, upd_same, T.k_Reader, T.n_Reader_rule, by show 1 < 1000; decide, ?_⟩
    have kp2 : Kp p H1 (upd (upd H1 p (.ins ec.Reader dx (putF "wheel" (.int n) []))) p (.ins ec.Reader dx (putF "rule" (.ref q) (putF "wheel" (.int n) [])))) := Kp.upd.trans Kp.upd
    have hp2 : upd (upd H1 p (.ins ec.Reader dx (putF "wheel" (.int n) []))) p (.ins ec.Reader dx (putF "rule" (.ref q) (putF "wheel" (.int n) []))) p = some (.ins ec.Reader dx (putF "rule" (.ref q) (putF "wheel" (.int n) []))) := upd_same
    generalize upd (upd H1 p (.ins ec.Reader dx (putF "wheel" (.int n) []))) p (.ins ec.Reader dx (putF "rule" (.ref q) (putF "wheel" (.int n) []))) = H2 at kp2 hp2
    walk_at "go"
    refine ⟨n, q, r, t, rfl, kp2.at hq1 nqp, hw, hr2, fun v H3 e3 hv => ?_⟩
    have hp3 := e3 _ _ hp2
    walk_at "go"
    refine ⟨p, ec.Reader, dx, _, rfl, hp3, T.k_Reader, T.n_Reader_last, by show 2 < 1000; decide, ?_⟩
    walk_at "go"
    refine ⟨p, ec.Reader, dx, _, rfl, upd_same, T.k_Reader, T.n_Reader_told, by show 3 < 1000; decide, ?_⟩
    walk_at "go"
    have kp4 : Kp p H3 (upd (upd H3 p (.ins ec.Reader dx (putF "last" v (putF "rule" (.ref q) (putF "wheel" (.int n) []))))) p (.ins ec.Reader dx (putF "told" (.int t) (putF "last" v (putF "rule" (.ref q) (putF "wheel" (.int n) [])))))) := Kp.upd.trans Kp.upd
    exact k1 r rfl hw hr2 v _ (hv.kp kp4 hp3) ⟨dx, upd_same⟩ (((Kp.same e1).trans kp2).trans ((Kp.same e3).trans kp4))
theorem sc_Reader_look : FnScope ["self", "seen", "about"] ["self", "seen", "about"] (defScope s_Reader_look) := ⟨rfl, rfl, rfl, by decide +kernel, rfl, by decide +kernel, by decide +kernel⟩
theorem ok_Reader_look (T : Txt K mg ec) (D : FnD K ec.Reader "look" "Reader.look" [.non] s_Reader_look) (c_need_shown : Knows P w K mg base 2 "need_shown" ["wheel", "rule", "seen"] (sp_need_shown ec)) (c_gap_of : Knows P w K mg base 3 "gap_of" ["wheel", "rule", "one", "other", "about"] (sp_gap_of ec)) : KnowsM2 P w K mg base 4 ec.Reader "look" ["self", "seen", "about"] (sp_look ec) := by
  refine KnowsD.mk2 D sc_Reader_look (fun T kV doc pm an cdv ct us its h1 h2 => match us, its, h1, h2 with | [_, _, _], [_], _, _ => ⟨_, rfl, rfl⟩) (fun T kV doc pm an cdv ct us its h1 h2 => match us, its, h1, h2 with | [_, _], [_], _, _ => ⟨_, rfl, rfl⟩) (fun vs H Q E h => ?_) (fun f cdv A outer s H vs Q E hr h => ?_)
  · obtain ⟨p, n, q, r, v, v2, v3, t, x, y, a, rfl, _⟩ := h; rfl
  · obtain ⟨p, n, q, r, v, v2, v3, t, x, y, a, rfl, ⟨dx, hp⟩, hq, hw, hr0, hv, hv2, hv3, k1, k2, k3⟩ := h
    refine ⟨_, (pss_cons (ps_expr (pe_callN c_need_shown (hr.mono (by first | decide | omega)) passD (pa_cons (pe_fld (pv 0) rfl) (pa_cons (pe_fld (pv 0) rfl) (pa_cons (pv 1) pa_nil)))))
    (pss_cons (ps_fld (pv 0) (pe_op op_add (pe_fld (pv 0) rfl) (pe_callN c_gap_of (hr.mono (by first | decide | omega)) passD (pa_cons (pe_fld (pv 0) rfl) (pa_cons (pe_fld (pv 0) rfl) (pa_cons (pe_fld (pv 0) rfl) (pa_cons (pv 1) (pa_cons (pv 2) pa_nil))))))) rfl)
    (pss_cons (ps_fld (pv 0) (pv 1) rfl)
    (pss_one (ps_ret (pe_fld (pv 0) rfl)))))), ?_⟩
    refine g_start (σ := [some _, some _, some _]) rfl ?_
    try dsimp only [cxOf]
    walk_at "go"
    refine g_fldR T.k_Reader T.n_Reader_wheel hp rdF_wheel ?_
    walk_at "go"
    refine g_fldR T.k_Reader T.n_Reader_rule hp rdF_rule ?_
    walk_at "go"
    refine ⟨n, q, r, v2, y, rfl, hq, hv2, fun hy => ?_, k3⟩
    walk_at "go"
    refine g_fldR T.k_Reader T.n_Reader_told hp rdF_told ?_
    walk_at "go"
    refine g_fldR T.k_Reader T.n_Reader_wheel hp rdF_wheel ?_
    walk_at "go"
    refine g_fldR T.k_Reader T.n_Reader_rule hp rdF_rule ?_
    walk_at "go"
    refine g_fldR T.k_Reader T.n_Reader_last hp rdF_last ?_
    walk_at "go"
    refine ⟨n, q, r, v, v2, v3, x, y, a, rfl, hq, hw, hr0, hv, hv2, hv3, fun g H1 hg e1 => ?_, fun hno => k2 hy (hno.no hw hr0)⟩
    have hp1 := e1 _ _ hp
    walk_at "go"
    refine ⟨p, ec.Reader, dx, _, rfl, hp1, T.k_Reader, T.n_Reader_told, by show 4 < 1000; decide, ?_⟩
    walk_at "go"
    refine ⟨p, ec.Reader, dx, _, rfl, upd_same, T.k_Reader, T.n_Reader_last, by show 4 < 1000; decide, ?_⟩
    walk_at "go"
    refine g_fldR T.k_Reader T.n_Reader_told upd_same (v := .int (t + g)) rfl ?_
    walk_at "go"
    exact k1 hy g _ hg ⟨dx, upd_same⟩ ((Kp.same e1).trans (Kp.upd.trans Kp.upd))
theorem sc_is_right : FnScope ["reader", "time", "about"] ["reader", "time", "about"] (defScope s_is_right) := ⟨rfl, rfl, rfl, by decide +kernel, rfl, by decide +kernel, by decide +kernel⟩
theorem ok_is_right (T : Txt K mg ec) (D : Fn K mg "is_right" s_is_right) (c_Reader_look : KnowsM2 P w K mg base 4 ec.Reader "look" ["self", "seen", "about"] (sp_look ec)) (c_shown_of : Knows P w K mg base 1 "shown_of" ["wheel", "rule", "time"] sp_shown_of) : Knows P w K mg base 5 "is_right" ["reader", "time", "about"] (sp_is_right ec) := by
  refine Knows.mk' D sc_is_right (fun _ _ _ _ _ _ us hl => match us, hl with | [_, _, _], _ => rfl) (fun vs H Q E h => ?_) (fun f cdv A outer s H vs Q E hr h => ?_)
  · obtain ⟨p, n, q, r, v, v3, t, time, x, a, rfl, _⟩ := h; rfl
  · obtain ⟨p, n, q, r, v, v3, t, time, x, a, rfl, ⟨dx, hp⟩, hq, hw, hr0, hv, hv3, k1, k2⟩ := h
    refine ⟨_, (pss_one (ps_try_only (tb := fun W => tRet (tOp rEq (tMeth ec.Reader "look" (sp_look ec) [] (fun cls d H => ∀ σ, W cls d σ H) (tVar 0) (tCons (tCall sp_shown_of [] (fun cls d H => ∀ σ, W cls d σ H) (tCons (tFld K (tVar 0) "wheel") (tCons (tFld K (tVar 0) "rule") (tCons (tVar 1) tNil)))) (tCons (tVar 2) tNil))) (tVar 1))) (ts := fun _ _ _ => tRet (tC (.bl false))) rfl rfl ⟨rfl, by decide, Or.inl T.x_NoGap.g⟩ takesD (fun W pn xe tk _ => (pss_one (ps_ret (pe_cmpR op_eq (pe_methN (pv 0) T.k_Reader c_Reader_look.three (hr.mono (by first | decide | omega)) (passA tk) (by exact (pa_cons (pe_callN c_shown_of (hr.mono (by first | decide | omega)) (passA tk) (by exact (pa_cons (pe_fld (pv 0) rfl) (pa_cons (pe_fld (pv 0) rfl) (pa_cons (pv 1) pa_nil))))) (pa_cons (pv 2) pa_nil)))) (pv 1) (nomark _))))) (fun _ _ _ _ _ _ _ => (pss_one (ps_ret pe_bl))))), ?_⟩
    refine g_start (σ := [some _, some _, some _]) rfl ?_
    try dsimp only [cxOf]
    walk_at "go"
    refine ⟨p, dx, _, rfl, hp, rdF_look, ?_⟩
    walk_at "go"
    refine g_fldR T.k_Reader T.n_Reader_wheel hp rdF_wheel ?_
    walk_at "go"
    refine g_fldR T.k_Reader T.n_Reader_rule hp rdF_rule ?_
    walk_at "go"
    refine ⟨n, q, r, time, rfl, hq, hw, hr0, fun v2 H1 e1 hv2 => ?_⟩
    walk_at "go"
    refine ⟨p, n, q, r, v, v2, v3, t, x, shownR n r time, a, rfl, ⟨dx, e1 _ _ hp⟩, e1 _ _ hq, hw, hr0, hv.same e1, hv2, hv3, fun hy g H2 hg hR kp => ?_, fun hy hn σ' => ?_, fun hy => absurd (SeenOk.true hw hr0) hy⟩
    · walk_at "go"
      have e : decide (V.int (t + g) = V.int time) = decide (t + g = time) := by simp
      rw [e]
      exact k1 g v2 H2 hg (hv2.kp kp (e1 _ _ hp)) hR ((Kp.same e1).trans kp)
    · exact ⟨true, T.h_NoGap, fun _ a ha => k2 hn _ e1, fun z => by cases z⟩
theorem sc_first_wrong : FnScope ["wheel", "rule", "times", "abouts", "wanted", "reader", "number"] ["wheel", "rule", "times", "abouts"] (defScope s_first_wrong) := ⟨rfl, rfl, rfl, by decide +kernel, rfl, by decide +kernel, by decide +kernel⟩
theorem ok_first_wrong (T : Txt K mg ec) (D : Fn K mg "first_wrong" s_first_wrong) (c_need_rule : Knows P w K mg base 3 "need_rule" ["wheel", "rule"] (sp_need_rule ec)) (c_Reader_init : KnowsI P w K mg base 4 ec.Reader ["self", "wheel", "rule", "begun"] (sp_init ec)) (c_is_right : Knows P w K mg base 5 "is_right" ["reader", "time", "about"] (sp_is_right ec)) : Knows P w K mg base 6 "first_wrong" ["wheel", "rule", "times", "abouts"] (sp_first_wrong K ec) := by
  refine Knows.mk' D sc_first_wrong (fun _ _ _ _ _ _ us hl => match us, hl with | [_, _, _, _], _ => rfl) (fun vs H Q E h => ?_) (fun f cdv A outer s H vs Q E hr h => ?_)
  · obtain ⟨n, q, raw, p1, p2, ts, as, rfl, _⟩ := h; rfl
  · obtain ⟨n, q, raw, p1, p2, ts, as, rfl, hq, hs, hp1, hp2, hl, k1, k2, k3, k4⟩ := h
    refine ⟨_, (pss_cons (ps_expr (pe_callN c_need_rule (hr.mono (by first | decide | omega)) passD (pa_cons (pv 0) (pa_cons (pv 1) pa_nil))))
    (pss_cons (ps_set (i := 4) sc_first_wrong.nd rfl (Or.inl rfl) (pe_ifExp (pt_cmpR op_eq (pe_ix ix_tup (pv 1) pe_int (fun _ _ => rfl)) pe_str (nomark _)) (pe_op op_sub (pe_callB call_lenN (by rfl) T.len PySem.boot_len (pa_cons (pv 2) pa_nil)) pe_int) pe_int))
    (pss_cons (ps_if (PW.pt (pw_or (pt_cmpR (op_eqD hr.units) (pv 2) (pe_lst pa_nil) (nomark _)) (pw_or1 (pt_cmpR op_ne (pe_callB call_lenN (by rfl) T.len PySem.boot_len (pa_cons (pv 3) pa_nil)) (pv 4) (nomark _))))) (pss_one (ps_raiseN T.x_BadGaps)) pss_nil)
    (pss_cons (ps_set (i := 5) sc_first_wrong.nd rfl (Or.inl rfl) (pe_makeN c_Reader_init (hr.mono (by first | decide | omega)) T.g_Reader passD (pa_cons (pv 0) (pa_cons (pv 1) (pa_cons (pe_ix ix_list (pv 2) pe_int (fun _ _ => rfl)) pa_nil)))))
    (pss_cons (ps_for passO rfl (pi_range2 (by rfl) T.range (pa_cons pe_int (pa_cons (pe_callB call_lenN (by rfl) T.len PySem.boot_len (pa_cons (pv 2) pa_nil)) pa_nil))) (pg_name (i := 6) sc_first_wrong.nd rfl (Or.inl rfl)) (pss_one (ps_if (pt_not (pt_val (pe_callN c_is_right (hr.mono (by first | decide | omega)) passD (pa_cons (pv 5) (pa_cons (pe_ix ix_list (pv 2) (pv 6) (fun _ _ => rfl)) (pa_cons (pe_ifExp (pt_cmpR (op_neD hr.units) (pv 3) (pe_lst pa_nil) (nomark _)) (pe_ix ix_list (pv 3) (pe_op op_sub (pv 6) pe_int) (fun _ _ => rfl)) pe_non) pa_nil)))) (by intro _; rfl))) (pss_one (ps_ret (pv 6))) pss_nil)))
    (pss_one (ps_ret pe_non))))))), ?_⟩
    refine g_start (σ := [some _, some _, some _, some _, none, none, none]) rfl ?_
    try dsimp only [cxOf]
    walk_at "go"
    refine ⟨n, q, raw, rfl, hq, hs, fun hw hr1 H1 e1 => ?_, k2, k3⟩
    obtain ⟨r, rfl, hr2⟩ := rule_of hr1
    have hq1 := e1 _ _ hq
    rw [rawV_to] at hq1
    have hp11 := e1.seq hp1
    have hp21 := e1.seq hp2
    refine g_seq ?_
    refine g_cutS (fun σ' H' => H' = H1 ∧ σ' = [some (V.int n), some (V.ref q), some (V.ref p1), some (V.ref p2), some (V.int (wantN (toRaw r) ts)), none, none]) (fun N hN => ?_) ?_
    · walk_at "go"
      cases r with
      | about f =>
        refine g_ixT (SqT.of hq1) (v := .str "about") rfl ?_
        walk_at "go"
        refine g_lenL hp11 ?_
        rw [List.length_map]
        walk_at "go"
        have : wantN (toRaw (.about f)) ts = (ts.length : Int) - 1 := wantA
        exact hN _ _ ⟨rfl, by rw [this]⟩
      | up l =>
        refine g_ixT (SqT.of hq1) (v := .str "up") rfl ?_
        walk_at "go"
        have : wantN (toRaw (.up l)) ts = 0 := wantU
        exact hN _ _ ⟨rfl, by rw [this]⟩
      | pair l =>
        refine g_ixT (SqT.of hq1) (v := .str "pair") rfl ?_
        walk_at "go"
        have : wantN (toRaw (.pair l)) ts = 0 := wantP
        exact hN _ _ ⟨rfl, by rw [this]⟩
      | near =>
        refine g_ixT (SqT.of hq1) (v := .str "near") rfl ?_
        walk_at "go"
        have : wantN (toRaw .near) ts = 0 := rfl
        exact hN _ _ ⟨rfl, by rw [this]⟩
    rintro σ' H' ⟨rfl, rfl⟩
    walk_at "go"
    intro t ht
    have e2 : Same H' (upd H' t (.lst [])) := Same.new ht
    refine g_eqInts (ms := []) (e2.seq hp11) (SqL.of upd_same) ?_
    walk_at "go"
    refine ite_dec (fun h1 => ?_) (fun h1 => ?_)
    · walk_at "go"
      exact k4 hw (rawOk_to.mpr hr2) (.inl h1) _ (e1.trans e2)
    walk_at "go"
    refine g_lenL (e2.seq hp21) ?_
    rw [List.length_map]
    walk_at "go"
    refine ite_ndec (fun h2 => ?_) (fun h2 => ?_)
    · exact k4 hw (rawOk_to.mpr hr2) (.inr fun z => h2 (by rw [z])) _ (e1.trans e2)
    have h2 : (as.length : Int) = wantN (toRaw r) ts := V.int.inj h2
    have hl0 : 0 < ts.length := List.length_pos_iff.mpr h1
    walk_at "go"
    refine g_ixL (e2.seq hp11) (int_getD (k := 0) hl0) ?_
    walk_at "go"
    have e12 := e1.trans e2
    have hq2 := e2 _ _ hq1
    have hp12 := e2.seq hp11
    have hp22 := e2.seq hp21
    generalize upd H' t (.lst []) = H2 at e12 hq2 hp12 hp22
    intro x dx nx ndx nex
    have e3 : Same H2 (upd (upd H2 dx (.own x)) x (.ins ec.Reader dx [])) := fun b o e => by
      rw [upd_ne (ne_of_none e nx), upd_ne (ne_of_none e ndx)]
      exact e
    have nqx : q ≠ x := ne_of_none hq2 nx
    refine ⟨x, dx, n, q, toRaw r, ts.getD 0 0, rfl, upd_same, by rw [rawV_to]; exact e3 _ _ hq2, rawS_to r, fun r' er _ _ v H3 hv hR kp => ⟨rfl, ?_⟩, fun h => (h hw).elim, fun _ h => absurd (rawOk_to.mpr hr2) h⟩
    cases toRaw_inj er
    have e23 : Same H2 H3 := fun b o e => kp b o (e3 b o e) (ne_of_none e nx)
    walk_at "go"
    refine g_lenL (e23.seq hp12) ?_
    rw [List.length_map]
    walk_at "go"
    refine ⟨_, _, rfl, ⟨by decide, by decide, by omega, by omega⟩, for_R (fun j σ H' => ∃ v u, σ = [some (V.int n), some (V.ref q), some (V.ref p1), some (V.ref p2), some (V.int (wantN (toRaw r) ts)), some (V.ref x), u] ∧ RdAt ec.Reader H' x n q v (ts.getD j 0) ∧
      SeenAt H' r v (shownR n r (ts.getD j 0)) ∧ Same H2 H' ∧ ∀ i, 1 ≤ i → i < j + 1 → OkAt n r ts as i) ⟨v, _, rfl, hR, hv, e23, fun i h1 h2 => by omega⟩ ?_ ?_⟩
    · rintro j σ H4 hj ⟨v4, u4, rfl, hR4, hv4, e24, hok⟩
      have hj1 : j + 1 < ts.length := by omega
      have ej : (1 : Int) + (j : Int) = ((j + 1 : Nat) : Int) := by omega
      rw [ej]
      walk_at "goE"
      refine g_ixL (e24.seq hp12) (int_getD hj1) ?_
      walk_at "goE"
      refine g_cutE (fun v H' => aboutV r v (as.getD j 0) ∧ Same H4 H') (fun Q' hQ => ?_) ?_
      · walk_at "go"
        intro t2 ht2
        have e5 : Same H4 (upd H4 t2 (.lst [])) := Same.new ht2
        refine g_neInts (ms := []) ((e24.trans e5).seq hp22) (SqL.of upd_same) ?_
        walk_at "go"
        refine ite_ndec (fun h3 => ?_) (fun h3 => ?_)
        · walk_at "go"
          have hal := want_len h2 h3
          have ej2 : ((j + 1 : Nat) : Int) - 1 = (j : Int) := by omega
          rw [ej2]
          refine g_ixL ((e24.trans e5).seq hp22) (int_getD (by omega)) ?_
          exact hQ _ _ ⟨aboutV_int, e5⟩
        · walk_at "go"
          exact hQ _ _ ⟨aboutV_non (want_about h2 (by omega) h3), e5⟩
      · rintro v3 H5 ⟨hv3, e5⟩
        walk_at "go"
        obtain ⟨dx4, hR4⟩ := hR4
        refine ⟨x, n, q, r, v4, v3, ts.getD j 0, ts.getD (j + 1) 0, shownR n r (ts.getD j 0), as.getD j 0, rfl, ⟨dx4, e5 _ _ hR4⟩, (e24.trans e5) _ _ hq2, hw, hr2, hv4.same e5, hv3, fun g v6 H6 hg hv6 hR6 kp6 => ?_, fun hn H6 e6 => ?_⟩
        · walk_at "go"
          have e46 : Same H2 H6 := fun b o e => kp6 b o ((e24.trans e5) b o e) (ne_of_none e nx)
          refine ite_ndec (fun h3 => ?_) (fun h3 => ?_)
          · walk_at "go"
            refine k1 r rfl hw hr2 h1 h2 (some (j + 1)) H6 ⟨by omega, hj1, fun hk => h3 ?_, fun i i1 i2 => hok i i1 (by omega)⟩ (e12.trans e46)
            have z := Gp.uniq hw hr2 hg (Gp.ok.mp hk)
            rw [z]
            show ts.getD j 0 + (ts.getD (j + 1) 0 - ts.getD j 0) = _
            omega
          · walk_at "go"
            refine ⟨v6, _, rfl, by rw [← h3]; exact hR6, hv6, e46, fun i i1 i2 => ?_⟩
            by_cases hi : i < j + 1
            · exact hok i i1 hi
            · have : i = j + 1 := by omega
              subst this
              refine Gp.ok.mpr ?_
              show Gp n r (shownR n r (ts.getD j 0)) _ (as.getD j 0) (ts.getD (j + 1) 0 - ts.getD j 0)
              have z : ts.getD (j + 1) 0 - ts.getD j 0 = g := by omega
              rw [z]
              exact hg
        · walk_at "go"
          exact k1 r rfl hw hr2 h1 h2 (some (j + 1)) H6 ⟨by omega, hj1, fun hk => hn _ (Gp.ok.mp hk), fun i i1 i2 => hok i i1 (by omega)⟩ (e12.trans ((e24.trans e5).trans e6))
    · rintro σ H4 ⟨v4, u4, rfl, hR4, hv4, e24, hok⟩
      walk_at "go"
      exact k1 r rfl hw hr2 h1 h2 none H4 (fun i i1 i2 => hok i i1 (by omega)) (e12.trans e24)
end
end My
namespace My
open PySem PySem.Spec PyProof.Rows L2
/-! ### promises: what the laws about rules draw -/
def sp_rule (K : PySem.W.Frag) : Sp := fun vs H Q _ => ∃ (a s : Addr) (n : Int), vs = [.ref a, .int n] ∧ Dr K a s H ∧ Wh n ∧ ∀ r q H', RuleOk n r → H' q = some (.tup (ruleV r)) → Go K a s H H' → Q (.ref q) H'
def sp_time (K : PySem.W.Frag) : Sp := fun vs H Q _ => ∃ (a s : Addr), vs = [.ref a] ∧ Dr K a s H ∧ ∀ t H', Go K a s H H' → Q (.int t) H'
def sp_lbound : Sp := fun vs H Q _ => ∃ (n : Int) (q : Addr) (r : Rule), vs = [.int n, .ref q] ∧ H q = some (.tup (ruleV r)) ∧ Wh n ∧ RuleOk n r ∧ ∀ p H', Same H H' → H' p = some (.tup [.int (loR n r), .int (hiR n r)]) → Q (.ref p) H'
def sp_near_bound (K : PySem.W.Frag) : Sp := fun vs H Q _ => ∃ (a s : Addr) (n : Int) (q : Addr) (r : Rule), vs = [.ref a, .int n, .ref q] ∧ Dr K a s H ∧ H q = some (.tup (ruleV r)) ∧ Wh n ∧ RuleOk n r ∧ ∀ t H', Go K a s H H' → Q (.int t) H'
theorem wide_R {n : Int} {r : Rule} (hw : Wh n) (hr : RuleOk n r) : Mn (hiR n r - loR n r + 1) := by
  have h1 := hw.1
  have h2 := hw.2
  cases r with
  | up l => exact ⟨by show 0 < l + n - 1 - l + 1; omega, by show l + n - 1 - l + 1 < _; omega⟩
  | near => exact ⟨by show 0 < n / 2 - (0 - (n - 1) / 2) + 1; omega, by show n / 2 - (0 - (n - 1) / 2) + 1 < _; omega⟩
  | pair o =>
    have o1 := hr.1
    have o2 := hr.2
    have a1 := lcmI_pos (n := n) (o := o) (by omega) (by omega)
    have a2 := lcmI_le (n := n) (o := o) (by omega) (by omega)
    have a3 : n * o ≤ 1000000000000 * 1000000000000 := Int.mul_le_mul h2 o2 (by omega) (by decide)
    have a4 : (1000000000000 * 1000000000000 : Int) < 2 ^ 150 := by decide
    exact ⟨by show 0 < lcmI n o - 1 - 0 + 1; omega, by show lcmI n o - 1 - 0 + 1 < _; omega⟩
  | about f =>
    have o1 := hr.1
    have o2 := hr.2
    exact ⟨by show 0 < f - (0 - f) + 1; omega, by show f - (0 - f) + 1 < _; omega⟩
section
variable {K : PySem.W.Frag} {a s p : Addr} {H : Hp} {m : Int} {E : XK} {Q : VK}
/-- one of a new list, drawn -/
theorem g_pick {xs : List V} (hp : H p = none) (hD : Dr K a s H) (hm : Mn m) (hl : m = (xs.length : Int)) (q : ∀ v H', v ∈ xs → Go K a s (upd H p (.lst xs)) H' → Go K a s H H' → H' p = some (.lst xs) → Q v H') :
    sp_drawn K [.ref a, .int m] (upd H p (.lst xs)) (fun v H1 => rIxL K (.ref p) v H1 Q) E := by
  refine ⟨a, s, m, rfl, hD.same (Same.new hp), hm, fun r H1 h0 h1 g => ?_⟩
  have hne : p ≠ a := hD.ne hp
  have hl1 := g.at upd_same hne
  exact g_ixAny (SqL.of hl1) h0 (by omega) fun v hv => q v H1 hv g (g.new hp) hl1
theorem g_pickI {zs : List Int} (hp : H p = none) (hD : Dr K a s H) (hm : Mn m) (hl : m = (zs.length : Int)) (q : ∀ z H', z ∈ zs → Go K a s H H' → Q (.int z) H') :
    sp_drawn K [.ref a, .int m] (upd H p (.lst (zs.map V.int))) (fun v H1 => rIxL K (.ref p) v H1 Q) E :=
  g_pick hp hD hm (by rw [List.length_map]; exact hl) fun v H' hv _ g _ => by
    obtain ⟨z, rfl, hz⟩ := one_int hv
    exact q z H' hz g
end
/-- a new thing, not known to H, is changed by a def that keeps all else -/
theorem Dr.kpx {K : PySem.W.Frag} {a s D : Addr} {H H1 H' : Hp} (d : Dr K a s H) (d' : Dr K a s H1) (h : H D = none) (kp : Kp D H1 H') : Dr K a s H' := by
  obtain ⟨ns, i, m, l, h1, h2, h3, h4⟩ := d.ex
  obtain ⟨ns', i', m', l', g1, g2, g3, g4⟩ := d'.ex
  have nDa : a ≠ D := ne_of_none h1 h
  rcases h2 (.tbl #[]) with hr | hk
  · have nDs : s ≠ D := fun e => by
      subst e
      have z : L2.upd H a (.tbl #[]) s = none := by rw [upd_ne nDa.symm]; exact h
      rcases hr with hr | ⟨_, hr⟩ <;> rw [z] at hr <;> cases hr
    refine ⟨ns', i', m', l', kp _ _ g1 nDa, fun o' => ?_, g3, g4⟩
    have key : ∀ u, L2.upd H1 a o' s = some u → L2.upd H' a o' s = some u := fun u z => by
      by_cases e : s = a
      · subst e; rw [upd_same] at z ⊢; exact z
      · rw [upd_ne e] at z ⊢; exact kp _ _ z nDs
    rcases g2 o' with q | q
    · refine .inl ?_
      rcases q with q | ⟨u, q⟩
      · exact .inl (key _ q)
      · exact .inr ⟨u, key _ q⟩
    · exact .inr q
  · exact ⟨ns, i', m', l', kp _ _ g1 nDa, fun o' => .inr hk, h3, g4⟩
theorem Go.kpx {K : PySem.W.Frag} {a s D : Addr} {H H1 H' : Hp} (g : Go K a s H H1) (d : Dr K a s H) (h : H D = none) (kp : Kp D H1 H') : Go K a s H H' :=
  ⟨d.kpx g.dr h kp, fun b o hb hn => kp b o (g.kp b o hb hn) (ne_of_none hb h)⟩
end My
namespace My
open PySem PySem.Spec PyProof.Rows L2
section
variable {P : Program} {w : World} {K : PySem.W.Frag} {mg : Str → Option Value} {base : Heap} {ec : Ec}
theorem sc__law_rule : FnScope ["_law_state", "_law_wheel_here", "_law_other", "_law_least", "_law_off"] ["_law_state", "_law_wheel_here"] (defScope s__law_rule) := ⟨rfl, rfl, rfl, by decide +kernel, rfl, by decide +kernel, by decide +kernel⟩
theorem ok__law_rule (T : Txt K mg ec) (D : Fn K mg "_law_rule" s__law_rule) (c__law_drawn : Knows P w K mg base 1 "_law_drawn" ["_law_state", "_law_many"] (sp_drawn K)) (c__law_wheel : Knows P w K mg base 2 "_law_wheel" ["_law_state"] (sp_wheel K)) : Knows P w K mg base 3 "_law_rule" ["_law_state", "_law_wheel_here"] (sp_rule K) := by
  refine Knows.mk' D sc__law_rule (fun _ _ _ _ _ _ us hl => match us, hl with | [_, _], _ => rfl) (fun vs H Q E h => ?_) (fun f cdv A outer s H vs Q E hr h => ?_)
  · obtain ⟨a, sc, n, rfl, _⟩ := h; rfl
  · obtain ⟨a, sc, n, rfl, hD, hw, k⟩ := h
    refine ⟨_, (pss_cons (ps_set (i := 2) sc__law_rule.nd rfl (Or.inl rfl) (pe_ix ix_list (pe_lst (pa_cons (pe_op op_add pe_int (pe_callN c__law_drawn (hr.mono (by first | decide | omega)) passD (pa_cons (pv 0) (pa_cons pe_int pa_nil)))) (pa_cons (pv 1) (pa_cons (pe_callN c__law_wheel (hr.mono (by first | decide | omega)) passD (pa_cons (pv 0) pa_nil)) pa_nil)))) (pe_callN c__law_drawn (hr.mono (by first | decide | omega)) passD (pa_cons (pv 0) (pa_cons pe_int pa_nil))) (fun _ _ => rfl)))
    (pss_cons (ps_set (i := 3) sc__law_rule.nd rfl (Or.inl rfl) (pe_ix ix_list (pe_lst (pa_cons pe_int (pa_cons (pe_callN c__law_drawn (hr.mono (by first | decide | omega)) passD (pa_cons (pv 0) (pa_cons (pe_op op_mul pe_int (pv 1)) pa_nil))) (pa_cons (pe_callN c__law_drawn (hr.mono (by first | decide | omega)) passD (pa_cons (pv 0) (pa_cons (pe_op op_add (pe_powc (v := 1000000000000) ⟨by decide, by decide, by decide⟩ (by decide)) pe_int) pa_nil))) pa_nil)))) (pe_callN c__law_drawn (hr.mono (by first | decide | omega)) passD (pa_cons (pv 0) (pa_cons pe_int pa_nil))) (fun _ _ => rfl)))
    (pss_cons (ps_set (i := 4) sc__law_rule.nd rfl (Or.inl rfl) (pe_ix ix_list (pe_lst (pa_cons pe_int (pa_cons (pe_callN c__law_drawn (hr.mono (by first | decide | omega)) passD (pa_cons (pv 0) (pa_cons (pe_op op_fdivW (pe_op op_add (pv 1) pe_int) pe_int) pa_nil))) (pa_cons (pe_op op_fdivW (pe_op op_sub (pv 1) pe_int) pe_int) pa_nil)))) (pe_callN c__law_drawn (hr.mono (by first | decide | omega)) passD (pa_cons (pv 0) (pa_cons pe_int pa_nil))) (fun _ _ => rfl)))
    (pss_one (ps_ret (pe_ix ix_list (pe_lst (pa_cons (pe_tup (pa_cons pe_str (pa_cons (pe_callB (call_min2N rfl) (by rfl) T.min (by decide +kernel) (pa_cons (pv 3) (pa_cons (pe_powc (v := 1000000000000) ⟨by decide, by decide, by decide⟩ (by decide)) pa_nil))) pa_nil))) (pa_cons (pe_tup (pa_cons pe_str pa_nil)) (pa_cons (pe_tup (pa_cons pe_str (pa_cons (pv 2) pa_nil))) (pa_cons (pe_tup (pa_cons pe_str (pa_cons (pv 4) pa_nil))) pa_nil))))) (pe_callN c__law_drawn (hr.mono (by first | decide | omega)) passD (pa_cons (pv 0) (pa_cons pe_int pa_nil))) (fun _ _ => rfl))))))), ?_⟩
    refine g_start (σ := [some _, some _, none, none, none]) rfl ?_
    try dsimp only [cxOf]
    have hw1 := hw.1
    have hw2 := hw.2
    walk_at "go"
    refine ⟨a, sc, 12, rfl, hD, by decide, fun r1 H1 h10 h11 g1 => ?_⟩
    walk_at "go"
    refine ⟨a, sc, rfl, g1.dr, fun o H2 ho g2 => ?_⟩
    walk_at "go"
    intro p hp
    walk_at "go"
    refine g_pickI (zs := [2 + r1, n, o]) hp g2.dr (by decide) rfl (fun oth H3 hoth g3 => ?_)
    have hoth : Wh oth := by
      simp only [List.mem_cons, List.not_mem_nil, or_false] at hoth
      rcases hoth with e | e | e
      · subst e; exact ⟨by omega, by omega⟩
      · subst e; exact hw
      · subst e; exact ho
    have g13 := (g1.trans g2).trans g3
    walk_at "go"
    refine ⟨a, sc, _, rfl, g3.dr, ⟨by omega, by omega⟩, fun r4 H4 h40 h41 g4 => ?_⟩
    walk_at "go"
    refine ⟨a, sc, _, rfl, g4.dr, by decide, fun r5 H5 h50 h51 g5 => ?_⟩
    walk_at "go"
    intro p2 hp2
    walk_at "go"
    refine g_pickI (zs := [0, r4, r5]) hp2 g5.dr (by decide) rfl (fun lea H6 hlea g6 => ?_)
    have hlea : 0 ≤ lea := by
      simp only [List.mem_cons, List.not_mem_nil, or_false] at hlea
      omega
    have g16 := (g13.trans (g4.trans g5)).trans g6
    walk_at "go"
    refine ⟨a, sc, _, rfl, g6.dr, ⟨by omega, by omega⟩, fun r7 H7 h70 h71 g7 => ?_⟩
    walk_at "go"
    intro p3 hp3
    walk_at "go"
    refine g_pickI (zs := [0, r7, (n - 1) / 2]) hp3 g7.dr (by decide) rfl (fun off H8 hoff g8 => ?_)
    have hoff : 0 ≤ 2 * off ∧ 2 * off < n := by
      simp only [List.mem_cons, List.not_mem_nil, or_false] at hoff
      omega
    have g18 := (g16.trans g7).trans g8
    clear g16 g13 g1 g2 g3 g4 g5 g6 g7 hp hp2 hp3
    walk_at "go"
    intro t1 ht1
    walk_at "go"
    intro t2 ht2
    walk_at "go"
    intro t3 ht3
    walk_at "go"
    intro t4 ht4
    walk_at "go"
    intro p4 hp4
    have s1 := Same.new (o := .tup [V.str "up", V.int (if (1000000000000 : Int) < lea then 1000000000000 else lea)]) ht1
    have u1 : upd H8 t1 (.tup [V.str "up", V.int (if (1000000000000 : Int) < lea then 1000000000000 else lea)]) t1 = some (.tup (ruleV (.up (if (1000000000000 : Int) < lea then 1000000000000 else lea)))) := upd_same
    generalize upd H8 t1 (.tup [V.str "up", V.int (if (1000000000000 : Int) < lea then 1000000000000 else lea)]) = H9 at *
    have s2 := Same.new (o := .tup [V.str "near"]) ht2
    have u2 : upd H9 t2 (.tup [V.str "near"]) t2 = some (.tup (ruleV .near)) := upd_same
    generalize upd H9 t2 (.tup [V.str "near"]) = H10 at *
    have s3 := Same.new (o := .tup [V.str "pair", V.int oth]) ht3
    have u3 : upd H10 t3 (.tup [V.str "pair", V.int oth]) t3 = some (.tup (ruleV (.pair oth))) := upd_same
    generalize upd H10 t3 (.tup [V.str "pair", V.int oth]) = H11 at *
    have s4 := Same.new (o := .tup [V.str "about", V.int off]) ht4
    have u4 : upd H11 t4 (.tup [V.str "about", V.int off]) t4 = some (.tup (ruleV (.about off))) := upd_same
    generalize upd H11 t4 (.tup [V.str "about", V.int off]) = H12 at *
    have s14 := ((s1.trans s2).trans s3).trans s4
    have g12 := g18.then s14
    have v3 := s4 _ _ u3
    have v2 := s4 _ _ (s3 _ _ u2)
    have v1 := s4 _ _ (s3 _ _ (s2 _ _ u1))
    walk_at "go"
    refine g_pick hp4 g12.dr (by decide) rfl (fun v H13 hv _ g13 _ => ?_)
    have hta : ∀ t vs, H12 t = some (.tup vs) → t ≠ a := fun t vs e z => by
      obtain ⟨ns, i, m, l, h1, _⟩ := g12.dr.ex
      rw [z] at e
      rw [e] at h1
      cases h1
    simp only [List.mem_cons, List.not_mem_nil, or_false] at hv
    rcases hv with e | e | e | e
    · subst e
      exact k _ _ _ (show RuleOk n (.up _) from ⟨by split <;> omega, by split <;> omega⟩) (g13.at v1 (hta _ _ v1)) (g12.trans g13)
    · subst e
      exact k _ _ _ (show RuleOk n .near from trivial) (g13.at v2 (hta _ _ v2)) (g12.trans g13)
    · subst e
      exact k _ _ _ (show RuleOk n (.pair oth) from hoth) (g13.at v3 (hta _ _ v3)) (g12.trans g13)
    · subst e
      exact k _ _ _ (show RuleOk n (.about off) from hoff) (g13.at u4 (hta _ _ u4)) (g12.trans g13)
theorem sc__law_time : FnScope ["_law_state", "_law_far_here"] ["_law_state"] (defScope s__law_time) := ⟨rfl, rfl, rfl, by decide +kernel, rfl, by decide +kernel, by decide +kernel⟩
theorem ok__law_time (T : Txt K mg ec) (D : Fn K mg "_law_time" s__law_time) (c__law_drawn : Knows P w K mg base 1 "_law_drawn" ["_law_state", "_law_many"] (sp_drawn K)) : Knows P w K mg base 2 "_law_time" ["_law_state"] (sp_time K) := by
  refine Knows.mk' D sc__law_time (fun _ _ _ _ _ _ us hl => match us, hl with | [_], _ => rfl) (fun vs H Q E h => ?_) (fun f cdv A outer s H vs Q E hr h => ?_)
  · obtain ⟨a, sc, rfl, _⟩ := h; rfl
  · obtain ⟨a, sc, rfl, hD, k⟩ := h
    refine ⟨_, (pss_cons (ps_set (i := 1) sc__law_time.nd rfl (Or.inl rfl) (pe_ix ix_list (pe_lst (pa_cons pe_int (pa_cons (pe_powc (v := 1000000) ⟨by decide, by decide, by decide⟩ (by decide)) (pa_cons (pe_powc (v := 1000000000000000000000000000000) ⟨by decide, by decide, by decide⟩ (by decide)) pa_nil)))) (pe_callN c__law_drawn (hr.mono (by first | decide | omega)) passD (pa_cons (pv 0) (pa_cons pe_int pa_nil))) (fun _ _ => rfl)))
    (pss_one (ps_ret (pe_op op_sub (pe_callN c__law_drawn (hr.mono (by first | decide | omega)) passD (pa_cons (pv 0) (pa_cons (pv 1) pa_nil))) (pe_op op_mul (pe_callN c__law_drawn (hr.mono (by first | decide | omega)) passD (pa_cons (pv 0) (pa_cons pe_int pa_nil))) (pv 1)))))), ?_⟩
    refine g_start (σ := [some _, none]) rfl ?_
    try dsimp only [cxOf]
    walk_at "go"
    intro p hp
    walk_at "go"
    refine g_pickI (zs := [100, 1000000, 1000000000000000000000000000000]) hp hD (by decide) rfl (fun far H1 hfar g1 => ?_)
    have hfar : Mn far := by
      simp only [List.mem_cons, List.not_mem_nil, or_false] at hfar
      rcases hfar with e | e | e <;> subst e <;> decide
    walk_at "go"
    refine ⟨a, sc, far, rfl, g1.dr, hfar, fun r2 H2 h20 h21 g2 => ?_⟩
    walk_at "go"
    refine ⟨a, sc, 2, rfl, g2.dr, by decide, fun r3 H3 h30 h31 g3 => ?_⟩
    walk_at "go"
    exact k _ _ ((g1.trans g2).trans g3)
end
end My
namespace My
open PySem PySem.Spec PyProof.Rows L2
def sp_lshown : Sp := fun vs H Q _ => ∃ (n : Int) (p : Addr) (r : Rule) (t : Int), vs = [.int n, .ref p, .int t] ∧ H p = some (.tup (ruleV r)) ∧ Wh n ∧ RuleOk n r ∧ ∀ v H', Same H H' → SeenAt H' r v (shownR n r t) → Q v H'
/-- how far, as the law has it -/
def FarAt (n : Int) (H : Hp) (r : Rule) (v : V) (x y : Int × Int) : Prop := match r with
  | .pair _ => ∃ p, v = .ref p ∧ H p = some (.tup [.int (y.1 - x.1), .int (y.2 - x.2)])
  | _ => ∃ f : Int, v = .int f ∧ n ∣ f - (y.1 - x.1)
theorem FarAt.ext {n : Int} {H H' : Hp} {r : Rule} {v : V} {x y : Int × Int} (e : LamX.ExtN H H') (h : FarAt n H r v x y) : FarAt n H' r v x y := by
  cases r with
  | pair o =>
    obtain ⟨p, h1, h2⟩ := h
    exact ⟨p, h1, extN_tup e h2⟩
  | _ => exact h
theorem SeenAt.go {K : PySem.W.Frag} {a s : Addr} {H H' : Hp} {r : Rule} {v : V} {x : Int × Int} (d : Dr K a s H) (g : Go K a s H H') (h : SeenAt H r v x) : SeenAt H' r v x := by
  cases r with
  | pair o =>
    obtain ⟨p, h1, h2⟩ := h
    refine ⟨p, h1, g.at h2 ?_⟩
    intro z
    obtain ⟨ns, i, m, l, k1, _⟩ := d.ex
    rw [z, k1] at h2
    cases h2
  | _ => exact h
def sp_is_gap : Sp := fun vs H Q _ => ∃ (n : Int) (q : Addr) (r : Rule) (vf va v : V) (x y : Int × Int) (a : Int), vs = [.int n, .ref q, vf, va, v] ∧ H q = some (.tup (ruleV r)) ∧ Wh n ∧ RuleOk n r ∧ FarAt n H r vf x y ∧ aboutV r va a ∧
  ((∃ g, v = .int g ∧ Gp n r x y a g) ∨ (v = .str "NoGap" ∧ NoGp n r x y a)) ∧ ∀ H', Same H H' → Q (.bl true) H'
theorem gcd_of_lcm {n o : Int} (hn : 0 < n) (ho : 0 < o) : n * o / (lcmI n o - 1 + 1) = gcdI n o := by
  have h := lcmI_pos hn ho
  have e : n * o = gcdI n o * lcmI n o := by
    rw [(lcmI_eq hn ho).1, Int.mul_comm (gcdI n o), Int.mul_assoc, Int.ediv_mul_cancel (gcdI_dvd hn ho).2]
  rw [show lcmI n o - 1 + 1 = lcmI n o by omega, e]
  exact Int.mul_ediv_cancel _ (by omega)
theorem emod_of_dvd {n a b : Int} (h : n ∣ a - b) : a % n = b % n := Int.emod_eq_emod_iff_emod_sub_eq_zero.mpr (Int.emod_eq_zero_of_dvd h)
/-- the one number in a wheel's width -/
theorem one_rest {n lo f e g : Int} (hn : 0 < n) (hf : n ∣ f - e) (h1 : lo ≤ g) (h2 : g ≤ lo + n - 1) (h3 : n ∣ g - e) : lo + (f - lo) % n = g := by
  obtain ⟨c1, c2, c3⟩ := rest_from (lo := lo) (e := f) hn
  have a := Int.dvd_sub (Int.dvd_add c3 hf) h3
  rw [show lo + (f - lo) % n - f + (f - e) - (g - e) = lo + (f - lo) % n - g by omega] at a
  have z := zero_of a (by omega) (by omega)
  omega
end My
namespace My
open PySem PySem.Spec PyProof.Rows L2
/-- a number beyond -/
def sp_far (K : PySem.W.Frag) : Sp := fun vs H Q _ => ∃ (a s : Addr) (l m : Int), vs = [.ref a, .int l, .int m] ∧ Dr K a s H ∧ ∀ z H', z < l ∨ m < z → Go K a s H H' → Q (.int z) H'
end My
namespace My
open PySem PySem.Spec PyProof.Rows L2
section
variable {P : Program} {w : World} {K : PySem.W.Frag} {mg : Str → Option Value} {base : Heap} {ec : Ec}
theorem sc__law_shown : FnScope ["_law_wheel_here", "_law_rule_here", "_law_time_here"] ["_law_wheel_here", "_law_rule_here", "_law_time_here"] (defScope s__law_shown) := ⟨rfl, rfl, rfl, by decide +kernel, rfl, by decide +kernel, by decide +kernel⟩
theorem ok__law_shown (T : Txt K mg ec) (D : Fn K mg "_law_shown" s__law_shown)  : Knows P w K mg base 1 "_law_shown" ["_law_wheel_here", "_law_rule_here", "_law_time_here"] sp_lshown := by
  refine Knows.mk' D sc__law_shown (fun _ _ _ _ _ _ us hl => match us, hl with | [_, _, _], _ => rfl) (fun vs H Q E h => ?_) (fun f cdv A outer s H vs Q E hr h => ?_)
  · obtain ⟨n, p, r, t, rfl, _⟩ := h; rfl
  · obtain ⟨n, p, r, t, rfl, hp, hw, hr0, k⟩ := h
    refine ⟨_, (pss_one (ps_ret (pe_ifExp (pt_cmpR op_eq (pe_ix ix_tup (pv 1) pe_int (fun _ _ => rfl)) pe_str (nomark _)) (pe_tup (pa_cons (pe_op op_mod (pv 2) (pv 0)) (pa_cons (pe_op op_mod (pv 2) (pe_ix ix_tup (pv 1) pe_int (fun _ _ => rfl))) pa_nil))) (pe_op op_mod (pv 2) (pv 0))))), ?_⟩
    refine g_start (σ := [some _, some _, some _]) rfl ?_
    try dsimp only [cxOf]
    have hn : 0 < n := by have := hw.1; omega
    walk_at "go"
    cases r with
    | pair o =>
      have ho : 0 < o := by have := hr0.1; omega
      refine g_ixT (SqT.of hp) (v := .str "pair") rfl ?_
      walk_at "go"
      refine g_ixT (SqT.of hp) (v := .int o) rfl ?_
      walk_at "go"
      intro q hq
      exact k _ _ (Same.new hq) ⟨q, rfl, upd_same⟩
    | up l =>
      refine g_ixT (SqT.of hp) (v := .str "up") rfl ?_
      walk_at "go"
      exact k _ _ (Same.refl _) rfl
    | near =>
      refine g_ixT (SqT.of hp) (v := .str "near") rfl ?_
      walk_at "go"
      exact k _ _ (Same.refl _) rfl
    | about l =>
      refine g_ixT (SqT.of hp) (v := .str "about") rfl ?_
      walk_at "go"
      exact k _ _ (Same.refl _) rfl
theorem sc__law_far : FnScope ["_law_state", "_law_least", "_law_most", "_law_far_here"] ["_law_state", "_law_least", "_law_most"] (defScope s__law_far) := ⟨rfl, rfl, rfl, by decide +kernel, rfl, by decide +kernel, by decide +kernel⟩
theorem ok__law_far (T : Txt K mg ec) (D : Fn K mg "_law_far" s__law_far) (c__law_drawn : Knows P w K mg base 1 "_law_drawn" ["_law_state", "_law_many"] (sp_drawn K)) : Knows P w K mg base 2 "_law_far" ["_law_state", "_law_least", "_law_most"] (sp_far K) := by
  refine Knows.mk' D sc__law_far (fun _ _ _ _ _ _ us hl => match us, hl with | [_, _, _], _ => rfl) (fun vs H Q E h => ?_) (fun f cdv A outer s H vs Q E hr h => ?_)
  · obtain ⟨a, sc, l, m, rfl, _⟩ := h; rfl
  · obtain ⟨a, sc, l, m, rfl, hD, k⟩ := h
    refine ⟨_, (pss_cons (ps_set (i := 3) sc__law_far.nd rfl (Or.inl rfl) (pe_ix ix_list (pe_lst (pa_cons pe_int (pa_cons pe_int (pa_cons (pe_powc (v := 100000000000000000000000000000) ⟨by decide, by decide, by decide⟩ (by decide)) pa_nil)))) (pe_callN c__law_drawn (hr.mono (by first | decide | omega)) passD (pa_cons (pv 0) (pa_cons pe_int pa_nil))) (fun _ _ => rfl)))
    (pss_one (ps_ret (pe_ix ix_list (pe_lst (pa_cons (pe_op op_sub (pe_op op_sub (pv 1) pe_int) (pe_callN c__law_drawn (hr.mono (by first | decide | omega)) passD (pa_cons (pv 0) (pa_cons (pv 3) pa_nil)))) (pa_cons (pe_op op_add (pe_op op_add (pv 2) pe_int) (pe_callN c__law_drawn (hr.mono (by first | decide | omega)) passD (pa_cons (pv 0) (pa_cons (pv 3) pa_nil)))) pa_nil))) (pe_callN c__law_drawn (hr.mono (by first | decide | omega)) passD (pa_cons (pv 0) (pa_cons pe_int pa_nil))) (fun _ _ => rfl))))), ?_⟩
    refine g_start (σ := [some _, some _, some _, none]) rfl ?_
    try dsimp only [cxOf]
    walk_at "go"
    intro p hp
    walk_at "go"
    refine g_pickI (zs := [1, 20, 100000000000000000000000000000]) hp hD (by decide) rfl (fun w H1 hw g1 => ?_)
    have hw : Mn w := by
      simp only [List.mem_cons, List.not_mem_nil, or_false] at hw
      rcases hw with e | e | e <;> subst e <;> decide
    walk_at "go"
    refine ⟨a, sc, w, rfl, g1.dr, hw, fun r2 H2 h20 h21 g2 => ?_⟩
    walk_at "go"
    refine ⟨a, sc, w, rfl, g2.dr, hw, fun r3 H3 h30 h31 g3 => ?_⟩
    walk_at "go"
    intro p2 hp2
    walk_at "go"
    refine g_pickI (zs := [l - 1 - r2, m + 1 + r3]) hp2 g3.dr (by decide) rfl (fun z H4 hz g4 => ?_)
    simp only [List.mem_cons, List.not_mem_nil, or_false] at hz
    exact k z _ (by omega) (((g1.trans g2).trans g3).trans g4)
end
end My
namespace My
open PySem PySem.Spec PyProof.Rows L2
section
variable {P : Program} {w : World} {K : PySem.W.Frag} {mg : Str → Option Value} {base : Heap} {ec : Ec}
def qL__law_works : Str := (envOfC "_law_works" (defScope s__law_works) 0 0 .none).qual ++ "<lambda>"
def qL : Str := (envOfC "law" (defScope s_law) 0 0 .none).qual ++ "<lambda>"
abbrev lam__law_works_0 : LamT := lamT (subE (valE (stAt (defBody s__law_works) 0)) 0)
abbrev lam__law_works_1 : LamT := lamT (subE (valE (stAt (defBody s__law_works) 1)) 0)
abbrev lam__law_works_2 : LamT := lamT (subE (valE (stAt (defBody s__law_works) 2)) 0)
abbrev lam__law_works_3 : LamT := lamT (subE (valE (stAt (defBody s__law_works) 3)) 0)
abbrev lam__law_works_4 : LamT := lamT (subE (valE (stAt (defBody s__law_works) 4)) 0)
abbrev lam__law_works_5 : LamT := lamT (subE (valE (stAt (defBody s__law_works) 5)) 0)
def lams__law_works (K : PySem.W.Frag) (ec : Ec) : List (LamT × (XK → TE)) := [(lam__law_works_0, fun E => (tCall (sp_shown ec) [] E (tCons (tVar 0) (tCons (tVar 1) (tCons (tC (.int 5)) tNil))))), (lam__law_works_1, fun E => (tCall (sp_gap ec) [] E (tCons (tVar 0) (tCons (tVar 1) (tCons (tVar 2) (tCons (tVar 2) (tCons (tC (.int 0)) tNil))))))), (lam__law_works_2, fun E => (tCall (sp_bound ec) [] E (tCons (tVar 0) (tCons (tVar 1) tNil)))), (lam__law_works_3, fun E => (tCall (sp_judged ec) [] E (tCons (tVar 0) (tCons (tVar 1) (tCons (tC (.int 2)) (tCons (tC (.int 1)) tNil)))))), (lam__law_works_4, fun E => (tMake ec.Reader (sp_init ec) [] E (tCons (tVar 0) (tCons (tVar 1) (tCons (tC (.int 0)) tNil))))), (lam__law_works_5, fun E => (tCall (sp_first_wrong K ec) [] E (tCons (tVar 0) (tCons (tVar 1) (tCons (tLst tNil) (tCons (tLst (tCons (tC (.int 7)) tNil)) tNil))))))]

abbrev lam_law_0 : LamT := lamT (subE (valE (stAt (forB (stAt (defBody s_law) 1)) 11)) 0)
abbrev lam_law_1 : LamT := lamT (subE (valE (stAt (forB (stAt (defBody s_law) 1)) 12)) 0)
abbrev lam_law_2 : LamT := lamT (subE (valE (stAt (forB (stAt (defBody s_law) 1)) 13)) 0)
abbrev lam_law_3 : LamT := lamT (subE (valE (stAt (forB (stAt (defBody s_law) 1)) 14)) 0)
abbrev lam_law_4 : LamT := lamT (subE (valE (stAt (forB (stAt (defBody s_law) 1)) 15)) 0)
abbrev lam_law_5 : LamT := lamT (subE (valE (stAt (forB (stAt (defBody s_law) 1)) 16)) 0)
def lams_law (K : PySem.W.Frag) (ec : Ec) : List (LamT × (XK → TE)) := [(lam_law_0, fun E => (tCall (sp_gap ec) [] E (tCons (tVar 3) (tCons (tVar 4) (tCons (tVar 9) (tCons (tVar 8) (tCons (tC (.int 0)) tNil))))))), (lam_law_1, fun E => (tCall (sp_gap ec) [] E (tCons (tVar 3) (tCons (tVar 4) (tCons (tVar 8) (tCons (tVar 9) (tCons (tC (.int 0)) tNil))))))), (lam_law_2, fun E => (tMeth ec.Reader "look" (sp_look ec) [] E (tMake ec.Reader (sp_init ec) [] E (tCons (tVar 3) (tCons (tVar 4) (tCons (tC (.int 3)) tNil)))) (tCons (tVar 9) (tCons (tC (.int 0)) tNil)))), (lam_law_3, fun E => (tCall (sp_judged ec) [] E (tCons (tVar 3) (tCons (tVar 4) (tCons (tC (.int 2)) (tCons (tC (.int 1)) tNil)))))), (lam_law_4, fun E => (tCall (sp_first_wrong K ec) [] E (tCons (tVar 3) (tCons (tVar 4) (tCons (tLst tNil) (tCons (tLst tNil) tNil)))))), (lam_law_5, fun E => (tCall (sp_first_wrong K ec) [] E (tCons (tVar 3) (tCons (tVar 4) (tCons (tLst (tCons (tC (.int 1)) (tCons (tC (.int 2)) tNil))) (tCons (tLst (tCons (tC (.int 1)) (tCons (tC (.int 1)) tNil))) tNil))))))]

theorem lksD__law_works {N1 : List Str} {q1 : Str} {sc1 : Scope} {f0 : Addr} {cd0 : Value} {A0 : Around} {outer0 : List Env} {s0 : Shared} {H0 : Hp} {E0 : XK} {n : Nat} (T : Txt K mg ec) (c_shown : Knows P w K mg base 4 "shown" ["wheel", "rule", "time"] (sp_shown ec)) (c_gap : Knows P w K mg base 4 "gap" ["wheel", "rule", "one", "other", "about"] (sp_gap ec)) (c_bound : Knows P w K mg base 4 "bound" ["wheel", "rule"] (sp_bound ec)) (c_judged : Knows P w K mg base 4 "judged" ["wheel", "rule", "least", "most"] (sp_judged ec)) (c_Reader_init : KnowsI P w K mg base 4 ec.Reader ["self", "wheel", "rule", "begun"] (sp_init ec)) (c_first_wrong : Knows P w K mg base 6 "first_wrong" ["wheel", "rule", "times", "abouts"] (sp_first_wrong K ec)) : ∀ p ∈ lams__law_works K ec, LamK ((cxOf (L2.CX P w) P w K mg base N1 q1 sc1 f0 cd0 A0 outer0 s0 H0 E0).as ["_law_wheel_here", "_law_rule_here", "_law_one", "_law_works_here"] (edOf "_law_works" (defScope s__law_works) n)) 6 p.1 p.2 := by
  intro p hp
  unfold lams__law_works at hp
  simp only [List.mem_cons, List.not_mem_nil, or_false] at hp
  rcases hp with rfl | rfl | rfl | rfl | rfl | rfl
  · show LamK _ _ lam__law_works_0 (fun E => (tCall (sp_shown ec) [] E (tCons (tVar 0) (tCons (tVar 1) (tCons (tC (.int 5)) tNil)))))
    refine ⟨LamX.lamS_by (sc := defScope s__law_works) (by decide +kernel), fun _ _ _ _ _ => rfl, fun A outer s H E f c1 hr2 => ?_⟩
    exact (pe_callL c_shown (hr2.mono (by first | decide | omega)) (by exact (pa_cons (pv 0) (pa_cons (pv 1) (pa_cons pe_int pa_nil)))))
  · show LamK _ _ lam__law_works_1 (fun E => (tCall (sp_gap ec) [] E (tCons (tVar 0) (tCons (tVar 1) (tCons (tVar 2) (tCons (tVar 2) (tCons (tC (.int 0)) tNil)))))))
    refine ⟨LamX.lamS_by (sc := defScope s__law_works) (by decide +kernel), fun _ _ _ _ _ => rfl, fun A outer s H E f c1 hr2 => ?_⟩
    exact (pe_callL c_gap (hr2.mono (by first | decide | omega)) (by exact (pa_cons (pv 0) (pa_cons (pv 1) (pa_cons (pv 2) (pa_cons (pv 2) (pa_cons pe_int pa_nil)))))))
  · show LamK _ _ lam__law_works_2 (fun E => (tCall (sp_bound ec) [] E (tCons (tVar 0) (tCons (tVar 1) tNil))))
    refine ⟨LamX.lamS_by (sc := defScope s__law_works) (by decide +kernel), fun _ _ _ _ _ => rfl, fun A outer s H E f c1 hr2 => ?_⟩
    exact (pe_callL c_bound (hr2.mono (by first | decide | omega)) (by exact (pa_cons (pv 0) (pa_cons (pv 1) pa_nil))))
  · show LamK _ _ lam__law_works_3 (fun E => (tCall (sp_judged ec) [] E (tCons (tVar 0) (tCons (tVar 1) (tCons (tC (.int 2)) (tCons (tC (.int 1)) tNil))))))
    refine ⟨LamX.lamS_by (sc := defScope s__law_works) (by decide +kernel), fun _ _ _ _ _ => rfl, fun A outer s H E f c1 hr2 => ?_⟩
    exact (pe_callL c_judged (hr2.mono (by first | decide | omega)) (by exact (pa_cons (pv 0) (pa_cons (pv 1) (pa_cons pe_int (pa_cons pe_int pa_nil))))))
  · show LamK _ _ lam__law_works_4 (fun E => (tMake ec.Reader (sp_init ec) [] E (tCons (tVar 0) (tCons (tVar 1) (tCons (tC (.int 0)) tNil)))))
    refine ⟨LamX.lamS_by (sc := defScope s__law_works) (by decide +kernel), fun _ _ _ _ _ => rfl, fun A outer s H E f c1 hr2 => ?_⟩
    exact (pe_makeL c_Reader_init (hr2.mono (by first | decide | omega)) T.g_Reader (by exact (pa_cons (pv 0) (pa_cons (pv 1) (pa_cons pe_int pa_nil)))))
  · show LamK _ _ lam__law_works_5 (fun E => (tCall (sp_first_wrong K ec) [] E (tCons (tVar 0) (tCons (tVar 1) (tCons (tLst tNil) (tCons (tLst (tCons (tC (.int 7)) tNil)) tNil))))))
    refine ⟨LamX.lamS_by (sc := defScope s__law_works) (by decide +kernel), fun _ _ _ _ _ => rfl, fun A outer s H E f c1 hr2 => ?_⟩
    exact (pe_callL c_first_wrong (hr2.mono (by first | decide | omega)) (by exact (pa_cons (pv 0) (pa_cons (pv 1) (pa_cons (pe_lst pa_nil) (pa_cons (pe_lst (by exact (pa_cons pe_int pa_nil))) pa_nil))))))

theorem lks_law {f0 cL : Addr} {A0 : Around} {outer0 : List Env} {s0 : Shared} {H0 : Hp} {E0 : XK} (T : Txt K mg ec) (c_gap : Knows P w K mg base 4 "gap" ["wheel", "rule", "one", "other", "about"] (sp_gap ec)) (c_Reader_look : KnowsM2 P w K mg base 4 ec.Reader "look" ["self", "seen", "about"] (sp_look ec)) (c_Reader_init : KnowsI P w K mg base 4 ec.Reader ["self", "wheel", "rule", "begun"] (sp_init ec)) (c_judged : Knows P w K mg base 4 "judged" ["wheel", "rule", "least", "most"] (sp_judged ec)) (c_first_wrong : Knows P w K mg base 6 "first_wrong" ["wheel", "rule", "times", "abouts"] (sp_first_wrong K ec)) : ∀ p ∈ lams_law K ec, LamK (cxOf (L2.CX P w) P w K mg base ["_law_script", "_law_state", "_law_turn", "_law_wheel_here", "_law_rule_here", "_law_time_here", "_law_odd_here", "_law_bad", "_law_good", "_law_none", "_law_works_here", "_law_work"] "law" (defScope s_law) f0 (.ref cL) A0 outer0 s0 H0 E0) 6 p.1 p.2 := by
  intro p hp
  unfold lams_law at hp
  simp only [List.mem_cons, List.not_mem_nil, or_false] at hp
  rcases hp with rfl | rfl | rfl | rfl | rfl | rfl
  · show LamK _ _ lam_law_0 (fun E => (tCall (sp_gap ec) [] E (tCons (tVar 3) (tCons (tVar 4) (tCons (tVar 9) (tCons (tVar 8) (tCons (tC (.int 0)) tNil)))))))
    refine ⟨LamX.lamS_by (sc := defScope s_law) (by decide +kernel), fun _ _ _ _ _ => rfl, fun A outer s H E f c1 hr2 => ?_⟩
    exact (pe_callL c_gap (hr2.mono (by first | decide | omega)) (by exact (pa_cons (pv 3) (pa_cons (pv 4) (pa_cons (pv 9) (pa_cons (pv 8) (pa_cons pe_int pa_nil)))))))
  · show LamK _ _ lam_law_1 (fun E => (tCall (sp_gap ec) [] E (tCons (tVar 3) (tCons (tVar 4) (tCons (tVar 8) (tCons (tVar 9) (tCons (tC (.int 0)) tNil)))))))
    refine ⟨LamX.lamS_by (sc := defScope s_law) (by decide +kernel), fun _ _ _ _ _ => rfl, fun A outer s H E f c1 hr2 => ?_⟩
    exact (pe_callL c_gap (hr2.mono (by first | decide | omega)) (by exact (pa_cons (pv 3) (pa_cons (pv 4) (pa_cons (pv 8) (pa_cons (pv 9) (pa_cons pe_int pa_nil)))))))
  · show LamK _ _ lam_law_2 (fun E => (tMeth ec.Reader "look" (sp_look ec) [] E (tMake ec.Reader (sp_init ec) [] E (tCons (tVar 3) (tCons (tVar 4) (tCons (tC (.int 3)) tNil)))) (tCons (tVar 9) (tCons (tC (.int 0)) tNil))))
    refine ⟨LamX.lamS_by (sc := defScope s_law) (by decide +kernel), fun _ _ _ _ _ => rfl, fun A outer s H E f c1 hr2 => ?_⟩
    exact (pe_methL (pe_makeL c_Reader_init (hr2.mono (by first | decide | omega)) T.g_Reader (by exact (pa_cons (pv 3) (pa_cons (pv 4) (pa_cons pe_int pa_nil))))) T.k_Reader c_Reader_look.three (hr2.mono (by first | decide | omega)) (by exact (pa_cons (pv 9) (pa_cons pe_int pa_nil))))
  · show LamK _ _ lam_law_3 (fun E => (tCall (sp_judged ec) [] E (tCons (tVar 3) (tCons (tVar 4) (tCons (tC (.int 2)) (tCons (tC (.int 1)) tNil))))))
    refine ⟨LamX.lamS_by (sc := defScope s_law) (by decide +kernel), fun _ _ _ _ _ => rfl, fun A outer s H E f c1 hr2 => ?_⟩
    exact (pe_callL c_judged (hr2.mono (by first | decide | omega)) (by exact (pa_cons (pv 3) (pa_cons (pv 4) (pa_cons pe_int (pa_cons pe_int pa_nil))))))
  · show LamK _ _ lam_law_4 (fun E => (tCall (sp_first_wrong K ec) [] E (tCons (tVar 3) (tCons (tVar 4) (tCons (tLst tNil) (tCons (tLst tNil) tNil))))))
    refine ⟨LamX.lamS_by (sc := defScope s_law) (by decide +kernel), fun _ _ _ _ _ => rfl, fun A outer s H E f c1 hr2 => ?_⟩
    exact (pe_callL c_first_wrong (hr2.mono (by first | decide | omega)) (by exact (pa_cons (pv 3) (pa_cons (pv 4) (pa_cons (pe_lst pa_nil) (pa_cons (pe_lst pa_nil) pa_nil))))))
  · show LamK _ _ lam_law_5 (fun E => (tCall (sp_first_wrong K ec) [] E (tCons (tVar 3) (tCons (tVar 4) (tCons (tLst (tCons (tC (.int 1)) (tCons (tC (.int 2)) tNil))) (tCons (tLst (tCons (tC (.int 1)) (tCons (tC (.int 1)) tNil))) tNil))))))
    refine ⟨LamX.lamS_by (sc := defScope s_law) (by decide +kernel), fun _ _ _ _ _ => rfl, fun A outer s H E f c1 hr2 => ?_⟩
    exact (pe_callL c_first_wrong (hr2.mono (by first | decide | omega)) (by exact (pa_cons (pv 3) (pa_cons (pv 4) (pa_cons (pe_lst (by exact (pa_cons pe_int (pa_cons pe_int pa_nil)))) (pa_cons (pe_lst (by exact (pa_cons pe_int (pa_cons pe_int pa_nil)))) pa_nil))))))

def sp_works (K : PySem.W.Frag) (TL : List (Addr × Str)) : Sp := sp_works0 K TL qL__law_works "_law_works" (defScope s__law_works) ["_law_wheel_here", "_law_rule_here", "_law_one", "_law_works_here"] [lam__law_works_0, lam__law_works_1, lam__law_works_2, lam__law_works_3, lam__law_works_4, lam__law_works_5]
theorem sc__law_works : FnScope ["_law_wheel_here", "_law_rule_here", "_law_one", "_law_works_here"] ["_law_wheel_here", "_law_rule_here", "_law_one"] (defScope s__law_works) := ⟨rfl, rfl, rfl, by decide +kernel, rfl, by decide +kernel, by decide +kernel⟩
theorem ok__law_works {cL__law_works PL__law_works PL : Addr} (hPP : PL__law_works ≠ PL) (T : Txt K mg ec) (D : FnC K mg "_law_works" s__law_works cL__law_works) (TB : LamX.TabB base mg cL__law_works PL__law_works) (_ : FnL K mg "_law_kind" s__law_kind) : Knows P w K mg base 9 "_law_works" ["_law_wheel_here", "_law_rule_here", "_law_one"] (sp_works K [(PL__law_works, qL__law_works), (PL, qL)]) := by
  refine (Knows.mkDead (k := 0) D sc__law_works (fun _ _ _ _ _ _ us hl => match us, hl with | [_, _, _], _ => rfl) (fun vs H Q E h => ?_) (fun f A outer s H vs Q E hr h => ?_)).mono (by decide)
  · obtain ⟨n, q, o, rfl, _⟩ := h; rfl
  · obtain ⟨n, q, o, rfl, hT, k⟩ := h
    refine ⟨_, (pd_cons (ps_set (i := 3) sc__law_works.nd rfl (Or.inl rfl) (pe_lst (pa_cons (pe_lamW (T := [(PL__law_works, qL__law_works), (PL, qL)]) (q := qL__law_works) (l := lam__law_works_0) TB rfl rfl (.head _) (tab_u0 hPP) (LamX.lamS_by (sc := defScope s__law_works) (by decide +kernel)) rfl) pa_nil)))
    (pd_cons (ps_expr (pe_bm PySem.F.plainAttrs_list PySem.F.slot_list_append PySem.F.type_list_append mt_append (pv 3) (pa_cons (pe_lamW (T := [(PL__law_works, qL__law_works), (PL, qL)]) (q := qL__law_works) (l := lam__law_works_1) TB rfl rfl (.head _) (tab_u0 hPP) (LamX.lamS_by (sc := defScope s__law_works) (by decide +kernel)) rfl) pa_nil)))
    (pd_cons (ps_expr (pe_bm PySem.F.plainAttrs_list PySem.F.slot_list_append PySem.F.type_list_append mt_append (pv 3) (pa_cons (pe_lamW (T := [(PL__law_works, qL__law_works), (PL, qL)]) (q := qL__law_works) (l := lam__law_works_2) TB rfl rfl (.head _) (tab_u0 hPP) (LamX.lamS_by (sc := defScope s__law_works) (by decide +kernel)) rfl) pa_nil)))
    (pd_cons (ps_expr (pe_bm PySem.F.plainAttrs_list PySem.F.slot_list_append PySem.F.type_list_append mt_append (pv 3) (pa_cons (pe_lamW (T := [(PL__law_works, qL__law_works), (PL, qL)]) (q := qL__law_works) (l := lam__law_works_3) TB rfl rfl (.head _) (tab_u0 hPP) (LamX.lamS_by (sc := defScope s__law_works) (by decide +kernel)) rfl) pa_nil)))
    (pd_cons (ps_expr (pe_bm PySem.F.plainAttrs_list PySem.F.slot_list_append PySem.F.type_list_append mt_append (pv 3) (pa_cons (pe_lamW (T := [(PL__law_works, qL__law_works), (PL, qL)]) (q := qL__law_works) (l := lam__law_works_4) TB rfl rfl (.head _) (tab_u0 hPP) (LamX.lamS_by (sc := defScope s__law_works) (by decide +kernel)) rfl) pa_nil)))
    (pd_cons (ps_expr (pe_bm PySem.F.plainAttrs_list PySem.F.slot_list_append PySem.F.type_list_append mt_append (pv 3) (pa_cons (pe_lamW (T := [(PL__law_works, qL__law_works), (PL, qL)]) (q := qL__law_works) (l := lam__law_works_5) TB rfl rfl (.head _) (tab_u0 hPP) (LamX.lamS_by (sc := defScope s__law_works) (by decide +kernel)) rfl) pa_nil)))
    (pd_ret (pv 3)))))))), ?_⟩
    refine g_start (σ := [some _, some _, some _, none]) rfl ?_
    try dsimp only [cxOf]
    generalize hn0 : s.heap.objs.size = n0 at k ⊢
    refine g_asg (g_works0 hT (fun D f1 d1 H1 W1 => ?_))
    walk_at "go1"
    try dsimp only
    refine g_drop (g_works W1 (j := 3) rfl (by simp) (fun f2 d2 H2 W2 => ?_))
    try dsimp only
    refine g_drop (g_works W2 (j := 3) rfl (by simp) (fun f3 d3 H3 W3 => ?_))
    try dsimp only
    refine g_drop (g_works W3 (j := 3) rfl (by simp) (fun f4 d4 H4 W4 => ?_))
    try dsimp only
    refine g_drop (g_works W4 (j := 3) rfl (by simp) (fun f5 d5 H5 W5 => ?_))
    try dsimp only
    refine g_drop (g_works W5 (j := 3) rfl (by simp) (fun f6 d6 H6 W6 => ?_))
    try dsimp only
    refine g_var3 ?_
    intro H7 L
    refine k D n0 _ H6 H7 ?_ (W6.same L.same) L
    rfl
theorem works_tell {TL : List (Addr × Str)} {n o : Int} {q D : Addr} {wr : Raw} {m : Nat} {fs : List (Addr × Addr × LamT)} {H0 H1 H : Hp} {w : Str} (T : Txt K mg ec) (hq : H q = some (.tup (rawV wr))) (hs : RawS wr) (hw : (¬ Wh n ∧ w = "BadWheel") ∨ (Wh n ∧ ¬ RawOk n wr ∧ w = "BadRule"))
    (hfs : fs.map (·.2.2) = [lam__law_works_0, lam__law_works_1, lam__law_works_2, lam__law_works_3, lam__law_works_4, lam__law_works_5]) (W : WorksAt TL qL__law_works (edOf "_law_works" (defScope s__law_works) m).cells H0 H D fs)
    (L : Left ["_law_wheel_here", "_law_rule_here", "_law_one", "_law_works_here"] (defScope s__law_works) (edOf "_law_works" (defScope s__law_works) m).cells [some (.int n), some (.ref q), some (.int o), some (.ref D)] H1 H) :
    ∀ v ∈ fs.map (fun z => V.ref z.1), KindAtD K ec (lams__law_works K ec) qL__law_works "_law_works" (defScope s__law_works) ["_law_wheel_here", "_law_rule_here", "_law_one", "_law_works_here"] H v w := by
  have hm : ∀ i, i < 3 → ∃ v, ([some (.int n), some (.ref q), some (.int o), some (.ref D)] : L2.St)[i]? = some (some v) := fun i hi => by
    match i, hi with
    | 0, _ => exact ⟨_, rfl⟩
    | 1, _ => exact ⟨_, rfl⟩
    | 2, _ => exact ⟨_, rfl⟩
  have nope : ∀ r, wr = toRaw r → Wh n → RuleOk n r → False := fun r e h1 h2 => by
    rcases hw with ⟨h, _⟩ | ⟨_, h, _⟩
    · exact h h1
    · exact h (by rw [e]; exact rawOk_to.mpr h2)
  have noraw : Wh n → RawOk n wr → False := fun h1 h2 => by
    obtain ⟨r, e, h3⟩ := rule_of h2
    exact nope r e h1 h3
  have hW : ∀ {H' : Hp} {Q' : VK} (_ : ∀ H2, Same (strip H') H2 → Q' (.str w) H2) {H2 : Hp}, Same (strip H') H2 → ¬ Wh n → EKind K ec Q' (.ref ec.BadWheel) none H2 := fun {H' Q'} q {H2} e2 hn => by
    rcases hw with ⟨_, rfl⟩ | ⟨h, _⟩
    · exact EKind.mk T.q_BadWheel (fun H3 e3 => q H3 (e2.trans e3))
    · exact absurd h hn
  have hR : ∀ {H' : Hp} {Q' : VK} (_ : ∀ H2, Same (strip H') H2 → Q' (.str w) H2) {H2 : Hp}, Same (strip H') H2 → Wh n → EKind K ec Q' (.ref ec.BadRule) none H2 := fun {H' Q'} q {H2} e2 hn => by
    rcases hw with ⟨h, _⟩ | ⟨_, _, rfl⟩
    · exact absurd hn h
    · exact EKind.mk T.q_BadRule (fun H3 e3 => q H3 (e2.trans e3))
  have tq : ∀ {H'}, Same H H' → strip H' q = some (.tup (rawV wr)) := fun e => strip_tup (e _ _ hq)
  obtain ⟨⟨f0, d0, l0⟩, ⟨f1, d1, l1⟩, ⟨f2, d2, l2⟩, ⟨f3, d3, l3⟩, ⟨f4, d4, l4⟩, ⟨f5, d5, l5⟩, rfl⟩ : ∃ z0 z1 z2 z3 z4 z5, fs = [z0, z1, z2, z3, z4, z5] := by
    have hl := congrArg List.length hfs
    match fs, hl with
    | [z0, z1, z2, z3, z4, z5], _ => exact ⟨z0, z1, z2, z3, z4, z5, rfl⟩
  simp only [List.map_cons, List.map_nil, List.cons.injEq, and_true] at hfs
  obtain ⟨rfl, rfl, rfl, rfl, rfl, rfl⟩ := hfs
  have at_ : ∀ z ∈ [(f0, d0, lam__law_works_0), (f1, d1, lam__law_works_1), (f2, d2, lam__law_works_2), (f3, d3, lam__law_works_3), (f4, d4, lam__law_works_4), (f5, d5, lam__law_works_5)], _ := W.at_
  intro v hv
  simp only [List.map_cons, List.map_nil, List.mem_cons, List.not_mem_nil, or_false] at hv
  rcases hv with rfl | rfl | rfl | rfl | rfl | rfl
  · refine ⟨f0, d0, lam__law_works_0, _, m, _, rfl, .head _, (at_ (f0, d0, lam__law_works_0) (by simp)).2, (at_ (f0, d0, lam__law_works_0) (by simp)).1, rfl, DeadAt.of (m := 3) L sc__law_works.nd (by decide +kernel) hm, fun H' Q' e q => ?_⟩
    try dsimp only
    walk_at "go"
    exact ⟨n, _, wr, 5, rfl, tq e, hs, fun r e h1 h2 => (nope r e h1 h2).elim, fun h => hW q (Same.refl _) h, fun h1 _ H2 e2 => hR q e2 h1⟩
  · refine ⟨f1, d1, lam__law_works_1, _, m, _, rfl, .tail _ (.head _), (at_ (f1, d1, lam__law_works_1) (by simp)).2, (at_ (f1, d1, lam__law_works_1) (by simp)).1, rfl, DeadAt.of (m := 3) L sc__law_works.nd (by decide +kernel) hm, fun H' Q' e q => ?_⟩
    try dsimp only
    walk_at "go"
    exact ⟨n, _, wr, _, _, _, rfl, tq e, hs, fun h => hW q (Same.refl _) h, fun h1 _ H2 e2 => hR q e2 h1, fun r e h1 h2 => (nope r e h1 h2).elim⟩
  · refine ⟨f2, d2, lam__law_works_2, _, m, _, rfl, .tail _ (.tail _ (.head _)), (at_ (f2, d2, lam__law_works_2) (by simp)).2, (at_ (f2, d2, lam__law_works_2) (by simp)).1, rfl, DeadAt.of (m := 3) L sc__law_works.nd (by decide +kernel) hm, fun H' Q' e q => ?_⟩
    try dsimp only
    walk_at "go"
    exact ⟨n, _, wr, rfl, tq e, hs, fun r e h1 h2 => (nope r e h1 h2).elim, fun h => hW q (Same.refl _) h, fun h1 _ H2 e2 => hR q e2 h1⟩
  · refine ⟨f3, d3, lam__law_works_3, _, m, _, rfl, .tail _ (.tail _ (.tail _ (.head _))), (at_ (f3, d3, lam__law_works_3) (by simp)).2, (at_ (f3, d3, lam__law_works_3) (by simp)).1, rfl, DeadAt.of (m := 3) L sc__law_works.nd (by decide +kernel) hm, fun H' Q' e q => ?_⟩
    try dsimp only
    walk_at "go"
    exact ⟨n, _, wr, 2, 1, rfl, tq e, hs, fun r e h1 h2 => (nope r e h1 h2).elim, fun h => hW q (Same.refl _) h, fun h1 _ H2 e2 => hR q e2 h1, fun h1 h2 => (noraw h1 h2).elim⟩
  · refine ⟨f4, d4, lam__law_works_4, _, m, _, rfl, .tail _ (.tail _ (.tail _ (.tail _ (.head _)))), (at_ (f4, d4, lam__law_works_4) (by simp)).2, (at_ (f4, d4, lam__law_works_4) (by simp)).1, rfl, DeadAt.of (m := 3) L sc__law_works.nd (by decide +kernel) hm, fun H' Q' e q => ?_⟩
    try dsimp only
    walk_at "go"
    intro x dx nx ndx nex
    have e2 : Same (strip H') (upd (upd (strip H') dx (.own x)) x (.ins ec.Reader dx [])) := fun b o e => by
      rw [upd_ne (ne_of_none e nx), upd_ne (ne_of_none e ndx)]
      exact e
    exact ⟨x, dx, n, _, wr, 0, rfl, upd_same, e2 _ _ (tq e), hs, fun r e h1 h2 => (nope r e h1 h2).elim, fun h => hW q e2 h, fun h1 _ H2 e3 => hR q (e2.trans e3) h1⟩
  · refine ⟨f5, d5, lam__law_works_5, _, m, _, rfl, .tail _ (.tail _ (.tail _ (.tail _ (.tail _ (.head _))))), (at_ (f5, d5, lam__law_works_5) (by simp)).2, (at_ (f5, d5, lam__law_works_5) (by simp)).1, rfl, DeadAt.of (m := 3) L sc__law_works.nd (by decide +kernel) hm, fun H' Q' e q => ?_⟩
    try dsimp only
    walk_at "go"
    intro p1 hp1
    walk_at "go"
    intro p2 hp2
    have e2 := (Same.new hp1 (o := .lst [])).trans (Same.new hp2 (o := .lst [V.int 7]))
    walk_at "go"
    exact ⟨n, _, wr, p1, p2, [], [7], rfl, e2 _ _ (tq e), hs, SqL.of (upd_old upd_same hp2), SqL.of upd_same, by simp, fun r e h1 h2 => (nope r e h1 h2).elim, fun h => hW q e2 h, fun h1 _ H2 e3 => hR q (e2.trans e3) h1, fun h1 h2 => (noraw h1 h2).elim⟩
end
end My
namespace My
open PySem PySem.Spec PyProof.Rows L2
def sp_odd (K : PySem.W.Frag) : Sp := fun vs H Q _ => ∃ (a s : Addr) (n : Int), vs = [.ref a, .int n] ∧ Dr K a s H ∧ Wh n ∧ ∀ q w H', ¬ RawOk n w → RawS w → H' q = some (.tup (rawV w)) → Go K a s H H' → Q (.ref q) H'
/-- no rule for n -/
def Odd (n : Int) (H : Hp) (v : V) : Prop := ∃ p w, v = .ref p ∧ H p = some (.tup (rawV w)) ∧ ¬ RawOk n w ∧ RawS w
theorem Odd.same {n : Int} {H H' : Hp} {v : V} (h : Odd n H v) (e : Same H H') : Odd n H' v := by
  obtain ⟨p, w, h1, h2, h3⟩ := h
  exact ⟨p, w, h1, e _ _ h2, h3⟩
theorem Odd.go {K : PySem.W.Frag} {a s : Addr} {n : Int} {H H' : Hp} {v : V} (h : Odd n H v) (d : Dr K a s H) (g : Go K a s H H') : Odd n H' v := by
  obtain ⟨p, w, h1, h2, h3⟩ := h
  refine ⟨p, w, h1, g.at h2 ?_, h3⟩
  obtain ⟨ns, i, m, l, k1, _⟩ := d.ex
  exact ne_of h2 k1 (by intro z; cases z)
def Odds (n : Int) (H : Hp) (xs : List V) : Prop := ∀ v ∈ xs, Odd n H v
theorem Odds.same {n : Int} {H H' : Hp} {xs : List V} (h : Odds n H xs) (e : Same H H') : Odds n H' xs := fun v hv => (h v hv).same e
theorem Odds.nil {n : Int} {H : Hp} : Odds n H [] := fun v hv => by cases hv
theorem Odds.snoc {n : Int} {H H' : Hp} {xs : List V} {v : V} (h : Odds n H xs) (e : Same H H') (o : Odd n H' v) : Odds n H' (xs ++ [v]) := fun x hx => by
  rcases List.mem_append.mp hx with hx | hx
  · exact (h x hx).same e
  · rw [List.mem_singleton.mp hx]; exact o
theorem Odd.new {n : Int} {H : Hp} {p : Addr} {w : Raw} (h1 : ¬ RawOk n w) (h2 : RawS w) : Odd n (upd H p (.tup (rawV w))) (.ref p) := ⟨p, w, rfl, upd_same, h1, h2⟩
end My
namespace My
open PySem PySem.Spec PyProof.Rows L2
section
variable {P : Program} {w : World} {K : PySem.W.Frag} {mg : Str → Option Value} {base : Heap} {ec : Ec}
theorem sc__law_odd : FnScope ["_law_state", "_law_wheel_here", "_law_far_here", "_law_some"] ["_law_state", "_law_wheel_here"] (defScope s__law_odd) := ⟨rfl, rfl, rfl, by decide +kernel, rfl, by decide +kernel, by decide +kernel⟩
theorem ok__law_odd (T : Txt K mg ec) (D : Fn K mg "_law_odd" s__law_odd) (c__law_far : Knows P w K mg base 2 "_law_far" ["_law_state", "_law_least", "_law_most"] (sp_far K)) (c__law_drawn : Knows P w K mg base 1 "_law_drawn" ["_law_state", "_law_many"] (sp_drawn K)) : Knows P w K mg base 3 "_law_odd" ["_law_state", "_law_wheel_here"] (sp_odd K) := by
  refine Knows.mk' D sc__law_odd (fun _ _ _ _ _ _ us hl => match us, hl with | [_, _], _ => rfl) (fun vs H Q E h => ?_) (fun f cdv A outer s H vs Q E hr h => ?_)
  · obtain ⟨a, sc, n, rfl, _⟩ := h; rfl
  · obtain ⟨a, sc, n, rfl, hD, hw, k⟩ := h
    refine ⟨_, (pss_cons (ps_set (i := 2) sc__law_odd.nd rfl (Or.inl rfl) (pe_callN c__law_far (hr.mono (by first | decide | omega)) passD (pa_cons (pv 0) (pa_cons pe_int (pa_cons (pe_powc (v := 1000000000000) ⟨by decide, by decide, by decide⟩ (by decide)) pa_nil)))))
    (pss_cons (ps_set (i := 3) sc__law_odd.nd rfl (Or.inl rfl) (pe_lst (pa_cons (pe_tup (pa_cons pe_str (pa_cons (pv 2) pa_nil))) (pa_cons (pe_tup (pa_cons pe_str (pa_cons (pe_callN c__law_far (hr.mono (by first | decide | omega)) passD (pa_cons (pv 0) (pa_cons pe_int (pa_cons (pe_powc (v := 1000000000000) ⟨by decide, by decide, by decide⟩ (by decide)) pa_nil)))) pa_nil))) (pa_cons (pe_tup (pa_cons pe_str (pa_cons (pe_op op_fdivW (pe_op op_add (pv 1) pe_int) pe_int) pa_nil))) (pa_cons (pe_tup (pa_cons pe_str (pa_cons (pe_op op_sub pe_int pe_int) pa_nil))) (pa_cons (pe_tup pa_nil) pa_nil)))))))
    (pss_cons (ps_set (i := 3) sc__law_odd.nd rfl (Or.inl rfl) (pe_op op_cat (pv 3) (pe_lst (pa_cons (pe_tup (pa_cons pe_str pa_nil)) (pa_cons (pe_tup (pa_cons pe_str (pa_cons pe_int pa_nil))) (pa_cons (pe_tup (pa_cons pe_str (pa_cons pe_int (pa_cons pe_int pa_nil)))) (pa_cons (pe_tup (pa_cons pe_str (pa_cons pe_int (pa_cons pe_int pa_nil)))) (pa_cons (pe_tup (pa_cons pe_str pa_nil)) (pa_cons (pe_tup (pa_cons pe_str pa_nil)) (pa_cons (pe_tup (pa_cons pe_str (pa_cons pe_int pa_nil))) (pa_cons (pe_tup (pa_cons pe_str (pa_cons pe_int pa_nil))) pa_nil)))))))))))
    (pss_one (ps_ret (pe_ix ix_list (pe_op op_cat (pv 3) (pe_lst (pa_cons (pe_tup (pa_cons pe_str (pa_cons (pe_op op_add (pv 1) (pe_callB call_absN (by rfl) T.abs (by decide +kernel) (pa_cons (pv 2) pa_nil))) pa_nil))) pa_nil))) (pe_callN c__law_drawn (hr.mono (by first | decide | omega)) passD (pa_cons (pv 0) (pa_cons pe_int pa_nil))) (fun _ _ => rfl))))))), ?_⟩
    refine g_start (σ := [some _, some _, none, none]) rfl ?_
    try dsimp only [cxOf]
    have hw1 := hw.1
    have hw2 := hw.2
    walk_at "go"
    refine ⟨a, sc, _, _, rfl, hD, fun z1 H1 hz1 g1 => ?_⟩
    have G1 : Go K a sc H H1 := g1
    walk_at "go"
    intro p1 hp1
    have b1 : Odd n (upd H1 p1 (.tup [V.str "up", V.int (z1)])) (.ref p1) := Odd.new (w := .two "up" (z1)) (by rintro (⟨h, h2⟩ | ⟨h, h2⟩ | ⟨h, h2⟩) <;> first | exact absurd h (by decide) | omega | (split at h2 <;> omega) | (obtain ⟨h3, h4⟩ := h2; first | omega | (split at h3 <;> omega))) (show PyData.strOk _ = true from by decide +kernel)
    have e1 := Same.new hp1 (o := .tup [V.str "up", V.int (z1)])
    generalize upd H1 p1 (.tup [V.str "up", V.int (z1)]) = H2 at *
    have o1 := b1
    have G2 := G1.then e1
    clear b1
    walk_at "go"
    refine ⟨a, sc, _, _, rfl, G2.dr, fun z2 H3 hz2 g3 => ?_⟩
    have o1 := o1.go G2.dr g3
    have G3 := G2.trans g3
    walk_at "go"
    intro p2 hp2
    have b2 : Odd n (upd H3 p2 (.tup [V.str "pair", V.int (z2)])) (.ref p2) := Odd.new (w := .two "pair" (z2)) (by rintro (⟨h, h2⟩ | ⟨h, h2⟩ | ⟨h, h2⟩) <;> first | exact absurd h (by decide) | omega | (split at h2 <;> omega) | (obtain ⟨h3, h4⟩ := h2; first | omega | (split at h3 <;> omega))) (show PyData.strOk _ = true from by decide +kernel)
    have e2 := Same.new hp2 (o := .tup [V.str "pair", V.int (z2)])
    generalize upd H3 p2 (.tup [V.str "pair", V.int (z2)]) = H4 at *
    have o1 := o1.same e2
    have o2 := b2
    have G4 := G3.then e2
    clear b2
    walk_at "go"
    intro p3 hp3
    have b3 : Odd n (upd H4 p3 (.tup [V.str "about", V.int ((n + 1) / 2)])) (.ref p3) := Odd.new (w := .two "about" ((n + 1) / 2)) (by rintro (⟨h, h2⟩ | ⟨h, h2⟩ | ⟨h, h2⟩) <;> first | exact absurd h (by decide) | omega | (split at h2 <;> omega) | (obtain ⟨h3, h4⟩ := h2; first | omega | (split at h3 <;> omega))) (show PyData.strOk _ = true from by decide +kernel)
    have e3 := Same.new hp3 (o := .tup [V.str "about", V.int ((n + 1) / 2)])
    generalize upd H4 p3 (.tup [V.str "about", V.int ((n + 1) / 2)]) = H5 at *
    have o1 := o1.same e3
    have o2 := o2.same e3
    have o3 := b3
    have G5 := G4.then e3
    clear b3
    walk_at "go"
    intro p4 hp4
    have b4 : Odd n (upd H5 p4 (.tup [V.str "about", V.int (0 - 1)])) (.ref p4) := Odd.new (w := .two "about" (0 - 1)) (by rintro (⟨h, h2⟩ | ⟨h, h2⟩ | ⟨h, h2⟩) <;> first | exact absurd h (by decide) | omega | (split at h2 <;> omega) | (obtain ⟨h3, h4⟩ := h2; first | omega | (split at h3 <;> omega))) (show PyData.strOk _ = true from by decide +kernel)
    have e4 := Same.new hp4 (o := .tup [V.str "about", V.int (0 - 1)])
    generalize upd H5 p4 (.tup [V.str "about", V.int (0 - 1)]) = H6 at *
    have o1 := o1.same e4
    have o2 := o2.same e4
    have o3 := o3.same e4
    have o4 := b4
    have G6 := G5.then e4
    clear b4
    walk_at "go"
    intro p5 hp5
    have b5 : Odd n (upd H6 p5 (.tup [])) (.ref p5) := Odd.new (w := .nil) (fun h => h) trivial
    have e5 := Same.new hp5 (o := .tup [])
    generalize upd H6 p5 (.tup []) = H7 at *
    have o1 := o1.same e5
    have o2 := o2.same e5
    have o3 := o3.same e5
    have o4 := o4.same e5
    have o5 := b5
    have G7 := G6.then e5
    clear b5
    walk_at "go"
    intro q1 hq1
    have eq1 := Same.new hq1 (o := .lst [V.ref p1, V.ref p2, V.ref p3, V.ref p4, V.ref p5])
    have uq1 : upd H7 q1 (.lst [V.ref p1, V.ref p2, V.ref p3, V.ref p4, V.ref p5]) q1 = some (.lst [V.ref p1, V.ref p2, V.ref p3, V.ref p4, V.ref p5]) := upd_same
    generalize upd H7 q1 (.lst [V.ref p1, V.ref p2, V.ref p3, V.ref p4, V.ref p5]) = H8 at *
    have o1 := o1.same eq1
    have o2 := o2.same eq1
    have o3 := o3.same eq1
    have o4 := o4.same eq1
    have o5 := o5.same eq1
    have G8 := G7.then eq1
    walk_at "go"
    intro p6 hp6
    have b6 : Odd n (upd H8 p6 (.tup [V.str "up"])) (.ref p6) := Odd.new (w := .one "up") (fun h => absurd (show _ = _ from h) (by decide)) (show PyData.strOk _ = true from by decide +kernel)
    have e6 := Same.new hp6 (o := .tup [V.str "up"])
    generalize upd H8 p6 (.tup [V.str "up"]) = H9 at *
    have uq1 := e6 _ _ uq1
    have o1 := o1.same e6
    have o2 := o2.same e6
    have o3 := o3.same e6
    have o4 := o4.same e6
    have o5 := o5.same e6
    have o6 := b6
    have G9 := G8.then e6
    clear b6
    walk_at "go"
    intro p7 hp7
    have b7 : Odd n (upd H9 p7 (.tup [V.str "near", V.int (1)])) (.ref p7) := Odd.new (w := .two "near" (1)) (by rintro (⟨h, h2⟩ | ⟨h, h2⟩ | ⟨h, h2⟩) <;> first | exact absurd h (by decide) | omega | (split at h2 <;> omega) | (obtain ⟨h3, h4⟩ := h2; first | omega | (split at h3 <;> omega))) (show PyData.strOk _ = true from by decide +kernel)
    have e7 := Same.new hp7 (o := .tup [V.str "near", V.int (1)])
    generalize upd H9 p7 (.tup [V.str "near", V.int (1)]) = H10 at *
    have uq1 := e7 _ _ uq1
    have o1 := o1.same e7
    have o2 := o2.same e7
    have o3 := o3.same e7
    have o4 := o4.same e7
    have o5 := o5.same e7
    have o6 := o6.same e7
    have o7 := b7
    have G10 := G9.then e7
    clear b7
    walk_at "go"
    intro p8 hp8
    have b8 : Odd n (upd H10 p8 (.tup [V.str "near", V.int 0, V.int 0])) (.ref p8) := Odd.new (w := .three "near" 0 0) (fun h => h) (show PyData.strOk _ = true from by decide +kernel)
    have e8 := Same.new hp8 (o := .tup [V.str "near", V.int 0, V.int 0])
    generalize upd H10 p8 (.tup [V.str "near", V.int 0, V.int 0]) = H11 at *
    have uq1 := e8 _ _ uq1
    have o1 := o1.same e8
    have o2 := o2.same e8
    have o3 := o3.same e8
    have o4 := o4.same e8
    have o5 := o5.same e8
    have o6 := o6.same e8
    have o7 := o7.same e8
    have o8 := b8
    have G11 := G10.then e8
    clear b8
    walk_at "go"
    intro p9 hp9
    have b9 : Odd n (upd H11 p9 (.tup [V.str "up", V.int 1, V.int 1])) (.ref p9) := Odd.new (w := .three "up" 1 1) (fun h => h) (show PyData.strOk _ = true from by decide +kernel)
    have e9 := Same.new hp9 (o := .tup [V.str "up", V.int 1, V.int 1])
    generalize upd H11 p9 (.tup [V.str "up", V.int 1, V.int 1]) = H12 at *
    have uq1 := e9 _ _ uq1
    have o1 := o1.same e9
    have o2 := o2.same e9
    have o3 := o3.same e9
    have o4 := o4.same e9
    have o5 := o5.same e9
    have o6 := o6.same e9
    have o7 := o7.same e9
    have o8 := o8.same e9
    have o9 := b9
    have G12 := G11.then e9
    clear b9
    walk_at "go"
    intro p10 hp10
    have b10 : Odd n (upd H12 p10 (.tup [V.str "pair"])) (.ref p10) := Odd.new (w := .one "pair") (fun h => absurd (show _ = _ from h) (by decide)) (show PyData.strOk _ = true from by decide +kernel)
    have e10 := Same.new hp10 (o := .tup [V.str "pair"])
    generalize upd H12 p10 (.tup [V.str "pair"]) = H13 at *
    have uq1 := e10 _ _ uq1
    have o1 := o1.same e10
    have o2 := o2.same e10
    have o3 := o3.same e10
    have o4 := o4.same e10
    have o5 := o5.same e10
    have o6 := o6.same e10
    have o7 := o7.same e10
    have o8 := o8.same e10
    have o9 := o9.same e10
    have o10 := b10
    have G13 := G12.then e10
    clear b10
    walk_at "go"
    intro p11 hp11
    have b11 : Odd n (upd H13 p11 (.tup [V.str "about"])) (.ref p11) := Odd.new (w := .one "about") (fun h => absurd (show _ = _ from h) (by decide)) (show PyData.strOk _ = true from by decide +kernel)
    have e11 := Same.new hp11 (o := .tup [V.str "about"])
    generalize upd H13 p11 (.tup [V.str "about"]) = H14 at *
    have uq1 := e11 _ _ uq1
    have o1 := o1.same e11
    have o2 := o2.same e11
    have o3 := o3.same e11
    have o4 := o4.same e11
    have o5 := o5.same e11
    have o6 := o6.same e11
    have o7 := o7.same e11
    have o8 := o8.same e11
    have o9 := o9.same e11
    have o10 := o10.same e11
    have o11 := b11
    have G14 := G13.then e11
    clear b11
    walk_at "go"
    intro p12 hp12
    have b12 : Odd n (upd H14 p12 (.tup [V.str "Up", V.int (1)])) (.ref p12) := Odd.new (w := .two "Up" (1)) (by rintro (⟨h, h2⟩ | ⟨h, h2⟩ | ⟨h, h2⟩) <;> first | exact absurd h (by decide) | omega | (split at h2 <;> omega) | (obtain ⟨h3, h4⟩ := h2; first | omega | (split at h3 <;> omega))) (show PyData.strOk _ = true from by decide +kernel)
    have e12 := Same.new hp12 (o := .tup [V.str "Up", V.int (1)])
    generalize upd H14 p12 (.tup [V.str "Up", V.int (1)]) = H15 at *
    have uq1 := e12 _ _ uq1
    have o1 := o1.same e12
    have o2 := o2.same e12
    have o3 := o3.same e12
    have o4 := o4.same e12
    have o5 := o5.same e12
    have o6 := o6.same e12
    have o7 := o7.same e12
    have o8 := o8.same e12
    have o9 := o9.same e12
    have o10 := o10.same e12
    have o11 := o11.same e12
    have o12 := b12
    have G15 := G14.then e12
    clear b12
    walk_at "go"
    intro p13 hp13
    have b13 : Odd n (upd H15 p13 (.tup [V.str "", V.int (1)])) (.ref p13) := Odd.new (w := .two "" (1)) (by rintro (⟨h, h2⟩ | ⟨h, h2⟩ | ⟨h, h2⟩) <;> first | exact absurd h (by decide) | omega | (split at h2 <;> omega) | (obtain ⟨h3, h4⟩ := h2; first | omega | (split at h3 <;> omega))) (show PyData.strOk _ = true from by decide +kernel)
    have e13 := Same.new hp13 (o := .tup [V.str "", V.int (1)])
    generalize upd H15 p13 (.tup [V.str "", V.int (1)]) = H16 at *
    have uq1 := e13 _ _ uq1
    have o1 := o1.same e13
    have o2 := o2.same e13
    have o3 := o3.same e13
    have o4 := o4.same e13
    have o5 := o5.same e13
    have o6 := o6.same e13
    have o7 := o7.same e13
    have o8 := o8.same e13
    have o9 := o9.same e13
    have o10 := o10.same e13
    have o11 := o11.same e13
    have o12 := o12.same e13
    have o13 := b13
    have G16 := G15.then e13
    clear b13
    walk_at "go"
    intro q2 hq2
    have eq2 := Same.new hq2 (o := .lst [V.ref p6, V.ref p7, V.ref p8, V.ref p9, V.ref p10, V.ref p11, V.ref p12, V.ref p13])
    have uq2 : upd H16 q2 (.lst [V.ref p6, V.ref p7, V.ref p8, V.ref p9, V.ref p10, V.ref p11, V.ref p12, V.ref p13]) q2 = some (.lst [V.ref p6, V.ref p7, V.ref p8, V.ref p9, V.ref p10, V.ref p11, V.ref p12, V.ref p13]) := upd_same
    generalize upd H16 q2 (.lst [V.ref p6, V.ref p7, V.ref p8, V.ref p9, V.ref p10, V.ref p11, V.ref p12, V.ref p13]) = H17 at *
    have uq1 := eq2 _ _ uq1
    have o1 := o1.same eq2
    have o2 := o2.same eq2
    have o3 := o3.same eq2
    have o4 := o4.same eq2
    have o5 := o5.same eq2
    have o6 := o6.same eq2
    have o7 := o7.same eq2
    have o8 := o8.same eq2
    have o9 := o9.same eq2
    have o10 := o10.same eq2
    have o11 := o11.same eq2
    have o12 := o12.same eq2
    have o13 := o13.same eq2
    have G17 := G16.then eq2
    walk_at "go"
    refine g_cat uq1 uq2 (by simp) (fun q3 hq3 => ?_)
    have e15 := Same.new hq3 (o := .lst ([V.ref p1, V.ref p2, V.ref p3, V.ref p4, V.ref p5] ++ [V.ref p6, V.ref p7, V.ref p8, V.ref p9, V.ref p10, V.ref p11, V.ref p12, V.ref p13]))
    have uq3 : upd H17 q3 (.lst ([V.ref p1, V.ref p2, V.ref p3, V.ref p4, V.ref p5] ++ [V.ref p6, V.ref p7, V.ref p8, V.ref p9, V.ref p10, V.ref p11, V.ref p12, V.ref p13])) q3 = some (.lst ([V.ref p1, V.ref p2, V.ref p3, V.ref p4, V.ref p5] ++ [V.ref p6, V.ref p7, V.ref p8, V.ref p9, V.ref p10, V.ref p11, V.ref p12, V.ref p13])) := upd_same
    have G17x := G17.then e15
    have o1 := o1.same e15
    have o2 := o2.same e15
    have o3 := o3.same e15
    have o4 := o4.same e15
    have o5 := o5.same e15
    have o6 := o6.same e15
    have o7 := o7.same e15
    have o8 := o8.same e15
    have o9 := o9.same e15
    have o10 := o10.same e15
    have o11 := o11.same e15
    have o12 := o12.same e15
    have o13 := o13.same e15
    generalize upd H17 q3 (.lst ([V.ref p1, V.ref p2, V.ref p3, V.ref p4, V.ref p5] ++ [V.ref p6, V.ref p7, V.ref p8, V.ref p9, V.ref p10, V.ref p11, V.ref p12, V.ref p13])) = H17x at *
    walk_at "go"
    intro p14 hp14
    have b14 : Odd n (upd H17x p14 (.tup [V.str "about", V.int (n + if z1 < 0 then -z1 else z1)])) (.ref p14) := Odd.new (w := .two "about" (n + if z1 < 0 then -z1 else z1)) (by rintro (⟨h, h2⟩ | ⟨h, h2⟩ | ⟨h, h2⟩) <;> first | exact absurd h (by decide) | omega | (split at h2 <;> omega) | (obtain ⟨h3, h4⟩ := h2; first | omega | (split at h3 <;> omega))) (show PyData.strOk _ = true from by decide +kernel)
    have e14 := Same.new hp14 (o := .tup [V.str "about", V.int (n + if z1 < 0 then -z1 else z1)])
    generalize upd H17x p14 (.tup [V.str "about", V.int (n + if z1 < 0 then -z1 else z1)]) = H18 at *
    have uq3 := e14 _ _ uq3
    have o1 := o1.same e14
    have o2 := o2.same e14
    have o3 := o3.same e14
    have o4 := o4.same e14
    have o5 := o5.same e14
    have o6 := o6.same e14
    have o7 := o7.same e14
    have o8 := o8.same e14
    have o9 := o9.same e14
    have o10 := o10.same e14
    have o11 := o11.same e14
    have o12 := o12.same e14
    have o13 := o13.same e14
    have o14 := b14
    have G18 := G17x.then e14
    clear b14
    walk_at "go"
    intro q4 hq4
    have eq4 := Same.new hq4 (o := .lst [V.ref p14])
    have uq4 : upd H18 q4 (.lst [V.ref p14]) q4 = some (.lst [V.ref p14]) := upd_same
    generalize upd H18 q4 (.lst [V.ref p14]) = H19 at *
    have uq3 := eq4 _ _ uq3
    have o1 := o1.same eq4
    have o2 := o2.same eq4
    have o3 := o3.same eq4
    have o4 := o4.same eq4
    have o5 := o5.same eq4
    have o6 := o6.same eq4
    have o7 := o7.same eq4
    have o8 := o8.same eq4
    have o9 := o9.same eq4
    have o10 := o10.same eq4
    have o11 := o11.same eq4
    have o12 := o12.same eq4
    have o13 := o13.same eq4
    have o14 := o14.same eq4
    have G19 := G18.then eq4
    walk_at "go"
    refine g_cat uq3 uq4 (by simp) (fun q5 hq5 => ?_)
    walk_at "go"
    refine g_pick (xs := ([V.ref p1, V.ref p2, V.ref p3, V.ref p4, V.ref p5] ++ [V.ref p6, V.ref p7, V.ref p8, V.ref p9, V.ref p10, V.ref p11, V.ref p12, V.ref p13]) ++ [V.ref p14]) hq5 G19.dr (by decide) rfl (fun v H' hv _ g' _ => ?_)
    have ov : Odd n H19 v := by
      simp only [List.mem_append, List.mem_cons, List.not_mem_nil, or_false] at hv
      rcases hv with ((rfl | rfl | rfl | rfl | rfl) | (rfl | rfl | rfl | rfl | rfl | rfl | rfl | rfl)) | rfl <;> assumption
    obtain ⟨q, w, rfl, h1, h2, h3⟩ := ov.go G19.dr g'
    exact k q w H' h2 h3 h1 (G19.trans g')
theorem seen_sd {n : Int} {H : Hp} {r : Rule} {v v2 : V} {x : Int × Int} (h : SeenAt H r v x) (h2 : SeenAt H r v2 x) : SD H 1 v v2 := by
  cases r with
  | pair o =>
    obtain ⟨p, rfl, e⟩ := h
    obtain ⟨p2, rfl, e2⟩ := h2
    refine .tup e e2 rfl (by simp) (SD.flat (fun z hz d => ?_) rfl)
    simp only [List.mem_cons, List.not_mem_nil, or_false] at hz
    rcases hz with rfl | rfl <;> exact .int _
  | up l => rw [show v = .int x.1 from h, show v2 = .int x.1 from h2]; exact .int _
  | near => rw [show v = .int x.1 from h, show v2 = .int x.1 from h2]; exact .int _
  | about l => rw [show v = .int x.1 from h, show v2 = .int x.1 from h2]; exact .int _
theorem sc_law : FnScope ["_law_script", "_law_state", "_law_turn", "_law_wheel_here", "_law_rule_here", "_law_time_here", "_law_odd_here", "_law_bad", "_law_good", "_law_none", "_law_works_here", "_law_work"] ["_law_script"] (defScope s_law) := ⟨rfl, rfl, rfl, by decide +kernel, rfl, by decide +kernel, by decide +kernel⟩
theorem ok_law {f0 cL PL__law_works PL : Addr} {oc0 kV0 dc0 pm0 ct0 : Value} {od0 an0 : Option Addr} {sl0 : Array (Option Value)} (hPP : PL__law_works ≠ PL) (T : Txt K mg ec) (lk : K.lookup f0 = some ⟨oc0, od0, .func (PySem.W.fnOf "law" "law" (defArgs s_law) (defBody s_law) (defScope s_law) .none kV0 dc0 pm0 an0 (.ref cL) ct0), sl0⟩) (hcd : PySem.W.codeIn K (.ref cL) "law" = true) (TB : LamX.TabB base mg cL PL) (D__law_kind : FnL K mg "_law_kind" s__law_kind) (c__law_start : Knows P w K mg base 1 "_law_start" ["_law_script"] (sp_start K)) (c__law_wheel : Knows P w K mg base 2 "_law_wheel" ["_law_state"] (sp_wheel K)) (c__law_rule : Knows P w K mg base 3 "_law_rule" ["_law_state", "_law_wheel_here"] (sp_rule K)) (c__law_time : Knows P w K mg base 2 "_law_time" ["_law_state"] (sp_time K)) (c__law_odd : Knows P w K mg base 3 "_law_odd" ["_law_state", "_law_wheel_here"] (sp_odd K)) (c__law_far : Knows P w K mg base 2 "_law_far" ["_law_state", "_law_least", "_law_most"] (sp_far K)) (c__law_shown : Knows P w K mg base 1 "_law_shown" ["_law_wheel_here", "_law_rule_here", "_law_time_here"] sp_lshown) (c__law_same : Knows P w K mg base 2 "_law_same" ["_law_found", "_law_due"] (sp_same 1)) (c_shown : Knows P w K mg base 4 "shown" ["wheel", "rule", "time"] (sp_shown ec)) (c__law_drawn : Knows P w K mg base 1 "_law_drawn" ["_law_state", "_law_many"] (sp_drawn K)) (c_gap : Knows P w K mg base 4 "gap" ["wheel", "rule", "one", "other", "about"] (sp_gap ec)) (c_Reader_look : KnowsM2 P w K mg base 4 ec.Reader "look" ["self", "seen", "about"] (sp_look ec)) (c_judged : Knows P w K mg base 4 "judged" ["wheel", "rule", "least", "most"] (sp_judged ec)) (c_first_wrong : Knows P w K mg base 6 "first_wrong" ["wheel", "rule", "times", "abouts"] (sp_first_wrong K ec)) (c__law_works : Knows P w K mg base 9 "_law_works" ["_law_wheel_here", "_law_rule_here", "_law_one"] (sp_works K [(PL__law_works, qL__law_works), (PL, qL)])) (c_Reader_init : KnowsI P w K mg base 4 ec.Reader ["self", "wheel", "rule", "begun"] (sp_init ec)) (c_bound : Knows P w K mg base 4 "bound" ["wheel", "rule"] (sp_bound ec)) : FnOk P w K mg base (L2.CX P w) 10 f0 (PySem.W.fnOf "law" "law" (defArgs s_law) (defBody s_law) (defScope s_law) .none kV0 dc0 pm0 an0 (.ref cL) ct0) ["_law_script"] (sp_lawTs K [PL__law_works, PL]) := by
  refine fn_of lk hcd sc_law (fun vs H Q E h => ?_) (fun A outer s H vs Q E hr h => ?_)
  · obtain ⟨s, ns, rfl, _⟩ := h; rfl
  · obtain ⟨s, ns, rfl, hS, hl, hP, k⟩ := h
    refine ⟨_, (pss_cons (ps_set (i := 1) sc_law.nd rfl (Or.inl rfl) (pe_callN c__law_start (hr.mono (by first | decide | omega)) passD (pa_cons (pv 0) pa_nil)))
    (pss_cons (ps_for passO rfl (pi_range1 (by rfl) T.range (pa_cons pe_int pa_nil)) (pg_name (i := 2) sc_law.nd rfl (Or.inl rfl)) (pss_cons (ps_set (i := 3) sc_law.nd rfl (Or.inr rfl) (pe_callN c__law_wheel (hr.mono (by first | decide | omega)) passD (pa_cons (pv 1) pa_nil)))
    (pss_cons (ps_set (i := 4) sc_law.nd rfl (Or.inr rfl) (pe_callN c__law_rule (hr.mono (by first | decide | omega)) passD (pa_cons (pv 1) (pa_cons (pv 3) pa_nil))))
    (pss_cons (ps_set (i := 5) sc_law.nd rfl (Or.inl rfl) (pe_callN c__law_time (hr.mono (by first | decide | omega)) passD (pa_cons (pv 1) pa_nil)))
    (pss_cons (ps_if (pt_not (pt_val (pe_callN c__law_same (hr.mono (by first | decide | omega)) passD (pa_cons (pe_callN c_shown (hr.mono (by first | decide | omega)) passD (pa_cons (pv 3) (pa_cons (pv 4) (pa_cons (pv 5) pa_nil)))) (pa_cons (pe_callN c__law_shown (hr.mono (by first | decide | omega)) passD (pa_cons (pv 3) (pa_cons (pv 4) (pa_cons (pv 5) pa_nil)))) pa_nil))) (by intro _; rfl))) (pss_one (ps_ret pe_bl)) pss_nil)
    (pss_cons (ps_set (i := 6) sc_law.nd rfl (Or.inl rfl) (pe_callN c__law_odd (hr.mono (by first | decide | omega)) passD (pa_cons (pv 1) (pa_cons (pv 3) pa_nil))))
    (pss_cons (ps_set (i := 7) sc_law.nd rfl (Or.inl rfl) (pe_callN c__law_far (hr.mono (by first | decide | omega)) passD (pa_cons (pv 1) (pa_cons pe_int (pa_cons (pe_powc (v := 1000000000000) ⟨by decide, by decide, by decide⟩ (by decide)) pa_nil)))))
    (pss_cons (ps_if (pt_cmpR (op_neD hr.units) (pe_lc (own := [("_law_work", 11)]) (g := gName 11) rfl sc_law.nd (pi_list (pe_callN c__law_works (hr.mono (by first | decide | omega)) passD (pa_cons (pv 7) (pa_cons (pv 6) (pa_cons (pe_op op_sub pe_int pe_int) pa_nil))))) (blkOk_by (own := [("_law_work", 11)]) (N := ["_law_script", "_law_state", "_law_turn", "_law_wheel_here", "_law_rule_here", "_law_time_here", "_law_odd_here", "_law_bad", "_law_good", "_law_none", "_law_works_here", "_law_work"]) (sc := defScope s_law) (by decide +kernel)) (fun _ _ _ _ _ => (pg_name (i := 11) sc_law.nd rfl (Or.inl rfl))) (fun _ _ _ _ _ => (pts_one (pt_cmpR op_ne (pe_kindD (Nd := ["_law_wheel_here", "_law_rule_here", "_law_one", "_law_works_here"]) (ls := lams__law_works K ec) (q := qL__law_works) (xd := "_law_works") (scd := defScope s__law_works) (k := 6) (TT := TKind K ec) D__law_kind (by rfl) (fun _ _ _ _ _ _ us hl => match us, hl with | [_], _ => rfl) sc__law_kind rfl (by first | exact Or.inl rfl | exact Or.inr (Or.inl rfl)) (fun g cdv => kind_gives _ T g cdv _) (fun _ => rfl) (hr.mono (by first | decide | omega)) (fun n p hp => (lksD__law_works (n := n) T c_shown c_gap c_bound c_judged c_Reader_init c_first_wrong p hp).of2) (pv 11)) pe_str (nomark _)))) (fun _ _ _ _ _ => (pv 11))) (pe_lst pa_nil) (nomark _)) (pss_one (ps_ret pe_bl)) pss_nil)
    (pss_cons (ps_if (pt_cmpR (op_neD hr.units) (pe_lc (own := [("_law_work", 11)]) (g := gName 11) rfl sc_law.nd (pi_list (pe_callN c__law_works (hr.mono (by first | decide | omega)) passD (pa_cons (pv 3) (pa_cons (pv 6) (pa_cons (pe_op op_sub pe_int pe_int) pa_nil))))) (blkOk_by (own := [("_law_work", 11)]) (N := ["_law_script", "_law_state", "_law_turn", "_law_wheel_here", "_law_rule_here", "_law_time_here", "_law_odd_here", "_law_bad", "_law_good", "_law_none", "_law_works_here", "_law_work"]) (sc := defScope s_law) (by decide +kernel)) (fun _ _ _ _ _ => (pg_name (i := 11) sc_law.nd rfl (Or.inl rfl))) (fun _ _ _ _ _ => (pts_one (pt_cmpR op_ne (pe_kindD (Nd := ["_law_wheel_here", "_law_rule_here", "_law_one", "_law_works_here"]) (ls := lams__law_works K ec) (q := qL__law_works) (xd := "_law_works") (scd := defScope s__law_works) (k := 6) (TT := TKind K ec) D__law_kind (by rfl) (fun _ _ _ _ _ _ us hl => match us, hl with | [_], _ => rfl) sc__law_kind rfl (by first | exact Or.inl rfl | exact Or.inr (Or.inl rfl)) (fun g cdv => kind_gives _ T g cdv _) (fun _ => rfl) (hr.mono (by first | decide | omega)) (fun n p hp => (lksD__law_works (n := n) T c_shown c_gap c_bound c_judged c_Reader_init c_first_wrong p hp).of2) (pv 11)) pe_str (nomark _)))) (fun _ _ _ _ _ => (pv 11))) (pe_lst pa_nil) (nomark _)) (pss_one (ps_ret pe_bl)) pss_nil)
    (pss_cons (ps_set (i := 8) sc_law.nd rfl (Or.inr rfl) (pe_callN c__law_shown (hr.mono (by first | decide | omega)) passD (pa_cons (pv 3) (pa_cons (pv 4) (pa_cons (pv 5) pa_nil)))))
    (pss_cons (ps_set (i := 9) sc_law.nd rfl (Or.inr rfl) (pe_callN c__law_far (hr.mono (by first | decide | omega)) passD (pa_cons (pv 1) (pa_cons pe_int (pa_cons (pe_op op_sub (pv 3) pe_int) pa_nil)))))
    (pss_cons (ps_if (pt_cmpR op_eq (pe_ix ix_tup (pv 4) pe_int (fun _ _ => rfl)) pe_str (nomark _)) (pss_one (ps_set (i := 9) sc_law.nd rfl (Or.inr rfl) (pe_ix ix_list (pe_lst (pa_cons (pe_tup (pa_cons (pv 9) (pa_cons (pe_ix ix_tup (pv 8) pe_int (fun _ _ => rfl)) pa_nil))) (pa_cons (pe_tup (pa_cons (pe_ix ix_tup (pv 8) pe_int (fun _ _ => rfl)) (pa_cons (pe_callN c__law_far (hr.mono (by first | decide | omega)) passD (pa_cons (pv 1) (pa_cons pe_int (pa_cons (pe_op op_sub (pe_ix ix_tup (pv 4) pe_int (fun _ _ => rfl)) pe_int) pa_nil)))) pa_nil))) pa_nil))) (pe_callN c__law_drawn (hr.mono (by first | decide | omega)) passD (pa_cons (pv 1) (pa_cons pe_int pa_nil))) (fun _ _ => rfl)))) pss_nil)
    (pss_cons (ps_set (i := 10) sc_law.nd rfl (Or.inl rfl) (pe_lst (pa_cons (pe_lamW (T := [(PL__law_works, qL__law_works), (PL, qL)]) (q := qL) (l := lam_law_0) TB rfl rfl (.tail _ (.head _)) (tab_u1 hPP) (LamX.lamS_by (sc := defScope s_law) (by decide +kernel)) rfl) pa_nil)))
    (pss_cons (ps_expr (pe_bm PySem.F.plainAttrs_list PySem.F.slot_list_append PySem.F.type_list_append mt_append (pv 10) (pa_cons (pe_lamW (T := [(PL__law_works, qL__law_works), (PL, qL)]) (q := qL) (l := lam_law_1) TB rfl rfl (.tail _ (.head _)) (tab_u1 hPP) (LamX.lamS_by (sc := defScope s_law) (by decide +kernel)) rfl) pa_nil)))
    (pss_cons (ps_expr (pe_bm PySem.F.plainAttrs_list PySem.F.slot_list_append PySem.F.type_list_append mt_append (pv 10) (pa_cons (pe_lamW (T := [(PL__law_works, qL__law_works), (PL, qL)]) (q := qL) (l := lam_law_2) TB rfl rfl (.tail _ (.head _)) (tab_u1 hPP) (LamX.lamS_by (sc := defScope s_law) (by decide +kernel)) rfl) pa_nil)))
    (pss_cons (ps_expr (pe_bm PySem.F.plainAttrs_list PySem.F.slot_list_append PySem.F.type_list_append mt_append (pv 10) (pa_cons (pe_lamW (T := [(PL__law_works, qL__law_works), (PL, qL)]) (q := qL) (l := lam_law_3) TB rfl rfl (.tail _ (.head _)) (tab_u1 hPP) (LamX.lamS_by (sc := defScope s_law) (by decide +kernel)) rfl) pa_nil)))
    (pss_cons (ps_expr (pe_bm PySem.F.plainAttrs_list PySem.F.slot_list_append PySem.F.type_list_append mt_append (pv 10) (pa_cons (pe_lamW (T := [(PL__law_works, qL__law_works), (PL, qL)]) (q := qL) (l := lam_law_4) TB rfl rfl (.tail _ (.head _)) (tab_u1 hPP) (LamX.lamS_by (sc := defScope s_law) (by decide +kernel)) rfl) pa_nil)))
    (pss_cons (ps_expr (pe_bm PySem.F.plainAttrs_list PySem.F.slot_list_append PySem.F.type_list_append mt_append (pv 10) (pa_cons (pe_lamW (T := [(PL__law_works, qL__law_works), (PL, qL)]) (q := qL) (l := lam_law_5) TB rfl rfl (.tail _ (.head _)) (tab_u1 hPP) (LamX.lamS_by (sc := defScope s_law) (by decide +kernel)) rfl) pa_nil)))
    (pss_one (ps_if (pt_cmpR (op_neD hr.units) (pe_kinds (own := [("_law_work", 11)]) (g := gName 11) (ls := lams_law K ec) (q := qL) (k := 6) (TT := TKind K ec) rfl sc_law.nd D__law_kind (fun _ _ _ _ _ _ us hl => match us, hl with | [_], _ => rfl) sc__law_kind rfl (by first | exact Or.inl rfl | exact Or.inr (Or.inl rfl)) (fun Y g cdv e1 e2 => kind_givesY _ Y T e1 e2 g cdv _) rfl (hr.mono (by first | decide | omega)) (lks_law T c_gap c_Reader_look c_Reader_init c_judged c_first_wrong) (pi_list (pv 10)) (blkOk_by (own := [("_law_work", 11)]) (N := ["_law_script", "_law_state", "_law_turn", "_law_wheel_here", "_law_rule_here", "_law_time_here", "_law_odd_here", "_law_bad", "_law_good", "_law_none", "_law_works_here", "_law_work"]) (sc := defScope s_law) (by decide +kernel)) (fun _ _ _ _ _ => by rfl) (fun _ _ _ _ _ => (pg_name (i := 11) sc_law.nd rfl (Or.inl rfl))) (fun _ _ _ _ _ => (pv 11))) (pe_op op_cat (pe_op op_rep (pe_lst (pa_cons pe_str pa_nil)) pe_int) (pe_op op_rep (pe_lst (pa_cons pe_str pa_nil)) pe_int)) (nomark _)) (pss_one (ps_ret pe_bl)) pss_nil))))))))))))))))))))
    (pss_one (ps_ret pe_bl)))), ?_⟩
    refine g_start (σ := [some _, none, none, none, none, none, none, none, none, none, none, none]) rfl ?_
    try dsimp only [cxOf]
    have hT0 : LamX.Tabs [(PL__law_works, qL__law_works), (PL, qL)] H := fun p hp => by
      have hp : p = (PL__law_works, qL__law_works) ∨ p = (PL, qL) := by simpa using hp
      rcases hp with rfl | rfl
      · exact LamX.TabS.nil (hP _ (by simp))
      · exact LamX.TabS.nil (hP _ (by simp))
    walk_at "go"
    refine ⟨s, ns, rfl, hS, hl, fun a H1 ha e1 hD1 => ?_⟩
    walk_at "go"
    refine ⟨by decide, by decide, for_R (fun i σ H' => Dr K a s H' ∧ LamX.Tabs [(PL__law_works, qL__law_works), (PL, qL)] H' ∧ ∃ v2 v3 v4 v5 v6 v7 v8 v9 v10 v11, σ = [some (.ref s), some (.ref a), v2, v3, v4, v5, v6, v7, v8, v9, v10, v11]) ⟨hD1, tabs_same hT0 e1, _, _, _, _, _, _, _, _, _, _, rfl⟩ ?_ ?_⟩
    · rintro i σ H2 hi ⟨hD2, hT2, v2, v3, v4, v5, v6, v7, v8, v9, v10, v11, rfl⟩
      walk_at "go"
      refine ⟨a, s, rfl, hD2, fun n H3 hn g3 => ?_⟩
      have hn1 := hn.1
      have hn2 := hn.2
      walk_at "go"
      refine ⟨a, s, n, rfl, g3.dr, hn, fun r q H4 hr0 hq4 g4 => ?_⟩
      have hD4 := g4.dr
      have nqa : q ≠ a := by
        intro z
        obtain ⟨ns, i, m, l, h1, _⟩ := hD4.ex
        rw [z, h1] at hq4
        cases hq4
      walk_at "go"
      refine ⟨a, s, rfl, hD4, fun t H5 g5 => ?_⟩
      have hq5 := g5.at hq4 nqa
      have hT5 := tabs_go (tabs_go (tabs_go hT2 hD2 g3) g3.dr g4) hD4 g5
      have hD5 := g5.dr
      clear g3 g4 g5 hq4
      walk_at "goS"
      refine g_cutS (fun σ' H' => σ' = [some (.ref s), some (.ref a), some (.int (0 + (i : Nat))), some (.int n), some (.ref q), some (.int t), v6, v7, v8, v9, v10, v11] ∧ Same H5 H') (fun N hN => ?_) ?_
      · walk_at "go"
        refine ⟨n, q, toRaw r, t, rfl, by rw [rawV_to]; exact hq5, rawS_to r, fun r' er _ _ v H6 e6 hv6 => ?_, fun h => absurd hn h, fun _ h => absurd (rawOk_to.mpr hr0) h⟩
        cases toRaw_inj er
        walk_at "go"
        refine ⟨n, q, r, t, rfl, e6 _ _ hq5, hn, hr0, fun vb H7 e7 hv7 => ?_⟩
        walk_at "go"
        refine ⟨_, _, rfl, seen_sd (n := n) (hv6.same e7) hv7, fun H8 e8 => ?_⟩
        walk_at "go"
        exact hN _ _ ⟨rfl, (e6.trans e7).trans e8⟩
      · rintro σ' H6 ⟨rfl, e6⟩
        have hq6 := e6 _ _ hq5
        have hD6 := hD5.same e6
        have hT6 := tabs_same hT5 e6
        clear e6 hq5 hD5 hT5
        walk_at "goS"
        refine ⟨a, s, n, rfl, hD6, hn, fun qo wo H7 ho1 ho2 hqo g7 => ?_⟩
        walk_at "goS"
        refine ⟨a, s, _, _, rfl, g7.dr, fun bad H8 hbad g8 => ?_⟩
        have g78 := g7.trans g8
        have hq8 := g78.at hq6 nqa
        have nqo : qo ≠ a := by
          obtain ⟨ns, i, m, l, h1, _⟩ := g7.dr.ex
          exact ne_of hqo h1 (by intro z; cases z)
        have hqo8 := g8.at hqo nqo
        have hT8 := tabs_go (tabs_go hT6 hD6 g7) g7.dr g8
        have hD8 := g8.dr
        have nb : ¬ Wh bad := fun z => by have := z.1; have := z.2; omega
        clear g7 g8 g78 hqo hq6 hD6 hT6
        walk_at "goS"
        refine g_ifS (g_test (g_op (g_lc (g_iL ?_))))
        walk_at "go"
        refine ⟨bad, qo, 0 - 1, rfl, hT8, fun D8 m8 fs8 H10a H10 hfs8 W8 L8 => ⟨D8, rfl, ⟨_, SqL.of W8.l⟩, fun E8 nE8 => ?_⟩⟩
        have hq10 := W8.kp _ _ hq8 (fun _ z => by cases z)
        have hqo10 := W8.kp _ _ hqo8 (fun _ z => by cases z)
        have hD10 := hD8.ext W8.kp
        have hT10 := W8.tb
        have hl10 := congrArg List.length hfs8
        rw [List.length_map] at hl10
        refine g_kindsNo W8.l nE8 (by simp) (by rw [List.length_map, hl10]; decide) (works_tell T hqo10 ho2 (.inl ⟨nb, rfl⟩) hfs8 W8 L8) (fun H11 e11 u11 => ?_)
        clear W8 L8 hfs8 hl10 nE8
        walk_at "go"
        intro p11 hp11
        refine g_neInts (ns := []) (ms := []) (SqL.of (upd_old u11 hp11)) (SqL.of upd_same) ?_
        walk_at "go"
        refine ite_ndec (fun z => (z rfl).elim) (fun _ => ?_)
        walk_at "go1"
        have e12 := e11.trans (Same.new hp11 (o := .lst []))
        generalize upd H11 p11 (.lst []) = H12 at *
        have hq12 := e12 _ _ hq10
        have hqo12 := e12 _ _ hqo10
        have hD12 := hD10.same e12
        have hT12 := tabs_same hT10 e12
        clear e12 e11 u11 hp11 hq10 hqo10 hD10 hT10
        try dsimp only
        refine g_seq ?_
        refine g_ifS (g_test (g_op (g_lc (g_iL ?_))))
        walk_at "go"
        refine ⟨n, qo, 0 - 1, rfl, hT12, fun D12 m12 fs12 H14a H14 hfs12 W12 L12 => ⟨D12, rfl, ⟨_, SqL.of W12.l⟩, fun E12 nE12 => ?_⟩⟩
        have hq14 := W12.kp _ _ hq12 (fun _ z => by cases z)
        have hqo14 := W12.kp _ _ hqo12 (fun _ z => by cases z)
        have hD14 := hD12.ext W12.kp
        have hT14 := W12.tb
        have hl14 := congrArg List.length hfs12
        rw [List.length_map] at hl14
        refine g_kindsNo W12.l nE12 (by simp) (by rw [List.length_map, hl14]; decide) (works_tell T hqo14 ho2 (.inr ⟨hn, ho1, rfl⟩) hfs12 W12 L12) (fun H15 e15 u15 => ?_)
        clear W12 L12 hfs12 hl14 nE12
        walk_at "go"
        intro p15 hp15
        refine g_neInts (ns := []) (ms := []) (SqL.of (upd_old u15 hp15)) (SqL.of upd_same) ?_
        walk_at "go"
        refine ite_ndec (fun z => (z rfl).elim) (fun _ => ?_)
        walk_at "go1"
        have e16 := e15.trans (Same.new hp15 (o := .lst []))
        generalize upd H15 p15 (.lst []) = H16 at *
        have hq16 := e16 _ _ hq14
        have hqo16 := e16 _ _ hqo14
        have hD16 := hD14.same e16
        have hT16 := tabs_same hT14 e16
        clear e16 e15 u15 hp15 hq14 hqo14 hD14 hT14
        try dsimp only
        walk_at "goS"
        refine ⟨n, q, r, t, rfl, hq16, hn, hr0, fun vg H17 e17 hvg => ?_⟩
        have hq17 := e17 _ _ hq16
        have hD17 := hD16.same e17
        have hT17 := tabs_same hT16 e17
        clear e17 hq16 hqo16 hD16 hT16
        walk_at "goS"
        refine ⟨a, s, _, _, rfl, hD17, fun z H18 hz g18 => ?_⟩
        have hq18 := g18.at hq17 nqa
        have hvg18 := hvg.go hD17 g18
        have hT18 := tabs_go hT17 hD17 g18
        have hD18 := g18.dr
        have nz : ¬ Se n z := fun h => by have := h.1; have := h.2; omega
        clear g18 hq17 hD17 hT17 hvg
        walk_at "goS"
        refine g_cutS (fun σ' H19 => ∃ (vn : V) (xn : Int × Int), σ' = [some (.ref s), some (.ref a), some (.int (0 + (i : Nat))), some (.int n), some (.ref q), some (.int t), some (.ref qo), some (.int bad), some vg, some vn, v10, v11] ∧ SeenAt H19 r vn xn ∧ ¬ SeenOk n r xn ∧ Go K a s H18 H19) (fun N hN => ?_) ?_
        · walk_at "go"
          cases r with
          | pair o =>
            obtain ⟨pg, rfl, hpg⟩ := hvg18
            have npa : pg ≠ a := by
              obtain ⟨ns, i, m, l, h1, _⟩ := hD18.ex
              exact ne_of hpg h1 (by intro z; cases z)
            refine g_ixT (SqT.of hq18) (v := .str "pair") rfl ?_
            walk_at "go"
            refine g_ixT (SqT.of hpg) (v := .int (t % o)) rfl ?_
            walk_at "go"
            intro p1 hp1
            have e1 := Same.new hp1 (o := .tup [V.int z, V.int (t % o)])
            walk_at "go"
            refine g_ixT (SqT.of (e1 _ _ hpg)) (v := .int (t % n)) rfl ?_
            walk_at "go"
            refine g_ixT (SqT.of (e1 _ _ hq18)) (v := .int o) rfl ?_
            walk_at "go"
            refine ⟨a, s, _, _, rfl, hD18.same e1, fun z2 H20 hz2 g20 => ?_⟩
            have no2 : ¬ Se o z2 := fun h => by have := h.1; have := h.2; omega
            have np1 : p1 ≠ a := hD18.ne hp1
            have u1 := g20.at upd_same np1
            walk_at "go"
            intro p2 hp2
            have e2 := Same.new hp2 (o := .tup [V.int (t % n), V.int z2])
            have b1 : ∃ xn : Int × Int, SeenAt (upd H20 p2 (.tup [V.int (t % n), V.int z2])) (.pair o) (.ref p1) xn ∧ ¬ SeenOk n (.pair o) xn := ⟨(z, t % o), ⟨p1, rfl, e2 _ _ u1⟩, fun h => nz h.1⟩
            have b2 : ∃ xn : Int × Int, SeenAt (upd H20 p2 (.tup [V.int (t % n), V.int z2])) (.pair o) (.ref p2) xn ∧ ¬ SeenOk n (.pair o) xn := ⟨(t % n, z2), ⟨p2, rfl, upd_same⟩, fun h => no2 h.2⟩
            have g21 : Go K a s H18 (upd H20 p2 (.tup [V.int (t % n), V.int z2])) := (g20.pre e1).then e2
            have d21 := g20.dr.same e2
            generalize upd H20 p2 (.tup [V.int (t % n), V.int z2]) = H21 at *
            walk_at "go"
            intro p3 hp3
            walk_at "go"
            refine g_pick (m := 2) (xs := [V.ref p1, V.ref p2]) hp3 d21 (by decide) rfl (fun v H22 hv _ g22 _ => ?_)
            have bv : ∃ xn : Int × Int, SeenAt H21 (.pair o) v xn ∧ ¬ SeenOk n (.pair o) xn := by
              simp only [List.mem_cons, List.not_mem_nil, or_false] at hv
              rcases hv with rfl | rfl
              · exact b1
              · exact b2
            obtain ⟨xn, bv1, bv2⟩ := bv
            walk_at "go"
            exact hN _ _ ⟨v, xn, rfl, bv1.go d21 g22, bv2, g21.trans g22⟩
          | up l =>
            refine g_ixT (SqT.of hq18) (v := .str "up") rfl ?_
            walk_at "go"
            exact hN _ _ ⟨.int z, (z, 0), rfl, rfl, fun h => nz h.1, Go.refl hD18⟩
          | near =>
            refine g_ixT (SqT.of hq18) (v := .str "near") rfl ?_
            walk_at "go"
            exact hN _ _ ⟨.int z, (z, 0), rfl, rfl, fun h => nz h.1, Go.refl hD18⟩
          | about l =>
            refine g_ixT (SqT.of hq18) (v := .str "about") rfl ?_
            walk_at "go"
            exact hN _ _ ⟨.int z, (z, 0), rfl, rfl, fun h => nz h.1, Go.refl hD18⟩
        · rintro σ' H19 ⟨vn, xn, rfl, hvn, hno, g19⟩
          have hq19 := g19.at hq18 nqa
          have hvg19 := hvg18.go hD18 g19
          have hT19 := tabs_go hT18 hD18 g19
          have hD19 := g19.dr
          clear g19 hq18 hvg18 hT18 hD18
          generalize (envOfC _ _ _ _ _).cells = cells
          try dsimp only
          refine g_seq (g_asg (g_works0 hT19 (fun D f1 d1 H22 W1 => ?_)))
          walk_at "go1"
          try dsimp only
          refine g_seq (g_drop (g_works W1 (j := 10) rfl (by simp) (fun f2 d2 H23 W2 => ?_)))
          try dsimp only
          refine g_seq (g_drop (g_works W2 (j := 10) rfl (by simp) (fun f3 d3 H24 W3 => ?_)))
          try dsimp only
          refine g_seq (g_drop (g_works W3 (j := 10) rfl (by simp) (fun f4 d4 H25 W4 => ?_)))
          try dsimp only
          refine g_seq (g_drop (g_works W4 (j := 10) rfl (by simp) (fun f5 d5 H26 W5 => ?_)))
          try dsimp only
          refine g_seq (g_drop (g_works W5 (j := 10) rfl (by simp) (fun f6 d6 H27 W6 => ?_)))
          try dsimp only
          clear W1 W2 W3 W4 W5
          have hq27 := W6.kp _ _ hq19 (fun _ z => by cases z)
          have hvg27 := hvg19.ext W6.kp
          have hvn27 := hvn.ext W6.kp
          have hD27 := hD19.ext W6.kp
          clear hq19 hvg19 hvn hT19 hD19
          refine g_ifS (g_test (g_op ?_))
          refine g_kinds (K := K) (ec := ec) (ws := ["BadSeen", "BadSeen", "BadSeen", "BadGaps", "BadGaps", "BadGaps"]) W6.tb W6.l rfl (by simp) rfl (by simp) (fun m x w hx hw => ?_) (fun D2 H50 e50 hT50 u50 => ?_)
          · match m, hx, hw with
            | 0, hx, hw =>
              cases hx
              cases hw
              refine ⟨f1, d1, lam_law_0, _, rfl, .head _, (W6.at_ (f1, d1, lam_law_0) (by simp)).2, (W6.at_ (f1, d1, lam_law_0) (by simp)).1, fun H' Q' e hT kk => ?_⟩
              try dsimp only
              walk_at "go"
              refine ⟨n, q, toRaw r, vn, vg, .int 0, rfl, by rw [rawV_to]; exact extN_tup e hq27, rawS_to r, fun h => absurd hn h, fun _ h => absurd (rawOk_to.mpr hr0) h, fun r' er _ _ => ?_⟩
              cases toRaw_inj er
              exact ⟨xn, _, 0, hvn27.ext e, hvg27.ext e, aboutV_int, fun h => absurd h hno, fun h => absurd h hno, fun _ H2 e2 => EKind.mk T.q_BadSeen (fun H3 e3 => kk _ (extN_same (e2.trans e3)) (tabs_same hT (e2.trans e3)))⟩
            | 1, hx, hw =>
              cases hx
              cases hw
              refine ⟨f2, d2, lam_law_1, _, rfl, .tail _ (.head _), (W6.at_ (f2, d2, lam_law_1) (by simp)).2, (W6.at_ (f2, d2, lam_law_1) (by simp)).1, fun H' Q' e hT kk => ?_⟩
              try dsimp only
              walk_at "go"
              refine ⟨n, q, toRaw r, vg, vn, .int 0, rfl, by rw [rawV_to]; exact extN_tup e hq27, rawS_to r, fun h => absurd hn h, fun _ h => absurd (rawOk_to.mpr hr0) h, fun r' er _ _ => ?_⟩
              cases toRaw_inj er
              exact ⟨_, xn, 0, hvg27.ext e, hvn27.ext e, aboutV_int, fun _ h => absurd h hno, fun _ h => absurd h hno, fun _ H2 e2 => EKind.mk T.q_BadSeen (fun H3 e3 => kk _ (extN_same (e2.trans e3)) (tabs_same hT (e2.trans e3)))⟩
            | 2, hx, hw =>
              cases hx
              cases hw
              refine ⟨f3, d3, lam_law_2, _, rfl, .tail _ (.tail _ (.head _)), (W6.at_ (f3, d3, lam_law_2) (by simp)).2, (W6.at_ (f3, d3, lam_law_2) (by simp)).1, fun H' Q' e hT kk => ?_⟩
              try dsimp only
              walk_at "go"
              intro x dx nx ndx nex
              have e2 : Same H' (upd (upd H' dx (.own x)) x (.ins ec.Reader dx [])) := fun b o e => by
                rw [upd_ne (ne_of_none e nx), upd_ne (ne_of_none e ndx)]
                exact e
              refine ⟨x, dx, n, q, toRaw r, 3, rfl, upd_same, by rw [rawV_to]; exact e2 _ _ (extN_tup e hq27), rawS_to r, fun r' er _ _ v H2 hv hR kp => ⟨rfl, ?_⟩, fun h => absurd hn h, fun _ h => absurd (rawOk_to.mpr hr0) h⟩
              cases toRaw_inj er
              have e3 : Same H' H2 := fun b o z => kp b o (e2 b o z) (ne_of_none z nx)
              obtain ⟨dx2, hx2⟩ := hR
              refine ⟨x, dx2, _, rfl, hx2, rdF_look, ?_⟩
              walk_at "go"
              exact ⟨x, n, q, r, v, vn, .int 0, 3, _, xn, 0, rfl, ⟨dx2, hx2⟩, e3 _ _ (extN_tup e hq27), hn, hr0, hv, (hvn27.ext e).same e3, aboutV_int, fun h => absurd h hno, fun h => absurd h hno, fun _ => EKind.mk T.q_BadSeen (fun H3 e4 => kk _ (extN_same (e3.trans e4)) (tabs_same hT (e3.trans e4)))⟩
            | 3, hx, hw =>
              cases hx
              cases hw
              refine ⟨f4, d4, lam_law_3, _, rfl, .tail _ (.tail _ (.tail _ (.head _))), (W6.at_ (f4, d4, lam_law_3) (by simp)).2, (W6.at_ (f4, d4, lam_law_3) (by simp)).1, fun H' Q' e hT kk => ?_⟩
              try dsimp only
              walk_at "go"
              exact ⟨n, q, toRaw r, 2, 1, rfl, by rw [rawV_to]; exact extN_tup e hq27, rawS_to r, fun _ _ _ _ h => absurd h (by decide), fun h => absurd hn h, fun _ h => absurd (rawOk_to.mpr hr0) h, fun _ _ _ H2 e2 => EKind.mk T.q_BadGaps (fun H3 e3 => kk _ (extN_same (e2.trans e3)) (tabs_same hT (e2.trans e3)))⟩
            | 4, hx, hw =>
              cases hx
              cases hw
              refine ⟨f5, d5, lam_law_4, _, rfl, .tail _ (.tail _ (.tail _ (.tail _ (.head _)))), (W6.at_ (f5, d5, lam_law_4) (by simp)).2, (W6.at_ (f5, d5, lam_law_4) (by simp)).1, fun H' Q' e hT kk => ?_⟩
              try dsimp only
              walk_at "go"
              intro p1 hp1
              walk_at "go"
              intro p2 hp2
              have e2 := (Same.new hp1 (o := .lst [])).trans (Same.new hp2 (o := .lst []))
              walk_at "go"
              exact ⟨n, q, toRaw r, p1, p2, [], [], rfl, by rw [rawV_to]; exact e2 _ _ (extN_tup e hq27), rawS_to r, SqL.of (upd_old upd_same hp2), SqL.of upd_same, by simp, fun _ _ _ _ h => absurd rfl h, fun h => absurd hn h, fun _ h => absurd (rawOk_to.mpr hr0) h, fun _ _ _ H2 e3 => EKind.mk T.q_BadGaps (fun H3 e4 => kk _ (extN_same ((e2.trans e3).trans e4)) (tabs_same hT ((e2.trans e3).trans e4)))⟩
            | 5, hx, hw =>
              cases hx
              cases hw
              refine ⟨f6, d6, lam_law_5, _, rfl, .tail _ (.tail _ (.tail _ (.tail _ (.tail _ (.head _))))), (W6.at_ (f6, d6, lam_law_5) (by simp)).2, (W6.at_ (f6, d6, lam_law_5) (by simp)).1, fun H' Q' e hT kk => ?_⟩
              try dsimp only
              walk_at "go"
              intro p1 hp1
              walk_at "go"
              intro p2 hp2
              have e2 := (Same.new hp1 (o := .lst [V.int 1, V.int 2])).trans (Same.new hp2 (o := .lst [V.int 1, V.int 1]))
              have bl : ¬ (((([1, 1] : List Int).length : Nat) : Int) = wantN (toRaw r) [1, 2]) := by
                cases r with
                | about f => rw [wantA]; decide
                | up f => rw [wantU]; decide
                | pair f => rw [wantP]; decide
                | near => decide
              walk_at "go"
              exact ⟨n, q, toRaw r, p1, p2, [1, 2], [1, 1], rfl, by rw [rawV_to]; exact e2 _ _ (extN_tup e hq27), rawS_to r, SqL.of (upd_old upd_same hp2), SqL.of upd_same, by simp, fun _ _ _ _ _ h => absurd h bl, fun h => absurd hn h, fun _ h => absurd (rawOk_to.mpr hr0) h, fun _ _ _ H2 e3 => EKind.mk T.q_BadGaps (fun H3 e4 => kk _ (extN_same ((e2.trans e3).trans e4)) (tabs_same hT ((e2.trans e3).trans e4)))⟩
          · walk_at "go"
            intro p60 hp60
            walk_at "go"
            refine g_rep1 (n := 3) upd_same (by decide) (fun p61 hp61 => ?_)
            have u61 : upd (upd H50 p60 (.lst [V.str "BadSeen"])) p61 (.lst (List.replicate 3 (V.str "BadSeen"))) p61 = some (.lst [V.str "BadSeen", V.str "BadSeen", V.str "BadSeen"]) := upd_same
            have e61 := (Same.new hp60 (o := .lst [V.str "BadSeen"])).trans (Same.new hp61 (o := .lst (List.replicate 3 (V.str "BadSeen"))))
            generalize upd (upd H50 p60 (.lst [V.str "BadSeen"])) p61 (.lst (List.replicate 3 (V.str "BadSeen"))) = H61 at *
            walk_at "go"
            intro p62 hp62
            walk_at "go"
            refine g_rep1 (n := 3) upd_same (by decide) (fun p63 hp63 => ?_)
            have u63 : upd (upd H61 p62 (.lst [V.str "BadGaps"])) p63 (.lst (List.replicate 3 (V.str "BadGaps"))) p63 = some (.lst [V.str "BadGaps", V.str "BadGaps", V.str "BadGaps"]) := upd_same
            have e63 := (Same.new hp62 (o := .lst [V.str "BadGaps"])).trans (Same.new hp63 (o := .lst (List.replicate 3 (V.str "BadGaps"))))
            generalize upd (upd H61 p62 (.lst [V.str "BadGaps"])) p63 (.lst (List.replicate 3 (V.str "BadGaps"))) = H63 at *
            refine g_cat (e63 _ _ u61) u63 (by simp) (fun p64 hp64 => ?_)
            have e64 := (e61.trans e63).trans (Same.new hp64 (o := .lst ([V.str "BadSeen", V.str "BadSeen", V.str "BadSeen"] ++ [V.str "BadGaps", V.str "BadGaps", V.str "BadGaps"])))
            have u64 : upd H63 p64 (.lst ([V.str "BadSeen", V.str "BadSeen", V.str "BadSeen"] ++ [V.str "BadGaps", V.str "BadGaps", V.str "BadGaps"])) p64 = some (.lst (List.map V.str ["BadSeen", "BadSeen", "BadSeen", "BadGaps", "BadGaps", "BadGaps"])) := upd_same
            generalize upd H63 p64 (.lst ([V.str "BadSeen", V.str "BadSeen", V.str "BadSeen"] ++ [V.str "BadGaps", V.str "BadGaps", V.str "BadGaps"])) = H64 at *
            refine g_neStrs (ns := ["BadSeen", "BadSeen", "BadSeen", "BadGaps", "BadGaps", "BadGaps"]) (ms := ["BadSeen", "BadSeen", "BadSeen", "BadGaps", "BadGaps", "BadGaps"]) (SqL.of (e64 _ _ u50)) (SqL.of u64) (by decide +kernel) (by decide +kernel) ?_
            walk_at "go"
            refine ite_ndec (fun z => (z rfl).elim) (fun _ => ?_)
            walk_at "go"
            exact ⟨(hD27.ext e50).same e64, tabs_same hT50 e64, _, _, _, _, _, _, _, _, _, _, rfl⟩
    · rintro σ H2 ⟨hD2, _, v2, v3, v4, v5, v6, v7, v8, v9, v10, v11, rfl⟩
      walk_at "go"
      exact k H2
end
end My
namespace My
open PySem PySem.Spec PyProof.Rows L2
section
variable {P : Program} {w : World} {K : PySem.W.Frag} {mg : Str → Option Value} {base : Heap} {ec : Ec}
theorem all_mk {l : PySem.W.OpenLaw} {w : World} {K : PySem.W.Frag} {h : Heap} {mg : Str → Option Value} {fa : Addr} (X : K.In h) (G : h.Ns mainGlobals mg) (hfa : mg "law" = some (.ref fa))
    {C_Reader : Addr}
    {f0 : Addr} {od0 an0 : Option Addr} {sl0 : Array (Option Value)} {oc0 kV0 dc0 pm0 cd0 ct0 : Value}
    {f1 : Addr} {od1 an1 : Option Addr} {sl1 : Array (Option Value)} {oc1 kV1 dc1 pm1 cd1 ct1 : Value}
    {f2 : Addr} {od2 an2 : Option Addr} {sl2 : Array (Option Value)} {oc2 kV2 dc2 pm2 cd2 ct2 : Value}
    {f3 : Addr} {od3 an3 : Option Addr} {sl3 : Array (Option Value)} {oc3 kV3 dc3 pm3 cd3 ct3 : Value}
    {f4 : Addr} {od4 an4 : Option Addr} {sl4 : Array (Option Value)} {oc4 kV4 dc4 pm4 cd4 ct4 : Value}
    {f5 : Addr} {od5 an5 : Option Addr} {sl5 : Array (Option Value)} {oc5 kV5 dc5 pm5 cd5 ct5 : Value}
    {f6 : Addr} {od6 an6 : Option Addr} {sl6 : Array (Option Value)} {oc6 kV6 dc6 pm6 cd6 ct6 : Value}
    {f7 : Addr} {od7 an7 : Option Addr} {sl7 : Array (Option Value)} {oc7 kV7 dc7 pm7 cd7 ct7 : Value}
    {f8 : Addr} {od8 an8 : Option Addr} {sl8 : Array (Option Value)} {oc8 kV8 dc8 pm8 cd8 ct8 : Value}
    {f9 : Addr} {od9 an9 : Option Addr} {sl9 : Array (Option Value)} {oc9 kV9 dc9 pm9 cd9 ct9 : Value}
    {f10 : Addr} {od10 an10 : Option Addr} {sl10 : Array (Option Value)} {oc10 kV10 dc10 pm10 cd10 ct10 : Value}
    {f11 : Addr} {od11 an11 : Option Addr} {sl11 : Array (Option Value)} {oc11 kV11 dc11 pm11 cd11 ct11 : Value}
    {f12 : Addr} {od12 an12 : Option Addr} {sl12 : Array (Option Value)} {oc12 kV12 dc12 pm12 cd12 ct12 : Value}
    {f13 : Addr} {od13 an13 : Option Addr} {sl13 : Array (Option Value)} {oc13 kV13 dc13 pm13 cd13 ct13 : Value}
    {f14 : Addr} {od14 an14 : Option Addr} {sl14 : Array (Option Value)} {oc14 kV14 dc14 pm14 cd14 ct14 : Value}
    {f15 : Addr} {od15 an15 : Option Addr} {sl15 : Array (Option Value)} {oc15 kV15 dc15 pm15 cd15 ct15 : Value}
    {f16 : Addr} {od16 an16 : Option Addr} {sl16 : Array (Option Value)} {oc16 kV16 dc16 pm16 cd16 ct16 : Value}
    {f17 : Addr} {od17 an17 : Option Addr} {sl17 : Array (Option Value)} {oc17 kV17 dc17 pm17 cd17 ct17 : Value}
    {f18 T18 : Addr} {od18 an18 zd18 : Option Addr} {sl18 zs18 : Array (Option Value)} {oc18 kV18 dc18 pm18 cd18 ct18 zc18 : Value} {zn18 : Nat}
    {f19 : Addr} {od19 an19 : Option Addr} {sl19 : Array (Option Value)} {oc19 kV19 dc19 pm19 cd19 ct19 : Value}
    {f20 : Addr} {od20 an20 : Option Addr} {sl20 : Array (Option Value)} {oc20 kV20 dc20 pm20 cd20 ct20 : Value}
    {f21 : Addr} {od21 an21 : Option Addr} {sl21 : Array (Option Value)} {oc21 kV21 dc21 pm21 cd21 ct21 : Value}
    {f22 : Addr} {od22 an22 : Option Addr} {sl22 : Array (Option Value)} {oc22 kV22 dc22 pm22 cd22 ct22 : Value}
    {f23 : Addr} {od23 an23 : Option Addr} {sl23 : Array (Option Value)} {oc23 kV23 dc23 pm23 cd23 ct23 : Value}
    {f24 : Addr} {od24 an24 : Option Addr} {sl24 : Array (Option Value)} {oc24 kV24 dc24 pm24 cd24 ct24 : Value}
    {f25 : Addr} {od25 an25 : Option Addr} {sl25 : Array (Option Value)} {oc25 kV25 dc25 pm25 cd25 ct25 : Value}
    {f26 : Addr} {od26 an26 : Option Addr} {sl26 : Array (Option Value)} {oc26 kV26 dc26 pm26 cd26 ct26 : Value}
    {f27 : Addr} {od27 an27 : Option Addr} {sl27 : Array (Option Value)} {oc27 kV27 dc27 pm27 cd27 ct27 : Value}
    {f28 : Addr} {od28 an28 : Option Addr} {sl28 : Array (Option Value)} {oc28 kV28 dc28 pm28 cd28 ct28 : Value}
    {f29 : Addr} {od29 an29 : Option Addr} {sl29 : Array (Option Value)} {oc29 kV29 dc29 pm29 cd29 ct29 : Value}
    {f30 : Addr} {od30 an30 : Option Addr} {sl30 : Array (Option Value)} {oc30 kV30 dc30 pm30 cd30 ct30 : Value}
    {f31 cL__law_works PL__law_works : Addr} {od31 an31 ddL__law_works : Option Addr} {sl31 slL__law_works : Array (Option Value)} {vsL__law_works : Array Value} {oc31 kV31 dc31 pm31 ct31 eL__law_works : Value}
    {f32 cL PL : Addr} {od32 an32 ddL : Option Addr} {sl32 slL : Array (Option Value)} {vsL : Array Value} {oc32 kV32 dc32 pm32 ct32 eL : Value}
    {t_MOST_WHEEL : Tok}
    {t_MOST_LEAST : Tok}
    {C_BadWheel : Addr}
    {C_BadRule : Addr}
    {C_BadSeen : Addr}
    {C_BadGaps : Addr}
    {C_BadSpan : Addr}
    {C_BadLong : Addr}
    {C_NoGap : Addr}
    {C_NoSpan : Addr}
    {C_WrapError : Addr}
    (gc_Reader : PySem.W.nsIn K mainGlobals "Reader" = some (some (.ref C_Reader)))
    (a0 : PySem.W.nsIn K mainGlobals "is_wheel" = some (some (.ref f0)))
    (l0 : K.lookup f0 = some ⟨oc0, od0, .func (PySem.W.fnOf "is_wheel" "is_wheel" (defArgs s_is_wheel) (defBody s_is_wheel) (defScope s_is_wheel) .none kV0 dc0 pm0 an0 cd0 ct0), sl0⟩)
    (c0 : PySem.W.codeIn K cd0 "is_wheel" = true)
    (k0 : PySem.W.keepIn K (.ref f0) = true)
    (a1 : PySem.W.nsIn K mainGlobals "need_wheel" = some (some (.ref f1)))
    (l1 : K.lookup f1 = some ⟨oc1, od1, .func (PySem.W.fnOf "need_wheel" "need_wheel" (defArgs s_need_wheel) (defBody s_need_wheel) (defScope s_need_wheel) .none kV1 dc1 pm1 an1 cd1 ct1), sl1⟩)
    (c1 : PySem.W.codeIn K cd1 "need_wheel" = true)
    (k1 : PySem.W.keepIn K (.ref f1) = true)
    (a2 : PySem.W.nsIn K mainGlobals "need_seen" = some (some (.ref f2)))
    (l2 : K.lookup f2 = some ⟨oc2, od2, .func (PySem.W.fnOf "need_seen" "need_seen" (defArgs s_need_seen) (defBody s_need_seen) (defScope s_need_seen) .none kV2 dc2 pm2 an2 cd2 ct2), sl2⟩)
    (c2 : PySem.W.codeIn K cd2 "need_seen" = true)
    (k2 : PySem.W.keepIn K (.ref f2) = true)
    (a3 : PySem.W.nsIn K mainGlobals "is_rule" = some (some (.ref f3)))
    (l3 : K.lookup f3 = some ⟨oc3, od3, .func (PySem.W.fnOf "is_rule" "is_rule" (defArgs s_is_rule) (defBody s_is_rule) (defScope s_is_rule) .none kV3 dc3 pm3 an3 cd3 ct3), sl3⟩)
    (c3 : PySem.W.codeIn K cd3 "is_rule" = true)
    (k3 : PySem.W.keepIn K (.ref f3) = true)
    (a4 : PySem.W.nsIn K mainGlobals "need_rule" = some (some (.ref f4)))
    (l4 : K.lookup f4 = some ⟨oc4, od4, .func (PySem.W.fnOf "need_rule" "need_rule" (defArgs s_need_rule) (defBody s_need_rule) (defScope s_need_rule) .none kV4 dc4 pm4 an4 cd4 ct4), sl4⟩)
    (c4 : PySem.W.codeIn K cd4 "need_rule" = true)
    (k4 : PySem.W.keepIn K (.ref f4) = true)
    (a5 : PySem.W.nsIn K mainGlobals "divisor" = some (some (.ref f5)))
    (l5 : K.lookup f5 = some ⟨oc5, od5, .func (PySem.W.fnOf "divisor" "divisor" (defArgs s_divisor) (defBody s_divisor) (defScope s_divisor) .none kV5 dc5 pm5 an5 cd5 ct5), sl5⟩)
    (c5 : PySem.W.codeIn K cd5 "divisor" = true)
    (k5 : PySem.W.keepIn K (.ref f5) = true)
    (a6 : PySem.W.nsIn K mainGlobals "multiple" = some (some (.ref f6)))
    (l6 : K.lookup f6 = some ⟨oc6, od6, .func (PySem.W.fnOf "multiple" "multiple" (defArgs s_multiple) (defBody s_multiple) (defScope s_multiple) .none kV6 dc6 pm6 an6 cd6 ct6), sl6⟩)
    (c6 : PySem.W.codeIn K cd6 "multiple" = true)
    (k6 : PySem.W.keepIn K (.ref f6) = true)
    (a7 : PySem.W.nsIn K mainGlobals "shown_of" = some (some (.ref f7)))
    (l7 : K.lookup f7 = some ⟨oc7, od7, .func (PySem.W.fnOf "shown_of" "shown_of" (defArgs s_shown_of) (defBody s_shown_of) (defScope s_shown_of) .none kV7 dc7 pm7 an7 cd7 ct7), sl7⟩)
    (c7 : PySem.W.codeIn K cd7 "shown_of" = true)
    (k7 : PySem.W.keepIn K (.ref f7) = true)
    (a8 : PySem.W.nsIn K mainGlobals "shown" = some (some (.ref f8)))
    (l8 : K.lookup f8 = some ⟨oc8, od8, .func (PySem.W.fnOf "shown" "shown" (defArgs s_shown) (defBody s_shown) (defScope s_shown) .none kV8 dc8 pm8 an8 cd8 ct8), sl8⟩)
    (c8 : PySem.W.codeIn K cd8 "shown" = true)
    (k8 : PySem.W.keepIn K (.ref f8) = true)
    (a9 : PySem.W.nsIn K mainGlobals "need_shown" = some (some (.ref f9)))
    (l9 : K.lookup f9 = some ⟨oc9, od9, .func (PySem.W.fnOf "need_shown" "need_shown" (defArgs s_need_shown) (defBody s_need_shown) (defScope s_need_shown) .none kV9 dc9 pm9 an9 cd9 ct9), sl9⟩)
    (c9 : PySem.W.codeIn K cd9 "need_shown" = true)
    (k9 : PySem.W.keepIn K (.ref f9) = true)
    (a10 : PySem.W.nsIn K mainGlobals "inverse" = some (some (.ref f10)))
    (l10 : K.lookup f10 = some ⟨oc10, od10, .func (PySem.W.fnOf "inverse" "inverse" (defArgs s_inverse) (defBody s_inverse) (defScope s_inverse) .none kV10 dc10 pm10 an10 cd10 ct10), sl10⟩)
    (c10 : PySem.W.codeIn K cd10 "inverse" = true)
    (k10 : PySem.W.keepIn K (.ref f10) = true)
    (a11 : PySem.W.nsIn K mainGlobals "paired" = some (some (.ref f11)))
    (l11 : K.lookup f11 = some ⟨oc11, od11, .func (PySem.W.fnOf "paired" "paired" (defArgs s_paired) (defBody s_paired) (defScope s_paired) .none kV11 dc11 pm11 an11 cd11 ct11), sl11⟩)
    (c11 : PySem.W.codeIn K cd11 "paired" = true)
    (k11 : PySem.W.keepIn K (.ref f11) = true)
    (a12 : PySem.W.nsIn K mainGlobals "gap_of" = some (some (.ref f12)))
    (l12 : K.lookup f12 = some ⟨oc12, od12, .func (PySem.W.fnOf "gap_of" "gap_of" (defArgs s_gap_of) (defBody s_gap_of) (defScope s_gap_of) .none kV12 dc12 pm12 an12 cd12 ct12), sl12⟩)
    (c12 : PySem.W.codeIn K cd12 "gap_of" = true)
    (k12 : PySem.W.keepIn K (.ref f12) = true)
    (a13 : PySem.W.nsIn K mainGlobals "gap" = some (some (.ref f13)))
    (l13 : K.lookup f13 = some ⟨oc13, od13, .func (PySem.W.fnOf "gap" "gap" (defArgs s_gap) (defBody s_gap) (defScope s_gap) .none kV13 dc13 pm13 an13 cd13 ct13), sl13⟩)
    (c13 : PySem.W.codeIn K cd13 "gap" = true)
    (k13 : PySem.W.keepIn K (.ref f13) = true)
    (a14 : PySem.W.nsIn K mainGlobals "bound_of" = some (some (.ref f14)))
    (l14 : K.lookup f14 = some ⟨oc14, od14, .func (PySem.W.fnOf "bound_of" "bound_of" (defArgs s_bound_of) (defBody s_bound_of) (defScope s_bound_of) .none kV14 dc14 pm14 an14 cd14 ct14), sl14⟩)
    (c14 : PySem.W.codeIn K cd14 "bound_of" = true)
    (k14 : PySem.W.keepIn K (.ref f14) = true)
    (a15 : PySem.W.nsIn K mainGlobals "bound" = some (some (.ref f15)))
    (l15 : K.lookup f15 = some ⟨oc15, od15, .func (PySem.W.fnOf "bound" "bound" (defArgs s_bound) (defBody s_bound) (defScope s_bound) .none kV15 dc15 pm15 an15 cd15 ct15), sl15⟩)
    (c15 : PySem.W.codeIn K cd15 "bound" = true)
    (k15 : PySem.W.keepIn K (.ref f15) = true)
    (a16 : PySem.W.nsIn K mainGlobals "judged" = some (some (.ref f16)))
    (l16 : K.lookup f16 = some ⟨oc16, od16, .func (PySem.W.fnOf "judged" "judged" (defArgs s_judged) (defBody s_judged) (defScope s_judged) .none kV16 dc16 pm16 an16 cd16 ct16), sl16⟩)
    (c16 : PySem.W.codeIn K cd16 "judged" = true)
    (k16 : PySem.W.keepIn K (.ref f16) = true)
    (a17 : PySem.W.findIn K (.ref C_Reader) "__init__" = some (some (.ref f17)))
    (i17 : PySem.W.isFn K (.ref f17) = true)
    (l17 : K.lookup f17 = some ⟨oc17, od17, .func (PySem.W.fnOf "__init__" "Reader.__init__" (defArgs s_Reader_init) (defBody s_Reader_init) (defScope s_Reader_init) .none kV17 dc17 pm17 an17 cd17 ct17), sl17⟩)
    (c17 : PySem.W.codeIn K cd17 "Reader.__init__" = true)
    (k17 : PySem.W.keepIn K (.ref f17) = true)
    (a18 : PySem.W.findIn K (.ref C_Reader) "look" = some (some (.ref f18)))
    (i18 : PySem.W.isFn K (.ref f18) = true)
    (l18 : K.lookup f18 = some ⟨oc18, od18, .func (PySem.W.fnOf "look" "Reader.look" (defArgs s_Reader_look) (defBody s_Reader_look) (defScope s_Reader_look) (.ref T18) kV18 dc18 pm18 an18 cd18 ct18), sl18⟩)
    (c18 : PySem.W.codeIn K cd18 "Reader.look" = true)
    (k18 : PySem.W.keepIn K (.ref f18) = true)
    (v18 : K.lookup T18 = some ⟨zc18, zd18, .seq #[.none] zn18, zs18⟩)
    (a19 : PySem.W.nsIn K mainGlobals "is_right" = some (some (.ref f19)))
    (l19 : K.lookup f19 = some ⟨oc19, od19, .func (PySem.W.fnOf "is_right" "is_right" (defArgs s_is_right) (defBody s_is_right) (defScope s_is_right) .none kV19 dc19 pm19 an19 cd19 ct19), sl19⟩)
    (c19 : PySem.W.codeIn K cd19 "is_right" = true)
    (k19 : PySem.W.keepIn K (.ref f19) = true)
    (a20 : PySem.W.nsIn K mainGlobals "first_wrong" = some (some (.ref f20)))
    (l20 : K.lookup f20 = some ⟨oc20, od20, .func (PySem.W.fnOf "first_wrong" "first_wrong" (defArgs s_first_wrong) (defBody s_first_wrong) (defScope s_first_wrong) .none kV20 dc20 pm20 an20 cd20 ct20), sl20⟩)
    (c20 : PySem.W.codeIn K cd20 "first_wrong" = true)
    (k20 : PySem.W.keepIn K (.ref f20) = true)
    (a21 : PySem.W.nsIn K mainGlobals "_law_start" = some (some (.ref f21)))
    (l21 : K.lookup f21 = some ⟨oc21, od21, .func (PySem.W.fnOf "_law_start" "_law_start" (defArgs s__law_start) (defBody s__law_start) (defScope s__law_start) .none kV21 dc21 pm21 an21 cd21 ct21), sl21⟩)
    (c21 : PySem.W.codeIn K cd21 "_law_start" = true)
    (k21 : PySem.W.keepIn K (.ref f21) = true)
    (a22 : PySem.W.nsIn K mainGlobals "_law_drawn" = some (some (.ref f22)))
    (l22 : K.lookup f22 = some ⟨oc22, od22, .func (PySem.W.fnOf "_law_drawn" "_law_drawn" (defArgs s__law_drawn) (defBody s__law_drawn) (defScope s__law_drawn) .none kV22 dc22 pm22 an22 cd22 ct22), sl22⟩)
    (c22 : PySem.W.codeIn K cd22 "_law_drawn" = true)
    (k22 : PySem.W.keepIn K (.ref f22) = true)
    (a23 : PySem.W.nsIn K mainGlobals "_law_same" = some (some (.ref f23)))
    (l23 : K.lookup f23 = some ⟨oc23, od23, .func (PySem.W.fnOf "_law_same" "_law_same" (defArgs s__law_same) (defBody s__law_same) (defScope s__law_same) .none kV23 dc23 pm23 an23 cd23 ct23), sl23⟩)
    (c23 : PySem.W.codeIn K cd23 "_law_same" = true)
    (k23 : PySem.W.keepIn K (.ref f23) = true)
    (a24 : PySem.W.nsIn K mainGlobals "_law_kind" = some (some (.ref f24)))
    (l24 : K.lookup f24 = some ⟨oc24, od24, .func (PySem.W.fnOf "_law_kind" "_law_kind" (defArgs s__law_kind) (defBody s__law_kind) (defScope s__law_kind) .none kV24 dc24 pm24 an24 cd24 ct24), sl24⟩)
    (c24 : PySem.W.codeIn K cd24 "_law_kind" = true)
    (k24 : PySem.W.keepIn K (.ref f24) = true)
    (a25 : PySem.W.nsIn K mainGlobals "_law_far" = some (some (.ref f25)))
    (l25 : K.lookup f25 = some ⟨oc25, od25, .func (PySem.W.fnOf "_law_far" "_law_far" (defArgs s__law_far) (defBody s__law_far) (defScope s__law_far) .none kV25 dc25 pm25 an25 cd25 ct25), sl25⟩)
    (c25 : PySem.W.codeIn K cd25 "_law_far" = true)
    (k25 : PySem.W.keepIn K (.ref f25) = true)
    (a26 : PySem.W.nsIn K mainGlobals "_law_wheel" = some (some (.ref f26)))
    (l26 : K.lookup f26 = some ⟨oc26, od26, .func (PySem.W.fnOf "_law_wheel" "_law_wheel" (defArgs s__law_wheel) (defBody s__law_wheel) (defScope s__law_wheel) .none kV26 dc26 pm26 an26 cd26 ct26), sl26⟩)
    (c26 : PySem.W.codeIn K cd26 "_law_wheel" = true)
    (k26 : PySem.W.keepIn K (.ref f26) = true)
    (a27 : PySem.W.nsIn K mainGlobals "_law_rule" = some (some (.ref f27)))
    (l27 : K.lookup f27 = some ⟨oc27, od27, .func (PySem.W.fnOf "_law_rule" "_law_rule" (defArgs s__law_rule) (defBody s__law_rule) (defScope s__law_rule) .none kV27 dc27 pm27 an27 cd27 ct27), sl27⟩)
    (c27 : PySem.W.codeIn K cd27 "_law_rule" = true)
    (k27 : PySem.W.keepIn K (.ref f27) = true)
    (a28 : PySem.W.nsIn K mainGlobals "_law_time" = some (some (.ref f28)))
    (l28 : K.lookup f28 = some ⟨oc28, od28, .func (PySem.W.fnOf "_law_time" "_law_time" (defArgs s__law_time) (defBody s__law_time) (defScope s__law_time) .none kV28 dc28 pm28 an28 cd28 ct28), sl28⟩)
    (c28 : PySem.W.codeIn K cd28 "_law_time" = true)
    (k28 : PySem.W.keepIn K (.ref f28) = true)
    (a29 : PySem.W.nsIn K mainGlobals "_law_shown" = some (some (.ref f29)))
    (l29 : K.lookup f29 = some ⟨oc29, od29, .func (PySem.W.fnOf "_law_shown" "_law_shown" (defArgs s__law_shown) (defBody s__law_shown) (defScope s__law_shown) .none kV29 dc29 pm29 an29 cd29 ct29), sl29⟩)
    (c29 : PySem.W.codeIn K cd29 "_law_shown" = true)
    (k29 : PySem.W.keepIn K (.ref f29) = true)
    (a30 : PySem.W.nsIn K mainGlobals "_law_odd" = some (some (.ref f30)))
    (l30 : K.lookup f30 = some ⟨oc30, od30, .func (PySem.W.fnOf "_law_odd" "_law_odd" (defArgs s__law_odd) (defBody s__law_odd) (defScope s__law_odd) .none kV30 dc30 pm30 an30 cd30 ct30), sl30⟩)
    (c30 : PySem.W.codeIn K cd30 "_law_odd" = true)
    (k30 : PySem.W.keepIn K (.ref f30) = true)
    (a31 : PySem.W.nsIn K mainGlobals "_law_works" = some (some (.ref f31)))
    (l31 : K.lookup f31 = some ⟨oc31, od31, .func (PySem.W.fnOf "_law_works" "_law_works" (defArgs s__law_works) (defBody s__law_works) (defScope s__law_works) .none kV31 dc31 pm31 an31 (.ref cL__law_works) ct31), sl31⟩)
    (c31 : PySem.W.codeIn K (.ref cL__law_works) "_law_works" = true)
    (k31 : PySem.W.keepIn K (.ref f31) = true)
    (a32 : PySem.W.nsIn K mainGlobals "law" = some (some (.ref f32)))
    (l32 : K.lookup f32 = some ⟨oc32, od32, .func (PySem.W.fnOf "law" "law" (defArgs s_law) (defBody s_law) (defScope s_law) .none kV32 dc32 pm32 an32 (.ref cL) ct32), sl32⟩)
    (c32 : PySem.W.codeIn K (.ref cL) "law" = true)
    (k32 : PySem.W.keepIn K (.ref f32) = true)
    (g_MOST_WHEEL : PySem.W.nsIn K mainGlobals "MOST_WHEEL" = some (some (.int 1000000000000 t_MOST_WHEEL)))
    (g_MOST_LEAST : PySem.W.nsIn K mainGlobals "MOST_LEAST" = some (some (.int 1000000000000 t_MOST_LEAST)))
    (z_ValueError : PySem.W.nsIn K mainGlobals "ValueError" = some none)
    (z_range : PySem.W.nsIn K mainGlobals "range" = some none)
    (z_isinstance : PySem.W.nsIn K mainGlobals "isinstance" = some none)
    (z_str : PySem.W.nsIn K mainGlobals "str" = some none)
    (z_len : PySem.W.nsIn K mainGlobals "len" = some none)
    (z_tuple : PySem.W.nsIn K mainGlobals "tuple" = some none)
    (z_list : PySem.W.nsIn K mainGlobals "list" = some none)
    (z_bool : PySem.W.nsIn K mainGlobals "bool" = some none)
    (z_int : PySem.W.nsIn K mainGlobals "int" = some none)
    (z_min : PySem.W.nsIn K mainGlobals "min" = some none)
    (z_abs : PySem.W.nsIn K mainGlobals "abs" = some none)
    (eg_BadWheel : PySem.W.nsIn K mainGlobals "BadWheel" = some (some (.ref C_BadWheel)))
    (ex_BadWheel : PySem.W.excIn K C_BadWheel [.type "ValueError", .type "Exception", .type "BaseException", .type "object"] "ValueError.__new__" = true)
    (ek_BadWheel : PySem.W.keepIn K (.ref C_BadWheel) = true)
    (eb_BadWheel : PySem.W.subIn K (.ref C_BadWheel) (.type "BaseException") = some true)
    (et_BadWheel : PySem.W.typeIn K (.ref C_BadWheel) = some (.type "type"))
    (eg_BadRule : PySem.W.nsIn K mainGlobals "BadRule" = some (some (.ref C_BadRule)))
    (ex_BadRule : PySem.W.excIn K C_BadRule [.type "ValueError", .type "Exception", .type "BaseException", .type "object"] "ValueError.__new__" = true)
    (ek_BadRule : PySem.W.keepIn K (.ref C_BadRule) = true)
    (eb_BadRule : PySem.W.subIn K (.ref C_BadRule) (.type "BaseException") = some true)
    (et_BadRule : PySem.W.typeIn K (.ref C_BadRule) = some (.type "type"))
    (eg_BadSeen : PySem.W.nsIn K mainGlobals "BadSeen" = some (some (.ref C_BadSeen)))
    (ex_BadSeen : PySem.W.excIn K C_BadSeen [.type "ValueError", .type "Exception", .type "BaseException", .type "object"] "ValueError.__new__" = true)
    (ek_BadSeen : PySem.W.keepIn K (.ref C_BadSeen) = true)
    (eb_BadSeen : PySem.W.subIn K (.ref C_BadSeen) (.type "BaseException") = some true)
    (et_BadSeen : PySem.W.typeIn K (.ref C_BadSeen) = some (.type "type"))
    (eg_BadGaps : PySem.W.nsIn K mainGlobals "BadGaps" = some (some (.ref C_BadGaps)))
    (ex_BadGaps : PySem.W.excIn K C_BadGaps [.type "ValueError", .type "Exception", .type "BaseException", .type "object"] "ValueError.__new__" = true)
    (ek_BadGaps : PySem.W.keepIn K (.ref C_BadGaps) = true)
    (eb_BadGaps : PySem.W.subIn K (.ref C_BadGaps) (.type "BaseException") = some true)
    (et_BadGaps : PySem.W.typeIn K (.ref C_BadGaps) = some (.type "type"))
    (eg_BadSpan : PySem.W.nsIn K mainGlobals "BadSpan" = some (some (.ref C_BadSpan)))
    (ex_BadSpan : PySem.W.excIn K C_BadSpan [.type "ValueError", .type "Exception", .type "BaseException", .type "object"] "ValueError.__new__" = true)
    (ek_BadSpan : PySem.W.keepIn K (.ref C_BadSpan) = true)
    (eb_BadSpan : PySem.W.subIn K (.ref C_BadSpan) (.type "BaseException") = some true)
    (et_BadSpan : PySem.W.typeIn K (.ref C_BadSpan) = some (.type "type"))
    (eg_BadLong : PySem.W.nsIn K mainGlobals "BadLong" = some (some (.ref C_BadLong)))
    (ex_BadLong : PySem.W.excIn K C_BadLong [.type "ValueError", .type "Exception", .type "BaseException", .type "object"] "ValueError.__new__" = true)
    (ek_BadLong : PySem.W.keepIn K (.ref C_BadLong) = true)
    (eb_BadLong : PySem.W.subIn K (.ref C_BadLong) (.type "BaseException") = some true)
    (et_BadLong : PySem.W.typeIn K (.ref C_BadLong) = some (.type "type"))
    (eg_NoGap : PySem.W.nsIn K mainGlobals "NoGap" = some (some (.ref C_NoGap)))
    (ex_NoGap : PySem.W.excIn K C_NoGap [.type "ValueError", .type "Exception", .type "BaseException", .type "object"] "ValueError.__new__" = true)
    (ek_NoGap : PySem.W.keepIn K (.ref C_NoGap) = true)
    (eb_NoGap : PySem.W.subIn K (.ref C_NoGap) (.type "BaseException") = some true)
    (et_NoGap : PySem.W.typeIn K (.ref C_NoGap) = some (.type "type"))
    (eg_NoSpan : PySem.W.nsIn K mainGlobals "NoSpan" = some (some (.ref C_NoSpan)))
    (ex_NoSpan : PySem.W.excIn K C_NoSpan [.type "ValueError", .type "Exception", .type "BaseException", .type "object"] "ValueError.__new__" = true)
    (ek_NoSpan : PySem.W.keepIn K (.ref C_NoSpan) = true)
    (eb_NoSpan : PySem.W.subIn K (.ref C_NoSpan) (.type "BaseException") = some true)
    (et_NoSpan : PySem.W.typeIn K (.ref C_NoSpan) = some (.type "type"))
    (eg_WrapError : PySem.W.nsIn K mainGlobals "WrapError" = some (some (.ref C_WrapError)))
    (ex_WrapError : PySem.W.excIn K C_WrapError [.type "ValueError", .type "Exception", .type "BaseException", .type "object"] "ValueError.__new__" = true)
    (ek_WrapError : PySem.W.keepIn K (.ref C_WrapError) = true)
    (eb_WrapError : PySem.W.subIn K (.ref C_WrapError) (.type "BaseException") = some true)
    (et_WrapError : PySem.W.typeIn K (.ref C_WrapError) = some (.type "type"))
    (pg_Reader : PySem.W.plainGet K C_Reader Str.empty = true)
    (hd_Reader : PySem.W.hasDictIn K C_Reader = true)
    (po_Reader : PySem.W.plainOver K C_Reader = true)
    (sa_Reader : PySem.W.findIn K (.ref C_Reader) "__setattr__" = some (some (.builtin "object.__setattr__")))
    (mk_Reader : PySem.W.makesIn K C_Reader = true)
    (kc_Reader : PySem.W.keepIn K (.ref C_Reader) = true)
    (na_Reader_last : PySem.W.findIn K (.ref C_Reader) "last" = some none)
    (na_Reader_rule : PySem.W.findIn K (.ref C_Reader) "rule" = some none)
    (na_Reader_told : PySem.W.findIn K (.ref C_Reader) "told" = some none)
    (na_Reader_wheel : PySem.W.findIn K (.ref C_Reader) "wheel" = some none)
    (hi_NoGap : PySem.W.hasDictIn K C_NoGap = true)
    (hs_NoGap : PySem.W.subIn K (.ref C_NoGap) (.ref C_NoGap) = some true)
    (ox_BadWheel : PySem.W.hasDictIn K C_BadWheel = true)
    (ox_BadRule : PySem.W.hasDictIn K C_BadRule = true)
    (ox_BadSeen : PySem.W.hasDictIn K C_BadSeen = true)
    (ox_BadGaps : PySem.W.hasDictIn K C_BadGaps = true)
    (ox_BadSpan : PySem.W.hasDictIn K C_BadSpan = true)
    (ox_BadLong : PySem.W.hasDictIn K C_BadLong = true)
    (ox_NoGap : PySem.W.hasDictIn K C_NoGap = true)
    (ox_NoSpan : PySem.W.hasDictIn K C_NoSpan = true)
    (ox_WrapError : PySem.W.hasDictIn K C_WrapError = true)
    (ohg_BadWheel : PySem.W.findIn K (.ref C_BadWheel) "__getattribute__" = some (some (.builtin "BaseException.__getattribute__")))
    (ohk_BadWheel : PySem.W.findIn K (.ref C_BadWheel) "__getattr__" = some none)
    (oha_BadWheel : PySem.W.findIn K (.ref C_BadWheel) "__class__" = some (some (.builtin "object.__class__")))
    (ohm_BadWheel : PySem.W.mroIn K C_BadWheel (.type "object") = some true)
    (osw_BadWheel : PySem.W.subIn K (.ref C_BadWheel) (.ref C_WrapError) = some true)
    (osv_BadWheel : PySem.W.subIn K (.ref C_BadWheel) (.type "ValueError") = some true)
    (ok0_BadWheel : PySem.W.subIn K (.ref C_BadWheel) (.ref C_BadWheel) = some true)
    (ok1_BadWheel : PySem.W.subIn K (.ref C_BadWheel) (.ref C_BadRule) = some false)
    (oz1_BadWheel : C_BadWheel ≠ C_BadRule)
    (ok2_BadWheel : PySem.W.subIn K (.ref C_BadWheel) (.ref C_BadSeen) = some false)
    (oz2_BadWheel : C_BadWheel ≠ C_BadSeen)
    (ok3_BadWheel : PySem.W.subIn K (.ref C_BadWheel) (.ref C_BadGaps) = some false)
    (oz3_BadWheel : C_BadWheel ≠ C_BadGaps)
    (ok4_BadWheel : PySem.W.subIn K (.ref C_BadWheel) (.ref C_BadSpan) = some false)
    (oz4_BadWheel : C_BadWheel ≠ C_BadSpan)
    (ok5_BadWheel : PySem.W.subIn K (.ref C_BadWheel) (.ref C_BadLong) = some false)
    (oz5_BadWheel : C_BadWheel ≠ C_BadLong)
    (ok6_BadWheel : PySem.W.subIn K (.ref C_BadWheel) (.ref C_NoGap) = some false)
    (oz6_BadWheel : C_BadWheel ≠ C_NoGap)
    (ok7_BadWheel : PySem.W.subIn K (.ref C_BadWheel) (.ref C_NoSpan) = some false)
    (oz7_BadWheel : C_BadWheel ≠ C_NoSpan)
    (ohg_BadRule : PySem.W.findIn K (.ref C_BadRule) "__getattribute__" = some (some (.builtin "BaseException.__getattribute__")))
    (ohk_BadRule : PySem.W.findIn K (.ref C_BadRule) "__getattr__" = some none)
    (oha_BadRule : PySem.W.findIn K (.ref C_BadRule) "__class__" = some (some (.builtin "object.__class__")))
    (ohm_BadRule : PySem.W.mroIn K C_BadRule (.type "object") = some true)
    (osw_BadRule : PySem.W.subIn K (.ref C_BadRule) (.ref C_WrapError) = some true)
    (osv_BadRule : PySem.W.subIn K (.ref C_BadRule) (.type "ValueError") = some true)
    (ok0_BadRule : PySem.W.subIn K (.ref C_BadRule) (.ref C_BadWheel) = some false)
    (oz0_BadRule : C_BadRule ≠ C_BadWheel)
    (ok1_BadRule : PySem.W.subIn K (.ref C_BadRule) (.ref C_BadRule) = some true)
    (ok2_BadRule : PySem.W.subIn K (.ref C_BadRule) (.ref C_BadSeen) = some false)
    (oz2_BadRule : C_BadRule ≠ C_BadSeen)
    (ok3_BadRule : PySem.W.subIn K (.ref C_BadRule) (.ref C_BadGaps) = some false)
    (oz3_BadRule : C_BadRule ≠ C_BadGaps)
    (ok4_BadRule : PySem.W.subIn K (.ref C_BadRule) (.ref C_BadSpan) = some false)
    (oz4_BadRule : C_BadRule ≠ C_BadSpan)
    (ok5_BadRule : PySem.W.subIn K (.ref C_BadRule) (.ref C_BadLong) = some false)
    (oz5_BadRule : C_BadRule ≠ C_BadLong)
    (ok6_BadRule : PySem.W.subIn K (.ref C_BadRule) (.ref C_NoGap) = some false)
    (oz6_BadRule : C_BadRule ≠ C_NoGap)
    (ok7_BadRule : PySem.W.subIn K (.ref C_BadRule) (.ref C_NoSpan) = some false)
    (oz7_BadRule : C_BadRule ≠ C_NoSpan)
    (ohg_BadSeen : PySem.W.findIn K (.ref C_BadSeen) "__getattribute__" = some (some (.builtin "BaseException.__getattribute__")))
    (ohk_BadSeen : PySem.W.findIn K (.ref C_BadSeen) "__getattr__" = some none)
    (oha_BadSeen : PySem.W.findIn K (.ref C_BadSeen) "__class__" = some (some (.builtin "object.__class__")))
    (ohm_BadSeen : PySem.W.mroIn K C_BadSeen (.type "object") = some true)
    (osw_BadSeen : PySem.W.subIn K (.ref C_BadSeen) (.ref C_WrapError) = some true)
    (osv_BadSeen : PySem.W.subIn K (.ref C_BadSeen) (.type "ValueError") = some true)
    (ok0_BadSeen : PySem.W.subIn K (.ref C_BadSeen) (.ref C_BadWheel) = some false)
    (oz0_BadSeen : C_BadSeen ≠ C_BadWheel)
    (ok1_BadSeen : PySem.W.subIn K (.ref C_BadSeen) (.ref C_BadRule) = some false)
    (oz1_BadSeen : C_BadSeen ≠ C_BadRule)
    (ok2_BadSeen : PySem.W.subIn K (.ref C_BadSeen) (.ref C_BadSeen) = some true)
    (ok3_BadSeen : PySem.W.subIn K (.ref C_BadSeen) (.ref C_BadGaps) = some false)
    (oz3_BadSeen : C_BadSeen ≠ C_BadGaps)
    (ok4_BadSeen : PySem.W.subIn K (.ref C_BadSeen) (.ref C_BadSpan) = some false)
    (oz4_BadSeen : C_BadSeen ≠ C_BadSpan)
    (ok5_BadSeen : PySem.W.subIn K (.ref C_BadSeen) (.ref C_BadLong) = some false)
    (oz5_BadSeen : C_BadSeen ≠ C_BadLong)
    (ok6_BadSeen : PySem.W.subIn K (.ref C_BadSeen) (.ref C_NoGap) = some false)
    (oz6_BadSeen : C_BadSeen ≠ C_NoGap)
    (ok7_BadSeen : PySem.W.subIn K (.ref C_BadSeen) (.ref C_NoSpan) = some false)
    (oz7_BadSeen : C_BadSeen ≠ C_NoSpan)
    (ohg_BadGaps : PySem.W.findIn K (.ref C_BadGaps) "__getattribute__" = some (some (.builtin "BaseException.__getattribute__")))
    (ohk_BadGaps : PySem.W.findIn K (.ref C_BadGaps) "__getattr__" = some none)
    (oha_BadGaps : PySem.W.findIn K (.ref C_BadGaps) "__class__" = some (some (.builtin "object.__class__")))
    (ohm_BadGaps : PySem.W.mroIn K C_BadGaps (.type "object") = some true)
    (osw_BadGaps : PySem.W.subIn K (.ref C_BadGaps) (.ref C_WrapError) = some true)
    (osv_BadGaps : PySem.W.subIn K (.ref C_BadGaps) (.type "ValueError") = some true)
    (ok0_BadGaps : PySem.W.subIn K (.ref C_BadGaps) (.ref C_BadWheel) = some false)
    (oz0_BadGaps : C_BadGaps ≠ C_BadWheel)
    (ok1_BadGaps : PySem.W.subIn K (.ref C_BadGaps) (.ref C_BadRule) = some false)
    (oz1_BadGaps : C_BadGaps ≠ C_BadRule)
    (ok2_BadGaps : PySem.W.subIn K (.ref C_BadGaps) (.ref C_BadSeen) = some false)
    (oz2_BadGaps : C_BadGaps ≠ C_BadSeen)
    (ok3_BadGaps : PySem.W.subIn K (.ref C_BadGaps) (.ref C_BadGaps) = some true)
    (ok4_BadGaps : PySem.W.subIn K (.ref C_BadGaps) (.ref C_BadSpan) = some false)
    (oz4_BadGaps : C_BadGaps ≠ C_BadSpan)
    (ok5_BadGaps : PySem.W.subIn K (.ref C_BadGaps) (.ref C_BadLong) = some false)
    (oz5_BadGaps : C_BadGaps ≠ C_BadLong)
    (ok6_BadGaps : PySem.W.subIn K (.ref C_BadGaps) (.ref C_NoGap) = some false)
    (oz6_BadGaps : C_BadGaps ≠ C_NoGap)
    (ok7_BadGaps : PySem.W.subIn K (.ref C_BadGaps) (.ref C_NoSpan) = some false)
    (oz7_BadGaps : C_BadGaps ≠ C_NoSpan)
    (ohn : PySem.W.specialIn K (.builtin "object.__class__") "__get__" = some (some (.builtin "getset_descriptor.__get__")))
    (oht : PySem.W.takesIn K (.builtin "object.__class__") = some true)
    (lcL__law_works : K.lookup cL__law_works = some ⟨eL__law_works, ddL__law_works, .fields vsL__law_works, slL__law_works⟩)
    (vL__law_works : vsL__law_works[11]? = some (.ref PL__law_works))
    (hdL__law_works : PySem.W.codeHdIn K cL__law_works PL__law_works = true)
    (nPL__law_works : K.lookup PL__law_works = none)
    (tbL__law_works : h.get? PL__law_works = some { cls := .none, data := .fields #[] })
    (lcL : K.lookup cL = some ⟨eL, ddL, .fields vsL, slL⟩)
    (vL : vsL[11]? = some (.ref PL))
    (hdL : PySem.W.codeHdIn K cL PL = true)
    (nPL : K.lookup PL = none)
    (tbL : h.get? PL = some { cls := .none, data := .fields #[] })
    (hPP : PL__law_works ≠ PL) :
    LamX.LawAtS l w K (L2.CX l.prog w) 10 63 "_law_script" mg fa h := by
  have T : Txt K mg ⟨C_BadWheel, C_BadRule, C_BadSeen, C_BadGaps, C_BadSpan, C_BadLong, C_NoGap, C_NoSpan, C_WrapError, C_Reader⟩ := { g_MOST_WHEEL := ⟨_, PySem.W.mg_of X G g_MOST_WHEEL⟩, g_MOST_LEAST := ⟨_, PySem.W.mg_of X G g_MOST_LEAST⟩, ValueError := PySem.W.mg_none_of X G z_ValueError, range := PySem.W.mg_none_of X G z_range, isinstance := PySem.W.mg_none_of X G z_isinstance, str := PySem.W.mg_none_of X G z_str, len := PySem.W.mg_none_of X G z_len, tuple := PySem.W.mg_none_of X G z_tuple, list := PySem.W.mg_none_of X G z_list, bool := PySem.W.mg_none_of X G z_bool, int := PySem.W.mg_none_of X G z_int, min := PySem.W.mg_none_of X G z_min, abs := PySem.W.mg_none_of X G z_abs, x_BadWheel := ⟨PySem.W.mg_of X G eg_BadWheel, ex_BadWheel, ek_BadWheel, eb_BadWheel, et_BadWheel⟩, x_BadRule := ⟨PySem.W.mg_of X G eg_BadRule, ex_BadRule, ek_BadRule, eb_BadRule, et_BadRule⟩, x_BadSeen := ⟨PySem.W.mg_of X G eg_BadSeen, ex_BadSeen, ek_BadSeen, eb_BadSeen, et_BadSeen⟩, x_BadGaps := ⟨PySem.W.mg_of X G eg_BadGaps, ex_BadGaps, ek_BadGaps, eb_BadGaps, et_BadGaps⟩, x_BadSpan := ⟨PySem.W.mg_of X G eg_BadSpan, ex_BadSpan, ek_BadSpan, eb_BadSpan, et_BadSpan⟩, x_BadLong := ⟨PySem.W.mg_of X G eg_BadLong, ex_BadLong, ek_BadLong, eb_BadLong, et_BadLong⟩, x_NoGap := ⟨PySem.W.mg_of X G eg_NoGap, ex_NoGap, ek_NoGap, eb_NoGap, et_NoGap⟩, x_NoSpan := ⟨PySem.W.mg_of X G eg_NoSpan, ex_NoSpan, ek_NoSpan, eb_NoSpan, et_NoSpan⟩, x_WrapError := ⟨PySem.W.mg_of X G eg_WrapError, ex_WrapError, ek_WrapError, eb_WrapError, et_WrapError⟩, k_Reader := ⟨pg_Reader, hd_Reader, po_Reader, sa_Reader⟩, g_Reader := PySem.W.mg_of X G gc_Reader, n_Reader_last := na_Reader_last, n_Reader_rule := na_Reader_rule, n_Reader_told := na_Reader_told, n_Reader_wheel := na_Reader_wheel, h_NoGap := PySem.W.exm_ref eb_NoGap hi_NoGap et_NoGap hs_NoGap, q_BadWheel := ⟨⟨ohg_BadWheel, ohk_BadWheel, eb_BadWheel, ox_BadWheel, oha_BadWheel, ohn, oht, ohm_BadWheel⟩, PySem.W.exm_ref eb_WrapError ox_WrapError et_WrapError osw_BadWheel, kit_ve osv_BadWheel, kit_yes ox_BadWheel et_BadWheel ok0_BadWheel, kit_no ox_BadRule et_BadRule oz1_BadWheel ok1_BadWheel, kit_no ox_BadSeen et_BadSeen oz2_BadWheel ok2_BadWheel, kit_no ox_BadGaps et_BadGaps oz3_BadWheel ok3_BadWheel, kit_no ox_BadSpan et_BadSpan oz4_BadWheel ok4_BadWheel, kit_no ox_BadLong et_BadLong oz5_BadWheel ok5_BadWheel, kit_no ox_NoGap et_NoGap oz6_BadWheel ok6_BadWheel, kit_no ox_NoSpan et_NoSpan oz7_BadWheel ok7_BadWheel, by decide⟩, q_BadRule := ⟨⟨ohg_BadRule, ohk_BadRule, eb_BadRule, ox_BadRule, oha_BadRule, ohn, oht, ohm_BadRule⟩, PySem.W.exm_ref eb_WrapError ox_WrapError et_WrapError osw_BadRule, kit_ve osv_BadRule, kit_no ox_BadWheel et_BadWheel oz0_BadRule ok0_BadRule, kit_yes ox_BadRule et_BadRule ok1_BadRule, kit_no ox_BadSeen et_BadSeen oz2_BadRule ok2_BadRule, kit_no ox_BadGaps et_BadGaps oz3_BadRule ok3_BadRule, kit_no ox_BadSpan et_BadSpan oz4_BadRule ok4_BadRule, kit_no ox_BadLong et_BadLong oz5_BadRule ok5_BadRule, kit_no ox_NoGap et_NoGap oz6_BadRule ok6_BadRule, kit_no ox_NoSpan et_NoSpan oz7_BadRule ok7_BadRule, by decide⟩, q_BadSeen := ⟨⟨ohg_BadSeen, ohk_BadSeen, eb_BadSeen, ox_BadSeen, oha_BadSeen, ohn, oht, ohm_BadSeen⟩, PySem.W.exm_ref eb_WrapError ox_WrapError et_WrapError osw_BadSeen, kit_ve osv_BadSeen, kit_no ox_BadWheel et_BadWheel oz0_BadSeen ok0_BadSeen, kit_no ox_BadRule et_BadRule oz1_BadSeen ok1_BadSeen, kit_yes ox_BadSeen et_BadSeen ok2_BadSeen, kit_no ox_BadGaps et_BadGaps oz3_BadSeen ok3_BadSeen, kit_no ox_BadSpan et_BadSpan oz4_BadSeen ok4_BadSeen, kit_no ox_BadLong et_BadLong oz5_BadSeen ok5_BadSeen, kit_no ox_NoGap et_NoGap oz6_BadSeen ok6_BadSeen, kit_no ox_NoSpan et_NoSpan oz7_BadSeen ok7_BadSeen, by decide⟩, q_BadGaps := ⟨⟨ohg_BadGaps, ohk_BadGaps, eb_BadGaps, ox_BadGaps, oha_BadGaps, ohn, oht, ohm_BadGaps⟩, PySem.W.exm_ref eb_WrapError ox_WrapError et_WrapError osw_BadGaps, kit_ve osv_BadGaps, kit_no ox_BadWheel et_BadWheel oz0_BadGaps ok0_BadGaps, kit_no ox_BadRule et_BadRule oz1_BadGaps ok1_BadGaps, kit_no ox_BadSeen et_BadSeen oz2_BadGaps ok2_BadGaps, kit_yes ox_BadGaps et_BadGaps ok3_BadGaps, kit_no ox_BadSpan et_BadSpan oz4_BadGaps ok4_BadGaps, kit_no ox_BadLong et_BadLong oz5_BadGaps ok5_BadGaps, kit_no ox_NoGap et_NoGap oz6_BadGaps ok6_BadGaps, kit_no ox_NoSpan et_NoSpan oz7_BadGaps ok7_BadGaps, by decide⟩ }
  have e := hfa.symm.trans (PySem.W.mg_of X G a32)
  cases e
  have mem : ∀ p : Addr × Addr, p ∈ [(cL__law_works, PL__law_works), (cL, PL)] → p = (cL__law_works, PL__law_works) ∨ p = (cL, PL) := fun p hp => by simpa using hp
  refine ⟨PySem.W.fnOf "law" "law" (defArgs s_law) (defBody s_law) (defScope s_law) .none kV32 dc32 pm32 an32 (.ref cL) ct32, [(cL__law_works, PL__law_works), (cL, PL)], sp_lawTs K [PL__law_works, PL], fun p hp => ?_, fun p hp => ?_, fun p hp => ?_, fun s v => .of_eq rfl, fun H a ns h1 _ h2 h3 => ⟨a, ns, rfl, h3, h1, fun P hP => ?_, fun _ => rfl⟩, fun base hK hM hTB => ?_⟩
  · rcases mem p hp with rfl | rfl
    · exact tbL__law_works
    · exact tbL
  · rcases mem p hp with rfl | rfl
    · exact nPL__law_works
    · exact nPL
  · rcases mem p hp with rfl | rfl
    · exact PySem.W.codeHd_of_K X hdL__law_works
    · exact PySem.W.codeHd_of_K X hdL
  · have hP : P = PL__law_works ∨ P = PL := by simpa using hP
    rcases hP with hP | hP
    · rw [hP]; exact h2 (cL__law_works, PL__law_works) (by simp)
    · rw [hP]; exact h2 (cL, PL) (by simp)
  have D_is_wheel : Fn K mg "is_wheel" s_is_wheel := ⟨f0, _, fun_mk (st := s_is_wheel) l0 c0 k0, PySem.W.mg_of X G a0⟩
  have D_need_wheel : Fn K mg "need_wheel" s_need_wheel := ⟨f1, _, fun_mk (st := s_need_wheel) l1 c1 k1, PySem.W.mg_of X G a1⟩
  have D_need_seen : Fn K mg "need_seen" s_need_seen := ⟨f2, _, fun_mk (st := s_need_seen) l2 c2 k2, PySem.W.mg_of X G a2⟩
  have D_is_rule : Fn K mg "is_rule" s_is_rule := ⟨f3, _, fun_mk (st := s_is_rule) l3 c3 k3, PySem.W.mg_of X G a3⟩
  have D_need_rule : Fn K mg "need_rule" s_need_rule := ⟨f4, _, fun_mk (st := s_need_rule) l4 c4 k4, PySem.W.mg_of X G a4⟩
  have D_divisor : Fn K mg "divisor" s_divisor := ⟨f5, _, fun_mk (st := s_divisor) l5 c5 k5, PySem.W.mg_of X G a5⟩
  have D_multiple : Fn K mg "multiple" s_multiple := ⟨f6, _, fun_mk (st := s_multiple) l6 c6 k6, PySem.W.mg_of X G a6⟩
  have D_shown_of : Fn K mg "shown_of" s_shown_of := ⟨f7, _, fun_mk (st := s_shown_of) l7 c7 k7, PySem.W.mg_of X G a7⟩
  have D_shown : Fn K mg "shown" s_shown := ⟨f8, _, fun_mk (st := s_shown) l8 c8 k8, PySem.W.mg_of X G a8⟩
  have D_need_shown : Fn K mg "need_shown" s_need_shown := ⟨f9, _, fun_mk (st := s_need_shown) l9 c9 k9, PySem.W.mg_of X G a9⟩
  have D_inverse : Fn K mg "inverse" s_inverse := ⟨f10, _, fun_mk (st := s_inverse) l10 c10 k10, PySem.W.mg_of X G a10⟩
  have D_paired : Fn K mg "paired" s_paired := ⟨f11, _, fun_mk (st := s_paired) l11 c11 k11, PySem.W.mg_of X G a11⟩
  have D_gap_of : Fn K mg "gap_of" s_gap_of := ⟨f12, _, fun_mk (st := s_gap_of) l12 c12 k12, PySem.W.mg_of X G a12⟩
  have D_gap : Fn K mg "gap" s_gap := ⟨f13, _, fun_mk (st := s_gap) l13 c13 k13, PySem.W.mg_of X G a13⟩
  have D_bound_of : Fn K mg "bound_of" s_bound_of := ⟨f14, _, fun_mk (st := s_bound_of) l14 c14 k14, PySem.W.mg_of X G a14⟩
  have D_bound : Fn K mg "bound" s_bound := ⟨f15, _, fun_mk (st := s_bound) l15 c15 k15, PySem.W.mg_of X G a15⟩
  have D_judged : Fn K mg "judged" s_judged := ⟨f16, _, fun_mk (st := s_judged) l16 c16 k16, PySem.W.mg_of X G a16⟩
  have D_Reader_init : FnI K C_Reader "Reader.__init__" s_Reader_init := ⟨f17, _, fun_mk (st := s_Reader_init) l17 c17 k17, ⟨mk_Reader, a17, i17, kc_Reader⟩⟩
  have D_Reader_look : FnD K C_Reader "look" "Reader.look" [.non] s_Reader_look := ⟨f18, _, ⟨⟨_, _, _, _, _, _, _, _, _, _, rfl, l18, c18, .inr ⟨by simp, _, _, [.none], _, rfl, v18, rfl, .cons rfl .nil⟩, .inl rfl⟩, k18⟩, ⟨a18, i18, k18⟩⟩
  have D_is_right : Fn K mg "is_right" s_is_right := ⟨f19, _, fun_mk (st := s_is_right) l19 c19 k19, PySem.W.mg_of X G a19⟩
  have D_first_wrong : Fn K mg "first_wrong" s_first_wrong := ⟨f20, _, fun_mk (st := s_first_wrong) l20 c20 k20, PySem.W.mg_of X G a20⟩
  have D__law_start : Fn K mg "_law_start" s__law_start := ⟨f21, _, fun_mk (st := s__law_start) l21 c21 k21, PySem.W.mg_of X G a21⟩
  have D__law_drawn : Fn K mg "_law_drawn" s__law_drawn := ⟨f22, _, fun_mk (st := s__law_drawn) l22 c22 k22, PySem.W.mg_of X G a22⟩
  have D__law_same : Fn K mg "_law_same" s__law_same := ⟨f23, _, fun_mk (st := s__law_same) l23 c23 k23, PySem.W.mg_of X G a23⟩
  have D__law_kind : FnL K mg "_law_kind" s__law_kind := ⟨f24, _, _, _, _, _, _, _, _, _, l24, c24, k24, PySem.W.mg_of X G a24⟩
  have D__law_far : Fn K mg "_law_far" s__law_far := ⟨f25, _, fun_mk (st := s__law_far) l25 c25 k25, PySem.W.mg_of X G a25⟩
  have D__law_wheel : Fn K mg "_law_wheel" s__law_wheel := ⟨f26, _, fun_mk (st := s__law_wheel) l26 c26 k26, PySem.W.mg_of X G a26⟩
  have D__law_rule : Fn K mg "_law_rule" s__law_rule := ⟨f27, _, fun_mk (st := s__law_rule) l27 c27 k27, PySem.W.mg_of X G a27⟩
  have D__law_time : Fn K mg "_law_time" s__law_time := ⟨f28, _, fun_mk (st := s__law_time) l28 c28 k28, PySem.W.mg_of X G a28⟩
  have D__law_shown : Fn K mg "_law_shown" s__law_shown := ⟨f29, _, fun_mk (st := s__law_shown) l29 c29 k29, PySem.W.mg_of X G a29⟩
  have D__law_odd : Fn K mg "_law_odd" s__law_odd := ⟨f30, _, fun_mk (st := s__law_odd) l30 c30 k30, PySem.W.mg_of X G a30⟩
  have D__law_works : FnC K mg "_law_works" s__law_works cL__law_works := ⟨f31, _, _, _, _, _, _, _, _, l31, c31, k31, PySem.W.mg_of X G a31⟩
  have c_is_wheel := ok_is_wheel (P := l.prog) (w := w) (base := base) T D_is_wheel 
  have c_need_wheel := ok_need_wheel (P := l.prog) (w := w) (base := base) T D_need_wheel c_is_wheel
  have c_need_seen := ok_need_seen (P := l.prog) (w := w) (base := base) T D_need_seen 
  have c_is_rule := ok_is_rule (P := l.prog) (w := w) (base := base) T D_is_rule c_is_wheel
  have c_need_rule := ok_need_rule (P := l.prog) (w := w) (base := base) T D_need_rule c_need_wheel c_is_rule
  have c_divisor := ok_divisor (P := l.prog) (w := w) (base := base) T D_divisor 
  have c_multiple := ok_multiple (P := l.prog) (w := w) (base := base) T D_multiple c_divisor
  have c_shown_of := ok_shown_of (P := l.prog) (w := w) (base := base) T D_shown_of 
  have c_shown := ok_shown (P := l.prog) (w := w) (base := base) T D_shown c_need_rule c_shown_of
  have c_need_shown := ok_need_shown (P := l.prog) (w := w) (base := base) T D_need_shown c_need_seen
  have c_inverse := ok_inverse (P := l.prog) (w := w) (base := base) T D_inverse 
  have c_paired := ok_paired (P := l.prog) (w := w) (base := base) T D_paired c_divisor c_inverse
  have c_gap_of := ok_gap_of (P := l.prog) (w := w) (base := base) T D_gap_of c_paired
  have c_gap := ok_gap (P := l.prog) (w := w) (base := base) T D_gap c_need_rule c_need_shown c_gap_of
  have c_bound_of := ok_bound_of (P := l.prog) (w := w) (base := base) T D_bound_of c_multiple
  have c_bound := ok_bound (P := l.prog) (w := w) (base := base) T D_bound c_need_rule c_bound_of
  have c_judged := ok_judged (P := l.prog) (w := w) (base := base) T D_judged c_need_rule c_bound_of
  have c_Reader_init := ok_Reader_init (P := l.prog) (w := w) (base := base) T D_Reader_init c_need_rule c_shown_of
  have c_Reader_look := ok_Reader_look (P := l.prog) (w := w) (base := base) T D_Reader_look c_need_shown c_gap_of
  have c_is_right := ok_is_right (P := l.prog) (w := w) (base := base) T D_is_right c_Reader_look c_shown_of
  have c_first_wrong := ok_first_wrong (P := l.prog) (w := w) (base := base) T D_first_wrong c_need_rule c_Reader_init c_is_right
  have c__law_start := ok_start (P := l.prog) (w := w) (base := base) T D__law_start 
  have c__law_drawn := ok_drawn (P := l.prog) (w := w) (base := base) T D__law_drawn 
  have c__law_same := ok_same1 (P := l.prog) (w := w) (base := base) T D__law_same 
  have c__law_far := ok__law_far (P := l.prog) (w := w) (base := base) T D__law_far c__law_drawn
  have c__law_wheel := ok_wheel (P := l.prog) (w := w) (base := base) T D__law_wheel c__law_drawn
  have c__law_rule := ok__law_rule (P := l.prog) (w := w) (base := base) T D__law_rule c__law_drawn c__law_wheel
  have c__law_time := ok__law_time (P := l.prog) (w := w) (base := base) T D__law_time c__law_drawn
  have c__law_shown := ok__law_shown (P := l.prog) (w := w) (base := base) T D__law_shown 
  have c__law_odd := ok__law_odd (P := l.prog) (w := w) (base := base) T D__law_odd c__law_far c__law_drawn
  have c__law_works := ok__law_works (P := l.prog) (w := w) (base := base) hPP T D__law_works (hTB (cL__law_works, PL__law_works) (by simp)) D__law_kind 
  exact ok_law hPP T l32 c32 (hTB (cL, PL) (by simp)) D__law_kind c__law_start c__law_wheel c__law_rule c__law_time c__law_odd c__law_far c__law_shown c__law_same c_shown c__law_drawn c_gap c_Reader_look c_judged c_first_wrong c__law_works c_Reader_init c_bound
end
end My
open PySem PySem.W PyProof.Rows
set_option maxRecDepth 100000 in
set_option maxHeartbeats 0 in
theorem PySem.Challenge.cw_wraptime_k02_rules_looked_at_holds : PySem.Challenge.rw_wraptime_k02_rules_looked_at.Holds := by
  w_on; o_law; k_head; (case hw => w_witness2)
  k_fill
  refine LamX.walk_ofTs (n := 63) (k := 10) (x := "_law_script") (CX := fun w => L2.CX (PySem.Challenge.rw_wraptime_k02_rules_looked_at).prog w) rfl (by decide) rfl (by exact ⟨rfl, by decide, by decide⟩) (fun w h Y => PySem.W.km_in_of Y) ?F (fun _ _ _ _ _ h => by obtain ⟨_, _, _, _, _, _, _, _, _, _, _, _, z⟩ := h; exact z)
  case F =>
    intro w mg fa h Y KX G hmg
    refine' My.all_mk KX G hmg ?gc_Reader ?a0 ?l0 ?c0 ?k0 ?a1 ?l1 ?c1 ?k1 ?a2 ?l2 ?c2 ?k2 ?a3 ?l3 ?c3 ?k3 ?a4 ?l4 ?c4 ?k4 ?a5 ?l5 ?c5 ?k5 ?a6 ?l6 ?c6 ?k6 ?a7 ?l7 ?c7 ?k7 ?a8 ?l8 ?c8 ?k8 ?a9 ?l9 ?c9 ?k9 ?a10 ?l10 ?c10 ?k10 ?a11 ?l11 ?c11 ?k11 ?a12 ?l12 ?c12 ?k12 ?a13 ?l13 ?c13 ?k13 ?a14 ?l14 ?c14 ?k14 ?a15 ?l15 ?c15 ?k15 ?a16 ?l16 ?c16 ?k16 ?a17 ?i17 ?l17 ?c17 ?k17 ?a18 ?i18 ?l18 ?c18 ?k18 ?v18 ?a19 ?l19 ?c19 ?k19 ?a20 ?l20 ?c20 ?k20 ?a21 ?l21 ?c21 ?k21 ?a22 ?l22 ?c22 ?k22 ?a23 ?l23 ?c23 ?k23 ?a24 ?l24 ?c24 ?k24 ?a25 ?l25 ?c25 ?k25 ?a26 ?l26 ?c26 ?k26 ?a27 ?l27 ?c27 ?k27 ?a28 ?l28 ?c28 ?k28 ?a29 ?l29 ?c29 ?k29 ?a30 ?l30 ?c30 ?k30 ?a31 ?l31 ?c31 ?k31 ?a32 ?l32 ?c32 ?k32 ?g_MOST_WHEEL ?g_MOST_LEAST ?z_ValueError ?z_range ?z_isinstance ?z_str ?z_len ?z_tuple ?z_list ?z_bool ?z_int ?z_min ?z_abs ?eg_BadWheel ?ex_BadWheel ?ek_BadWheel ?eb_BadWheel ?et_BadWheel ?eg_BadRule ?ex_BadRule ?ek_BadRule ?eb_BadRule ?et_BadRule ?eg_BadSeen ?ex_BadSeen ?ek_BadSeen ?eb_BadSeen ?et_BadSeen ?eg_BadGaps ?ex_BadGaps ?ek_BadGaps ?eb_BadGaps ?et_BadGaps ?eg_BadSpan ?ex_BadSpan ?ek_BadSpan ?eb_BadSpan ?et_BadSpan ?eg_BadLong ?ex_BadLong ?ek_BadLong ?eb_BadLong ?et_BadLong ?eg_NoGap ?ex_NoGap ?ek_NoGap ?eb_NoGap ?et_NoGap ?eg_NoSpan ?ex_NoSpan ?ek_NoSpan ?eb_NoSpan ?et_NoSpan ?eg_WrapError ?ex_WrapError ?ek_WrapError ?eb_WrapError ?et_WrapError ?pg_Reader ?hd_Reader ?po_Reader ?sa_Reader ?mk_Reader ?kc_Reader ?na_Reader_last ?na_Reader_rule ?na_Reader_told ?na_Reader_wheel ?hi_NoGap ?hs_NoGap ?ox_BadWheel ?ox_BadRule ?ox_BadSeen ?ox_BadGaps ?ox_BadSpan ?ox_BadLong ?ox_NoGap ?ox_NoSpan ?ox_WrapError ?ohg_BadWheel ?ohk_BadWheel ?oha_BadWheel ?ohm_BadWheel ?osw_BadWheel ?osv_BadWheel ?ok0_BadWheel ?ok1_BadWheel ?oz1_BadWheel ?ok2_BadWheel ?oz2_BadWheel ?ok3_BadWheel ?oz3_BadWheel ?ok4_BadWheel ?oz4_BadWheel ?ok5_BadWheel ?oz5_BadWheel ?ok6_BadWheel ?oz6_BadWheel ?ok7_BadWheel ?oz7_BadWheel ?ohg_BadRule ?ohk_BadRule ?oha_BadRule ?ohm_BadRule ?osw_BadRule ?osv_BadRule ?ok0_BadRule ?oz0_BadRule ?ok1_BadRule ?ok2_BadRule ?oz2_BadRule ?ok3_BadRule ?oz3_BadRule ?ok4_BadRule ?oz4_BadRule ?ok5_BadRule ?oz5_BadRule ?ok6_BadRule ?oz6_BadRule ?ok7_BadRule ?oz7_BadRule ?ohg_BadSeen ?ohk_BadSeen ?oha_BadSeen ?ohm_BadSeen ?osw_BadSeen ?osv_BadSeen ?ok0_BadSeen ?oz0_BadSeen ?ok1_BadSeen ?oz1_BadSeen ?ok2_BadSeen ?ok3_BadSeen ?oz3_BadSeen ?ok4_BadSeen ?oz4_BadSeen ?ok5_BadSeen ?oz5_BadSeen ?ok6_BadSeen ?oz6_BadSeen ?ok7_BadSeen ?oz7_BadSeen ?ohg_BadGaps ?ohk_BadGaps ?oha_BadGaps ?ohm_BadGaps ?osw_BadGaps ?osv_BadGaps ?ok0_BadGaps ?oz0_BadGaps ?ok1_BadGaps ?oz1_BadGaps ?ok2_BadGaps ?oz2_BadGaps ?ok3_BadGaps ?ok4_BadGaps ?oz4_BadGaps ?ok5_BadGaps ?oz5_BadGaps ?ok6_BadGaps ?oz6_BadGaps ?ok7_BadGaps ?oz7_BadGaps ?ohn ?oht ?lcL__law_works ?vL__law_works ?hdL__law_works ?nPL__law_works ?tbL__law_works ?lcL ?vL ?hdL ?nPL ?tbL ?hPP
    (case gc_Reader => k_is)
    (case a0 => k_is)
    (case l0 => k_is)
    (case c0 => k_is)
    (case k0 => k_is)
    (case a1 => k_is)
    (case l1 => k_is)
    (case c1 => k_is)
    (case k1 => k_is)
    (case a2 => k_is)
    (case l2 => k_is)
    (case c2 => k_is)
    (case k2 => k_is)
    (case a3 => k_is)
    (case l3 => k_is)
    (case c3 => k_is)
    (case k3 => k_is)
    (case a4 => k_is)
    (case l4 => k_is)
    (case c4 => k_is)
    (case k4 => k_is)
    (case a5 => k_is)
    (case l5 => k_is)
    (case c5 => k_is)
    (case k5 => k_is)
    (case a6 => k_is)
    (case l6 => k_is)
    (case c6 => k_is)
    (case k6 => k_is)
    (case a7 => k_is)
    (case l7 => k_is)
    (case c7 => k_is)
    (case k7 => k_is)
    (case a8 => k_is)
    (case l8 => k_is)
    (case c8 => k_is)
    (case k8 => k_is)
    (case a9 => k_is)
    (case l9 => k_is)
    (case c9 => k_is)
    (case k9 => k_is)
    (case a10 => k_is)
    (case l10 => k_is)
    (case c10 => k_is)
    (case k10 => k_is)
    (case a11 => k_is)
    (case l11 => k_is)
    (case c11 => k_is)
    (case k11 => k_is)
    (case a12 => k_is)
    (case l12 => k_is)
    (case c12 => k_is)
    (case k12 => k_is)
    (case a13 => k_is)
    (case l13 => k_is)
    (case c13 => k_is)
    (case k13 => k_is)
    (case a14 => k_is)
    (case l14 => k_is)
    (case c14 => k_is)
    (case k14 => k_is)
    (case a15 => k_is)
    (case l15 => k_is)
    (case c15 => k_is)
    (case k15 => k_is)
    (case a16 => k_is)
    (case l16 => k_is)
    (case c16 => k_is)
    (case k16 => k_is)
    (case a17 => k_is)
    (case i17 => k_is)
    (case l17 => k_is)
    (case c17 => k_is)
    (case k17 => k_is)
    (case a18 => k_is)
    (case i18 => k_is)
    (case l18 => k_is)
    (case c18 => k_is)
    (case k18 => k_is)
    (case v18 => k_is)
    (case a19 => k_is)
    (case l19 => k_is)
    (case c19 => k_is)
    (case k19 => k_is)
    (case a20 => k_is)
    (case l20 => k_is)
    (case c20 => k_is)
    (case k20 => k_is)
    (case a21 => k_is)
    (case l21 => k_is)
    (case c21 => k_is)
    (case k21 => k_is)
    (case a22 => k_is)
    (case l22 => k_is)
    (case c22 => k_is)
    (case k22 => k_is)
    (case a23 => k_is)
    (case l23 => k_is)
    (case c23 => k_is)
    (case k23 => k_is)
    (case a24 => k_is)
    (case l24 => k_is)
    (case c24 => k_is)
    (case k24 => k_is)
    (case a25 => k_is)
    (case l25 => k_is)
    (case c25 => k_is)
    (case k25 => k_is)
    (case a26 => k_is)
    (case l26 => k_is)
    (case c26 => k_is)
    (case k26 => k_is)
    (case a27 => k_is)
    (case l27 => k_is)
    (case c27 => k_is)
    (case k27 => k_is)
    (case a28 => k_is)
    (case l28 => k_is)
    (case c28 => k_is)
    (case k28 => k_is)
    (case a29 => k_is)
    (case l29 => k_is)
    (case c29 => k_is)
    (case k29 => k_is)
    (case a30 => k_is)
    (case l30 => k_is)
    (case c30 => k_is)
    (case k30 => k_is)
    (case a31 => k_is)
    (case l31 => k_is)
    (case c31 => k_is)
    (case k31 => k_is)
    (case a32 => k_is)
    (case l32 => k_is)
    (case c32 => k_is)
    (case k32 => k_is)
    (case g_MOST_WHEEL => k_is)
    (case g_MOST_LEAST => k_is)
    (case z_ValueError => k_is)
    (case z_range => k_is)
    (case z_isinstance => k_is)
    (case z_str => k_is)
    (case z_len => k_is)
    (case z_tuple => k_is)
    (case z_list => k_is)
    (case z_bool => k_is)
    (case z_int => k_is)
    (case z_min => k_is)
    (case z_abs => k_is)
    (case eg_BadWheel => k_is)
    (case ex_BadWheel => k_exc)
    (case ek_BadWheel => k_is)
    (case eb_BadWheel => k_is)
    (case et_BadWheel => k_is)
    (case eg_BadRule => k_is)
    (case ex_BadRule => k_exc)
    (case ek_BadRule => k_is)
    (case eb_BadRule => k_is)
    (case et_BadRule => k_is)
    (case eg_BadSeen => k_is)
    (case ex_BadSeen => k_exc)
    (case ek_BadSeen => k_is)
    (case eb_BadSeen => k_is)
    (case et_BadSeen => k_is)
    (case eg_BadGaps => k_is)
    (case ex_BadGaps => k_exc)
    (case ek_BadGaps => k_is)
    (case eb_BadGaps => k_is)
    (case et_BadGaps => k_is)
    (case eg_BadSpan => k_is)
    (case ex_BadSpan => k_exc)
    (case ek_BadSpan => k_is)
    (case eb_BadSpan => k_is)
    (case et_BadSpan => k_is)
    (case eg_BadLong => k_is)
    (case ex_BadLong => k_exc)
    (case ek_BadLong => k_is)
    (case eb_BadLong => k_is)
    (case et_BadLong => k_is)
    (case eg_NoGap => k_is)
    (case ex_NoGap => k_exc)
    (case ek_NoGap => k_is)
    (case eb_NoGap => k_is)
    (case et_NoGap => k_is)
    (case eg_NoSpan => k_is)
    (case ex_NoSpan => k_exc)
    (case ek_NoSpan => k_is)
    (case eb_NoSpan => k_is)
    (case et_NoSpan => k_is)
    (case eg_WrapError => k_is)
    (case ex_WrapError => k_exc)
    (case ek_WrapError => k_is)
    (case eb_WrapError => k_is)
    (case et_WrapError => k_is)
    (case pg_Reader => k_is)
    (case hd_Reader => k_is)
    (case po_Reader => k_is)
    (case sa_Reader => k_is)
    (case mk_Reader => k_is)
    (case kc_Reader => k_is)
    (case na_Reader_last => k_is)
    (case na_Reader_rule => k_is)
    (case na_Reader_told => k_is)
    (case na_Reader_wheel => k_is)
    (case hi_NoGap => k_is)
    (case hs_NoGap => k_is)
    (case ox_BadWheel => k_is)
    (case ox_BadRule => k_is)
    (case ox_BadSeen => k_is)
    (case ox_BadGaps => k_is)
    (case ox_BadSpan => k_is)
    (case ox_BadLong => k_is)
    (case ox_NoGap => k_is)
    (case ox_NoSpan => k_is)
    (case ox_WrapError => k_is)
    (case ohg_BadWheel => k_is)
    (case ohk_BadWheel => k_is)
    (case oha_BadWheel => k_is)
    (case ohm_BadWheel => k_is)
    (case osw_BadWheel => k_is)
    (case osv_BadWheel => k_is)
    (case ok0_BadWheel => k_is)
    (case ok1_BadWheel => k_is)
    (case oz1_BadWheel => decide)
    (case ok2_BadWheel => k_is)
    (case oz2_BadWheel => decide)
    (case ok3_BadWheel => k_is)
    (case oz3_BadWheel => decide)
    (case ok4_BadWheel => k_is)
    (case oz4_BadWheel => decide)
    (case ok5_BadWheel => k_is)
    (case oz5_BadWheel => decide)
    (case ok6_BadWheel => k_is)
    (case oz6_BadWheel => decide)
    (case ok7_BadWheel => k_is)
    (case oz7_BadWheel => decide)
    (case ohg_BadRule => k_is)
    (case ohk_BadRule => k_is)
    (case oha_BadRule => k_is)
    (case ohm_BadRule => k_is)
    (case osw_BadRule => k_is)
    (case osv_BadRule => k_is)
    (case ok0_BadRule => k_is)
    (case oz0_BadRule => decide)
    (case ok1_BadRule => k_is)
    (case ok2_BadRule => k_is)
    (case oz2_BadRule => decide)
    (case ok3_BadRule => k_is)
    (case oz3_BadRule => decide)
    (case ok4_BadRule => k_is)
    (case oz4_BadRule => decide)
    (case ok5_BadRule => k_is)
    (case oz5_BadRule => decide)
    (case ok6_BadRule => k_is)
    (case oz6_BadRule => decide)
    (case ok7_BadRule => k_is)
    (case oz7_BadRule => decide)
    (case ohg_BadSeen => k_is)
    (case ohk_BadSeen => k_is)
    (case oha_BadSeen => k_is)
    (case ohm_BadSeen => k_is)
    (case osw_BadSeen => k_is)
    (case osv_BadSeen => k_is)
    (case ok0_BadSeen => k_is)
    (case oz0_BadSeen => decide)
    (case ok1_BadSeen => k_is)
    (case oz1_BadSeen => decide)
    (case ok2_BadSeen => k_is)
    (case ok3_BadSeen => k_is)
    (case oz3_BadSeen => decide)
    (case ok4_BadSeen => k_is)
    (case oz4_BadSeen => decide)
    (case ok5_BadSeen => k_is)
    (case oz5_BadSeen => decide)
    (case ok6_BadSeen => k_is)
    (case oz6_BadSeen => decide)
    (case ok7_BadSeen => k_is)
    (case oz7_BadSeen => decide)
    (case ohg_BadGaps => k_is)
    (case ohk_BadGaps => k_is)
    (case oha_BadGaps => k_is)
    (case ohm_BadGaps => k_is)
    (case osw_BadGaps => k_is)
    (case osv_BadGaps => k_is)
    (case ok0_BadGaps => k_is)
    (case oz0_BadGaps => decide)
    (case ok1_BadGaps => k_is)
    (case oz1_BadGaps => decide)
    (case ok2_BadGaps => k_is)
    (case oz2_BadGaps => decide)
    (case ok3_BadGaps => k_is)
    (case ok4_BadGaps => k_is)
    (case oz4_BadGaps => decide)
    (case ok5_BadGaps => k_is)
    (case oz5_BadGaps => decide)
    (case ok6_BadGaps => k_is)
    (case oz6_BadGaps => decide)
    (case ok7_BadGaps => k_is)
    (case oz7_BadGaps => decide)
    (case ohn => k_is)
    (case oht => k_is)
    (case lcL__law_works => k_is)
    (case vL__law_works => rfl)
    (case hdL__law_works => kernel_rfl)
    (case nPL__law_works => kernel_rfl)
    (case tbL__law_works => exact PySem.W.km_tabs_of Y _ (by decide))
    (case lcL => k_is)
    (case vL => rfl)
    (case hdL => kernel_rfl)
    (case nPL => kernel_rfl)
    (case tbL => exact PySem.W.km_tabs_of Y _ (by decide))
    (case hPP => decide)

