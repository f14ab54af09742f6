import PyProof.Rows.All
import Wide.All
import OpenK.AllK
import Wide.FinOn
import HandS.ForMost
import HandS.Exc
import HandS.TryOnly
import HandS.ExcOwn
import HandS.WordsExc
import HandS.Lambda
import HandS.EndTab
import HandS.EndOwn
import HandS.Wide
import HandS.IsInst
import HandS.ExcIs
import HandS.Defaults
import HandS.SortInts
import HandS.SortKw
import HandS.Strs
import PySem.Challenge.RW_wraptime_k06_readers
set_option Elab.async false
set_option linter.all false
set_option maxRecDepth 100000
set_option maxHeartbeats 4000000
set_option Elab.async false
set_option linter.all false
set_option maxRecDepth 100000
set_option maxHeartbeats 4000000
namespace My
open PySem PySem.Spec PyProof.Rows L2
open LamX (Tabs TabS CodeO ExtN)
/-! ### what is known of a def -/
structure Knows (P : Program) (w : World) (K : PySem.W.Frag) (mg : Str → Option Value) (base : Heap) (k : Nat) (x : Str) (ps : List Str) (sp : Sp) : Prop where
  ex : ∃ (f : Addr) (fd : FuncData), FnOk P w K mg base (L2.CX P w) k f fd ps sp ∧ mg x = some (.ref f) ∧ PySem.W.keepIn K (.ref f) = true ∧ Binds K fd ps []
structure DefAt (K : PySem.W.Frag) (mg : Str → Option Value) (x : Str) (st : Stmt) (f : Addr) (fd : FuncData) : Prop where
  fn : Fun K x x st f fd
  g : mg x = some (.ref f)
structure ExcAt (K : PySem.W.Frag) (mg : Str → Option Value) (x : Str) (C : Addr) : Prop where
  g : mg x = some (.ref C)
  x : PySem.W.excIn K C [.type "ValueError", .type "Exception", .type "BaseException", .type "object"] "ValueError.__new__" = true
  k : PySem.W.keepIn K (.ref C) = true
  b : PySem.W.subIn K (.ref C) (.type "BaseException") = some true
  t : PySem.W.typeIn K (.ref C) = some (.type "type")
theorem pe_callN {X : Cx} {k : Nat} {x : Str} {ps : List Str} {sp : Sp} {E : XK} {p pos : Pos} {e : Expr} {es : List Expr} {t : TA} (c : Knows X.prog X.w X.K X.mg X.base k x ps sp) (hr : Room k X.A) (hx : Passes (L2.CX X.prog X.w) X E)
    (ha : PA X (e :: es) t) (hg : Gl X x := by rfl) (hdb : (x == ("__debug__" : Str)) = false := by decide) (he : starEach (e :: es) X.env = (false, eval e X.env) :: starEach es X.env := by rfl) (hpl : (backTo pos (starEach es X.env)).any (·.1) = false := by rfl) :
    PE X (.Call (.Name x p) (e :: es) [] pos) (tCall sp [] E t) := by
  obtain ⟨f, fd, F, hm, hk, hb⟩ := c.ex
  exact pe_call F hr hg hm hk hb .nil hx ha hdb he hpl
section
variable {P : Program} {w : World} {K : PySem.W.Frag} {mg : Str → Option Value} {base : Heap} {N : List Str} {qual : Str} {scope : Scope} {f : Addr} {cd : Value} {A : Around} {outer : List Env} {s : Shared} {H : Hp} {E : XK}
theorem takesD : Takes (cxOf (L2.CX P w) P w K mg base N qual scope f cd A outer s H E) (fun cls d _ H => E cls d H) := takes_of rfl rfl rfl rfl
theorem passD : Passes (L2.CX P w) (cxOf (L2.CX P w) P w K mg base N qual scope f cd A outer s H E) E := passes_call takesD (fun _ _ _ _ h => h)
theorem passO : PassesOwn (model P w) (A.deeper (envOfC qual scope s.heap.objs.size f cd)) (envOfC qual scope s.heap.objs.size f cd) (cxOf (L2.CX P w) P w K mg base N qual scope f cd A outer s H E).xe := PassesOwn.leaving
theorem ps_raiseN {x m : Str} {C : Addr} {j : Nat} {p p2 pos pos2 : Pos} (e : ExcAt K mg x C) (hg : Gl (cxOf (L2.CX P w) P w K mg base N qual scope f cd A outer s H E) x := by rfl) (hdb : (x == ("__debug__" : Str)) = false := by decide) :
    PS (cxOf (L2.CX P w) P w K mg base N qual scope f cd A outer s H E) (.Raise (some (.Call (.Name x p) [.Constant (.str m) j p2] [] pos)) none pos2) (fun _ _ H' => E (.ref C) none H') :=
  ps_raise rfl takesD (pmk_own PySem.F.excBase_ValueError e.x e.g e.k (raises_own e.b e.t) hg hdb)
end
/-! ### rules by name -/
def rLenN (K : PySem.W.Frag) : List V → Hp → VK → Prop := fun xs H Q => ∃ (x : V) (n : Nat), xs = [x] ∧ LenV K x H n ∧ Q (.int n) H
theorem call_lenN {X : Cx} : CallR X (.builtin "len") (rLenN X.K) := call_len
def rMin2 : List V → Hp → VK → Prop := fun xs H Q => ∃ i j : Int, xs = [.int i, .int j] ∧ Q (.int (if j < i then j else i)) H
def rMax2 : List V → Hp → VK → Prop := fun xs H Q => ∃ i j : Int, xs = [.int i, .int j] ∧ Q (.int (if j > i then j else i)) H
theorem call_min2N {X : Cx} (hc : X.calm = true) : CallR X (.builtin "min") rMin2 := call_min2 hc
theorem call_max2N {X : Cx} (hc : X.calm = true) : CallR X (.builtin "max") rMax2 := call_max2 hc
def rAbs : List V → Hp → VK → Prop := fun xs H Q => ∃ i : Int, xs = [.int i] ∧ Q (.int (if i < 0 then -i else i)) H
theorem call_absN {X : Cx} : CallR X (.builtin "abs") rAbs := call_abs
def rInt1 : List V → Hp → VK → Prop := fun xs H Q => (∃ i : Int, xs = [.int i] ∧ Q (.int i) H) ∨ ∃ k : Bool, xs = [.bl k] ∧ Q (.int (if k then 1 else 0)) H
theorem call_intN {X : Cx} : CallR X (.type "int") rInt1 := call_int1
def rListOf (K : PySem.W.Frag) : List V → Hp → VK → Prop := fun xs H Q => ∃ (p : Addr) (ys : List V), xs = [.ref p] ∧ (SqL K H p ys ∨ SqT K H p ys) ∧ ∀ l, H l = none → Q (.ref l) (upd H l (.lst ys))
theorem call_listN {X : Cx} : CallR X (.type "list") (rListOf X.K) := call_list_of
def rIsN : R2 := fun x y H Q => y = .non ∧ Q (.bl (decide (x = .non))) H
def rNotN : R2 := fun x y H Q => y = .non ∧ Q (.bl (!decide (x = .non))) H
theorem op_isNN {X : Cx} : OpR X (compareOp .Is) rIsN := op_isN
theorem op_notNN {X : Cx} : OpR X (compareOp .IsNot) rNotN := op_notN
/-! ### a reading, step by step -/
section
variable {σ : L2.St} {H : Hp} {i : Nat} {v : V} {ta tb tc : TE} {t u : TT} {r r' : R2} {Q : VK} {QB : Bool → Hp → Prop} {QA : List V → Hp → Prop} {D : Ends} {g : TG} {a b : Int} {te : TE} {tl : TA} {s1 s2 : TS}
theorem g_var (h : σ[i]? = some (some v)) (q : Q v H) : tVar i σ H Q := ⟨v, h, q⟩
theorem g_var0 {r : L2.St} (q : Q v H) : tVar 0 (some v :: r) H Q := ⟨v, rfl, q⟩
theorem g_var1 {x0 : Option V} {r : L2.St} (q : Q v H) : tVar 1 (x0 :: some v :: r) H Q := ⟨v, rfl, q⟩
theorem g_var2 {x0 x1 : Option V} {r : L2.St} (q : Q v H) : tVar 2 (x0 :: x1 :: some v :: r) H Q := ⟨v, rfl, q⟩
theorem g_var3 {x0 x1 x2 : Option V} {r : L2.St} (q : Q v H) : tVar 3 (x0 :: x1 :: x2 :: some v :: r) H Q := ⟨v, rfl, q⟩
theorem g_var4 {x0 x1 x2 x3 : Option V} {r : L2.St} (q : Q v H) : tVar 4 (x0 :: x1 :: x2 :: x3 :: some v :: r) H Q := ⟨v, rfl, q⟩
theorem g_var5 {x0 x1 x2 x3 x4 : Option V} {r : L2.St} (q : Q v H) : tVar 5 (x0 :: x1 :: x2 :: x3 :: x4 :: some v :: r) H Q := ⟨v, rfl, q⟩
theorem g_var6 {x0 x1 x2 x3 x4 x5 : Option V} {r : L2.St} (q : Q v H) : tVar 6 (x0 :: x1 :: x2 :: x3 :: x4 :: x5 :: some v :: r) H Q := ⟨v, rfl, q⟩
theorem g_var7 {x0 x1 x2 x3 x4 x5 x6 : Option V} {r : L2.St} (q : Q v H) : tVar 7 (x0 :: x1 :: x2 :: x3 :: x4 :: x5 :: x6 :: some v :: r) H Q := ⟨v, rfl, q⟩
theorem g_var8 {x0 x1 x2 x3 x4 x5 x6 x7 : Option V} {r : L2.St} (q : Q v H) : tVar 8 (x0 :: x1 :: x2 :: x3 :: x4 :: x5 :: x6 :: x7 :: some v :: r) H Q := ⟨v, rfl, q⟩
theorem g_var9 {x0 x1 x2 x3 x4 x5 x6 x7 x8 : Option V} {r : L2.St} (q : Q v H) : tVar 9 (x0 :: x1 :: x2 :: x3 :: x4 :: x5 :: x6 :: x7 :: x8 :: some v :: r) H Q := ⟨v, rfl, q⟩
theorem g_var10 {x0 x1 x2 x3 x4 x5 x6 x7 x8 x9 : Option V} {r : L2.St} (q : Q v H) : tVar 10 (x0 :: x1 :: x2 :: x3 :: x4 :: x5 :: x6 :: x7 :: x8 :: x9 :: some v :: r) H Q := ⟨v, rfl, q⟩
theorem g_var11 {x0 x1 x2 x3 x4 x5 x6 x7 x8 x9 x10 : Option V} {r : L2.St} (q : Q v H) : tVar 11 (x0 :: x1 :: x2 :: x3 :: x4 :: x5 :: x6 :: x7 :: x8 :: x9 :: x10 :: some v :: r) H Q := ⟨v, rfl, q⟩
theorem g_var12 {x0 x1 x2 x3 x4 x5 x6 x7 x8 x9 x10 x11 : Option V} {r : L2.St} (q : Q v H) : tVar 12 (x0 :: x1 :: x2 :: x3 :: x4 :: x5 :: x6 :: x7 :: x8 :: x9 :: x10 :: x11 :: some v :: r) H Q := ⟨v, rfl, q⟩
theorem g_var13 {x0 x1 x2 x3 x4 x5 x6 x7 x8 x9 x10 x11 x12 : Option V} {r : L2.St} (q : Q v H) : tVar 13 (x0 :: x1 :: x2 :: x3 :: x4 :: x5 :: x6 :: x7 :: x8 :: x9 :: x10 :: x11 :: x12 :: some v :: r) H Q := ⟨v, rfl, q⟩
theorem g_var14 {x0 x1 x2 x3 x4 x5 x6 x7 x8 x9 x10 x11 x12 x13 : Option V} {r : L2.St} (q : Q v H) : tVar 14 (x0 :: x1 :: x2 :: x3 :: x4 :: x5 :: x6 :: x7 :: x8 :: x9 :: x10 :: x11 :: x12 :: x13 :: some v :: r) H Q := ⟨v, rfl, q⟩
theorem g_var15 {x0 x1 x2 x3 x4 x5 x6 x7 x8 x9 x10 x11 x12 x13 x14 : Option V} {r : L2.St} (q : Q v H) : tVar 15 (x0 :: x1 :: x2 :: x3 :: x4 :: x5 :: x6 :: x7 :: x8 :: x9 :: x10 :: x11 :: x12 :: x13 :: x14 :: some v :: r) H Q := ⟨v, rfl, q⟩
theorem g_var16 {x0 x1 x2 x3 x4 x5 x6 x7 x8 x9 x10 x11 x12 x13 x14 x15 : Option V} {r : L2.St} (q : Q v H) : tVar 16 (x0 :: x1 :: x2 :: x3 :: x4 :: x5 :: x6 :: x7 :: x8 :: x9 :: x10 :: x11 :: x12 :: x13 :: x14 :: x15 :: some v :: r) H Q := ⟨v, rfl, q⟩
theorem g_var17 {x0 x1 x2 x3 x4 x5 x6 x7 x8 x9 x10 x11 x12 x13 x14 x15 x16 : Option V} {r : L2.St} (q : Q v H) : tVar 17 (x0 :: x1 :: x2 :: x3 :: x4 :: x5 :: x6 :: x7 :: x8 :: x9 :: x10 :: x11 :: x12 :: x13 :: x14 :: x15 :: x16 :: some v :: r) H Q := ⟨v, rfl, q⟩
theorem g_var18 {x0 x1 x2 x3 x4 x5 x6 x7 x8 x9 x10 x11 x12 x13 x14 x15 x16 x17 : Option V} {r : L2.St} (q : Q v H) : tVar 18 (x0 :: x1 :: x2 :: x3 :: x4 :: x5 :: x6 :: x7 :: x8 :: x9 :: x10 :: x11 :: x12 :: x13 :: x14 :: x15 :: x16 :: x17 :: some v :: r) H Q := ⟨v, rfl, q⟩
theorem g_var19 {x0 x1 x2 x3 x4 x5 x6 x7 x8 x9 x10 x11 x12 x13 x14 x15 x16 x17 x18 : Option V} {r : L2.St} (q : Q v H) : tVar 19 (x0 :: x1 :: x2 :: x3 :: x4 :: x5 :: x6 :: x7 :: x8 :: x9 :: x10 :: x11 :: x12 :: x13 :: x14 :: x15 :: x16 :: x17 :: x18 :: some v :: r) H Q := ⟨v, rfl, q⟩
theorem g_var20 {x0 x1 x2 x3 x4 x5 x6 x7 x8 x9 x10 x11 x12 x13 x14 x15 x16 x17 x18 x19 : Option V} {r : L2.St} (q : Q v H) : tVar 20 (x0 :: x1 :: x2 :: x3 :: x4 :: x5 :: x6 :: x7 :: x8 :: x9 :: x10 :: x11 :: x12 :: x13 :: x14 :: x15 :: x16 :: x17 :: x18 :: x19 :: some v :: r) H Q := ⟨v, rfl, q⟩
theorem g_var21 {x0 x1 x2 x3 x4 x5 x6 x7 x8 x9 x10 x11 x12 x13 x14 x15 x16 x17 x18 x19 x20 : Option V} {r : L2.St} (q : Q v H) : tVar 21 (x0 :: x1 :: x2 :: x3 :: x4 :: x5 :: x6 :: x7 :: x8 :: x9 :: x10 :: x11 :: x12 :: x13 :: x14 :: x15 :: x16 :: x17 :: x18 :: x19 :: x20 :: some v :: r) H Q := ⟨v, rfl, q⟩
theorem g_var22 {x0 x1 x2 x3 x4 x5 x6 x7 x8 x9 x10 x11 x12 x13 x14 x15 x16 x17 x18 x19 x20 x21 : Option V} {r : L2.St} (q : Q v H) : tVar 22 (x0 :: x1 :: x2 :: x3 :: x4 :: x5 :: x6 :: x7 :: x8 :: x9 :: x10 :: x11 :: x12 :: x13 :: x14 :: x15 :: x16 :: x17 :: x18 :: x19 :: x20 :: x21 :: some v :: r) H Q := ⟨v, rfl, q⟩
theorem g_var23 {x0 x1 x2 x3 x4 x5 x6 x7 x8 x9 x10 x11 x12 x13 x14 x15 x16 x17 x18 x19 x20 x21 x22 : Option V} {r : L2.St} (q : Q v H) : tVar 23 (x0 :: x1 :: x2 :: x3 :: x4 :: x5 :: x6 :: x7 :: x8 :: x9 :: x10 :: x11 :: x12 :: x13 :: x14 :: x15 :: x16 :: x17 :: x18 :: x19 :: x20 :: x21 :: x22 :: some v :: r) H Q := ⟨v, rfl, q⟩
theorem g_var24 {x0 x1 x2 x3 x4 x5 x6 x7 x8 x9 x10 x11 x12 x13 x14 x15 x16 x17 x18 x19 x20 x21 x22 x23 : Option V} {r : L2.St} (q : Q v H) : tVar 24 (x0 :: x1 :: x2 :: x3 :: x4 :: x5 :: x6 :: x7 :: x8 :: x9 :: x10 :: x11 :: x12 :: x13 :: x14 :: x15 :: x16 :: x17 :: x18 :: x19 :: x20 :: x21 :: x22 :: x23 :: some v :: r) H Q := ⟨v, rfl, q⟩
theorem g_var25 {x0 x1 x2 x3 x4 x5 x6 x7 x8 x9 x10 x11 x12 x13 x14 x15 x16 x17 x18 x19 x20 x21 x22 x23 x24 : Option V} {r : L2.St} (q : Q v H) : tVar 25 (x0 :: x1 :: x2 :: x3 :: x4 :: x5 :: x6 :: x7 :: x8 :: x9 :: x10 :: x11 :: x12 :: x13 :: x14 :: x15 :: x16 :: x17 :: x18 :: x19 :: x20 :: x21 :: x22 :: x23 :: x24 :: some v :: r) H Q := ⟨v, rfl, q⟩
theorem g_c (q : Q v H) : tC v σ H Q := q
theorem g_op (q : ta σ H fun x H1 => tb σ H1 fun y H2 => r x y H2 Q) : tOp r ta tb σ H Q := q
theorem g_un {r1 : V → Hp → VK → Prop} (q : ta σ H fun x H1 => r1 x H1 Q) : tUn r1 ta σ H Q := q
theorem g_rI0 {k : Int → Int → V} (q : Q (k a b) H) : rI0 k (.int a) (.int b) H Q := ⟨a, b, rfl, rfl, q⟩
theorem g_rU {k : Int → V} (q : Q (k a) H) : rU k (.int a) H Q := ⟨a, rfl, q⟩
theorem g_rI {C : Int → Int → Prop} {k : Int → Int → V} (h : C a b) (q : Q (k a b) H) : rI C k (.int a) (.int b) H Q := ⟨a, b, rfl, rfl, h, q⟩
theorem g_eq {x y : V} (h : scal x y = true) (q : Q (.bl (decide (x = y))) H) : rEq x y H Q := ⟨h, q⟩
theorem g_ne {x y : V} (h : scal x y = true) (q : Q (.bl (!decide (x = y))) H) : rNe x y H Q := ⟨h, q⟩
theorem g_isN {x : V} (q : Q (.bl (decide (x = .non))) H) : rIsN x .non H Q := ⟨rfl, q⟩
theorem g_notN {x : V} (q : Q (.bl (!decide (x = .non))) H) : rNotN x .non H Q := ⟨rfl, q⟩
theorem g_test (q : ta σ H fun x H' => ∃ k, x = .bl k ∧ QB k H') : tTest ta σ H QB := q
theorem g_tB (q : ta σ H fun x H' => ∃ k, x = .bl k ∧ QB k H') : tB ta σ H QB := q
theorem g_bl {c : Bool} (q : QB c H) : ∃ k, V.bl c = .bl k ∧ QB k H := ⟨c, rfl, q⟩
theorem g_not (q : t σ H fun c H1 => QB (!c) H1) : tNot t σ H QB := q
theorem g_and (q : t σ H fun c H1 => if c = true then u σ H1 QB else QB false H1) : tAnd t u σ H QB := q
theorem g_or (q : t σ H fun c H1 => if c = true then QB true H1 else u σ H1 QB) : tOr t u σ H QB := q
theorem g_andV (q : ta σ H fun x H1 => ∃ c, x = .bl c ∧ if c = true then tb σ H1 Q else Q (.bl false) H1) : tAndV ta tb σ H Q := q
theorem g_orV (q : ta σ H fun x H1 => ∃ c, x = .bl c ∧ if c = true then Q (.bl true) H1 else tb σ H1 Q) : tOrV ta tb σ H Q := q
theorem g_notV (q : ta σ H fun x H1 => ∃ c, x = .bl c ∧ Q (.bl (!c)) H1) : tNotV ta σ H Q := q
theorem g_if (q : t σ H fun c H1 => if c = true then ta σ H1 Q else tb σ H1 Q) : tIf t ta tb σ H Q := q
theorem g_sub {to ti : TE} {st : TSet} {Qs : L2.St → Hp → Prop} (q : to σ H fun o H1 => ti σ H1 fun i H2 => st o i v H2 fun H3 => Qs σ H3) : gSub to ti st v σ H Qs := q
theorem g_sz {n : Nat} {B : Prop} (h : n ≤ 100000) (q : B) : n ≤ sizeLine ∧ B := ⟨Nat.le_trans h (by decide), q⟩
theorem g_lenL {K : PySem.W.Frag} {p : Addr} {xs : List V} (h : SqL K H p xs) (q : Q (.int (xs.length : Nat)) H) : rLenN K [V.ref p] H Q := ⟨_, _, rfl, Or.inl ⟨xs, h, rfl⟩, q⟩
theorem g_lenT {K : PySem.W.Frag} {p : Addr} {xs : List V} (h : SqT K H p xs) (q : Q (.int (xs.length : Nat)) H) : rLenN K [V.ref p] H Q := ⟨_, _, rfl, Or.inr ⟨xs, h, rfl⟩, q⟩
theorem g_min2 (q : Q (.int (if b < a then b else a)) H) : rMin2 [.int a, .int b] H Q := ⟨a, b, rfl, q⟩
theorem g_max2 (q : Q (.int (if b > a then b else a)) H) : rMax2 [.int a, .int b] H Q := ⟨a, b, rfl, q⟩
theorem g_abs (q : Q (.int (if a < 0 then -a else a)) H) : rAbs [.int a] H Q := ⟨a, rfl, q⟩
theorem g_intI (q : Q (.int a) H) : rInt1 [.int a] H Q := .inl ⟨a, rfl, q⟩
theorem g_intB {k : Bool} (q : Q (.int (if k then 1 else 0)) H) : rInt1 [.bl k] H Q := .inr ⟨k, rfl, q⟩
theorem g_listL {K : PySem.W.Frag} {p : Addr} {xs : List V} (h : SqL K H p xs) (q : ∀ l, H l = none → Q (.ref l) (upd H l (.lst xs))) : rListOf K [.ref p] H Q := ⟨p, xs, rfl, .inl h, q⟩
theorem g_set41 {p : Addr} {x0 x1 x2 x3 : V} {QS : Hp → Prop} (h : H p = some (.lst [x0, x1, x2, x3])) (q : QS (upd H p (.lst [x0, v, x2, x3]))) : rSetL (.ref p) (.int 1) v H QS := ⟨p, _, 1, 1, rfl, rfl, h, rfl, q⟩
theorem g_set42 {p : Addr} {x0 x1 x2 x3 : V} {QS : Hp → Prop} (h : H p = some (.lst [x0, x1, x2, x3])) (q : QS (upd H p (.lst [x0, x1, v, x3]))) : rSetL (.ref p) (.int 2) v H QS := ⟨p, _, 2, 2, rfl, rfl, h, rfl, q⟩
theorem g_set43 {p : Addr} {x0 x1 x2 x3 : V} {QS : Hp → Prop} (h : H p = some (.lst [x0, x1, x2, x3])) (q : QS (upd H p (.lst [x0, x1, x2, v]))) : rSetL (.ref p) (.int 3) v H QS := ⟨p, _, 3, 3, rfl, rfl, h, rfl, q⟩
theorem g_setL {p : Addr} {xs ys : List V} {j : Nat} {QS : Hp → Prop} (h : H p = some (.lst xs)) (h2 : ixN xs.length a = some j) (h3 : xs.set j v = ys) (q : QS (upd H p (.lst ys))) : rSetL (.ref p) (.int a) v H QS := ⟨p, xs, a, j, rfl, rfl, h, h2, h3 ▸ q⟩
theorem g_chain (q : ta σ H fun x H1 => tb σ H1 fun y H2 => r x y H2 fun z H3 => ∃ k, z = .bl k ∧ (if k = true then tc σ H3 fun w' H4 => r' y w' H4 Q else Q (.bl false) H3)) : tChain r r' ta tb tc σ H Q := q
theorem g_nil (q : QA [] H) : tNil σ H QA := q
theorem g_cons {tr : TA} (q : te σ H fun x H1 => tr σ H1 fun xs H2 => QA (x :: xs) H2) : tCons te tr σ H QA := q
theorem g_call {sp : Sp} {dvs : List V} {E : XK} (q : tl σ H fun vs H1 => sp (vs ++ dvs) H1 Q E) : tCall sp dvs E tl σ H Q := q
theorem g_callB {rc : List V → Hp → VK → Prop} (q : tl σ H fun vs H1 => rc vs H1 Q) : tCB rc tl σ H Q := q
theorem g_lst (q : tl σ H fun xs H1 => xs.length ≤ sizeLine ∧ ∀ p, H1 p = none → Q (.ref p) (upd H1 p (.lst xs))) : tLst tl σ H Q := q
theorem g_tup (q : tl σ H fun xs H1 => xs.length ≤ sizeLine ∧ ∀ p, H1 p = none → Q (.ref p) (upd H1 p (.tup xs))) : tTup tl σ H Q := q
theorem g_seq (q : s1 { D with nx := s2 D } σ H) : tSeq s1 s2 D σ H := q
theorem g_asg (q : te σ H fun x H1 => g x σ H1 D.nx) : tAsg te g D σ H := q
theorem g_name {Qs : L2.St → Hp → Prop} (q : Qs (σ.set i (some v)) H) : gName i v σ H Qs := q
theorem g_name0 {x0 : Option V} {r : L2.St} {Qs : L2.St → Hp → Prop} (q : Qs (some v :: r) H) : gName 0 v (x0 :: r) H Qs := q
theorem g_name1 {x0 x1 : Option V} {r : L2.St} {Qs : L2.St → Hp → Prop} (q : Qs (x0 :: some v :: r) H) : gName 1 v (x0 :: x1 :: r) H Qs := q
theorem g_name2 {x0 x1 x2 : Option V} {r : L2.St} {Qs : L2.St → Hp → Prop} (q : Qs (x0 :: x1 :: some v :: r) H) : gName 2 v (x0 :: x1 :: x2 :: r) H Qs := q
theorem g_name3 {x0 x1 x2 x3 : Option V} {r : L2.St} {Qs : L2.St → Hp → Prop} (q : Qs (x0 :: x1 :: x2 :: some v :: r) H) : gName 3 v (x0 :: x1 :: x2 :: x3 :: r) H Qs := q
theorem g_name4 {x0 x1 x2 x3 x4 : Option V} {r : L2.St} {Qs : L2.St → Hp → Prop} (q : Qs (x0 :: x1 :: x2 :: x3 :: some v :: r) H) : gName 4 v (x0 :: x1 :: x2 :: x3 :: x4 :: r) H Qs := q
theorem g_name5 {x0 x1 x2 x3 x4 x5 : Option V} {r : L2.St} {Qs : L2.St → Hp → Prop} (q : Qs (x0 :: x1 :: x2 :: x3 :: x4 :: some v :: r) H) : gName 5 v (x0 :: x1 :: x2 :: x3 :: x4 :: x5 :: r) H Qs := q
theorem g_name6 {x0 x1 x2 x3 x4 x5 x6 : Option V} {r : L2.St} {Qs : L2.St → Hp → Prop} (q : Qs (x0 :: x1 :: x2 :: x3 :: x4 :: x5 :: some v :: r) H) : gName 6 v (x0 :: x1 :: x2 :: x3 :: x4 :: x5 :: x6 :: r) H Qs := q
theorem g_name7 {x0 x1 x2 x3 x4 x5 x6 x7 : Option V} {r : L2.St} {Qs : L2.St → Hp → Prop} (q : Qs (x0 :: x1 :: x2 :: x3 :: x4 :: x5 :: x6 :: some v :: r) H) : gName 7 v (x0 :: x1 :: x2 :: x3 :: x4 :: x5 :: x6 :: x7 :: r) H Qs := q
theorem g_name8 {x0 x1 x2 x3 x4 x5 x6 x7 x8 : Option V} {r : L2.St} {Qs : L2.St → Hp → Prop} (q : Qs (x0 :: x1 :: x2 :: x3 :: x4 :: x5 :: x6 :: x7 :: some v :: r) H) : gName 8 v (x0 :: x1 :: x2 :: x3 :: x4 :: x5 :: x6 :: x7 :: x8 :: r) H Qs := q
theorem g_name9 {x0 x1 x2 x3 x4 x5 x6 x7 x8 x9 : Option V} {r : L2.St} {Qs : L2.St → Hp → Prop} (q : Qs (x0 :: x1 :: x2 :: x3 :: x4 :: x5 :: x6 :: x7 :: x8 :: some v :: r) H) : gName 9 v (x0 :: x1 :: x2 :: x3 :: x4 :: x5 :: x6 :: x7 :: x8 :: x9 :: r) H Qs := q
theorem g_name10 {x0 x1 x2 x3 x4 x5 x6 x7 x8 x9 x10 : Option V} {r : L2.St} {Qs : L2.St → Hp → Prop} (q : Qs (x0 :: x1 :: x2 :: x3 :: x4 :: x5 :: x6 :: x7 :: x8 :: x9 :: some v :: r) H) : gName 10 v (x0 :: x1 :: x2 :: x3 :: x4 :: x5 :: x6 :: x7 :: x8 :: x9 :: x10 :: r) H Qs := q
theorem g_name11 {x0 x1 x2 x3 x4 x5 x6 x7 x8 x9 x10 x11 : Option V} {r : L2.St} {Qs : L2.St → Hp → Prop} (q : Qs (x0 :: x1 :: x2 :: x3 :: x4 :: x5 :: x6 :: x7 :: x8 :: x9 :: x10 :: some v :: r) H) : gName 11 v (x0 :: x1 :: x2 :: x3 :: x4 :: x5 :: x6 :: x7 :: x8 :: x9 :: x10 :: x11 :: r) H Qs := q
theorem g_name12 {x0 x1 x2 x3 x4 x5 x6 x7 x8 x9 x10 x11 x12 : Option V} {r : L2.St} {Qs : L2.St → Hp → Prop} (q : Qs (x0 :: x1 :: x2 :: x3 :: x4 :: x5 :: x6 :: x7 :: x8 :: x9 :: x10 :: x11 :: some v :: r) H) : gName 12 v (x0 :: x1 :: x2 :: x3 :: x4 :: x5 :: x6 :: x7 :: x8 :: x9 :: x10 :: x11 :: x12 :: r) H Qs := q
theorem g_name13 {x0 x1 x2 x3 x4 x5 x6 x7 x8 x9 x10 x11 x12 x13 : Option V} {r : L2.St} {Qs : L2.St → Hp → Prop} (q : Qs (x0 :: x1 :: x2 :: x3 :: x4 :: x5 :: x6 :: x7 :: x8 :: x9 :: x10 :: x11 :: x12 :: some v :: r) H) : gName 13 v (x0 :: x1 :: x2 :: x3 :: x4 :: x5 :: x6 :: x7 :: x8 :: x9 :: x10 :: x11 :: x12 :: x13 :: r) H Qs := q
theorem g_name14 {x0 x1 x2 x3 x4 x5 x6 x7 x8 x9 x10 x11 x12 x13 x14 : Option V} {r : L2.St} {Qs : L2.St → Hp → Prop} (q : Qs (x0 :: x1 :: x2 :: x3 :: x4 :: x5 :: x6 :: x7 :: x8 :: x9 :: x10 :: x11 :: x12 :: x13 :: some v :: r) H) : gName 14 v (x0 :: x1 :: x2 :: x3 :: x4 :: x5 :: x6 :: x7 :: x8 :: x9 :: x10 :: x11 :: x12 :: x13 :: x14 :: r) H Qs := q
theorem g_name15 {x0 x1 x2 x3 x4 x5 x6 x7 x8 x9 x10 x11 x12 x13 x14 x15 : Option V} {r : L2.St} {Qs : L2.St → Hp → Prop} (q : Qs (x0 :: x1 :: x2 :: x3 :: x4 :: x5 :: x6 :: x7 :: x8 :: x9 :: x10 :: x11 :: x12 :: x13 :: x14 :: some v :: r) H) : gName 15 v (x0 :: x1 :: x2 :: x3 :: x4 :: x5 :: x6 :: x7 :: x8 :: x9 :: x10 :: x11 :: x12 :: x13 :: x14 :: x15 :: r) H Qs := q
theorem g_name16 {x0 x1 x2 x3 x4 x5 x6 x7 x8 x9 x10 x11 x12 x13 x14 x15 x16 : Option V} {r : L2.St} {Qs : L2.St → Hp → Prop} (q : Qs (x0 :: x1 :: x2 :: x3 :: x4 :: x5 :: x6 :: x7 :: x8 :: x9 :: x10 :: x11 :: x12 :: x13 :: x14 :: x15 :: some v :: r) H) : gName 16 v (x0 :: x1 :: x2 :: x3 :: x4 :: x5 :: x6 :: x7 :: x8 :: x9 :: x10 :: x11 :: x12 :: x13 :: x14 :: x15 :: x16 :: r) H Qs := q
theorem g_name17 {x0 x1 x2 x3 x4 x5 x6 x7 x8 x9 x10 x11 x12 x13 x14 x15 x16 x17 : Option V} {r : L2.St} {Qs : L2.St → Hp → Prop} (q : Qs (x0 :: x1 :: x2 :: x3 :: x4 :: x5 :: x6 :: x7 :: x8 :: x9 :: x10 :: x11 :: x12 :: x13 :: x14 :: x15 :: x16 :: some v :: r) H) : gName 17 v (x0 :: x1 :: x2 :: x3 :: x4 :: x5 :: x6 :: x7 :: x8 :: x9 :: x10 :: x11 :: x12 :: x13 :: x14 :: x15 :: x16 :: x17 :: r) H Qs := q
theorem g_name18 {x0 x1 x2 x3 x4 x5 x6 x7 x8 x9 x10 x11 x12 x13 x14 x15 x16 x17 x18 : Option V} {r : L2.St} {Qs : L2.St → Hp → Prop} (q : Qs (x0 :: x1 :: x2 :: x3 :: x4 :: x5 :: x6 :: x7 :: x8 :: x9 :: x10 :: x11 :: x12 :: x13 :: x14 :: x15 :: x16 :: x17 :: some v :: r) H) : gName 18 v (x0 :: x1 :: x2 :: x3 :: x4 :: x5 :: x6 :: x7 :: x8 :: x9 :: x10 :: x11 :: x12 :: x13 :: x14 :: x15 :: x16 :: x17 :: x18 :: r) H Qs := q
theorem g_name19 {x0 x1 x2 x3 x4 x5 x6 x7 x8 x9 x10 x11 x12 x13 x14 x15 x16 x17 x18 x19 : Option V} {r : L2.St} {Qs : L2.St → Hp → Prop} (q : Qs (x0 :: x1 :: x2 :: x3 :: x4 :: x5 :: x6 :: x7 :: x8 :: x9 :: x10 :: x11 :: x12 :: x13 :: x14 :: x15 :: x16 :: x17 :: x18 :: some v :: r) H) : gName 19 v (x0 :: x1 :: x2 :: x3 :: x4 :: x5 :: x6 :: x7 :: x8 :: x9 :: x10 :: x11 :: x12 :: x13 :: x14 :: x15 :: x16 :: x17 :: x18 :: x19 :: r) H Qs := q
theorem g_name20 {x0 x1 x2 x3 x4 x5 x6 x7 x8 x9 x10 x11 x12 x13 x14 x15 x16 x17 x18 x19 x20 : Option V} {r : L2.St} {Qs : L2.St → Hp → Prop} (q : Qs (x0 :: x1 :: x2 :: x3 :: x4 :: x5 :: x6 :: x7 :: x8 :: x9 :: x10 :: x11 :: x12 :: x13 :: x14 :: x15 :: x16 :: x17 :: x18 :: x19 :: some v :: r) H) : gName 20 v (x0 :: x1 :: x2 :: x3 :: x4 :: x5 :: x6 :: x7 :: x8 :: x9 :: x10 :: x11 :: x12 :: x13 :: x14 :: x15 :: x16 :: x17 :: x18 :: x19 :: x20 :: r) H Qs := q
theorem g_name21 {x0 x1 x2 x3 x4 x5 x6 x7 x8 x9 x10 x11 x12 x13 x14 x15 x16 x17 x18 x19 x20 x21 : Option V} {r : L2.St} {Qs : L2.St → Hp → Prop} (q : Qs (x0 :: x1 :: x2 :: x3 :: x4 :: x5 :: x6 :: x7 :: x8 :: x9 :: x10 :: x11 :: x12 :: x13 :: x14 :: x15 :: x16 :: x17 :: x18 :: x19 :: x20 :: some v :: r) H) : gName 21 v (x0 :: x1 :: x2 :: x3 :: x4 :: x5 :: x6 :: x7 :: x8 :: x9 :: x10 :: x11 :: x12 :: x13 :: x14 :: x15 :: x16 :: x17 :: x18 :: x19 :: x20 :: x21 :: r) H Qs := q
theorem g_name22 {x0 x1 x2 x3 x4 x5 x6 x7 x8 x9 x10 x11 x12 x13 x14 x15 x16 x17 x18 x19 x20 x21 x22 : Option V} {r : L2.St} {Qs : L2.St → Hp → Prop} (q : Qs (x0 :: x1 :: x2 :: x3 :: x4 :: x5 :: x6 :: x7 :: x8 :: x9 :: x10 :: x11 :: x12 :: x13 :: x14 :: x15 :: x16 :: x17 :: x18 :: x19 :: x20 :: x21 :: some v :: r) H) : gName 22 v (x0 :: x1 :: x2 :: x3 :: x4 :: x5 :: x6 :: x7 :: x8 :: x9 :: x10 :: x11 :: x12 :: x13 :: x14 :: x15 :: x16 :: x17 :: x18 :: x19 :: x20 :: x21 :: x22 :: r) H Qs := q
theorem g_name23 {x0 x1 x2 x3 x4 x5 x6 x7 x8 x9 x10 x11 x12 x13 x14 x15 x16 x17 x18 x19 x20 x21 x22 x23 : Option V} {r : L2.St} {Qs : L2.St → Hp → Prop} (q : Qs (x0 :: x1 :: x2 :: x3 :: x4 :: x5 :: x6 :: x7 :: x8 :: x9 :: x10 :: x11 :: x12 :: x13 :: x14 :: x15 :: x16 :: x17 :: x18 :: x19 :: x20 :: x21 :: x22 :: some v :: r) H) : gName 23 v (x0 :: x1 :: x2 :: x3 :: x4 :: x5 :: x6 :: x7 :: x8 :: x9 :: x10 :: x11 :: x12 :: x13 :: x14 :: x15 :: x16 :: x17 :: x18 :: x19 :: x20 :: x21 :: x22 :: x23 :: r) H Qs := q
theorem g_name24 {x0 x1 x2 x3 x4 x5 x6 x7 x8 x9 x10 x11 x12 x13 x14 x15 x16 x17 x18 x19 x20 x21 x22 x23 x24 : Option V} {r : L2.St} {Qs : L2.St → Hp → Prop} (q : Qs (x0 :: x1 :: x2 :: x3 :: x4 :: x5 :: x6 :: x7 :: x8 :: x9 :: x10 :: x11 :: x12 :: x13 :: x14 :: x15 :: x16 :: x17 :: x18 :: x19 :: x20 :: x21 :: x22 :: x23 :: some v :: r) H) : gName 24 v (x0 :: x1 :: x2 :: x3 :: x4 :: x5 :: x6 :: x7 :: x8 :: x9 :: x10 :: x11 :: x12 :: x13 :: x14 :: x15 :: x16 :: x17 :: x18 :: x19 :: x20 :: x21 :: x22 :: x23 :: x24 :: r) H Qs := q
theorem g_name25 {x0 x1 x2 x3 x4 x5 x6 x7 x8 x9 x10 x11 x12 x13 x14 x15 x16 x17 x18 x19 x20 x21 x22 x23 x24 x25 : Option V} {r : L2.St} {Qs : L2.St → Hp → Prop} (q : Qs (x0 :: x1 :: x2 :: x3 :: x4 :: x5 :: x6 :: x7 :: x8 :: x9 :: x10 :: x11 :: x12 :: x13 :: x14 :: x15 :: x16 :: x17 :: x18 :: x19 :: x20 :: x21 :: x22 :: x23 :: x24 :: some v :: r) H) : gName 25 v (x0 :: x1 :: x2 :: x3 :: x4 :: x5 :: x6 :: x7 :: x8 :: x9 :: x10 :: x11 :: x12 :: x13 :: x14 :: x15 :: x16 :: x17 :: x18 :: x19 :: x20 :: x21 :: x22 :: x23 :: x24 :: x25 :: r) H Qs := q
theorem g_start {t : TS} {σ' : L2.St} (h : σ' = σ) (q : t D σ H) : t D σ' H := h ▸ q
theorem g_ifS (q : t σ H fun b H1 => if b = true then s1 D σ H1 else s2 D σ H1) : tIfS t s1 s2 D σ H := q
theorem g_ret (q : te σ H D.rt) : tRet te D σ H := q
theorem g_retN (q : D.rt .non H) : tRetN D σ H := q
theorem g_drop (q : te σ H fun _ H1 => D.nx σ H1) : tDrop te D σ H := q
theorem g_next (q : D.nx σ H) : tNext D σ H := q
theorem g_ixL {K : PySem.W.Frag} {p : Addr} {xs : List V} (h : SqL K H p xs) (h2 : atI xs a = some v) (q : Q v H) : rIxL K (.ref p) (.int a) H Q := ⟨p, xs, a, v, rfl, rfl, h, h2, q⟩
theorem g_ixAny {K : PySem.W.Frag} {p : Addr} {xs : List V} (h : SqL K H p xs) (h0 : 0 ≤ a) (h1 : a < (xs.length : Int)) (q : ∀ v, v ∈ xs → Q v H) : rIxL K (.ref p) (.int a) H Q := by
  obtain ⟨j, rfl⟩ : ∃ j : Nat, a = (j : Int) := ⟨a.toNat, by omega⟩
  have hl : j < xs.length := by omega
  exact ⟨p, xs, _, xs[j], rfl, rfl, h, atI_nat (by simp [hl]), q _ (List.getElem_mem hl)⟩
theorem g_ixT {K : PySem.W.Frag} {p : Addr} {xs : List V} (h : SqT K H p xs) (h2 : atI xs a = some v) (q : Q v H) : rIxT K (.ref p) (.int a) H Q := ⟨p, xs, a, v, rfl, rfl, h, h2, q⟩
theorem ite_nT {A B : Prop} (h : B) : if (!true) = true then A else B := h
theorem ite_nF {A B : Prop} (h : A) : if (!false) = true then A else B := h
theorem ite_dec {c : Prop} [Decidable c] {A B : Prop} (h1 : c → A) (h2 : ¬ c → B) : if decide c = true then A else B := by
  by_cases h : c
  · rw [if_pos (decide_eq_true h)]
    exact h1 h
  · rw [if_neg (by rw [decide_eq_false h]; decide)]
    exact h2 h
theorem ite_ndec {c : Prop} [Decidable c] {A B : Prop} (h1 : ¬ c → A) (h2 : c → B) : if (!decide c) = true then A else B := by
  by_cases h : c
  · rw [if_neg (by rw [decide_eq_true h]; decide)]
    exact h2 h
  · rw [if_pos (by rw [decide_eq_false h]; decide)]
    exact h1 h
theorem ite_eqT {x : V} {A B : Prop} (h : A) : if decide (x = x) = true then A else B := by
  rw [if_pos (decide_eq_true rfl)]
  exact h
theorem ite_neF {x : V} {A B : Prop} (h : B) : if (!decide (x = x)) = true then A else B := by
  rw [if_neg (by rw [decide_eq_true rfl]; decide)]
  exact h
theorem ite_strF {s t : Str} {A B : Prop} (hs : s ≠ t) (h : B) : if decide (V.str s = V.str t) = true then A else B := by
  rw [if_neg (by rw [decide_eq_false (fun z => hs (V.str.inj z))]; decide)]
  exact h
theorem ite_strT {s t : Str} {A B : Prop} (hs : s ≠ t) (h : A) : if (!decide (V.str s = V.str t)) = true then A else B := by
  rw [if_pos (by rw [decide_eq_false (fun z => hs (V.str.inj z))]; decide)]
  exact h
theorem ite_bool {c : Bool} {A B : Prop} (h1 : c = true → A) (h2 : c = false → B) : if c = true then A else B := by
  cases c with
  | true => exact iteT (h1 rfl)
  | false => exact iteF (h2 rfl)
end
/-! ### heaps -/
theorem Same.at {H H' : Hp} (e : Same H H') {b : Addr} {o : HO} (h : H b = some o) : H' b = some o := e b o h
theorem Same.new {H : Hp} {p : Addr} {o : HO} (h : H p = none) : Same H (upd H p o) := fun a u e => by
  rw [upd_ne (ne_of_none e h)]
  exact e
theorem Same.seqT {K : PySem.W.Frag} {H H' : Hp} {a : Addr} {xs : List V} (e : Same H H') (h : SqT K H a xs) : SqT K H' a xs := by
  rcases h with (h | ⟨o, h⟩) | h
  · exact .inl (.inl (e _ _ h))
  · exact .inl (.inr ⟨o, e _ _ h⟩)
  · exact .inr h
theorem upd_old {H : Hp} {a p : Addr} {o u : HO} (h : H a = some o) (hp : H p = none) : upd H p u a = some o := by
  rw [upd_ne (ne_of_none h hp)]
  exact h
theorem sz {n : Nat} (h : n ≤ 100000) : n ≤ sizeLine := Nat.le_trans h (by decide)
theorem szl {n : Nat} (h : n < 100000) : n < sizeLine := Nat.lt_of_lt_of_le h (by decide)
theorem int_at {ns : List Int} {i : Nat} {y : V} (h : (ns.map V.int)[i]? = some y) : ∃ z, y = V.int z ∧ ns[i]? = some z := by
  rw [List.getElem?_map] at h
  cases e : ns[i]? with
  | none => rw [e] at h; cases h
  | some z => rw [e] at h; exact ⟨z, (Option.some.inj h).symm, rfl⟩
/-- all that is tracked stays, but what stands at a -/
def Kp (a : Addr) (H H' : Hp) : Prop := ∀ b o, H b = some o → b ≠ a → H' b = some o
theorem Kp.refl {a : Addr} {H : Hp} : Kp a H H := fun _ _ h _ => h
theorem Kp.trans {a : Addr} {H H1 H2 : Hp} (x : Kp a H H1) (y : Kp a H1 H2) : Kp a H H2 := fun b o h n => y b o (x b o h n) n
theorem Kp.same {a : Addr} {H H' : Hp} (e : Same H H') : Kp a H H' := fun b o h _ => e b o h
theorem Kp.upd {a : Addr} {H : Hp} {o : HO} : Kp a H (upd H a o) := fun b u h n => by
  rw [upd_ne n]
  exact h
/-- the drawing state at a: the script at s, how many cells are begun, two numbers more -/
structure Dr (K : PySem.W.Frag) (a s : Addr) (H : Hp) : Prop where
  ex : ∃ (ns : List Int) (i m l : Int), H a = some (.lst [.ref s, .int i, .int m, .int l]) ∧ (∀ o, SqL K (upd H a o) s (ns.map V.int)) ∧ ns.length ≤ 63 ∧ 0 ≤ i
theorem Same.upd {H H' : Hp} (e : Same H H') (a : Addr) (o : HO) : Same (upd H a o) (upd H' a o) := fun b u h => by
  by_cases hb : b = a
  · subst hb
    rw [upd_same] at h ⊢
    exact h
  · rw [upd_ne hb] at h ⊢
    exact e b u h
theorem Dr.same {K : PySem.W.Frag} {a s : Addr} {H H' : Hp} (d : Dr K a s H) (e : Same H H') : Dr K a s H' := by
  obtain ⟨ns, i, m, l, h1, h2, h3, h4⟩ := d.ex
  exact ⟨ns, i, m, l, e _ _ h1, fun o => (Same.upd e a o).seq (h2 o), h3, h4⟩
theorem Dr.ne {K : PySem.W.Frag} {a s p : Addr} {H : Hp} (d : Dr K a s H) (h : H p = none) : p ≠ a := by
  obtain ⟨ns, i, m, l, h1, _⟩ := d.ex
  exact (ne_of_none h1 h).symm
theorem Dr.ne2 {K : PySem.W.Frag} {a s p : Addr} {H : Hp} (h : H p = none) (d : Dr K a s H) : p ≠ a := d.ne h
theorem upd_self {H : Hp} {a : Addr} {o : HO} (h : H a = some o) : L2.upd H a o = H := by
  funext b
  by_cases hb : b = a
  · subst hb
    rw [upd_same, h]
  · rw [upd_ne hb]
/-- a new thing, not known to H, is changed: the state stays one -/
theorem Dr.mut {K : PySem.W.Frag} {a s D : Addr} {H H' : Hp} {o : HO} (d : Dr K a s H) (d' : Dr K a s H') (h : H D = none) : Dr K a s (L2.upd H' D o) := by
  obtain ⟨ns, i, m, l, h1, h2, h3, h4⟩ := d.ex
  obtain ⟨ns', i', m', l', g1, g2, g3, g4⟩ := d'.ex
  have nDa : a ≠ D := ne_of_none h1 h
  rcases h2 (.tbl #[]) with hr | hk
  · have nDs : s ≠ D := fun e => by
      subst e
      have z : L2.upd H a (.tbl #[]) s = none := by rw [upd_ne nDa.symm]; exact h
      rcases hr with hr | ⟨_, hr⟩ <;> rw [z] at hr <;> cases hr
    refine ⟨ns', i', m', l', by rw [upd_ne nDa]; exact g1, fun o' => ?_, g3, g4⟩
    have e : L2.upd (L2.upd H' D o) a o' s = L2.upd H' a o' s := by
      by_cases z : s = a
      · subst z; rw [upd_same, upd_same]
      · rw [upd_ne z, upd_ne z, upd_ne nDs]
    rcases g2 o' with q | q
    · refine .inl ?_
      rcases q with q | ⟨u, q⟩
      · exact .inl (e.trans q)
      · exact .inr ⟨u, e.trans q⟩
    · exact .inr q
  · exact ⟨ns, i', m', l', by rw [upd_ne nDa]; exact g1, fun o' => .inr hk, h3, g4⟩
/-- a def that only draws: the state stays a state, all else stays -/
structure Go (K : PySem.W.Frag) (a s : Addr) (H H' : Hp) : Prop where
  dr : Dr K a s H'
  kp : Kp a H H'
section
variable {K : PySem.W.Frag} {a s b D : Addr} {H H1 H2 H' : Hp} {o : HO}
theorem Go.trans (x : Go K a s H H1) (y : Go K a s H1 H2) : Go K a s H H2 := ⟨y.dr, x.kp.trans y.kp⟩
theorem Go.same (d : Dr K a s H) (e : Same H H') : Go K a s H H' := ⟨d.same e, Kp.same e⟩
theorem Go.refl (d : Dr K a s H) : Go K a s H H := ⟨d, Kp.refl⟩
theorem Go.at (x : Go K a s H H') (h : H b = some o) (n : b ≠ a) : H' b = some o := x.kp b o h n
theorem Go.then (x : Go K a s H H1) (e : Same H1 H2) : Go K a s H H2 := ⟨x.dr.same e, x.kp.trans (Kp.same e)⟩
/-- behind a new thing -/
theorem Go.pre (x : Go K a s H1 H2) (e : Same H H1) : Go K a s H H2 := ⟨x.dr, (Kp.same e).trans x.kp⟩
theorem Go.new (x : Go K a s (upd H D o) H2) (h : H D = none) : Go K a s H H2 := x.pre (Same.new h)
theorem Go.mut (g : Go K a s H H') (d : Dr K a s H) (h : H D = none) : Go K a s H (L2.upd H' D o) := ⟨d.mut g.dr h, fun b u hb hn => by
  rw [upd_ne (ne_of_none hb h)]
  exact g.kp b u hb hn⟩
theorem Go.seq {xs : List V} {p : Addr} (g : Go K a s H H') (h : SqL K H p xs) (n : p ≠ a) : SqL K H' p xs := by
  rcases h with (h | ⟨o, h⟩) | h
  · exact .inl (.inl (g.kp _ _ h n))
  · exact .inl (.inr ⟨o, g.kp _ _ h n⟩)
  · exact .inr h
end
theorem Same.mut {H H' : Hp} {D : Addr} {o : HO} (e : Same H H') (h : H D = none) : Same H (L2.upd H' D o) := fun b u hb => by
  rw [upd_ne (ne_of_none hb h)]
  exact e b u hb
/-! ### comprehensions: J tells of the turn, of what is made so far, of the heap; it does not look at the new list D -/
def LcP (J : Nat → List V → Hp → Prop) (D : Addr) (i : Nat) (H : Hp) : Prop := ∃ acc, J i acc H ∧ H D = some (.lst acc) ∧ acc.length ≤ i
section
variable {K : PySem.W.Frag} {a : Addr} {xs : List V} {g : TG} {tt : TT} {te : TE} {vs : List Nat} {σ : L2.St} {H1 : Hp} {D : Addr} {Qd : Hp → Prop}
theorem lc_leaf {J : Nat → List V → Hp → Prop} {i : Nat} {acc : List V} {H : Hp} {y : V} (hI : ∀ i acc H o, J i acc H → J i acc (upd H D o)) (hD : H D = some (.lst acc)) (hl : acc.length ≤ i) (hi : i < 100000) (hJ : J (i + 1) (acc ++ [y]) H) :
    ∃ acc, H D = some (.lst acc) ∧ acc.length < sizeLine ∧ LcP J D (i + 1) (upd H D (.lst (acc ++ [y]))) :=
  ⟨acc, hD, szl (by omega), acc ++ [y], hI _ _ _ _ hJ, upd_same, by rw [List.length_append, List.length_singleton]; omega⟩
theorem lc_skip {J : Nat → List V → Hp → Prop} {i : Nat} {acc : List V} {H : Hp} (hD : H D = some (.lst acc)) (hl : acc.length ≤ i) (hJ : J (i + 1) acc H) : LcP J D (i + 1) H := ⟨acc, hJ, hD, by omega⟩
theorem lc_L (J : Nat → List V → Hp → Prop) (hI : ∀ i acc H o, J i acc H → J i acc (upd H D o)) (h0 : J 0 [] H1) (hl : ∀ i acc H, J i acc H → SqL K H a xs)
    (hs : ∀ i x acc H, xs[i]? = some x → J i acc H → H D = some (.lst acc) → acc.length ≤ i → g x (wipe σ vs) H fun σ2 H2 => wipe σ2 vs = wipe σ vs ∧ tt σ2 H2 fun b H3 =>
      if b = true then te σ2 H3 fun y H4 => ∃ acc, H4 D = some (.lst acc) ∧ acc.length < sizeLine ∧ LcP J D (i + 1) (upd H4 D (.lst (acc ++ [y]))) else LcP J D (i + 1) H3)
    (hd : ∀ acc H, J xs.length acc H → H D = some (.lst acc) → Qd H) :
    ∃ W : Nat → Nat → Hp → Prop, (∃ m, W 0 m (upd H1 D (.lst []))) ∧ ∀ i m H, W i m H →
      ((Itl K a).stop i H ∧ Qd H) ∨ ((Itl K a).go i H ∧ ∃ Nx : Hp → Prop, (∀ H', Nx H' → ∃ m', m' < m ∧ W (i + 1) m' H') ∧ ∀ x H', (Itl K a).yld i H x H' → g x (wipe σ vs) H' fun σ2 H2 => wipe σ2 vs = wipe σ vs ∧ tt σ2 H2 fun b H3 =>
        if b = true then te σ2 H3 fun y H4 => ∃ acc, H4 D = some (.lst acc) ∧ acc.length < sizeLine ∧ Nx (upd H4 D (.lst (acc ++ [y]))) else Nx H3) :=
  lc_list (K := K) (a := a) (xs := xs) (LcP J D) ⟨[], hI _ _ _ _ h0, upd_same, Nat.le_refl _⟩ (fun i H _ ⟨acc, h, _⟩ => hl i acc H h) (fun i x H hi ⟨acc, hJ, hD, hlen⟩ => hs i x acc H hi hJ hD hlen) (fun H ⟨acc, h1, h2, _⟩ => hd acc H h1 h2)
theorem lc_R (lo : Int) (n : Nat) (J : Nat → List V → Hp → Prop) (hI : ∀ i acc H o, J i acc H → J i acc (upd H D o)) (h0 : J 0 [] H1)
    (hs : ∀ i acc H, i < n → J i acc H → H D = some (.lst acc) → acc.length ≤ i → g (.int (lo + i)) (wipe σ vs) H fun σ2 H2 => wipe σ2 vs = wipe σ vs ∧ tt σ2 H2 fun b H3 =>
      if b = true then te σ2 H3 fun y H4 => ∃ acc, H4 D = some (.lst acc) ∧ acc.length < sizeLine ∧ LcP J D (i + 1) (upd H4 D (.lst (acc ++ [y]))) else LcP J D (i + 1) H3)
    (hd : ∀ acc H, J n acc H → H D = some (.lst acc) → Qd H) :
    ∃ W : Nat → Nat → Hp → Prop, (∃ m, W 0 m (upd H1 D (.lst []))) ∧ ∀ i m H, W i m H →
      ((Itr lo n).stop i H ∧ Qd H) ∨ ((Itr lo n).go i H ∧ ∃ Nx : Hp → Prop, (∀ H', Nx H' → ∃ m', m' < m ∧ W (i + 1) m' H') ∧ ∀ x H', (Itr lo n).yld i H x H' → g x (wipe σ vs) H' fun σ2 H2 => wipe σ2 vs = wipe σ vs ∧ tt σ2 H2 fun b H3 =>
        if b = true then te σ2 H3 fun y H4 => ∃ acc, H4 D = some (.lst acc) ∧ acc.length < sizeLine ∧ Nx (upd H4 D (.lst (acc ++ [y]))) else Nx H3) :=
  lc_range (lo := lo) (n := n) (LcP J D) ⟨[], hI _ _ _ _ h0, upd_same, Nat.le_refl _⟩ (fun i H hi ⟨acc, hJ, hD, hlen⟩ => hs i acc H hi hJ hD hlen) (fun H ⟨acc, h1, h2, _⟩ => hd acc H h1 h2)
theorem g_for {wi : TI} {tb : TS} {D : Ends} {H : Hp} (q : wi σ H fun J H1 => ∃ W : Nat → Nat → L2.St → Hp → Prop, (∃ m, W 0 m σ H1) ∧ ∀ i m σ H, W i m σ H →
  (J.stop i H ∧ D.nx σ H) ∨ (J.go i H ∧ ∃ N : L2.St → Hp → Prop, (∀ σ' H', N σ' H' → ∃ m', m' < m ∧ W (i + 1) m' σ' H') ∧ ∀ x H', J.yld i H x H' → g x σ H' fun σ2 H2 => tb { D with nx := N, ct := N, bk := D.nx } σ2 H2)) : tFor wi g tb D σ H := q
theorem g_lc {wi : TI} {H : Hp} {Q : VK} (q : wi σ H fun J H1 => ∀ D, H1 D = none → ∃ W : Nat → Nat → Hp → Prop, (∃ m, W 0 m (upd H1 D (.lst []))) ∧ ∀ i m H, W i m H →
  (J.stop i H ∧ Q (.ref D) H) ∨ (J.go i H ∧ ∃ Nx : Hp → Prop, (∀ H', Nx H' → ∃ m', m' < m ∧ W (i + 1) m' H') ∧ ∀ x H', J.yld i H x H' → g x (wipe σ vs) H' fun σ2 H2 => wipe σ2 vs = wipe σ vs ∧ tt σ2 H2 fun b H3 =>
    if b = true then te σ2 H3 fun y H4 => ∃ acc, H4 D = some (.lst acc) ∧ acc.length < sizeLine ∧ Nx (upd H4 D (.lst (acc ++ [y]))) else Nx H3)) : tLc wi g tt te vs σ H Q := q
theorem g_iL {tl : TE} {H : Hp} {R : It → Hp → Prop} (q : tl σ H fun x H1 => ∃ a, x = .ref a ∧ (∃ xs, SqL K H1 a xs) ∧ R (Itl K a) H1) : iList K tl σ H R := q
theorem g_iT {tl : TE} {H : Hp} {R : It → Hp → Prop} (q : tl σ H fun x H1 => ∃ a, x = .ref a ∧ (∃ xs, SqT K H1 a xs) ∧ R (Itt K a) H1) : iTup K tl σ H R := q
theorem g_iR1 {ta : TA} {H : Hp} {R : It → Hp → Prop} (q : ta σ H fun vs H1 => ∃ j : Int, vs = [.int j] ∧ -(2 ^ 62) ≤ j ∧ j < 2 ^ 62 ∧ R (Itr 0 j.toNat) H1) : iRng1 ta σ H R := q
theorem g_iR2 {ta : TA} {H : Hp} {R : It → Hp → Prop} (q : ta σ H fun vs H1 => ∃ i j : Int, vs = [.int i, .int j] ∧ (-(2 ^ 62) ≤ i ∧ i < 2 ^ 62 ∧ -(2 ^ 62) ≤ j ∧ j < 2 ^ 62) ∧ R (Itr i (j - i).toNat) H1) : iRng2 ta σ H R := q
theorem g_iE {ta : TA} {H : Hp} {R : It → Hp → Prop} (q : ta σ H fun vs H1 => ∃ a xs, vs = [.ref a] ∧ SqL K H1 a xs ∧ R (Ite K a) H1) : iEnum K ta σ H R := q
theorem g_bm {T : String} {r : V → List V → Hp → VK → Prop} {to : TE} {t : TA} {H : Hp} {Q : VK} (q : to σ H fun x H1 => tyV K T x H1 ∧ t σ H1 fun xs H2 => r x xs H2 Q) : tBM K T r to t σ H Q := q
theorem g_app {p : Addr} {xs : List V} {y : V} {H : Hp} {Q : VK} (h : H p = some (.lst xs)) (hl : xs.length < 100000) (q : Q .non (upd H p (.lst (xs ++ [y])))) : rAppend (.ref p) [y] H Q := ⟨p, xs, y, rfl, rfl, h, szl hl, q⟩
theorem g_tyL {p : Addr} {xs : List V} {H : Hp} {B : Prop} (h : SqL K H p xs) (q : B) : tyV K "list" (.ref p) H ∧ B := ⟨Or.inl ⟨rfl, xs, h⟩, q⟩
theorem g_cat {p r : Addr} {xs ys : List V} {H : Hp} {Q : VK} (h : H p = some (.lst xs)) (h2 : H r = some (.lst ys)) (hl : xs.length + ys.length ≤ 100000) (q : ∀ l, H l = none → Q (.ref l) (upd H l (.lst (xs ++ ys)))) : rCat (.ref p) (.ref r) H Q := ⟨p, r, xs, ys, rfl, rfl, h, h2, sz hl, q⟩
/-- what follows a test is shown once, from M -/
theorem g_cut {t : TT} {H : Hp} {QB : Bool → Hp → Prop} (M : Bool → Hp → Prop) (h : ∀ QB' : Bool → Hp → Prop, (∀ b H', M b H' → QB' b H') → t σ H QB') (q : ∀ b H', M b H' → QB b H') : t σ H QB := h QB q
/-- .. an expression -/
theorem g_cutE {t : TE} {H : Hp} {Q : VK} (M : V → Hp → Prop) (h : ∀ Q' : VK, (∀ v H', M v H' → Q' v H') → t σ H Q') (q : ∀ v H', M v H' → Q v H') : t σ H Q := h Q q
/-- .. a statement -/
theorem g_cutS {t : TS} {D : Ends} {H : Hp} (M : L2.St → Hp → Prop) (h : ∀ N : L2.St → Hp → Prop, (∀ σ' H', M σ' H' → N σ' H') → t { D with nx := N } σ H) (q : ∀ σ' H', M σ' H' → D.nx σ' H') : t D σ H := h D.nx q
theorem g_yes {QB : Bool → Hp → Prop} {H : Hp} (q : QB true H) : tYes σ H QB := q
theorem g_tup2 {g1 g2 : TG} {x y : V} {p : Addr} {H : Hp} {Qs : L2.St → Hp → Prop} (h : SqT K H p [x, y]) (q : g1 x σ H fun σ1 H2 => g2 y σ1 H2 Qs) : gTup K 2 (gCons g1 (gCons g2 gNil)) (.ref p) σ H Qs := by
  refine ⟨p, _, rfl, h, rfl, x, _, rfl, ?_⟩
  revert q
  intro q
  exact (show (g1 x σ H fun σ1 H2 => ∃ v r, [y] = v :: r ∧ g2 v σ1 H2 fun σ' H' => r = [] ∧ Qs σ' H') from by
    have e : (fun (σ1 : L2.St) (H2 : Hp) => ∃ (v : V) (r : List V), [y] = v :: r ∧ g2 v σ1 H2 fun σ' H' => r = [] ∧ Qs σ' H') = fun σ1 H2 => g2 y σ1 H2 Qs := by
      funext σ1 H2
      refine propext ⟨?_, ?_⟩
      · rintro ⟨v, r, e, h⟩
        cases e
        have e2 : (fun (σ' : L2.St) (H' : Hp) => ([] : List V) = [] ∧ Qs σ' H') = Qs := by
          funext σ' H'
          exact propext ⟨fun h => h.2, fun h => ⟨rfl, h⟩⟩
        rw [e2] at h
        exact h
      · intro h
        refine ⟨y, [], rfl, ?_⟩
        have e2 : (fun (σ' : L2.St) (H' : Hp) => ([] : List V) = [] ∧ Qs σ' H') = Qs := by
          funext σ' H'
          exact propext ⟨fun h => h.2, fun h => ⟨rfl, h⟩⟩
        rw [e2]
        exact h
    rw [e]
    exact q)
/-- loops, what follows and the body any way -/
theorem for_E {H : Hp} {B : (L2.St → Hp → Prop) → L2.St → Hp → Prop} {nx : L2.St → Hp → Prop} (Pv : Nat → L2.St → Hp → Prop) (h0 : Pv 0 σ H) (hl : ∀ i σ H, i ≤ xs.length → Pv i σ H → SqL K H a xs)
    (hs : ∀ i x σ H T, xs[i]? = some x → Pv i σ H → H T = none → g (.ref T) σ (upd H T (.tup [.int (i : Nat), x])) fun σ2 H2 => B (Pv (i + 1)) σ2 H2) (hd : ∀ σ H, Pv xs.length σ H → nx σ H) :
    ∃ W : Nat → Nat → L2.St → Hp → Prop, (∃ m, W 0 m σ H) ∧ ∀ i m σ H, W i m σ H →
      ((Ite K a).stop i H ∧ nx σ H) ∨ ((Ite K a).go i H ∧ ∃ N : L2.St → Hp → Prop, (∀ σ' H', N σ' H' → ∃ m', m' < m ∧ W (i + 1) m' σ' H') ∧ ∀ x H', (Ite K a).yld i H x H' → g x σ H' fun σ2 H2 => B N σ2 H2) := by
  refine ⟨fun i m σ H => m = xs.length - i ∧ i ≤ xs.length ∧ Pv i σ H, ⟨xs.length, by simp, Nat.zero_le _, h0⟩, ?_⟩
  rintro i m σ H ⟨rfl, hi, p⟩
  have q := hl i σ H hi p
  by_cases hlt : i < xs.length
  · refine .inr ⟨⟨xs, xs[i], q, by simp [hlt]⟩, Pv (i + 1), fun σ' H' p' => ⟨xs.length - (i + 1), by omega, rfl, hlt, p'⟩, fun x H' y => ?_⟩
    obtain ⟨T, z, e1, e2, e3, e4⟩ := y
    subst e1 e3
    exact hs i z σ H T (e4 xs q) p e2
  · have e : i = xs.length := by omega
    subst e
    exact .inl ⟨⟨xs, q, Nat.le_refl _⟩, hd σ H p⟩
theorem for_L {H : Hp} {B : (L2.St → Hp → Prop) → L2.St → Hp → Prop} {nx : L2.St → Hp → Prop} (Pv : Nat → L2.St → Hp → Prop) (h0 : Pv 0 σ H) (hl : ∀ i σ H, i ≤ xs.length → Pv i σ H → SqL K H a xs)
    (hs : ∀ i x σ H, xs[i]? = some x → Pv i σ H → g x σ H fun σ2 H2 => B (Pv (i + 1)) σ2 H2) (hd : ∀ σ H, Pv xs.length σ H → nx σ H) :
    ∃ W : Nat → Nat → L2.St → Hp → Prop, (∃ m, W 0 m σ H) ∧ ∀ i m σ H, W i m σ H →
      ((Itl K a).stop i H ∧ nx σ H) ∨ ((Itl K a).go i H ∧ ∃ N : L2.St → Hp → Prop, (∀ σ' H', N σ' H' → ∃ m', m' < m ∧ W (i + 1) m' σ' H') ∧ ∀ x H', (Itl K a).yld i H x H' → g x σ H' fun σ2 H2 => B N σ2 H2) := by
  refine ⟨fun i m σ H => m = xs.length - i ∧ i ≤ xs.length ∧ Pv i σ H, ⟨xs.length, by simp, Nat.zero_le _, h0⟩, ?_⟩
  rintro i m σ H ⟨rfl, hi, p⟩
  have q := hl i σ H hi p
  by_cases hlt : i < xs.length
  · refine .inr ⟨⟨xs, xs[i], q, by simp [hlt]⟩, Pv (i + 1), fun σ' H' p' => ⟨xs.length - (i + 1), by omega, rfl, hlt, p'⟩, fun x H' y => ?_⟩
    obtain ⟨e, y⟩ := y
    subst e
    exact hs i x σ _ (y xs q) p
  · have e : i = xs.length := by omega
    subst e
    exact .inl ⟨⟨xs, q, Nat.le_refl _⟩, hd σ H p⟩
theorem for_R {H : Hp} {lo : Int} {n : Nat} {B : (L2.St → Hp → Prop) → L2.St → Hp → Prop} {nx : L2.St → Hp → Prop} (Pv : Nat → L2.St → Hp → Prop) (h0 : Pv 0 σ H)
    (hs : ∀ i σ H, i < n → Pv i σ H → g (.int (lo + i)) σ H fun σ2 H2 => B (Pv (i + 1)) σ2 H2) (hd : ∀ σ H, Pv n σ H → nx σ H) :
    ∃ W : Nat → Nat → L2.St → Hp → Prop, (∃ m, W 0 m σ H) ∧ ∀ i m σ H, W i m σ H →
      ((Itr lo n).stop i H ∧ nx σ H) ∨ ((Itr lo n).go i H ∧ ∃ N : L2.St → Hp → Prop, (∀ σ' H', N σ' H' → ∃ m', m' < m ∧ W (i + 1) m' σ' H') ∧ ∀ x H', (Itr lo n).yld i H x H' → g x σ H' fun σ2 H2 => B N σ2 H2) := by
  refine ⟨fun i m σ H => m = n - i ∧ i ≤ n ∧ Pv i σ H, ⟨n, by simp, Nat.zero_le _, h0⟩, ?_⟩
  rintro i m σ H ⟨rfl, hi, p⟩
  by_cases hlt : i < n
  · refine .inr ⟨hlt, Pv (i + 1), fun σ' H' p' => ⟨n - (i + 1), by omega, rfl, hlt, p'⟩, fun x H' y => ?_⟩
    obtain ⟨e, y⟩ := y
    subst e y
    exact hs i σ _ hlt p
  · have e : i = n := by omega
    subst e
    exact .inl ⟨Nat.le_refl _, hd σ H p⟩
end
end My
namespace My
open PySem PySem.Spec PyProof.Rows L2
structure Fn (K : PySem.W.Frag) (mg : Str → Option Value) (x : Str) (st : Stmt) : Prop where
  ex : ∃ (f : Addr) (fd : FuncData), Fun K x x st f fd ∧ mg x = some (.ref f)
section
variable {P : Program} {w : World} {K : PySem.W.Frag} {mg : Str → Option Value} {base : Heap}
theorem Knows.mk' {x : Str} {st : Stmt} {N ps : List Str} {k : Nat} {sp : Sp} (D : Fn K mg x st) (S : FnScope N ps (defScope st))
    (hb : ∀ (kV doc pm : Value) (an : Option Addr) (cdv ct : Value) (us : List Value), us.length = ps.length → bindArgs (PySem.W.fnOf x x (defArgs st) (defBody st) (defScope st) .none kV doc pm an cdv ct) ⟨us, []⟩ = pure (ps.zip us))
    (len : ∀ vs H Q E, sp vs H Q E → vs.length = ps.length)
    (hbody : ∀ (f : Addr) (cdv : Value) (A : Around) (outer : List Env) (s : Shared) (H : Hp) (vs : List V) (Q : VK) (E : XK), Room k (A.deeper (envOfC x (defScope st) s.heap.objs.size f cdv)) → sp vs H Q E →
      ∃ t, PSs (cxOf (L2.CX P w) P w K mg base N x (defScope st) f cdv A outer s H E) (defBody st) t ∧ t { nx := fun _ H' => Q .non H', rt := Q } (start N vs) H) : Knows P w K mg base (k + 1) x ps sp := by
  obtain ⟨f, fd, F, g⟩ := D.ex
  exact ⟨f, fd, F.okX S len fun cdv A outer s H vs Q E hr h => hbody f cdv A outer s H vs Q E hr h, g, F.kp, F.binds hb⟩
theorem fnok_mk {x : Str} {st : Stmt} {f : Addr} {fd : FuncData} {N ps : List Str} {k : Nat} {sp : Sp} (F : Fun K x x st f fd) (S : FnScope N ps (defScope st)) (len : ∀ vs H Q E, sp vs H Q E → vs.length = ps.length)
    (hbody : ∀ (cdv : Value) (A : Around) (outer : List Env) (s : Shared) (H : Hp) (vs : List V) (Q : VK) (E : XK), Room k (A.deeper (envOfC x (defScope st) s.heap.objs.size f cdv)) → sp vs H Q E →
      ∃ t, PSs (cxOf (L2.CX P w) P w K mg base N x (defScope st) f cdv A outer s H E) (defBody st) t ∧ t { nx := fun _ H' => Q .non H', rt := Q } (start N vs) H) : FnOk P w K mg base (L2.CX P w) (k + 1) f fd ps sp :=
  F.okX S len fun cdv A outer s H vs Q E hr h => hbody cdv A outer s H vs Q E hr h
theorem Knows.mono {x : Str} {ps : List Str} {j k : Nat} {sp : Sp} (c : Knows P w K mg base j x ps sp) (h : j ≤ k) : Knows P w K mg base k x ps sp := by
  obtain ⟨f, fd, F, a, b, d⟩ := c.ex
  exact ⟨f, fd, F.mono h, a, b, d⟩
end
theorem pe_powc {X : Cx} {a b v : Int} {j1 j2 : Nat} {p1 p2 pos : Pos} (h : CPow a b) (e : a ^ b.toNat = v) : PE X (.BinOp (.Constant (.int a) j1 p1) .Pow (.Constant (.int b) j2 p2) pos) (tC (.int v)) :=
  ⟨fun pins s σ H Q I q => (pe_op op_pow pe_int pe_int).run pins s σ H Q I ⟨a, b, rfl, rfl, h, (show Q (.int (a ^ b.toNat)) H from e ▸ q)⟩⟩
theorem cdivw {i j : Int} (h0 : 0 < j) (h : j < 2 ^ 200) : CDivW i j := wide_div (b := 200) h0 (by omega) (by decide) (by decide)
theorem pe_gl {X : Cx} {x : Str} {i : Int} {pos : Pos} (hm : ∃ t, X.mg x = some (.int i t)) (hg : Gl X x := by rfl) (hd : (x == ("__debug__" : Str)) = false := by decide) : PE X (.Name x pos) (tC (.int i)) := by
  obtain ⟨t, h⟩ := hm
  exact pe_glob hg h ⟨t, rfl⟩ hd
structure Ec where
  (BadWheel BadRule BadSeen BadGaps BadSpan BadLong NoGap NoSpan WrapError Reader : Addr)
/-! ### equality of lists of ints -/
section
variable {K : PySem.W.Frag} {H : Hp} {a b : Addr} {Q : VK}
theorem dpAll_ints : ∀ ns : List Int, DpAll K H (ns.map V.int) (ns.map PyData.int)
  | [] => .nil
  | n :: r => .cons (.int n) (dpAll_ints r)
theorem dp_ints {ns : List Int} (h : SqL K H a (ns.map V.int)) : Dp K H (.ref a) (.list (ns.map PyData.int)) := .lst h (dpAll_ints ns)
theorem eqvAll_ints : ∀ ns ms : List Int, PyData.eqvAll (ns.map PyData.int) (ms.map PyData.int) = decide (ns = ms)
  | [], [] => rfl
  | [], _ :: _ => rfl
  | _ :: _, [] => rfl
  | x :: r, y :: t => by
    simp only [List.map_cons, PyData.eqvAll, PyData.eqv, eqvAll_ints r t]
    by_cases h : x = y <;> by_cases h' : r = t <;> simp [h, h']
theorem eqv_ints (ns ms : List Int) : PyData.eqv (.list (ns.map PyData.int)) (.list (ms.map PyData.int)) = decide (ns = ms) := by
  rw [PyData.eqv]
  exact eqvAll_ints ns ms
theorem g_eqInts {ns ms : List Int} (h1 : SqL K H a (ns.map V.int)) (h2 : SqL K H b (ms.map V.int)) (q : Q (.bl (decide (ns = ms))) H) : rEqD K (.ref a) (.ref b) H Q :=
  ⟨_, _, dp_ints h1, dp_ints h2, PySem.W.ke_shaped_ints _, PySem.W.ke_shaped_ints _, by rw [eqv_ints]; exact q⟩
theorem g_neInts {ns ms : List Int} (h1 : SqL K H a (ns.map V.int)) (h2 : SqL K H b (ms.map V.int)) (q : Q (.bl (!decide (ns = ms))) H) : rNeD K (.ref a) (.ref b) H Q :=
  ⟨_, _, dp_ints h1, dp_ints h2, PySem.W.ke_shaped_ints _, PySem.W.ke_shaped_ints _, by rw [eqv_ints]; exact q⟩
theorem g_sortedI {ns : List Int} (h : SqL K H a (ns.map V.int)) (q : ∀ (ns' : List Int) (p : Addr), ns'.Perm ns → ns'.Pairwise (· ≤ ·) → H p = none → Q (.ref p) (upd H p (.lst (ns'.map V.int)))) : rSortedI K [.ref a] H Q := ⟨a, ns, rfl, h, q⟩
end
theorem take_more {α : Type} : ∀ {l : List α} {i : Nat} {x : α}, l[i]? = some x → l.take (i + 1) = l.take i ++ [x]
  | [], i, x, h => by simp at h
  | a :: l, 0, x, h => by
    have e : a = x := Option.some.inj h
    subst e
    rfl
  | a :: l, i + 1, x, h => by
    have ih := take_more (l := l) (i := i) (x := x) h
    show a :: l.take (i + 1) = a :: l.take i ++ [x]
    rw [ih]
    rfl
/-- sorted and of the same items: one list -/
theorem sorted_same : ∀ {l m : List Int}, l.Perm m → l.Pairwise (· ≤ ·) → m.Pairwise (· ≤ ·) → l = m := fun {l m} p h1 h2 =>
  List.Perm.eq_of_pairwise (le := fun a b => a ≤ b) (fun a b _ _ h1 h2 => Int.le_antisymm h1 h2) h1 h2 p
/-! ### like data: what the laws' own comparison is asked -/
inductive SD (H : Hp) : Nat → V → V → Prop
  | non {d : Nat} : SD H d .non .non
  | bl {d : Nat} (b : Bool) : SD H d (.bl b) (.bl b)
  | int {d : Nat} (i : Int) : SD H d (.int i) (.int i)
  | str {d : Nat} (x : Str) : SD H d (.str x) (.str x)
  | lst {d : Nat} {a b : Addr} {xs ys : List V} (h1 : H a = some (.lst xs)) (h2 : H b = some (.lst ys)) (hl : xs.length = ys.length) (hz : xs.length ≤ 100000) (hi : ∀ (i : Nat) x y, xs[i]? = some x → ys[i]? = some y → SD H d x y) : SD H (d + 1) (.ref a) (.ref b)
  | tup {d : Nat} {a b : Addr} {xs ys : List V} (h1 : H a = some (.tup xs)) (h2 : H b = some (.tup ys)) (hl : xs.length = ys.length) (hz : xs.length ≤ 100000) (hi : ∀ (i : Nat) x y, xs[i]? = some x → ys[i]? = some y → SD H d x y) : SD H (d + 1) (.ref a) (.ref b)
theorem SD.same {H H' : Hp} (e : Same H H') {d : Nat} {x y : V} (h : SD H d x y) : SD H' d x y := by
  induction h with
  | non => exact .non
  | bl b => exact .bl b
  | int i => exact .int i
  | str x => exact .str x
  | lst h1 h2 hl hz _ ih => exact .lst (e _ _ h1) (e _ _ h2) hl hz ih
  | tup h1 h2 hl hz _ ih => exact .tup (e _ _ h1) (e _ _ h2) hl hz ih
theorem SD.flat {H : Hp} {d : Nat} {xs ys : List V} (h : ∀ x ∈ xs, ∀ d, SD H d x x) (e : xs = ys) : ∀ (i : Nat) x y, xs[i]? = some x → ys[i]? = some y → SD H d x y := fun i x y hx hy => by
  subst e
  rw [hx] at hy
  cases hy
  exact h x (List.mem_of_getElem? hx) d
def sp_same (d : Nat) : Sp := fun vs H Q _ => ∃ x y : V, vs = [x, y] ∧ SD H d x y ∧ ∀ H', Same H H' → Q (.bl true) H'
/-- what the recursion may lean on -/
def sp_samep : Nat → Sp
  | 0 => fun _ _ _ _ => False
  | d + 1 => sp_same d
theorem knows_false {P : Program} {w : World} {K : PySem.W.Frag} {mg : Str → Option Value} {base : Heap} {x : Str} {st : Stmt} {ps : List Str} (D : Fn K mg x st)
    (hb : ∀ (kV doc pm : Value) (an : Option Addr) (cdv ct : Value) (us : List Value), us.length = ps.length → bindArgs (PySem.W.fnOf x x (defArgs st) (defBody st) (defScope st) .none kV doc pm an cdv ct) ⟨us, []⟩ = pure (ps.zip us)) :
    Knows P w K mg base 0 x ps (sp_samep 0) := by
  obtain ⟨f, fd, F, g⟩ := D.ex
  exact ⟨f, fd, ⟨fun _ _ _ _ h => h.elim, fun _ _ _ _ _ _ _ _ _ _ _ _ _ h => h.elim⟩, g, F.kp, F.binds hb⟩
section
variable {K : PySem.W.Frag} {H : Hp} {x : V} {a b : String} {r r1 r2 : Bool} {Q : VK} {tp p q : Addr}
theorem g_isi (ty : TyX K H x (.type a)) (e : kitB a b = some r) (k : Q (.bl r) H) : rIsi K [x, .ty b] H Q := ⟨x, .ty b, .type a, .type b, r, rfl, .ty b, ty, kit_ty e, k⟩
theorem g_isiTL (ty : TyX K H x (.type a)) (h : H tp = some (.tup [.ty "tuple", .ty "list"])) (e1 : kitB a "tuple" = some r1) (e2 : kitB a "list" = some r2) (hr : (r1 || r2) = r) (k : Q (.bl r) H) : rIsiT K [x, .ref tp] H Q := by
  subst hr
  refine ⟨x, tp, _, .type a, [.type "tuple", .type "list"], r1 || r2, rfl, h, .cons (.ty _) (.cons (.ty _) .nil), ty, ?_, k⟩
  refine kitAny_cons (kit_ty e1) (fun h1 => kitAny_cons (b := r2) (kit_ty e2) (fun h2 => ?_) (fun h2 => ?_)) (fun h1 => ?_)
  · rw [kitAny_nil, h1, h2]; rfl
  · rw [h2]; simp
  · rw [h1]; simp
theorem dpAll_strs : ∀ ns : List Str, DpAll K H (ns.map V.str) (ns.map PyData.str)
  | [] => .nil
  | n :: r => .cons (.str n) (dpAll_strs r)
theorem eqvAll_strs : ∀ ns ms : List Str, PyData.eqvAll (ns.map PyData.str) (ms.map PyData.str) = decide (ns = ms)
  | [], [] => rfl
  | [], _ :: _ => rfl
  | _ :: _, [] => rfl
  | x :: r, y :: t => by
    simp only [List.map_cons, PyData.eqvAll, PyData.eqv, eqvAll_strs r t]
    by_cases h : x = y <;> by_cases h' : r = t <;> simp [h, h']
theorem canAll_strs : ∀ ns : List Str, ns.all PyData.strOk = true → PyData.canLayAll0 (ns.map PyData.str) = true
  | [], _ => rfl
  | x :: r, h => by
    rw [List.all_cons, Bool.and_eq_true] at h
    simp [PyData.canLayAll0, PyData.canLay0, canAll_strs r h.2, h.1]
theorem depthAll_strs : ∀ ns : List Str, PyData.depthAll (ns.map PyData.str) = 0
  | [] => rfl
  | _ :: r => by simp [PyData.depthAll, PyData.depth, depthAll_strs r]
theorem shaped_strs {ns : List Str} (h : ns.all PyData.strOk = true) : SeqAt.shaped (.list (ns.map PyData.str)) = true := by
  simp [SeqAt.shaped, PyData.canLay0, PyData.depth, canAll_strs ns h, depthAll_strs]
theorem g_eqStrs {ns ms : List Str} (h1 : SqL K H p (ns.map V.str)) (h2 : SqL K H q (ms.map V.str)) (o1 : ns.all PyData.strOk = true) (o2 : ms.all PyData.strOk = true) (k : Q (.bl (decide (ns = ms))) H) : rEqD K (.ref p) (.ref q) H Q :=
  ⟨_, _, .lst h1 (dpAll_strs ns), .lst h2 (dpAll_strs ms), shaped_strs o1, shaped_strs o2, by rw [PyData.eqv, eqvAll_strs]; exact k⟩
theorem g_neStrs {ns ms : List Str} (h1 : SqL K H p (ns.map V.str)) (h2 : SqL K H q (ms.map V.str)) (o1 : ns.all PyData.strOk = true) (o2 : ms.all PyData.strOk = true) (k : Q (.bl (!decide (ns = ms))) H) : rNeD K (.ref p) (.ref q) H Q :=
  ⟨_, _, .lst h1 (dpAll_strs ns), .lst h2 (dpAll_strs ms), shaped_strs o1, shaped_strs o2, by rw [PyData.eqv, eqvAll_strs]; exact k⟩
end
/-! ### a class's methods -/
structure FnI (K : PySem.W.Frag) (C : Addr) (qual : Str) (st : Stmt) : Prop where
  ex : ∃ (f : Addr) (fd : FuncData), Fun K "__init__" qual st f fd ∧ Mk K C f
structure FnM (K : PySem.W.Frag) (C : Addr) (m qual : Str) (st : Stmt) : Prop where
  ex : ∃ (f : Addr) (fd : FuncData), Fun K m qual st f fd ∧ Meth K C m f
structure FnD (K : PySem.W.Frag) (C : Addr) (m qual : Str) (dvs : List V) (st : Stmt) : Prop where
  ex : ∃ (f : Addr) (fd : FuncData), FunD K m qual (defArgs st) (defBody st) (defScope st) dvs [] f fd ∧ Meth K C m f
structure KnowsI (P : Program) (w : World) (K : PySem.W.Frag) (mg : Str → Option Value) (base : Heap) (k : Nat) (C : Addr) (ps : List Str) (sp : Sp) : Prop where
  ex : ∃ (f : Addr) (fd : FuncData), FnOk P w K mg base (L2.CX P w) k f fd ps sp ∧ Mk K C f ∧ Binds K fd ps []
structure KnowsM (P : Program) (w : World) (K : PySem.W.Frag) (mg : Str → Option Value) (base : Heap) (k : Nat) (C : Addr) (m : Str) (ps : List Str) (dvs : List V) (sp : Sp) : Prop where
  ex : ∃ (f : Addr) (fd : FuncData) (ds : List Value), FnOk P w K mg base (L2.CX P w) k f fd ps sp ∧ Meth K C m f ∧ Binds K fd ps ds ∧ Vals dvs ds
section
variable {P : Program} {w : World} {K : PySem.W.Frag} {mg : Str → Option Value} {base : Heap}
theorem KnowsI.mk' {C : Addr} {qual : Str} {st : Stmt} {N ps : List Str} {k : Nat} {sp : Sp} (D : FnI K C qual st) (S : FnScope N ps (defScope st))
    (hb : ∀ (kV doc pm : Value) (an : Option Addr) (cdv ct : Value) (us : List Value), us.length = ps.length → bindArgs (PySem.W.fnOf "__init__" qual (defArgs st) (defBody st) (defScope st) .none kV doc pm an cdv ct) ⟨us, []⟩ = pure (ps.zip us))
    (len : ∀ vs H Q E, sp vs H Q E → vs.length = ps.length)
    (hbody : ∀ (f : Addr) (cdv : Value) (A : Around) (outer : List Env) (s : Shared) (H : Hp) (vs : List V) (Q : VK) (E : XK), Room k (A.deeper (envOfC qual (defScope st) s.heap.objs.size f cdv)) → sp vs H Q E →
      ∃ t, PSs (cxOf (L2.CX P w) P w K mg base N qual (defScope st) f cdv A outer s H E) (defBody st) t ∧ t { nx := fun _ H' => Q .non H', rt := Q } (start N vs) H) : KnowsI P w K mg base (k + 1) C ps sp := by
  obtain ⟨f, fd, F, m⟩ := D.ex
  exact ⟨f, fd, F.okX S len fun cdv A outer s H vs Q E hr h => hbody f cdv A outer s H vs Q E hr h, m, F.binds hb⟩
theorem KnowsM.mk' {C : Addr} {m qual : Str} {st : Stmt} {N ps : List Str} {k : Nat} {sp : Sp} (D : FnM K C m qual st) (S : FnScope N ps (defScope st))
    (hb : ∀ (kV doc pm : Value) (an : Option Addr) (cdv ct : Value) (us : List Value), us.length = ps.length → bindArgs (PySem.W.fnOf m qual (defArgs st) (defBody st) (defScope st) .none kV doc pm an cdv ct) ⟨us, []⟩ = pure (ps.zip us))
    (len : ∀ vs H Q E, sp vs H Q E → vs.length = ps.length)
    (hbody : ∀ (f : Addr) (cdv : Value) (A : Around) (outer : List Env) (s : Shared) (H : Hp) (vs : List V) (Q : VK) (E : XK), Room k (A.deeper (envOfC qual (defScope st) s.heap.objs.size f cdv)) → sp vs H Q E →
      ∃ t, PSs (cxOf (L2.CX P w) P w K mg base N qual (defScope st) f cdv A outer s H E) (defBody st) t ∧ t { nx := fun _ H' => Q .non H', rt := Q } (start N vs) H) : KnowsM P w K mg base (k + 1) C m ps [] sp := by
  obtain ⟨f, fd, F, mm⟩ := D.ex
  exact ⟨f, fd, [], F.okX S len fun cdv A outer s H vs Q E hr h => hbody f cdv A outer s H vs Q E hr h, mm, F.binds hb, .nil⟩
theorem KnowsD.mk' {C : Addr} {m qual : Str} {st : Stmt} {N ps : List Str} {k : Nat} {sp : Sp} (D : FnD K C m qual [.non] st) (S : FnScope N ps (defScope st))
    (hb : ∀ (T : Addr) (kV doc pm : Value) (an : Option Addr) (cdv ct : Value) (us its : List Value), us.length = ps.length → its.length = 1 →
      ∃ k, bindArgs (PySem.W.fnOf m qual (defArgs st) (defBody st) (defScope st) (.ref T) kV doc pm an cdv ct) ⟨us, []⟩ = seqItems? (.ref T) >>= k ∧ k (some its.toArray) = pure (ps.zip (us ++ its.drop 1)))
    (len : ∀ vs H Q E, sp vs H Q E → vs.length = ps.length)
    (hbody : ∀ (f : Addr) (cdv : Value) (A : Around) (outer : List Env) (s : Shared) (H : Hp) (vs : List V) (Q : VK) (E : XK), Room k (A.deeper (envOfC qual (defScope st) s.heap.objs.size f cdv)) → sp vs H Q E →
      ∃ t, PSs (cxOf (L2.CX P w) P w K mg base N qual (defScope st) f cdv A outer s H E) (defBody st) t ∧ t { nx := fun _ H' => Q .non H', rt := Q } (start N vs) H) : KnowsM P w K mg base (k + 1) C m ps [] sp := by
  obtain ⟨f, fd, F, mm⟩ := D.ex
  obtain ⟨ds, hd, hB⟩ := F.binds1 ps.length 1 (by simp) (by simp) hb
  exact ⟨f, fd, ds, F.ok S len fun cdv A outer s H vs Q E hr h => hbody f cdv A outer s H vs Q E hr h, mm, hB, hd⟩
end
/-- with all arguments, and with the last one by default -/
structure KnowsM2 (P : Program) (w : World) (K : PySem.W.Frag) (mg : Str → Option Value) (base : Heap) (k : Nat) (C : Addr) (m : Str) (ps : List Str) (sp : Sp) : Prop where
  three : KnowsM P w K mg base k C m ps [] sp
  two : KnowsM P w K mg base k C m ps [.non] sp
section
variable {P : Program} {w : World} {K : PySem.W.Frag} {mg : Str → Option Value} {base : Heap}
theorem KnowsD.mk2 {C : Addr} {m qual : Str} {st : Stmt} {N ps : List Str} {k : Nat} {sp : Sp} (D : FnD K C m qual [.non] st) (S : FnScope N ps (defScope st))
    (hb : ∀ (T : Addr) (kV doc pm : Value) (an : Option Addr) (cdv ct : Value) (us its : List Value), us.length = ps.length → its.length = 1 →
      ∃ k, bindArgs (PySem.W.fnOf m qual (defArgs st) (defBody st) (defScope st) (.ref T) kV doc pm an cdv ct) ⟨us, []⟩ = seqItems? (.ref T) >>= k ∧ k (some its.toArray) = pure (ps.zip (us ++ its.drop 1)))
    (hb2 : ∀ (T : Addr) (kV doc pm : Value) (an : Option Addr) (cdv ct : Value) (us its : List Value), us.length = ps.length - 1 → its.length = 1 →
      ∃ k, bindArgs (PySem.W.fnOf m qual (defArgs st) (defBody st) (defScope st) (.ref T) kV doc pm an cdv ct) ⟨us, []⟩ = seqItems? (.ref T) >>= k ∧ k (some its.toArray) = pure (ps.zip (us ++ its.drop 0)))
    (len : ∀ vs H Q E, sp vs H Q E → vs.length = ps.length)
    (hbody : ∀ (f : Addr) (cdv : Value) (A : Around) (outer : List Env) (s : Shared) (H : Hp) (vs : List V) (Q : VK) (E : XK), Room k (A.deeper (envOfC qual (defScope st) s.heap.objs.size f cdv)) → sp vs H Q E →
      ∃ t, PSs (cxOf (L2.CX P w) P w K mg base N qual (defScope st) f cdv A outer s H E) (defBody st) t ∧ t { nx := fun _ H' => Q .non H', rt := Q } (start N vs) H) (hps : 0 < ps.length := by decide) : KnowsM2 P w K mg base (k + 1) C m ps sp := by
  refine ⟨KnowsD.mk' D S hb len hbody, ?_⟩
  obtain ⟨f, fd, F, mm⟩ := D.ex
  obtain ⟨ds, hd, hB⟩ := F.binds1 (ps.length - 1) 0 (by simp) (by simp; omega) hb2
  exact ⟨f, fd, ds, F.ok S len fun cdv A outer s H vs Q E hr h => hbody f cdv A outer s H vs Q E hr h, mm, hB, hd⟩
end
section
variable {X : Cx} {k : Nat} {C : Addr} {m x : Str} {ps : List Str} {sp : Sp} {E : XK} {o e : Expr} {es : List Expr} {ta : TE} {t : TA} {apos pos p : Pos}
theorem pe_methN {dvs : List V} {pl : Sem Bool} (he : PE X o ta) (c : Cls X.K C) (h : KnowsM X.prog X.w X.K X.mg X.base k C m ps dvs sp) (hr : Room k X.A) (hx : Passes (L2.CX X.prog X.w) X E) (ha : PA X (e :: es) t)
    (hst : starEach (e :: es) X.env = (false, eval e X.env) :: starEach es X.env := by rfl) (hpl : (backTo pos (starEach es X.env)).any (·.1) = false := by rfl)
    (ht : eval (.Call (.Attribute o m apos) (e :: es) [] pos) X.env = (do
      let ov ← eval o X.env
      standAt apos.atName
      let (f, first) ← holding [ov] (getMethod ov m pl)
      callWith pos f first (backTo pos (starEach (e :: es) X.env)) (backToKw pos (keywordEach [] X.env))) := by rfl) :
    PE X (.Call (.Attribute o m apos) (e :: es) [] pos) (tMeth C m sp dvs E ta t) := by
  obtain ⟨f, fd, ds, F, mm, hb, hd⟩ := h.ex
  exact pe_meth he c mm F hr hb hd hx ha hst hpl ht
theorem pe_methN0 {pl : Sem Bool} (he : PE X o ta) (c : Cls X.K C) (h : KnowsM X.prog X.w X.K X.mg X.base k C m ps [] sp) (hr : Room k X.A) (hx : Passes (L2.CX X.prog X.w) X E)
    (ht : eval (.Call (.Attribute o m apos) [] [] pos) X.env = (do
      let ov ← eval o X.env
      standAt apos.atName
      let (f, first) ← holding [ov] (getMethod ov m pl)
      callWith pos f first (backTo pos (starEach [] X.env)) (backToKw pos (keywordEach [] X.env))) := by rfl) :
    PE X (.Call (.Attribute o m apos) [] [] pos) (tMeth C m sp [] E ta tNil) := by
  obtain ⟨f, fd, ds, F, mm, hb, hd⟩ := h.ex
  exact pe_meth0 he c mm F hr hb hd hx ht
theorem pe_makeN (h : KnowsI X.prog X.w X.K X.mg X.base k C ps sp) (hr : Room (k + 1) X.A) (hm : X.mg x = some (.ref C)) (hx : Passes (L2.CX X.prog X.w) X E)
    (ha : PA X (e :: es) t) (hg : Gl X x := by rfl) (hdb : (x == ("__debug__" : Str)) = false := by decide) (he : starEach (e :: es) X.env = (false, eval e X.env) :: starEach es X.env := by rfl) (hpl : (backTo pos (starEach es X.env)).any (·.1) = false := by rfl) :
    PE X (.Call (.Name x p) (e :: es) [] pos) (tMake C sp [] E t) := by
  obtain ⟨f, fd, F, M, hb⟩ := h.ex
  exact pe_make M F hr hg hm hb .nil hx ha hdb he hpl
/-- whatever stands in the frame -/
theorem passA {W : WX} (tk : Takes X W) : Passes (L2.CX X.prog X.w) X (fun cls d H => ∀ σ, W cls d σ H) := passes_call (W := W) tk (fun _ _ σ _ h => h σ)
end
section
variable {K : PySem.W.Frag} {σ : L2.St} {H : Hp} {ta : TE} {t : TA} {Q : VK} {f m : Str} {D : Ends} {tv : TE} {C : Addr} {sp : Sp} {E : XK} {dvs : List V}
def rFld (K : PySem.W.Frag) (f : Str) : V → Hp → VK → Prop := fun x H Q => ∃ a C dx fs v, x = .ref a ∧ H a = some (.ins C dx fs) ∧ Cls K C ∧ NoAttr K C f ∧ fs.lookup f = some v ∧ Q v H
theorem g_fld0 (q : ta σ H fun x H1 => rFld K f x H1 Q) : tFld K ta f σ H Q := q
theorem g_fldR {p dx : Addr} {fs : List (Str × V)} {v : V} (c : Cls K C) (na : NoAttr K C f) (h : H p = some (.ins C dx fs)) (l : fs.lookup f = some v) (q : Q v H) : rFld K f (.ref p) H Q := ⟨p, C, dx, fs, v, rfl, h, c, na, l, q⟩
theorem g_sfld (q : tv σ H fun y H1 => ta σ H1 fun x H2 => ∃ a C dx fs, x = .ref a ∧ H2 a = some (.ins C dx fs) ∧ Cls K C ∧ NoAttr K C f ∧ fs.length < 1000 ∧ D.nx σ (upd H2 a (.ins C dx (putF f y fs)))) : sFld K ta tv f D σ H := q
theorem g_meth (q : ta σ H fun x H1 => ∃ a dx fs, x = .ref a ∧ H1 a = some (.ins C dx fs) ∧ fs.lookup m = none ∧ t σ H1 fun vs H2 => sp (x :: (vs ++ dvs)) H2 Q E) : tMeth C m sp dvs E ta t σ H Q := q
theorem g_make (q : t σ H fun vs H1 => ∀ x dx, H1 x = none → H1 dx = none → dx ≠ x → sp (.ref x :: (vs ++ dvs)) (upd (upd H1 dx (.own x)) x (.ins C dx [])) (fun v H2 => v = .non ∧ Q (.ref x) H2) E) : tMake C sp dvs E t σ H Q := q
theorem g_par {i j : Nat} (q : t σ H fun vs H1 => ∃ v w, vs = [v, w] ∧ D.nx ((σ.set i (some v)).set j (some w)) H1) : tPar i j t D σ H := q
end
def sp_law (K : PySem.W.Frag) : Sp := fun vs H Q _ => ∃ (s : Addr) (ns : List Int), vs = [.ref s] ∧ SqL K H s (ns.map V.int) ∧ ns.length ≤ 63 ∧ ∀ H', Q (.bl true) H'
theorem walk {l : PySem.W.OpenLaw} {k : Nat} {q : Program} {loose : List Str} {XP : (Str → Option Value) → Heap → Prop} {YP : World → Heap → Prop} {d : DefRec} {K : Params → PySem.W.Frag} (hn : l.most = some 63) (hdf : d.params.defaults = []) (hr : Room k callerA)
    (hY : ∀ (w : World) (h : Heap), YP w h → (K w.params).In h)
    (F : ∀ (w : World) (mg : Str → Option Value) (fa : Addr) (h : Heap), (K w.params).In h → h.Ns mainGlobals mg → mg d.name = some (.ref fa) →
      ∃ fd : FuncData, (∀ (s : Shared) (u : Value), BindsTo s fd ⟨[u], []⟩ [("_law_script", u)]) ∧ ∀ base : Heap, (K w.params).In base → base.Ns mainGlobals mg → FnOk l.prog w (K w.params) mg base (L2.CX l.prog w) k fa fd ["_law_script"] (sp_law (K w.params))) :
    PySem.W.WalkO q loose XP YP l.row.toRowW d [] (fun f vs => PySem.call f vs) :=
  L2.walk_of (n := 63) (k := k) (x := "_law_script") (CX := fun w => L2.CX l.prog w) (sp := fun w => sp_law (K w.params)) hn (by decide) hdf hr hY F (fun _ _ a ns hl _ hS => ⟨a, ns, rfl, hS, hl, fun _ => rfl⟩) fun _ _ _ _ _ h => by
    obtain ⟨_, _, _, _, _, _, _, _, _, _, _, _, z⟩ := h
    exact z
end My
local macro_rules | `(tactic| walk_at "go0") => `(tactic| first
  | with_reducible refine My.g_var0 ?_
  | with_reducible refine My.g_var1 ?_
  | with_reducible refine My.g_var2 ?_
  | with_reducible refine My.g_var3 ?_
  | with_reducible refine My.g_var4 ?_
  | with_reducible refine My.g_var5 ?_
  | with_reducible refine My.g_var6 ?_
  | with_reducible refine My.g_var7 ?_
  | with_reducible refine My.g_var8 ?_
  | with_reducible refine My.g_var9 ?_
  | with_reducible refine My.g_var10 ?_
  | with_reducible refine My.g_var11 ?_
  | with_reducible refine My.g_var12 ?_
  | with_reducible refine My.g_var13 ?_
  | with_reducible refine My.g_var14 ?_
  | with_reducible refine My.g_var15 ?_
  | with_reducible refine My.g_var16 ?_
  | with_reducible refine My.g_var17 ?_
  | with_reducible refine My.g_var18 ?_
  | with_reducible refine My.g_var19 ?_
  | with_reducible refine My.g_var20 ?_
  | with_reducible refine My.g_var21 ?_
  | with_reducible refine My.g_var22 ?_
  | with_reducible refine My.g_var23 ?_
  | with_reducible refine My.g_var24 ?_
  | with_reducible refine My.g_var25 ?_
  | with_reducible refine My.g_c ?_
  | with_reducible refine My.g_op ?_
  | with_reducible refine My.g_rI0 ?_
  | with_reducible refine My.g_test ?_
  | with_reducible refine My.g_tB ?_
  | with_reducible refine My.g_not ?_
  | with_reducible refine My.g_and ?_
  | with_reducible refine My.g_or ?_
  | with_reducible refine My.g_andV ?_
  | with_reducible refine My.g_orV ?_
  | with_reducible refine My.g_notV ?_
  | with_reducible refine My.g_chain ?_
  | with_reducible refine My.g_nil ?_
  | with_reducible refine My.g_cons ?_
  | with_reducible refine My.g_call ?_
  | with_reducible refine My.g_callB ?_
  | with_reducible refine My.g_lst ?_
  | with_reducible refine My.g_tup ?_
  | with_reducible refine My.g_seq ?_
  | with_reducible refine My.g_asg ?_
  | with_reducible refine My.g_name0 ?_
  | with_reducible refine My.g_name1 ?_
  | with_reducible refine My.g_name2 ?_
  | with_reducible refine My.g_name3 ?_
  | with_reducible refine My.g_name4 ?_
  | with_reducible refine My.g_name5 ?_
  | with_reducible refine My.g_name6 ?_
  | with_reducible refine My.g_name7 ?_
  | with_reducible refine My.g_name8 ?_
  | with_reducible refine My.g_name9 ?_
  | with_reducible refine My.g_name10 ?_
  | with_reducible refine My.g_name11 ?_
  | with_reducible refine My.g_name12 ?_
  | with_reducible refine My.g_name13 ?_
  | with_reducible refine My.g_name14 ?_
  | with_reducible refine My.g_name15 ?_
  | with_reducible refine My.g_name16 ?_
  | with_reducible refine My.g_name17 ?_
  | with_reducible refine My.g_name18 ?_
  | with_reducible refine My.g_name19 ?_
  | with_reducible refine My.g_name20 ?_
  | with_reducible refine My.g_name21 ?_
  | with_reducible refine My.g_name22 ?_
  | with_reducible refine My.g_name23 ?_
  | with_reducible refine My.g_name24 ?_
  | with_reducible refine My.g_name25 ?_
  | with_reducible refine L2.iteT ?_
  | with_reducible refine L2.iteF ?_
  | with_reducible refine My.ite_nT ?_
  | with_reducible refine My.ite_eqT ?_
  | with_reducible refine My.ite_neF ?_
  | ((with_reducible refine' My.ite_strF ?hs ?_); (case hs => decide))
  | ((with_reducible refine' My.ite_strT ?hs ?_); (case hs => decide))
  | with_reducible refine My.ite_nF ?_
  | with_reducible refine My.g_ret ?_
  | with_reducible refine My.g_par ?_
  | with_reducible refine My.g_fld0 ?_
  | with_reducible refine My.g_sfld ?_
  | with_reducible refine My.g_meth ?_
  | with_reducible refine My.g_make ?_
  | with_reducible refine My.g_retN ?_
  | with_reducible refine My.g_drop ?_
  | with_reducible refine My.g_next ?_
  | with_reducible refine My.g_un ?_
  | with_reducible refine My.g_sub ?_
  | with_reducible refine My.g_for ?_
  | with_reducible refine My.g_lc ?_
  | with_reducible refine My.g_iL ?_
  | with_reducible refine My.g_iT ?_
  | with_reducible refine My.g_iR1 ?_
  | with_reducible refine My.g_iR2 ?_
  | with_reducible refine My.g_iE ?_
  | with_reducible refine My.g_bm ?_
  | with_reducible refine My.g_yes ?_
  | with_reducible refine My.g_isN ?_
  | with_reducible refine My.g_notN ?_
  | with_reducible refine My.g_min2 ?_
  | with_reducible refine My.g_max2 ?_
  | with_reducible refine My.g_abs ?_
  | with_reducible refine My.g_intI ?_
  | with_reducible refine My.g_intB ?_
  | ((with_reducible refine' My.g_sz ?gz ?_); (case gz => simp))
  | with_reducible refine My.g_rU ?_
  | ((with_reducible refine' My.g_rI ?gi ?_); (case gi => first
      | (show (0 : Int) < _; first | assumption | decide | omega)
      | exact My.cdivw (by omega) (by omega)
      | exact (show L2.CMul _ _ from Or.inl ⟨by omega, by omega⟩)
      | exact (show L2.CMul _ _ from Or.inr ⟨by omega, by omega⟩)))
  | ((with_reducible refine' My.g_eq ?ge ?_); (case ge => rfl))
  | ((with_reducible refine' My.g_ne ?ge ?_); (case ge => rfl))
  | with_reducible refine Exists.intro _ (And.intro rfl ?_))
local macro_rules | `(tactic| walk_at "go1") => `(tactic| first | walk_at "go0" | with_reducible refine My.g_if ?_)
local macro_rules | `(tactic| walk_at "goE") => `(tactic| repeat (first | walk_at "go0" | with_reducible refine My.g_ifS ?_ | dsimp only))
local macro_rules | `(tactic| walk_at "go") => `(tactic| repeat (first | walk_at "go1" | with_reducible refine My.g_ifS ?_ | dsimp only))
local macro_rules | `(tactic| walk_at "goS") => `(tactic| repeat (first | walk_at "go1" | dsimp only))
local macro_rules | `(tactic| walk_at "dr") => `(tactic| first
  | assumption
  | exact My.Go.dr (by assumption)
  | (refine My.Dr.same ?_ (My.Same.new (by assumption)); walk_at "dr")
  | (refine My.Dr.same ?_ (by assumption); walk_at "dr")
  | (refine My.Dr.mut (by assumption) ?_ (by assumption); walk_at "dr"))
local macro_rules | `(tactic| walk_at "ne") => `(tactic| first
  | assumption
  | exact My.Dr.ne2 (by assumption) (by walk_at "dr")
  | exact Ne.symm (My.Dr.ne2 (by assumption) (by walk_at "dr"))
  | exact L2.ne_of_none (by walk_at "hp") (by assumption)
  | exact Ne.symm (L2.ne_of_none (by walk_at "hp") (by assumption)))
local macro_rules | `(tactic| walk_at "hp") => `(tactic| first
  | assumption
  | exact L2.upd_same
  | (refine My.upd_old ?_ (by assumption); walk_at "hp")
  | (refine My.Same.at (by assumption) ?_; walk_at "hp")
  | (refine My.Go.at (by assumption) ?_ ?_; ((walk_at "hp")); walk_at "ne"))
local macro_rules | `(tactic| walk_at "wp") => `(tactic| try simp only [List.map_cons, List.map_nil, L2.wipe, List.set_cons_succ, List.set_cons_zero])
namespace My
open PySem PySem.Spec PyProof.Rows L2
/-! ### promises: wheels -/
abbrev Wh (n : Int) : Prop := 2 ≤ n ∧ n ≤ 1000000000000
abbrev Se (n i : Int) : Prop := 0 ≤ i ∧ i < n
def sp_is_wheel : Sp := fun vs H Q _ => ∃ n : Int, vs = [.int n] ∧ Q (.bl (decide (Wh n))) H
def sp_need_wheel (ec : Ec) : Sp := fun vs H Q E => ∃ n : Int, vs = [.int n] ∧ (Wh n → Q .non H) ∧ (¬ Wh n → E (.ref ec.BadWheel) none H)
def sp_need_seen (ec : Ec) : Sp := fun vs H Q E => ∃ n i : Int, vs = [.int n, .int i] ∧ (Se n i → Q .non H) ∧ (¬ Se n i → E (.ref ec.BadSeen) none H)
def sp_since_of : Sp := fun vs H Q _ => ∃ n i j : Int, vs = [.int n, .int i, .int j] ∧ 0 < n ∧ Q (.int ((j - i) % n)) H
end My
namespace My
open PySem PySem.Spec PyProof.Rows L2
/-! ### promises: drawing -/
/-- how many there are to draw from -/
abbrev Mn (n : Int) : Prop := 0 < n ∧ n < 2 ^ 150
def sp_drawn (K : PySem.W.Frag) : Sp := fun vs H Q _ => ∃ (a s : Addr) (n : Int), vs = [.ref a, .int n] ∧ Dr K a s H ∧ Mn n ∧ ∀ r H', 0 ≤ r → r < n → Go K a s H H' → Q (.int r) H'
def sp_start (K : PySem.W.Frag) : Sp := fun vs H Q _ => ∃ (s : Addr) (ns : List Int), vs = [.ref s] ∧ SqL K H s (ns.map V.int) ∧ ns.length ≤ 63 ∧ ∀ a H', H a = none → Same H H' → Dr K a s H' → Q (.ref a) H'
end My
namespace My
open PySem PySem.Spec PyProof.Rows L2
def sp_wheel (K : PySem.W.Frag) : Sp := fun vs H Q _ => ∃ (a s : Addr), vs = [.ref a] ∧ Dr K a s H ∧ ∀ r H', Wh r → Go K a s H H' → Q (.int r) H'
/-- one of a list of ints -/
theorem one_int {zs : List Int} {v : V} (h : v ∈ zs.map V.int) : ∃ z, v = .int z ∧ z ∈ zs := by
  obtain ⟨z, h1, h2⟩ := List.mem_map.mp h
  exact ⟨z, h2.symm, h1⟩
end My
namespace My
open PySem PySem.Spec PyProof.Rows L2
/-! ### rules, in plain Lean -/
inductive Rule where
  | up (l : Int) | near | pair (o : Int) | about (f : Int)
def RuleOk (n : Int) : Rule → Prop
  | .up l => 0 ≤ l ∧ l ≤ 1000000000000
  | .near => True
  | .pair o => Wh o
  | .about f => 0 ≤ 2 * f ∧ 2 * f < n
def ruleV : Rule → List V
  | .up l => [.str "up", .int l]
  | .near => [.str "near"]
  | .pair o => [.str "pair", .int o]
  | .about f => [.str "about", .int f]
def lcmI (n o : Int) : Int := ((Nat.lcm n.toNat o.toNat : Nat) : Int)
def gcdI (n o : Int) : Int := ((Nat.gcd n.toNat o.toNat : Nat) : Int)
def loR (n : Int) : Rule → Int
  | .up l => l
  | .near => 0 - (n - 1) / 2
  | .pair _ => 0
  | .about f => 0 - f
def hiR (n : Int) : Rule → Int
  | .up l => l + n - 1
  | .near => n / 2
  | .pair o => lcmI n o - 1
  | .about f => f
def shR (r : Rule) (a : Int) : Int := match r with
  | .about _ => a
  | _ => 0
def sec (r : Rule) (t : Int) : Int := match r with
  | .pair o => t % o
  | _ => 0
/-- what the wheels show of a time: the second one of a pair alone -/
def shownR (n : Int) (r : Rule) (t : Int) : Int × Int := (t % n, sec r t)
def SeenR (n : Int) (r : Rule) (x : Int × Int) : Prop := Se n x.1 ∧ match r with
  | .pair o => Se o x.2
  | _ => x.2 = 0
/-- a number with the rests -/
def Cg (n : Int) (r : Rule) (x y : Int × Int) (g : Int) : Prop := n ∣ g - (y.1 - x.1) ∧ match r with
  | .pair o => o ∣ g - (y.2 - x.2)
  | _ => True
def Gp (n : Int) (r : Rule) (x y : Int × Int) (a g : Int) : Prop := loR n r + shR r a ≤ g ∧ g ≤ hiR n r + shR r a ∧ Cg n r x y g
theorem gcdI_pos {n o : Int} (h : 0 < n) : 0 < gcdI n o := by
  unfold gcdI
  have : 0 < Nat.gcd n.toNat o.toNat := Nat.gcd_pos_of_pos_left _ (by omega)
  omega
theorem gcdI_dvd {n o : Int} (hn : 0 < n) (ho : 0 < o) : gcdI n o ∣ n ∧ gcdI n o ∣ o := by
  unfold gcdI
  constructor
  · have h := Int.natCast_dvd_natCast.mpr (Nat.gcd_dvd_left n.toNat o.toNat)
    rwa [show ((n.toNat : Nat) : Int) = n by omega] at h
  · have h := Int.natCast_dvd_natCast.mpr (Nat.gcd_dvd_right n.toNat o.toNat)
    rwa [show ((o.toNat : Nat) : Int) = o by omega] at h
theorem lcmI_eq {n o : Int} (hn : 0 < n) (ho : 0 < o) : lcmI n o = n * (o / gcdI n o) ∧ lcmI n o = n / gcdI n o * o ∧ lcmI n o = n * o / gcdI n o := by
  obtain ⟨N, rfl⟩ : ∃ N : Nat, n = N := ⟨n.toNat, by omega⟩
  obtain ⟨O, rfl⟩ : ∃ O : Nat, o = O := ⟨o.toNat, by omega⟩
  unfold lcmI gcdI
  rw [Int.toNat_natCast, Int.toNat_natCast]
  have hg : 0 < Nat.gcd N O := Nat.gcd_pos_of_pos_left _ (by omega)
  have e : Nat.lcm N O = N * O / Nat.gcd N O := rfl
  have e1 : N * O / Nat.gcd N O = N * (O / Nat.gcd N O) := Nat.mul_div_assoc _ (Nat.gcd_dvd_right N O)
  have e2 : N * O / Nat.gcd N O = N / Nat.gcd N O * O := by
    rw [Nat.mul_comm, Nat.mul_div_assoc _ (Nat.gcd_dvd_left N O), Nat.mul_comm]
  refine ⟨?_, ?_, ?_⟩
  · rw [← Int.natCast_ediv, ← Int.natCast_mul, e, e1]
  · rw [← Int.natCast_ediv, ← Int.natCast_mul, e, e2]
  · rw [← Int.natCast_mul, ← Int.natCast_ediv, e]
theorem lcmI_pos {n o : Int} (hn : 0 < n) (ho : 0 < o) : 0 < lcmI n o := by
  unfold lcmI
  have : 0 < Nat.lcm n.toNat o.toNat := Nat.lcm_pos (by omega) (by omega)
  omega
theorem lcmI_dvd {n o d : Int} (hn : 0 < n) (ho : 0 < o) (h1 : n ∣ d) (h2 : o ∣ d) : lcmI n o ∣ d := by
  have a1 := Int.natAbs_dvd_natAbs.mpr h1
  have a2 := Int.natAbs_dvd_natAbs.mpr h2
  rw [← Int.natAbs_dvd_natAbs]
  unfold lcmI
  rw [Int.natAbs_natCast]
  refine Nat.lcm_dvd ?_ ?_
  · rwa [show n.natAbs = n.toNat by omega] at a1
  · rwa [show o.natAbs = o.toNat by omega] at a2
theorem lcmI_le {n o : Int} (hn : 0 < n) (ho : 0 < o) : lcmI n o ≤ n * o := by
  rw [(lcmI_eq hn ho).1]
  have h1 : o / gcdI n o ≤ o := Int.ediv_le_self _ (by omega)
  exact Int.mul_le_mul_of_nonneg_left h1 (by omega)
/-- near nought and divided by m: nought -/
theorem zero_of {m d : Int} (h : m ∣ d) (h1 : -m < d) (h2 : d < m) : d = 0 := by
  obtain ⟨k, rfl⟩ := h
  by_cases z : k = 0
  · rw [z]; omega
  · exfalso
    have hm : 0 < m := by omega
    rcases Int.lt_or_gt_of_ne z with q | q
    · have : m * k ≤ m * (-1) := Int.mul_le_mul_of_nonneg_left (by omega) (by omega)
      omega
    · have : m * 1 ≤ m * k := Int.mul_le_mul_of_nonneg_left (by omega) (by omega)
      omega
theorem Gp.uniq {n : Int} {r : Rule} {x y : Int × Int} {a g g' : Int} (hw : Wh n) (hr : RuleOk n r) (h : Gp n r x y a g) (h' : Gp n r x y a g') : g = g' := by
  obtain ⟨h1, h2, h3, h4⟩ := h
  obtain ⟨q1, q2, q3, q4⟩ := h'
  have hn : 0 < n := by have := hw.1; omega
  have d1 : n ∣ g - g' := by
    have := Int.dvd_sub h3 q3
    rwa [show g - (y.1 - x.1) - (g' - (y.1 - x.1)) = g - g' by omega] at this
  have key : g - g' = 0 := by
    cases r with
    | up l => exact zero_of d1 (by simp only [loR, hiR, shR] at *; omega) (by simp only [loR, hiR, shR] at *; omega)
    | near => exact zero_of d1 (by simp only [loR, hiR, shR] at *; omega) (by simp only [loR, hiR, shR] at *; omega)
    | about f =>
      have := hr.2
      exact zero_of d1 (by simp only [loR, hiR, shR] at *; omega) (by simp only [loR, hiR, shR] at *; omega)
    | pair o =>
      have ho : 0 < o := by have := hr.1; omega
      have d2 : o ∣ g - g' := by
        have := Int.dvd_sub h4 q4
        rwa [show g - (y.2 - x.2) - (g' - (y.2 - x.2)) = g - g' by omega] at this
      exact zero_of (lcmI_dvd hn ho d1 d2) (by simp only [loR, hiR, shR] at *; omega) (by simp only [loR, hiR, shR] at *; omega)
  omega
theorem dvd_rest {n t t' : Int} : n ∣ (t' - t) - (t' % n - t % n) := by
  have h1 : n ∣ t' - t' % n := Int.dvd_self_sub_emod
  have h2 : n ∣ t - t % n := Int.dvd_self_sub_emod
  have := Int.dvd_sub h1 h2
  rwa [show t' - t' % n - (t - t % n) = (t' - t) - (t' % n - t % n) by omega] at this
theorem Cg.true {n : Int} {r : Rule} {t t' : Int} : Cg n r (shownR n r t) (shownR n r t') (t' - t) := by
  refine ⟨dvd_rest, ?_⟩
  cases r with
  | pair o => exact dvd_rest
  | _ => trivial
/-- the number with the rest from lo on -/
theorem rest_from {n lo e : Int} (hn : 0 < n) : lo ≤ lo + (e - lo) % n ∧ lo + (e - lo) % n ≤ lo + n - 1 ∧ n ∣ lo + (e - lo) % n - e := by
  have h1 := Int.emod_nonneg (e - lo) (show n ≠ 0 by omega)
  have h2 := Int.emod_lt_of_pos (e - lo) hn
  refine ⟨by omega, by omega, ?_⟩
  have h3 : n ∣ (e - lo) - (e - lo) % n := Int.dvd_self_sub_emod
  have := Int.dvd_neg.mpr h3
  rwa [show -((e - lo) - (e - lo) % n) = lo + (e - lo) % n - e by omega] at this
/-- the pair's number -/
theorem pair_core {n o rest more c inv : Int} (hn : 0 < n) (ho : 0 < o) (h0 : 0 ≤ rest) (h1 : rest < n) (hc : c = gcdI n o) (hd : c ∣ more - rest) (hs : 1 < o / c) (hi : o / c ∣ n / c * inv - 1) :
    ∀ t, t = (more - rest) / c * inv % (o / c) → 0 ≤ rest + n * t ∧ rest + n * t ≤ lcmI n o - 1 ∧ n ∣ rest + n * t - rest ∧ o ∣ rest + n * t - more := by
  intro t ht
  have hs0 : 0 < o / c := by omega
  have t0 : 0 ≤ t := by rw [ht]; exact Int.emod_nonneg _ (by omega)
  have t1 : t ≤ o / c - 1 := by have := Int.emod_lt_of_pos ((more - rest) / c * inv) hs0; omega
  obtain ⟨cn, co⟩ := gcdI_dvd hn ho
  rw [← hc] at cn co
  have hcp : 0 < c := by rw [hc]; exact gcdI_pos hn
  have en : n = c * (n / c) := (Int.mul_ediv_cancel' cn).symm
  have eo : o = c * (o / c) := (Int.mul_ediv_cancel' co).symm
  have ed : more - rest = c * ((more - rest) / c) := (Int.mul_ediv_cancel' hd).symm
  have nt : n * t ≤ n * (o / c - 1) := Int.mul_le_mul_of_nonneg_left t1 (by omega)
  have nt0 : 0 ≤ n * t := Int.mul_nonneg (by omega) t0
  have el := (lcmI_eq hn ho).1
  rw [← hc] at el
  have e3 : n * (o / c - 1) = n * (o / c) - n := by rw [Int.mul_sub, Int.mul_one]
  refine ⟨by omega, by omega, ⟨t, by omega⟩, ?_⟩
  have q1 : o / c ∣ (more - rest) / c * inv - t := by rw [ht]; exact Int.dvd_self_sub_emod
  -- n/c * t - far/c is divided by o/c
  have q2 : o / c ∣ n / c * t - (more - rest) / c := by
    have a1 : o / c ∣ (more - rest) / c * (n / c * inv - 1) := Int.dvd_mul_of_dvd_right hi
    have a2 : o / c ∣ n / c * ((more - rest) / c * inv - t) := Int.dvd_mul_of_dvd_right q1
    have a3 := Int.dvd_sub a1 a2
    have e : (more - rest) / c * (n / c * inv - 1) - n / c * ((more - rest) / c * inv - t) = n / c * t - (more - rest) / c := by
      rw [Int.mul_sub, Int.mul_sub, Int.mul_one, ← Int.mul_assoc, ← Int.mul_assoc, Int.mul_comm ((more - rest) / c) (n / c)]
      omega
    rwa [e] at a3
  obtain ⟨z, hz⟩ := q2
  refine ⟨z, ?_⟩
  have e4 : rest + n * t - more = c * (n / c * t - (more - rest) / c) := by
    rw [Int.mul_sub, ← Int.mul_assoc, ← en, ← ed]
    omega
  rw [e4, hz, ← Int.mul_assoc, ← eo]
theorem pair_one {n o rest more : Int} (hn : 0 < n) (ho : 0 < o) (h0 : 0 ≤ rest) (h1 : rest < n) (hd : gcdI n o ∣ more - rest) (hs : o / gcdI n o ≤ 1) : 0 ≤ rest ∧ rest ≤ lcmI n o - 1 ∧ n ∣ rest - rest ∧ o ∣ rest - more := by
  obtain ⟨cn, co⟩ := gcdI_dvd hn ho
  have hcp : 0 < gcdI n o := gcdI_pos hn
  have eo : o = gcdI n o * (o / gcdI n o) := (Int.mul_ediv_cancel' co).symm
  have hq : o / gcdI n o = 1 := by
    have : 0 < o / gcdI n o := by
      rcases Int.lt_or_le 0 (o / gcdI n o) with q | q
      · exact q
      · have : gcdI n o * (o / gcdI n o) ≤ 0 := Int.mul_nonpos_of_nonneg_of_nonpos (by omega) q
        omega
    omega
  have ee : o = gcdI n o := by rw [hq] at eo; omega
  have el := (lcmI_eq hn ho).1
  rw [hq] at el
  refine ⟨h0, by omega, ⟨0, by omega⟩, ?_⟩
  rw [ee]
  have := Int.dvd_neg.mpr hd
  rwa [show -(more - rest) = rest - more by omega] at this
/-- no number has both rests -/
theorem pair_none {n o rest more g : Int} (hn : 0 < n) (ho : 0 < o) (h1 : n ∣ g - rest) (h2 : o ∣ g - more) : gcdI n o ∣ more - rest := by
  obtain ⟨cn, co⟩ := gcdI_dvd hn ho
  have a := Int.dvd_trans cn h1
  have b := Int.dvd_trans co h2
  have := Int.dvd_sub a b
  rwa [show g - rest - (g - more) = more - rest by omega] at this
end My
namespace My
open PySem PySem.Spec PyProof.Rows L2
/-! ### promises: rules -/
/-- what is handed in as a rule -/
inductive Raw where
  | nil | one (s : Str) | two (s : Str) (a : Int) | three (s : Str) (a b : Int)
  deriving DecidableEq
def rawV : Raw → List V
  | .nil => []
  | .one s => [.str s]
  | .two s a => [.str s, .int a]
  | .three s a b => [.str s, .int a, .int b]
def RawS : Raw → Prop
  | .nil => True
  | .one s => PyData.strOk s = true
  | .two s _ => PyData.strOk s = true
  | .three s _ _ => PyData.strOk s = true
def RawOk (n : Int) : Raw → Prop
  | .one s => s = "near"
  | .two s a => (s = "up" ∧ 0 ≤ a ∧ a ≤ 1000000000000) ∨ (s = "pair" ∧ Wh a) ∨ (s = "about" ∧ 0 ≤ 2 * a ∧ 2 * a < n)
  | _ => False
instance {n : Int} {r : Raw} : Decidable (RawOk n r) := match r with
  | .nil => inferInstanceAs (Decidable False)
  | .one s => inferInstanceAs (Decidable (s = "near"))
  | .two s a => inferInstanceAs (Decidable ((s = "up" ∧ 0 ≤ a ∧ a ≤ 1000000000000) ∨ (s = "pair" ∧ Wh a) ∨ (s = "about" ∧ 0 ≤ 2 * a ∧ 2 * a < n)))
  | .three _ _ _ => inferInstanceAs (Decidable False)
def toRaw : Rule → Raw
  | .up l => .two "up" l
  | .near => .one "near"
  | .pair o => .two "pair" o
  | .about f => .two "about" f
theorem rawV_to (r : Rule) : rawV (toRaw r) = ruleV r := by cases r <;> rfl
theorem rawS_to (r : Rule) : RawS (toRaw r) := by cases r <;> (show PyData.strOk _ = true; decide +kernel)
theorem rawOk_to {n : Int} {r : Rule} : RawOk n (toRaw r) ↔ RuleOk n r := by
  cases r with
  | up l => exact ⟨fun h => by rcases h with h | h | h <;> first | exact h.2 | exact absurd h.1 (by decide), fun h => .inl ⟨rfl, h⟩⟩
  | near => exact ⟨fun _ => trivial, fun _ => rfl⟩
  | pair o => exact ⟨fun h => by rcases h with h | h | h <;> first | exact h.2 | exact absurd h.1 (by decide), fun h => .inr (.inl ⟨rfl, h⟩)⟩
  | about f => exact ⟨fun h => by rcases h with h | h | h <;> first | exact h.2 | exact absurd h.1 (by decide), fun h => .inr (.inr ⟨rfl, h⟩)⟩
theorem rule_of {n : Int} {w : Raw} (h : RawOk n w) : ∃ r, w = toRaw r ∧ RuleOk n r := by
  cases w with
  | nil => exact h.elim
  | three _ _ _ => exact h.elim
  | one s =>
    have e : s = "near" := h
    exact ⟨.near, by rw [e]; rfl, trivial⟩
  | two s a =>
    rcases h with ⟨e, h⟩ | ⟨e, h⟩ | ⟨e, h⟩
    · exact ⟨.up a, by rw [e]; rfl, h⟩
    · exact ⟨.pair a, by rw [e]; rfl, h⟩
    · exact ⟨.about a, by rw [e]; rfl, h⟩
theorem toRaw_inj {r r' : Rule} (h : toRaw r = toRaw r') : r = r' := by
  cases r <;> cases r' <;> first
    | rfl
    | (injection h with h1 h2; subst h2; rfl)
    | (injection h with h1 h2; exact absurd h1 (by decide))
    | (injection h)
def sp_is_rule : Sp := fun vs H Q _ => ∃ (n : Int) (p : Addr) (w : Raw), vs = [.int n, .ref p] ∧ H p = some (.tup (rawV w)) ∧ RawS w ∧ ∀ H', Same H H' → Q (.bl (decide (RawOk n w))) H'
def sp_need_rule (ec : Ec) : Sp := fun vs H Q E => ∃ (n : Int) (p : Addr) (w : Raw), vs = [.int n, .ref p] ∧ H p = some (.tup (rawV w)) ∧ RawS w ∧ (Wh n → RawOk n w → ∀ H', Same H H' → Q .non H') ∧
  (¬ Wh n → E (.ref ec.BadWheel) none H) ∧ (Wh n → ¬ RawOk n w → ∀ H', Same H H' → E (.ref ec.BadRule) none H')
def sp_divisor : Sp := fun vs H Q _ => ∃ n o : Int, vs = [.int n, .int o] ∧ 0 < n ∧ 0 < o ∧ Q (.int (gcdI n o)) H
/-- what is shown: a number, for a pair a tuple of both -/
def SeenAt (H : Hp) (r : Rule) (v : V) (x : Int × Int) : Prop := match r with
  | .pair _ => ∃ q, v = .ref q ∧ H q = some (.tup [.int x.1, .int x.2])
  | _ => v = .int x.1
theorem SeenAt.same {H H' : Hp} {r : Rule} {v : V} {x : Int × Int} (e : Same H H') (h : SeenAt H r v x) : SeenAt H' r v x := by
  cases r with
  | pair o =>
    obtain ⟨q, h1, h2⟩ := h
    exact ⟨q, h1, e _ _ h2⟩
  | _ => exact h
def SeenOk (n : Int) (r : Rule) (x : Int × Int) : Prop := Se n x.1 ∧ match r with
  | .pair o => Se o x.2
  | _ => True
theorem SeenOk.true {n : Int} {r : Rule} {t : Int} (hw : Wh n) (hr : RuleOk n r) : SeenOk n r (shownR n r t) := by
  have hn : 0 < n := by have := hw.1; omega
  refine ⟨⟨Int.emod_nonneg _ (by omega), Int.emod_lt_of_pos _ hn⟩, ?_⟩
  cases r with
  | pair o =>
    have ho : 0 < o := by have := hr.1; omega
    exact ⟨Int.emod_nonneg _ (by omega), Int.emod_lt_of_pos _ ho⟩
  | _ => trivial
def sp_shown_of : Sp := fun vs H Q _ => ∃ (n : Int) (p : Addr) (r : Rule) (t : Int), vs = [.int n, .ref p, .int t] ∧ H p = some (.tup (ruleV r)) ∧ Wh n ∧ RuleOk n r ∧ ∀ v H', Same H H' → SeenAt H' r v (shownR n r t) → Q v H'
def sp_shown (ec : Ec) : Sp := fun vs H Q E => ∃ (n : Int) (p : Addr) (w : Raw) (t : Int), vs = [.int n, .ref p, .int t] ∧ H p = some (.tup (rawV w)) ∧ RawS w ∧
  (∀ r, w = toRaw r → Wh n → RuleOk n r → ∀ v H', Same H H' → SeenAt H' r v (shownR n r t) → Q v H') ∧ (¬ Wh n → E (.ref ec.BadWheel) none H) ∧ (Wh n → ¬ RawOk n w → ∀ H', Same H H' → E (.ref ec.BadRule) none H')
def sp_need_shown (ec : Ec) : Sp := fun vs H Q E => ∃ (n : Int) (p : Addr) (r : Rule) (v : V) (x : Int × Int), vs = [.int n, .ref p, v] ∧ H p = some (.tup (ruleV r)) ∧ SeenAt H r v x ∧ (SeenOk n r x → Q .non H) ∧ (¬ SeenOk n r x → E (.ref ec.BadSeen) none H)
def sp_inverse : Sp := fun vs H Q _ => ∃ k m : Int, vs = [.int k, .int m] ∧ 1 < m ∧ m ≤ 1000000000000 ∧ 0 < k ∧ gcdI k m = 1 ∧ ∀ v H', 0 ≤ v → v < m → m ∣ k * v - 1 → Same H H' → Q (.int v) H'
def sp_paired (ec : Ec) : Sp := fun vs H Q E => ∃ n o x y : Int, vs = [.int n, .int o, .int x, .int y] ∧ Wh n ∧ Wh o ∧ Se n x ∧ Se o y ∧
  (∀ g H', 0 ≤ g → g ≤ lcmI n o - 1 → n ∣ g - x → o ∣ g - y → Same H H' → Q (.int g) H') ∧ ((¬ gcdI n o ∣ y - x) → E (.ref ec.NoGap) none H)
def aboutV (r : Rule) (v : V) (a : Int) : Prop := match r with
  | .about _ => v = .int a
  | _ => True
/-- that no number is so, told by the rests -/
def NoGp (n : Int) (r : Rule) (x y : Int × Int) (a : Int) : Prop := match r with
  | .pair o => ¬ gcdI n o ∣ (y.2 - x.2) - (y.1 - x.1)
  | .about f => 2 * f < (y.1 - x.1 - (a - f)) % n
  | _ => False
theorem NoGp.no {n : Int} {r : Rule} {x y : Int × Int} {a : Int} (hw : Wh n) (hr : RuleOk n r) (h : NoGp n r x y a) : ∀ g, ¬ Gp n r x y a g := by
  have hn : 0 < n := by have := hw.1; omega
  rintro g ⟨h1, h2, h3, h4⟩
  cases r with
  | pair o => exact h (pair_none hn (by have := hr.1; omega) h3 h4)
  | about f =>
    obtain ⟨c1, c2, c3⟩ := rest_from (lo := a - f) (e := y.1 - x.1) hn
    have h : 2 * f < (y.1 - x.1 - (a - f)) % n := h
    have h1 : 0 - f + a ≤ g := h1
    have h2 : g ≤ f + a := h2
    have hr1 : 2 * f < n := hr.2
    have z := zero_of (Int.dvd_sub c3 h3) (by omega) (by omega)
    omega
  | _ => exact h
def sp_gap_of (ec : Ec) : Sp := fun vs H Q E => ∃ (n : Int) (p : Addr) (r : Rule) (v1 v2 v3 : V) (x y : Int × Int) (a : Int), vs = [.int n, .ref p, v1, v2, v3] ∧ H p = some (.tup (ruleV r)) ∧ Wh n ∧ RuleOk n r ∧ SeenAt H r v1 x ∧ SeenAt H r v2 y ∧
  aboutV r v3 a ∧ (∀ g H', Gp n r x y a g → Same H H' → Q (.int g) H') ∧ (NoGp n r x y a → E (.ref ec.NoGap) none H)
def sp_gap (ec : Ec) : Sp := fun vs H Q E => ∃ (n : Int) (p : Addr) (w : Raw) (v1 v2 v3 : V), vs = [.int n, .ref p, v1, v2, v3] ∧ H p = some (.tup (rawV w)) ∧ RawS w ∧ (¬ Wh n → E (.ref ec.BadWheel) none H) ∧ (Wh n → ¬ RawOk n w → ∀ H', Same H H' → E (.ref ec.BadRule) none H') ∧
  (∀ r, w = toRaw r → Wh n → RuleOk n r → ∃ (x y : Int × Int) (a : Int), SeenAt H r v1 x ∧ SeenAt H r v2 y ∧ aboutV r v3 a ∧ (SeenOk n r x → SeenOk n r y → ∀ g H', Gp n r x y a g → Same H H' → Q (.int g) H') ∧
    (SeenOk n r x → SeenOk n r y → NoGp n r x y a → ∀ H', Same H H' → E (.ref ec.NoGap) none H') ∧ (¬ (SeenOk n r x ∧ SeenOk n r y) → ∀ H', Same H H' → E (.ref ec.BadSeen) none H'))
end My
namespace My
open PySem PySem.Spec PyProof.Rows L2
open LamX (Tabs TabS CodeO ExtN TabB)
/-! ### the laws' own telling of an error -/
def namesL : List Str := ["BadWheel", "BadRule", "BadSeen", "BadGaps", "BadSpan", "BadLong", "NoGap", "NoSpan"]
structure KindOf (K : PySem.W.Frag) (ec : Ec) (D : Addr) (j : Nat) : Prop where
  c : ExcC K D
  m : PySem.W.exmOne K (.ref D) (.ref ec.WrapError) = some true
  v : PySem.W.kitOne K (.ref D) (.type "ValueError") = some true
  i0 : PySem.W.kitOne K (.ref D) (.ref ec.BadWheel) = some (decide (0 = j))
  i1 : PySem.W.kitOne K (.ref D) (.ref ec.BadRule) = some (decide (1 = j))
  i2 : PySem.W.kitOne K (.ref D) (.ref ec.BadSeen) = some (decide (2 = j))
  i3 : PySem.W.kitOne K (.ref D) (.ref ec.BadGaps) = some (decide (3 = j))
  i4 : PySem.W.kitOne K (.ref D) (.ref ec.BadSpan) = some (decide (4 = j))
  i5 : PySem.W.kitOne K (.ref D) (.ref ec.BadLong) = some (decide (5 = j))
  i6 : PySem.W.kitOne K (.ref D) (.ref ec.NoGap) = some (decide (6 = j))
  i7 : PySem.W.kitOne K (.ref D) (.ref ec.NoSpan) = some (decide (7 = j))
  lt : j < 8
theorem kit_yes {K : PySem.W.Frag} {t : Value} {C : Addr} (hd : PySem.W.hasDictIn K C = true) (ht : PySem.W.typeIn K (.ref C) = some (.type "type")) (h : PySem.W.subIn K t (.ref C) = some true) : PySem.W.kitOne K t (.ref C) = some true := by
  obtain ⟨cd, hc, _⟩ := PySem.W.any_some hd
  have e2 : ((PySem.W.clsIn K C).isSome && PySem.W.typeIn K (.ref C) == some (.type "type")) = true := by rw [hc, ht] <;> rfl
  show (if (t == .ref C) = true then some true else (if ((PySem.W.clsIn K C).isSome && PySem.W.typeIn K (.ref C) == some (.type "type")) = true then PySem.W.subIn K t (.ref C) else none)) = some true
  by_cases z : (t == .ref C) = true
  · rw [if_pos z]
  · rw [if_neg z, if_pos e2]
    exact h
theorem kit_no {K : PySem.W.Frag} {D C : Addr} (hd : PySem.W.hasDictIn K C = true) (ht : PySem.W.typeIn K (.ref C) = some (.type "type")) (hn : D ≠ C) (h : PySem.W.subIn K (.ref D) (.ref C) = some false) : PySem.W.kitOne K (.ref D) (.ref C) = some false := by
  obtain ⟨cd, hc, _⟩ := PySem.W.any_some hd
  have e2 : ((PySem.W.clsIn K C).isSome && PySem.W.typeIn K (.ref C) == some (.type "type")) = true := by rw [hc, ht] <;> rfl
  show (if ((.ref D : Value) == .ref C) = true then some true else (if ((PySem.W.clsIn K C).isSome && PySem.W.typeIn K (.ref C) == some (.type "type")) = true then PySem.W.subIn K (.ref D) (.ref C) else none)) = some false
  rw [if_neg (fun z => hn (by simpa using z)), if_pos e2]
  exact h
theorem kit_ve {K : PySem.W.Frag} {D : Addr} (h : PySem.W.subIn K (.ref D) (.type "ValueError") = some true) : PySem.W.kitOne K (.ref D) (.type "ValueError") = some true := by
  show (if ((.ref D : Value) == .type "ValueError") = true then some true else (if PySem.W.kitMeta "ValueError" = true then PySem.W.subIn K (.ref D) (.type "ValueError") else none)) = some true
  rw [if_neg (by simp), if_pos (by decide +kernel)]
  exact h
/-- what is told of an exception that a lambda lets out -/
def EKind (K : PySem.W.Frag) (ec : Ec) (Q : VK) : XK := fun cls d H' => ∃ D j, cls = .ref D ∧ d = none ∧ KindOf K ec D j ∧ ∀ H'', Same H' H'' → Q (.str (namesL.getD j "")) H''
def TKind (K : PySem.W.Frag) (ec : Ec) : (XK → Hp → VK → Prop) → Hp → VK → Prop := fun tl H Q => tl (EKind K ec Q) H Q
theorem EKind.mk {K : PySem.W.Frag} {ec : Ec} {Q : VK} {D : Addr} {j : Nat} {H : Hp} (h : KindOf K ec D j) (q : ∀ H'', Same H H'' → Q (.str (namesL.getD j "")) H'') : EKind K ec Q (.ref D) none H := ⟨D, j, rfl, rfl, h, q⟩
/-! ### list.count, flat items -/
def rCountF (K : PySem.W.Frag) : V → List V → Hp → VK → Prop := fun x xs H Q => ∃ (a : Addr) (ys : List V) (y : V), x = V.ref a ∧ xs = [y] ∧ SqL K H a ys ∧ flatV y = true ∧ ys.all flatV = true ∧ Q (.int (ys.countP (fun z => eqV z y) : Nat)) H
theorem count_eqU {y : V} : ∀ {ys : List V} {us : List Value}, Vals ys us → ys.all flatV = true → us.countP (eqU y) = ys.countP fun z => eqV z y
  | _, _, .nil, _ => rfl
  | x :: xs, u :: us, .cons r t, f => by
    rw [List.all_cons, Bool.and_eq_true] at f
    rw [List.countP_cons, List.countP_cons, count_eqU t f.2, eqU_of r f.1]
theorem mt_countF {X : Cx} : MtR X "list.count" (rCountF X.K) := by
  intro pins s σ H x xs v us Q I rx rxs h
  obtain ⟨a, ys, y, rfl, rfl, hs, fy, fys, q⟩ := h
  cases rx
  cases rxs with
  | cons ry rt =>
    rename_i uy ut
    cases rt
    obtain ⟨its, rv, ⟨⟨cls, dd, data, sl⟩, n, ho, hc, hdn, hd⟩, hlen⟩ := I.list hs
    simp only at hc hd
    subst hc hd
    refine call_meets PySem.F.slot_list_count ⟨_, ho, rfl⟩ PySem.F.entry_list_count (PySem.F.args_list_count_2 _ _)
      (SeqAt.list_countAt a its.toArray n dd sl uy (eqU y)) ⟨ho, fun u' hu' => mem_eqAt ry fy rv fys u' (by simpa using hu'), ?_⟩
    refine ⟨.int (ys.countP (fun z => eqV z y) : Nat), H, I.tok _, ⟨s.toks, ?_⟩, q⟩
    show Value.int ((its.toArray.toList.countP (eqU y) : Nat) : Int) s.toks = Value.int ((ys.countP (fun z => eqV z y) : Nat) : Int) s.toks
    rw [show its.toArray.toList = its from rfl, count_eqU rv fys]
theorem g_count {K : PySem.W.Frag} {a : Addr} {ys : List V} {y : V} {H : Hp} {Q : VK} (h : SqL K H a ys) (fy : flatV y = true) (fys : ys.all flatV = true) (q : Q (.int (ys.countP (fun z => eqV z y) : Nat)) H) : rCountF K (.ref a) [y] H Q := ⟨a, ys, y, rfl, rfl, h, fy, fys, q⟩
theorem g_index {K : PySem.W.Frag} {a : Addr} {ys : List V} {y z : V} {j : Nat} {H : Hp} {Q : VK} (h : SqL K H a ys) (fy : flatV y = true) (fys : ys.all flatV = true) (hz : ys[j]? = some z) (he : eqV z y = true)
    (hn : ∀ (m : Nat) (z' : V), m < j → ys[m]? = some z' → eqV z' y = false) (q : Q (.int (j : Nat)) H) : rIndex K (.ref a) [y] H Q := ⟨a, ys, y, j, z, rfl, rfl, h, fy, fys, hz, he, hn, q⟩
theorem g_isE {K : PySem.W.Frag} {D a C : Addr} {b : Bool} {H : Hp} {Q : VK} (h : PySem.W.kitOne K (.ref D) (.ref C) = some b) (q : Q (.bl b) H) : rIsE K D a [.ref a, .ref C] H Q := ⟨.ref C, .ref C, b, rfl, fun _ r => r, h, q⟩
theorem g_isET {K : PySem.W.Frag} {D a : Addr} {t : String} {b : Bool} {H : Hp} {Q : VK} (h : PySem.W.kitOne K (.ref D) (.type t) = some b) (q : Q (.bl b) H) : rIsE K D a [.ref a, .ty t] H Q := ⟨.ty t, .type t, b, rfl, fun _ r => r, h, q⟩
def kindsL (j : Nat) : List V := [.bl (decide (0 = j)), .bl (decide (1 = j)), .bl (decide (2 = j)), .bl (decide (3 = j)), .bl (decide (4 = j)), .bl (decide (5 = j)), .bl (decide (6 = j)), .bl (decide (7 = j))]
theorem kinds_count : ∀ j, j < 8 → (kindsL j).countP (fun z => eqV z (.bl true)) = 1 := by decide
theorem kinds_flat (j : Nat) : (kindsL j).all flatV = true := rfl
theorem kinds_at : ∀ j, j < 8 → (kindsL j)[j]? = some (.bl true) := by
  intro j hj
  have : j = 0 ∨ j = 1 ∨ j = 2 ∨ j = 3 ∨ j = 4 ∨ j = 5 ∨ j = 6 ∨ j = 7 := by omega
  rcases this with rfl | rfl | rfl | rfl | rfl | rfl | rfl | rfl <;> rfl
theorem kinds_no {j : Nat} (hj : j < 8) (m : Nat) (z : V) (hm : m < j) (h : (kindsL j)[m]? = some z) : eqV z (.bl true) = false := by
  have a : j = 0 ∨ j = 1 ∨ j = 2 ∨ j = 3 ∨ j = 4 ∨ j = 5 ∨ j = 6 ∨ j = 7 := by omega
  have b : m = 0 ∨ m = 1 ∨ m = 2 ∨ m = 3 ∨ m = 4 ∨ m = 5 ∨ m = 6 ∨ m = 7 := by omega
  rcases a with rfl | rfl | rfl | rfl | rfl | rfl | rfl | rfl <;> rcases b with rfl | rfl | rfl | rfl | rfl | rfl | rfl | rfl <;> first | omega | (cases h; rfl)
theorem names_at : ∀ j, j < 8 → (namesL.map V.str)[j]? = some (.str (namesL.getD j "")) := by
  intro j hj
  have : j = 0 ∨ j = 1 ∨ j = 2 ∨ j = 3 ∨ j = 4 ∨ j = 5 ∨ j = 6 ∨ j = 7 := by omega
  rcases this with rfl | rfl | rfl | rfl | rfl | rfl | rfl | rfl <;> rfl
/-! ### tables of code objects, kept -/
theorem extN_same {H H' : Hp} (e : Same H H') : ExtN H H' := ExtN.of e
theorem tabs_same {T : List (Addr × Str)} {H H' : Hp} (t : Tabs T H) (e : Same H H') : Tabs T H' := t.ext e
theorem tabs_kp {T : List (Addr × Str)} {H H' : Hp} {a : Addr} (t : Tabs T H) (h1 : ∀ ps, H a ≠ some (.tbl ps)) (h2 : ∀ c q, H a ≠ some (CodeO c q)) (k : Kp a H H') : Tabs T H' := fun p hp => by
  obtain ⟨ps, e1, e2, e3⟩ := t p hp
  refine ⟨ps, k _ _ e1 fun z => h1 ps (by rw [← z]; exact e1), e2, fun pos cv hc => ?_⟩
  obtain ⟨c, z1, z2⟩ := e3 pos cv hc
  exact ⟨c, z1, k _ _ z2 fun z => h2 c p.2 (by rw [← z]; exact z2)⟩
theorem tabs_go {K : PySem.W.Frag} {a s : Addr} {T : List (Addr × Str)} {H H' : Hp} (t : Tabs T H) (d : Dr K a s H) (g : Go K a s H H') : Tabs T H' := by
  obtain ⟨ns, i, m, l, h1, _⟩ := d.ex
  refine tabs_kp t (fun ps z => ?_) (fun c q z => ?_) g.kp
  · rw [h1] at z; cases z
  · rw [h1] at z; unfold CodeO at z; cases z
theorem Dr.ext {K : PySem.W.Frag} {a s : Addr} {H H' : Hp} (d : Dr K a s H) (e : ExtN H H') : Dr K a s H' := by
  obtain ⟨ns, i, m, l, h1, h2, h3, h4⟩ := d.ex
  refine ⟨ns, i, m, l, e _ _ h1 (fun ps z => by cases z), fun o => ?_, h3, h4⟩
  rcases h2 o with (h | ⟨u, h⟩) | h
  · refine .inl (.inl ?_)
    by_cases z : s = a
    · subst z; rw [upd_same] at h ⊢; exact h
    · rw [upd_ne z] at h ⊢; exact e _ _ h (fun ps z => by cases z)
  · refine .inl (.inr ⟨u, ?_⟩)
    by_cases z : s = a
    · subst z; rw [upd_same] at h ⊢; exact h
    · rw [upd_ne z] at h ⊢; exact e _ _ h (fun ps z => by cases z)
  · exact .inr h
theorem extN_tup {H H' : Hp} (e : ExtN H H') {p : Addr} {xs : List V} (h : H p = some (.tup xs)) : H' p = some (.tup xs) := e _ _ h fun _ z => by cases z
theorem extN_lst {H H' : Hp} (e : ExtN H H') {p : Addr} {xs : List V} (h : H p = some (.lst xs)) : H' p = some (.lst xs) := e _ _ h fun _ z => by cases z
theorem extN_ins {H H' : Hp} (e : ExtN H H') {p C dx : Addr} {fs : List (Str × V)} (h : H p = some (.ins C dx fs)) : H' p = some (.ins C dx fs) := e _ _ h fun _ z => by cases z
theorem pss_by {X : Cx} {sts : List Stmt} {tt : TS} (h : ∀ Dd σ H, σ.length = X.N.length → tt Dd σ H → ∃ t, PSs X sts t ∧ t Dd σ H) : PSs X sts tt := ⟨fun pins s σ H D I hh => by
  obtain ⟨t, p, q⟩ := h D σ H I.len hh
  exact p.run pins s σ H D I q⟩
theorem SeenAt.ext {H H' : Hp} {r : Rule} {v : V} {x : Int × Int} (e : LamX.ExtN H H') (h : SeenAt H r v x) : SeenAt H' r v x := by
  cases r with
  | pair o =>
    obtain ⟨p, h1, h2⟩ := h
    exact ⟨p, h1, extN_tup e h2⟩
  | _ => exact h
/-! ### x(lambda: ..), x a known def -/
structure FnL (K : PySem.W.Frag) (mg : Str → Option Value) (x : Str) (st : Stmt) : Prop where
  ex : ∃ (f : Addr) (oc : Value) (od : Option Addr) (kV doc pm : Value) (an : Option Addr) (cdv ct : Value) (osl : Array (Option Value)),
    K.lookup f = some ⟨oc, od, .func (PySem.W.fnOf x x (defArgs st) (defBody st) (defScope st) .none kV doc pm an cdv ct), osl⟩ ∧ PySem.W.codeIn K cdv x = true ∧ PySem.W.keepIn K (.ref f) = true ∧ mg x = some (.ref f)
theorem pe_lamN {X : Cx} {T : List (Addr × Str)} {TT : (XK → Hp → VK → Prop) → Hp → VK → Prop} {x a : Str} {c P : Addr} {k : Nat} {st : Stmt} {Ng : List Str}
    {params : Arguments} {body : Expr} {scope : Scope} {t : XK → TE} {p lpos pos : Pos} (D : FnL X.K X.mg x st) (hg : Gl X x)
    (hb : ∀ (kV doc pm : Value) (an : Option Addr) (cdv ct : Value) (us : List Value), us.length = [a].length → bindArgs (PySem.W.fnOf x x (defArgs st) (defBody st) (defScope st) .none kV doc pm an cdv ct) ⟨us, []⟩ = pure ([a].zip us))
    (Sg : FnScope Ng [a] (defScope st)) (hNg : Ng[0]? = some a) (hva : Vis (defScope st) a)
    (hG : ∀ (g : Addr) (cdv : Value), LamX.GivesTo X Ng x (defScope st) g cdv (defBody st) a (X.env.qual ++ "<lambda>") TT)
    (TB : TabB X.base X.mg c P) (hcode : X.env.code = .ref c) (hmT : (P, X.env.qual ++ "<lambda>") ∈ T) (hu : ∀ p ∈ T, p.1 = P → p.2 = X.env.qual ++ "<lambda>") (hr : Room (k + 2) X.A) (L : LamX.LamS X.env.scope scope) (hdef : defaultsOf params X.env = ([], []))
    (hbind : ∀ (q : Str) (cl : List (Str × Addr)) (pm cv ctv : Value), bindArgs (PySem.W.kla_fn "<lambda>" q params body scope cl pm cv ctv) ⟨[], []⟩ = pure [])
    (hbody : ∀ (A : Around) (outer : List Env) (s : Shared) (H : Hp) (E : XK) (f c' : Addr), Room k (A.deeper (LamX.lamEnv X scope s.heap.objs.size f c')) → PE (LamX.lamCx X A outer s H E scope f c') body (t E))
    (hdb : (x == ("__debug__" : Str)) = false := by decide) (hd : (a == ("__debug__" : Str)) = false := by decide) (hcd : (a == ("__classdict__" : Str)) = false := by decide) :
    PE X (.Call (.Name x p) [.Lambda params body scope lpos] [] pos) (LamX.tLam T TT t) := by
  obtain ⟨g, oc, od, kV, doc, pm, an, cdv, ct, osl, lk, hcg, hk, hm⟩ := D.ex
  exact LamX.pe_lamcall hg hm hk lk hcg (Binds.all fun us hl => hb kV doc pm an cdv ct us hl) Sg hNg hva (hG g cdv) TB hcode hmT hu hr L hdef hbind hbody hdb hd hcd
theorem passLam {X : Cx} {A : Around} {outer : List Env} {s : Shared} {H : Hp} {E : XK} {scope : Scope} {f c' : Addr} : Passes (L2.CX X.prog X.w) (LamX.lamCx X A outer s H E scope f c') E :=
  passes_call (W := fun cls d _ H => E cls d H) (takes_of rfl rfl rfl rfl) (fun _ _ _ _ h => h)
theorem pe_callL {X : Cx} {A : Around} {outer : List Env} {s : Shared} {H : Hp} {E : XK} {scope : Scope} {f c' : Addr} {k : Nat} {x : Str} {ps : List Str} {sp : Sp} {p pos : Pos} {e : Expr} {es : List Expr} {t : TA} (c : Knows X.prog X.w X.K X.mg X.base k x ps sp)
    (hr : Room k (A.deeper (LamX.lamEnv X scope s.heap.objs.size f c'))) (ha : PA (LamX.lamCx X A outer s H E scope f c') (e :: es) t) (hg : Gl (LamX.lamCx X A outer s H E scope f c') x := by rfl) (hdb : (x == ("__debug__" : Str)) = false := by decide)
    (he : starEach (e :: es) (LamX.lamCx X A outer s H E scope f c').env = (false, eval e (LamX.lamCx X A outer s H E scope f c').env) :: starEach es (LamX.lamCx X A outer s H E scope f c').env := by rfl) (hpl : (backTo pos (starEach es (LamX.lamCx X A outer s H E scope f c').env)).any (·.1) = false := by rfl) :
    PE (LamX.lamCx X A outer s H E scope f c') (.Call (.Name x p) (e :: es) [] pos) (tCall sp [] E t) :=
  pe_callN (X := LamX.lamCx X A outer s H E scope f c') c hr (passLam (X := X)) ha hg hdb he hpl
theorem pe_methL {X : Cx} {A : Around} {outer : List Env} {s : Shared} {H : Hp} {E : XK} {scope : Scope} {f c' C : Addr} {k : Nat} {m : Str} {ps : List Str} {dvs : List V} {sp : Sp} {apos pos : Pos} {o e : Expr} {es : List Expr} {ta : TE} {t : TA} {pl : Sem Bool}
    (he : PE (LamX.lamCx X A outer s H E scope f c') o ta) (c : Cls X.K C) (h : KnowsM X.prog X.w X.K X.mg X.base k C m ps dvs sp) (hr : Room k (A.deeper (LamX.lamEnv X scope s.heap.objs.size f c'))) (ha : PA (LamX.lamCx X A outer s H E scope f c') (e :: es) t)
    (hst : starEach (e :: es) (LamX.lamCx X A outer s H E scope f c').env = (false, eval e (LamX.lamCx X A outer s H E scope f c').env) :: starEach es (LamX.lamCx X A outer s H E scope f c').env := by rfl) (hpl : (backTo pos (starEach es (LamX.lamCx X A outer s H E scope f c').env)).any (·.1) = false := by rfl)
    (ht : eval (.Call (.Attribute o m apos) (e :: es) [] pos) (LamX.lamCx X A outer s H E scope f c').env = (do
      let ov ← eval o (LamX.lamCx X A outer s H E scope f c').env
      standAt apos.atName
      let (g, first) ← holding [ov] (getMethod ov m pl)
      callWith pos g first (backTo pos (starEach (e :: es) (LamX.lamCx X A outer s H E scope f c').env)) (backToKw pos (keywordEach [] (LamX.lamCx X A outer s H E scope f c').env))) := by rfl) :
    PE (LamX.lamCx X A outer s H E scope f c') (.Call (.Attribute o m apos) (e :: es) [] pos) (tMeth C m sp dvs E ta t) :=
  pe_methN (X := LamX.lamCx X A outer s H E scope f c') he c h hr (passLam (X := X)) ha hst hpl ht
theorem g_lam {T : List (Addr × Str)} {TT : (XK → Hp → VK → Prop) → Hp → VK → Prop} {t : XK → TE} {σ : L2.St} {H : Hp} {Q : VK} (hT : Tabs T H) (q : ∀ H1, ExtN H H1 → Tabs T H1 → TT (fun E H' Q' => t E σ H' Q') H1 Q) : LamX.tLam T TT t σ H Q := ⟨hT, q⟩
structure FnC (K : PySem.W.Frag) (mg : Str → Option Value) (x : Str) (st : Stmt) (c : Addr) : Prop where
  ex : ∃ (f : Addr) (oc : Value) (od : Option Addr) (kV doc pm : Value) (an : Option Addr) (ct : Value) (osl : Array (Option Value)),
    K.lookup f = some ⟨oc, od, .func (PySem.W.fnOf x x (defArgs st) (defBody st) (defScope st) .none kV doc pm an (.ref c) ct), osl⟩ ∧ PySem.W.codeIn K (.ref c) x = true ∧ PySem.W.keepIn K (.ref f) = true ∧ mg x = some (.ref f)
theorem Knows.mkC {P : Program} {w : World} {K : PySem.W.Frag} {mg : Str → Option Value} {base : Heap} {x : Str} {st : Stmt} {c : Addr} {N ps : List Str} {k : Nat} {sp : Sp} (D : FnC K mg x st c) (S : FnScope N ps (defScope st))
    (hb : ∀ (kV doc pm : Value) (an : Option Addr) (cdv ct : Value) (us : List Value), us.length = ps.length → bindArgs (PySem.W.fnOf x x (defArgs st) (defBody st) (defScope st) .none kV doc pm an cdv ct) ⟨us, []⟩ = pure (ps.zip us))
    (len : ∀ vs H Q E, sp vs H Q E → vs.length = ps.length)
    (hbody : ∀ (f : Addr) (A : Around) (outer : List Env) (s : Shared) (H : Hp) (vs : List V) (Q : VK) (E : XK), Room k (A.deeper (envOfC x (defScope st) s.heap.objs.size f (.ref c))) → sp vs H Q E →
      ∃ t, PSs (cxOf (L2.CX P w) P w K mg base N x (defScope st) f (.ref c) A outer s H E) (defBody st) t ∧ t { nx := fun _ H' => Q .non H', rt := Q } (start N vs) H) : Knows P w K mg base (k + 1) x ps sp := by
  obtain ⟨f, oc, od, kV, doc, pm, an, ct, osl, lk, hcd, hk, hm⟩ := D.ex
  exact ⟨f, _, fn_of lk hcd S len fun A outer s H vs Q E hr h => hbody f A outer s H vs Q E hr h, hm, hk, Binds.all fun us hl => hb kV doc pm an (.ref c) ct us hl⟩
theorem tab_u0 {P1 P2 : Addr} {q1 q2 : Str} (h : P1 ≠ P2) : ∀ p ∈ [(P1, q1), (P2, q2)], p.1 = P1 → p.2 = q1 := fun p hp e => by
  have hp : p = (P1, q1) ∨ p = (P2, q2) := by simpa using hp
  rcases hp with rfl | rfl
  · rfl
  · exact absurd e.symm h
theorem tab_u1 {P1 P2 : Addr} {q1 q2 : Str} (h : P1 ≠ P2) : ∀ p ∈ [(P1, q1), (P2, q2)], p.1 = P2 → p.2 = q2 := fun p hp e => by
  have hp : p = (P1, q1) ∨ p = (P2, q2) := by simpa using hp
  rcases hp with rfl | rfl
  · exact absurd e h
  · rfl
def sp_lawTs (K : PySem.W.Frag) (Ps : List Addr) : Sp := fun vs H Q _ => ∃ (s : Addr) (ns : List Int), vs = [.ref s] ∧ SqL K H s (ns.map V.int) ∧ ns.length ≤ 63 ∧ (∀ P ∈ Ps, H P = some (.tbl #[])) ∧ ∀ H', Q (.bl true) H'
/-- a def that draws and makes lambdas: the state, the tables, all else -/
structure GoT (K : PySem.W.Frag) (a s : Addr) (T : List (Addr × Str)) (H H' : Hp) : Prop where
  dr : Dr K a s H'
  tb : Tabs T H'
  kp : ∀ b o, H b = some o → b ≠ a → (∀ ps, o ≠ .tbl ps) → H' b = some o
theorem GoT.of {K : PySem.W.Frag} {a s : Addr} {T : List (Addr × Str)} {H H' : Hp} (t : Tabs T H) (d : Dr K a s H) (g : Go K a s H H') : GoT K a s T H H' := ⟨g.dr, tabs_go t d g, fun b o h n _ => g.kp b o h n⟩
theorem GoT.same {K : PySem.W.Frag} {a s : Addr} {T : List (Addr × Str)} {H H' : Hp} (t : Tabs T H) (d : Dr K a s H) (g : Same H H') : GoT K a s T H H' := .of t d (Go.same d g)
theorem GoT.ext {K : PySem.W.Frag} {a s : Addr} {T : List (Addr × Str)} {H H' : Hp} (d : Dr K a s H) (e : ExtN H H') (t : Tabs T H') : GoT K a s T H H' := ⟨d.ext e, t, fun b o h _ n => e b o h n⟩
theorem GoT.trans {K : PySem.W.Frag} {a s : Addr} {T : List (Addr × Str)} {H H1 H' : Hp} (x : GoT K a s T H H1) (y : GoT K a s T H1 H') : GoT K a s T H H' := ⟨y.dr, y.tb, fun b o h n m => y.kp b o (x.kp b o h n m) n m⟩
theorem GoT.tup {K : PySem.W.Frag} {a s : Addr} {T : List (Addr × Str)} {H H' : Hp} {p : Addr} {xs : List V} (g : GoT K a s T H H') (d : Dr K a s H) (h : H p = some (.tup xs)) : H' p = some (.tup xs) := by
  refine g.kp _ _ h ?_ (fun _ z => by cases z)
  intro z
  obtain ⟨ns, i, m, l, h1, _⟩ := d.ex
  rw [z, h1] at h
  cases h
def sp_lawT (K : PySem.W.Frag) (P : Addr) : Sp := fun vs H Q _ => ∃ (s : Addr) (ns : List Int), vs = [.ref s] ∧ SqL K H s (ns.map V.int) ∧ ns.length ≤ 63 ∧ H P = some (.tbl #[]) ∧ ∀ H', Q (.bl true) H'
end My
namespace My
open PySem PySem.Spec PyProof.Rows L2
def top (i : Nat) : Stmt := PySem.Challenge.pw_wraptime_k06_readers.main.body.getD i (.Pass ⟨0, 0, 0, 0⟩)
abbrev s_is_wheel : Stmt := top 12
abbrev s_need_wheel : Stmt := top 13
abbrev s_need_seen : Stmt := top 14
abbrev s_is_rule : Stmt := top 17
abbrev s_need_rule : Stmt := top 18
abbrev s_divisor : Stmt := top 19
abbrev s_shown_of : Stmt := top 20
abbrev s_need_shown : Stmt := top 21
abbrev s_inverse : Stmt := top 22
abbrev s_paired : Stmt := top 23
abbrev s_gap_of : Stmt := top 24
abbrev s_gap : Stmt := top 25
abbrev s_Reader_init : Stmt := inClass (top 27) 0
abbrev s_Reader_look : Stmt := inClass (top 27) 1
abbrev s_Reader_now : Stmt := inClass (top 27) 2
abbrev s__law_start : Stmt := top 29
abbrev s__law_drawn : Stmt := top 30
abbrev s__law_same : Stmt := top 31
abbrev s__law_kind : Stmt := top 32
abbrev s__law_far : Stmt := top 33
abbrev s__law_wheel : Stmt := top 34
abbrev s__law_rule : Stmt := top 35
abbrev s__law_time : Stmt := top 36
abbrev s__law_shown : Stmt := top 37
abbrev s__law_bound : Stmt := top 38
abbrev s__law_near_bound : Stmt := top 39
abbrev s__law_look : Stmt := top 40
abbrev s_law : Stmt := top 41
structure Txt (K : PySem.W.Frag) (mg : Str → Option Value) (ec : Ec) : Prop where
  g_MOST_WHEEL : ∃ t, mg "MOST_WHEEL" = some (.int 1000000000000 t)
  g_MOST_LEAST : ∃ t, mg "MOST_LEAST" = some (.int 1000000000000 t)
  ValueError : mg "ValueError" = none
  isinstance : mg "isinstance" = none
  str : mg "str" = none
  range : mg "range" = none
  len : mg "len" = none
  tuple : mg "tuple" = none
  list : mg "list" = none
  bool : mg "bool" = none
  int : mg "int" = none
  min : mg "min" = none
  x_BadWheel : ExcAt K mg "BadWheel" ec.BadWheel
  x_BadRule : ExcAt K mg "BadRule" ec.BadRule
  x_BadSeen : ExcAt K mg "BadSeen" ec.BadSeen
  x_BadGaps : ExcAt K mg "BadGaps" ec.BadGaps
  x_BadSpan : ExcAt K mg "BadSpan" ec.BadSpan
  x_BadLong : ExcAt K mg "BadLong" ec.BadLong
  x_NoGap : ExcAt K mg "NoGap" ec.NoGap
  x_NoSpan : ExcAt K mg "NoSpan" ec.NoSpan
  x_WrapError : ExcAt K mg "WrapError" ec.WrapError
  k_Reader : Cls K ec.Reader
  g_Reader : mg "Reader" = some (.ref ec.Reader)
  n_Reader_last : NoAttr K ec.Reader "last"
  n_Reader_rule : NoAttr K ec.Reader "rule"
  n_Reader_told : NoAttr K ec.Reader "told"
  n_Reader_wheel : NoAttr K ec.Reader "wheel"
  q_BadSeen : KindOf K ec ec.BadSeen 2
  q_NoGap : KindOf K ec ec.NoGap 6

section
variable {P : Program} {w : World} {K : PySem.W.Frag} {mg : Str → Option Value} {base : Heap} {ec : Ec}
theorem sc_is_wheel : FnScope ["wheel"] ["wheel"] (defScope s_is_wheel) := ⟨rfl, rfl, rfl, by decide +kernel, rfl, by decide +kernel, by decide +kernel⟩
theorem ok_is_wheel (T : Txt K mg ec) (D : Fn K mg "is_wheel" s_is_wheel) : Knows P w K mg base 1 "is_wheel" ["wheel"] sp_is_wheel := by
  refine Knows.mk' D sc_is_wheel (fun _ _ _ _ _ _ us hl => match us, hl with | [_], _ => rfl) (fun vs H Q E h => ?_) (fun f cdv A outer s H vs Q E hr h => ?_)
  · obtain ⟨n, rfl, _⟩ := h; rfl
  · obtain ⟨n, rfl, k⟩ := h
    refine ⟨_, (pss_one (ps_ret (pe_chain op_le op_le pe_int (pv 0) (pe_gl T.g_MOST_WHEEL)))), ?_⟩
    refine g_start (σ := [some _]) rfl ?_
    try dsimp only [cxOf]
    walk_at "go"
    refine ite_dec (fun h1 => ?_) (fun h1 => ?_)
    · walk_at "go"
      rw [show decide (Wh n) = decide (n ≤ 1000000000000) from decide_eq_decide.mpr ⟨fun h => h.2, fun h => ⟨h1, h⟩⟩] at k
      exact k
    · rw [show decide (Wh n) = false from decide_eq_false fun h => h1 h.1] at k
      exact k
theorem sc_need_wheel : FnScope ["wheel"] ["wheel"] (defScope s_need_wheel) := ⟨rfl, rfl, rfl, by decide +kernel, rfl, by decide +kernel, by decide +kernel⟩
theorem ok_need_wheel (T : Txt K mg ec) (D : Fn K mg "need_wheel" s_need_wheel) (c_is_wheel : Knows P w K mg base 1 "is_wheel" ["wheel"] sp_is_wheel) : Knows P w K mg base 2 "need_wheel" ["wheel"] (sp_need_wheel ec) := by
  refine Knows.mk' D sc_need_wheel (fun _ _ _ _ _ _ us hl => match us, hl with | [_], _ => rfl) (fun vs H Q E h => ?_) (fun f cdv A outer s H vs Q E hr h => ?_)
  · obtain ⟨n, rfl, _⟩ := h; rfl
  · obtain ⟨n, rfl, k1, k2⟩ := h
    refine ⟨_, (pss_one (ps_if (pt_not (pt_val (pe_callN c_is_wheel (hr.mono (by first | decide | omega)) passD (pa_cons (pv 0) pa_nil)) (by intro _; rfl))) (pss_one (ps_raiseN T.x_BadWheel)) pss_nil)), ?_⟩
    refine g_start (σ := [some _]) rfl ?_
    try dsimp only [cxOf]
    walk_at "go"
    refine ⟨n, rfl, ?_⟩
    walk_at "go"
    refine ite_ndec (fun h1 => ?_) (fun h1 => ?_)
    · exact k2 h1
    · walk_at "go"
      exact k1 h1
theorem sc_need_seen : FnScope ["wheel", "seen"] ["wheel", "seen"] (defScope s_need_seen) := ⟨rfl, rfl, rfl, by decide +kernel, rfl, by decide +kernel, by decide +kernel⟩
theorem ok_need_seen (T : Txt K mg ec) (D : Fn K mg "need_seen" s_need_seen) : Knows P w K mg base 1 "need_seen" ["wheel", "seen"] (sp_need_seen ec) := by
  refine Knows.mk' D sc_need_seen (fun _ _ _ _ _ _ us hl => match us, hl with | [_, _], _ => rfl) (fun vs H Q E h => ?_) (fun f cdv A outer s H vs Q E hr h => ?_)
  · obtain ⟨n, i, rfl, _⟩ := h; rfl
  · obtain ⟨n, i, rfl, k1, k2⟩ := h
    refine ⟨_, (pss_one (ps_if (pt_not (pt_chain op_le op_lt pe_int (pv 1) (pv 0))) (pss_one (ps_raiseN T.x_BadSeen)) pss_nil)), ?_⟩
    refine g_start (σ := [some _, some _]) rfl ?_
    try dsimp only [cxOf]
    walk_at "go"
    refine ite_dec (fun h1 => ?_) (fun h1 => ?_)
    · walk_at "go"
      refine ite_ndec (fun h2 => ?_) (fun h2 => ?_)
      · exact k2 fun h => h2 h.2
      · walk_at "go"
        exact k1 ⟨h1, h2⟩
    · walk_at "go"
      exact k2 fun h => h1 h.1
theorem raw_eq {H : Hp} {p q : Addr} {w : Raw} {Q : VK} (h1 : SqT K H p (rawV w)) (hs : RawS w) (h2 : SqT K H q [.str "near"]) (k : Q (.bl (decide (w = .one "near"))) H) : rEqD K (.ref p) (.ref q) H Q := by
  have nearOk : SeqAt.shaped (.tuple [.str "near"]) = true := by decide +kernel
  have dn : Dp K H (.ref q) (.tuple [.str "near"]) := .tup h2 (.cons (.str _) .nil)
  cases w with
  | nil =>
    refine ⟨.tuple [], .tuple [.str "near"], .tup h1 .nil, dn, by decide +kernel, nearOk, ?_⟩
    rw [decide_eq_false (by intro z; cases z)] at k
    exact k
  | one s =>
    have hs : PyData.strOk s = true := hs
    refine ⟨.tuple [.str s], .tuple [.str "near"], .tup h1 (.cons (.str _) .nil), dn, by simp [SeqAt.shaped, PyData.canLay0, PyData.canLayAll0, PyData.depth, PyData.depthAll, hs], nearOk, ?_⟩
    have e : PyData.eqv (.tuple [.str s]) (.tuple [.str "near"]) = decide (Raw.one s = .one "near") := by
      simp only [PyData.eqv, PyData.eqvAll, Bool.and_true]
      by_cases z : s = "near"
      · rw [z]; simp
      · rw [decide_eq_false (fun q => z (Raw.one.inj q))]
        simpa using z
    rw [e]
    exact k
  | two s a =>
    have hs : PyData.strOk s = true := hs
    refine ⟨.tuple [.str s, .int a], .tuple [.str "near"], .tup h1 (.cons (.str _) (.cons (.int _) .nil)), dn, by simp [SeqAt.shaped, PyData.canLay0, PyData.canLayAll0, PyData.depth, PyData.depthAll, hs], nearOk, ?_⟩
    have e : PyData.eqv (.tuple [.str s, .int a]) (.tuple [.str "near"]) = false := by simp [PyData.eqv, PyData.eqvAll]
    rw [e]
    rw [decide_eq_false (by intro z; cases z)] at k
    exact k
  | three s a b =>
    have hs : PyData.strOk s = true := hs
    refine ⟨.tuple [.str s, .int a, .int b], .tuple [.str "near"], .tup h1 (.cons (.str _) (.cons (.int _) (.cons (.int _) .nil))), dn, by simp [SeqAt.shaped, PyData.canLay0, PyData.canLayAll0, PyData.depth, PyData.depthAll, hs], nearOk, ?_⟩
    have e : PyData.eqv (.tuple [.str s, .int a, .int b]) (.tuple [.str "near"]) = false := by simp [PyData.eqv, PyData.eqvAll]
    rw [e]
    rw [decide_eq_false (by intro z; cases z)] at k
    exact k
theorem sc_is_rule : FnScope ["wheel", "rule"] ["wheel", "rule"] (defScope s_is_rule) := ⟨rfl, rfl, rfl, by decide +kernel, rfl, by decide +kernel, by decide +kernel⟩
theorem ok_is_rule (T : Txt K mg ec) (D : Fn K mg "is_rule" s_is_rule) (c_is_wheel : Knows P w K mg base 1 "is_wheel" ["wheel"] sp_is_wheel) : Knows P w K mg base 2 "is_rule" ["wheel", "rule"] sp_is_rule := by
  refine Knows.mk' D sc_is_rule (fun _ _ _ _ _ _ us hl => match us, hl with | [_, _], _ => rfl) (fun vs H Q E h => ?_) (fun f cdv A outer s H vs Q E hr h => ?_)
  · obtain ⟨n, p, raw, rfl, _⟩ := h; rfl
  · obtain ⟨n, p, raw, rfl, hp, hs, k⟩ := h
    refine ⟨_, (pss_cons (ps_if (pt_cmpR (op_eqD hr.units) (pv 1) (pe_tup (pa_cons pe_str pa_nil)) (nomark _)) (pss_one (ps_ret pe_bl)) pss_nil)
    (pss_cons (ps_if (pt_cmpR op_ne (pe_callB call_lenN (by rfl) T.len PySem.boot_len (pa_cons (pv 1) pa_nil)) pe_int (nomark _)) (pss_one (ps_ret pe_bl)) pss_nil)
    (pss_cons (ps_if (pt_cmpR op_eq (pe_ix ix_tup (pv 1) pe_int (fun _ _ => rfl)) pe_str (nomark _)) (pss_one (ps_ret (pe_chain op_le op_le pe_int (pe_ix ix_tup (pv 1) pe_int (fun _ _ => rfl)) (pe_gl T.g_MOST_LEAST)))) pss_nil)
    (pss_cons (ps_if (pt_cmpR op_eq (pe_ix ix_tup (pv 1) pe_int (fun _ _ => rfl)) pe_str (nomark _)) (pss_one (ps_ret (pe_callN c_is_wheel (hr.mono (by first | decide | omega)) passD (pa_cons (pe_ix ix_tup (pv 1) pe_int (fun _ _ => rfl)) pa_nil)))) pss_nil)
    (pss_one (ps_ret (pe_and (pe_cmpR op_eq (pe_ix ix_tup (pv 1) pe_int (fun _ _ => rfl)) pe_str (nomark _)) (pe_one (pe_chain op_le op_lt pe_int (pe_op op_mul pe_int (pe_ix ix_tup (pv 1) pe_int (fun _ _ => rfl))) (pv 0)))))))))), ?_⟩
    refine g_start (σ := [some _, some _]) rfl ?_
    try dsimp only [cxOf]
    walk_at "go"
    intro q hq
    have e1 : Same H (upd H q (.tup [.str "near"])) := Same.new hq
    refine raw_eq (SqT.of (e1 _ _ hp)) hs (SqT.of upd_same) ?_
    have hp1 := e1 _ _ hp
    have hk : ∀ b : Bool, b = decide (RawOk n raw) → Q (.bl b) (upd H q (.tup [.str "near"])) := fun b e => e ▸ k _ e1
    generalize upd H q (.tup [.str "near"]) = H1 at hp1 hk
    walk_at "go"
    refine ite_dec (fun h1 => ?_) (fun h1 => ?_)
    · walk_at "go"
      subst h1
      exact hk _ (decide_eq_true rfl).symm
    · walk_at "go"
      refine g_lenT (SqT.of hp1) ?_
      walk_at "go"
      cases raw with
      | nil =>
        refine ite_ndec (fun _ => ?_) (fun z => absurd (V.int.inj z) (by decide))
        walk_at "go"
        exact hk _ (decide_eq_false (fun z => z)).symm
      | one s =>
        refine ite_ndec (fun _ => ?_) (fun z => absurd (V.int.inj z) (by show ¬ ((1 : Int) = 2); decide))
        walk_at "go"
        exact hk _ (decide_eq_false (fun z => h1 (by have z : s = "near" := z; rw [z]))).symm
      | three s a b =>
        refine ite_ndec (fun _ => ?_) (fun z => absurd (V.int.inj z) (by show ¬ ((3 : Int) = 2); decide))
        walk_at "go"
        exact hk _ (decide_eq_false (fun z => z)).symm
      | two s a =>
        have a0 : atI (rawV (.two s a)) 0 = some (.str s) := rfl
        have a1 : atI (rawV (.two s a)) 1 = some (.int a) := rfl
        refine ite_ndec (fun z => (z rfl).elim) (fun _ => ?_)
        walk_at "go"
        refine g_ixT (SqT.of hp1) a0 ?_
        walk_at "go"
        by_cases s1 : s = "up"
        · subst s1
          walk_at "go"
          refine g_ixT (SqT.of hp1) a1 ?_
          walk_at "go"
          refine ite_dec (fun h2 => ?_) (fun h2 => ?_)
          · walk_at "go"
            exact hk _ (decide_eq_decide.mpr ⟨fun h3 => .inl ⟨rfl, h2, h3⟩, fun h => by rcases h with h | h | h <;> first | exact h.2.2 | exact absurd h.1 (by decide)⟩)
          · exact hk _ (decide_eq_false (fun h => by rcases h with h | h | h <;> first | exact h2 h.2.1 | exact absurd h.1 (by decide))).symm
        · refine ite_strF s1 ?_
          walk_at "go"
          refine g_ixT (SqT.of hp1) a0 ?_
          walk_at "go"
          by_cases s2 : s = "pair"
          · subst s2
            walk_at "go"
            refine g_ixT (SqT.of hp1) a1 ?_
            walk_at "go"
            refine ⟨a, rfl, hk _ (decide_eq_decide.mpr ⟨fun h => .inr (.inl ⟨rfl, h⟩), fun h => by rcases h with h | h | h <;> first | exact h.2 | exact absurd h.1 (by decide)⟩)⟩
          · refine ite_strF s2 ?_
            walk_at "go"
            refine g_ixT (SqT.of hp1) a0 ?_
            walk_at "go"
            by_cases s3 : s = "about"
            · subst s3
              walk_at "go"
              refine g_ixT (SqT.of hp1) a1 ?_
              walk_at "go"
              refine ite_dec (fun h2 => ?_) (fun h2 => ?_)
              · walk_at "go"
                exact hk _ (decide_eq_decide.mpr ⟨fun h3 => .inr (.inr ⟨rfl, h2, h3⟩), fun h => by rcases h with h | h | h <;> first | exact h.2.2 | exact absurd h.1 (by decide)⟩)
              · exact hk _ (decide_eq_false (fun h => by rcases h with h | h | h <;> first | exact h2 h.2.1 | exact absurd h.1 (by decide))).symm
            · refine ite_strF s3 ?_
              walk_at "go"
              exact hk _ (decide_eq_false (fun h => by rcases h with h | h | h <;> first | exact s1 h.1 | exact s2 h.1 | exact s3 h.1)).symm
theorem sc_need_rule : FnScope ["wheel", "rule"] ["wheel", "rule"] (defScope s_need_rule) := ⟨rfl, rfl, rfl, by decide +kernel, rfl, by decide +kernel, by decide +kernel⟩
theorem ok_need_rule (T : Txt K mg ec) (D : Fn K mg "need_rule" s_need_rule) (c_need_wheel : Knows P w K mg base 2 "need_wheel" ["wheel"] (sp_need_wheel ec)) (c_is_rule : Knows P w K mg base 2 "is_rule" ["wheel", "rule"] sp_is_rule) : Knows P w K mg base 3 "need_rule" ["wheel", "rule"] (sp_need_rule ec) := by
  refine Knows.mk' D sc_need_rule (fun _ _ _ _ _ _ us hl => match us, hl with | [_, _], _ => rfl) (fun vs H Q E h => ?_) (fun f cdv A outer s H vs Q E hr h => ?_)
  · obtain ⟨n, p, raw, rfl, _⟩ := h; rfl
  · obtain ⟨n, p, raw, rfl, hp, hs, k1, k2, k3⟩ := h
    refine ⟨_, (pss_cons (ps_expr (pe_callN c_need_wheel (hr.mono (by first | decide | omega)) passD (pa_cons (pv 0) pa_nil)))
    (pss_one (ps_if (pt_not (pt_val (pe_callN c_is_rule (hr.mono (by first | decide | omega)) passD (pa_cons (pv 0) (pa_cons (pv 1) pa_nil))) (by intro _; rfl))) (pss_one (ps_raiseN T.x_BadRule)) pss_nil))), ?_⟩
    refine g_start (σ := [some _, some _]) rfl ?_
    try dsimp only [cxOf]
    walk_at "go"
    refine ⟨n, rfl, fun hw => ?_, k2⟩
    walk_at "go"
    refine ⟨n, p, raw, rfl, hp, hs, fun H' e => ?_⟩
    walk_at "go"
    refine ite_ndec (fun h1 => ?_) (fun h1 => ?_)
    · exact k3 hw h1 _ e
    · walk_at "go"
      exact k1 hw h1 _ e
theorem sc_divisor : FnScope ["one", "other", "rest"] ["one", "other"] (defScope s_divisor) := ⟨rfl, rfl, rfl, by decide +kernel, rfl, by decide +kernel, by decide +kernel⟩
theorem ok_divisor (T : Txt K mg ec) (D : Fn K mg "divisor" s_divisor)  : Knows P w K mg base 1 "divisor" ["one", "other"] sp_divisor := by
  refine Knows.mk' D sc_divisor (fun _ _ _ _ _ _ us hl => match us, hl with | [_, _], _ => rfl) (fun vs H Q E h => ?_) (fun f cdv A outer s H vs Q E hr h => ?_)
  · obtain ⟨n, o, rfl, _⟩ := h; rfl
  · obtain ⟨n, o, rfl, hn, ho, k⟩ := h
    refine ⟨_, (pss_cons (ps_while passO (pt_cmpR op_gt (pv 1) pe_int (nomark _)) (pss_cons (ps_set (i := 2) sc_divisor.nd rfl (Or.inl rfl) (pe_op op_mod (pv 0) (pv 1)))
    (pss_cons (ps_set (i := 0) sc_divisor.nd rfl (Or.inl rfl) (pv 1))
    (pss_one (ps_set (i := 1) sc_divisor.nd rfl (Or.inl rfl) (pv 2))))))
    (pss_one (ps_ret (pv 0)))), ?_⟩
    refine g_start (σ := [some _, some _, none]) rfl ?_
    try dsimp only [cxOf]
    walk_at "go"
    refine ⟨fun m σ H' => H' = H ∧ ∃ (a b : Nat) (r : Option V), σ = [some (.int (a : Int)), some (.int (b : Int)), r] ∧ m = b ∧ Nat.gcd a b = Nat.gcd n.toNat o.toNat,
      ⟨o.toNat, rfl, n.toNat, o.toNat, none, by rw [Int.toNat_of_nonneg (by omega), Int.toNat_of_nonneg (by omega)], rfl, rfl⟩, ?_⟩
    rintro m σ H' ⟨rfl, a, b, r, rfl, rfl, hg⟩
    walk_at "go"
    refine ite_dec (fun h1 => ?_) (fun h1 => ?_)
    · refine ⟨fun σ' H1 => ∃ m', m' < m ∧ (H1 = H' ∧ ∃ (a b : Nat) (r : Option V), σ' = [some (.int (a : Int)), some (.int (b : Int)), r] ∧ m' = b ∧ Nat.gcd a b = Nat.gcd n.toNat o.toNat), fun _ _ h => h, ?_⟩
      walk_at "go"
      have hm : 0 < m := by omega
      refine ⟨a % m, Nat.mod_lt _ hm, rfl, m, a % m, _, by rw [Int.natCast_emod], rfl, ?_⟩
      rw [← hg, Nat.gcd_comm m, ← Nat.gcd_rec, Nat.gcd_comm]
    · walk_at "go"
      have hm : m = 0 := by omega
      subst hm
      rw [Nat.gcd_zero_right] at hg
      rw [hg]
      exact k
theorem sc_shown_of : FnScope ["wheel", "rule", "time"] ["wheel", "rule", "time"] (defScope s_shown_of) := ⟨rfl, rfl, rfl, by decide +kernel, rfl, by decide +kernel, by decide +kernel⟩
theorem ok_shown_of (T : Txt K mg ec) (D : Fn K mg "shown_of" s_shown_of)  : Knows P w K mg base 1 "shown_of" ["wheel", "rule", "time"] sp_shown_of := by
  refine Knows.mk' D sc_shown_of (fun _ _ _ _ _ _ us hl => match us, hl with | [_, _, _], _ => rfl) (fun vs H Q E h => ?_) (fun f cdv A outer s H vs Q E hr h => ?_)
  · obtain ⟨n, p, r, t, rfl, _⟩ := h; rfl
  · obtain ⟨n, p, r, t, rfl, hp, hw, hr0, k⟩ := h
    refine ⟨_, (pss_one (ps_ret (pe_ifExp (pt_cmpR op_eq (pe_ix ix_tup (pv 1) pe_int (fun _ _ => rfl)) pe_str (nomark _)) (pe_tup (pa_cons (pe_op op_mod (pv 2) (pv 0)) (pa_cons (pe_op op_mod (pv 2) (pe_ix ix_tup (pv 1) pe_int (fun _ _ => rfl))) pa_nil))) (pe_op op_mod (pv 2) (pv 0))))), ?_⟩
    refine g_start (σ := [some _, some _, some _]) rfl ?_
    try dsimp only [cxOf]
    have hn : 0 < n := by have := hw.1; omega
    walk_at "go"
    cases r with
    | pair o =>
      have ho : 0 < o := by have := hr0.1; omega
      refine g_ixT (SqT.of hp) (v := .str "pair") rfl ?_
      walk_at "go"
      refine g_ixT (SqT.of hp) (v := .int o) rfl ?_
      walk_at "go"
      intro q hq
      exact k _ _ (Same.new hq) ⟨q, rfl, upd_same⟩
    | up l =>
      refine g_ixT (SqT.of hp) (v := .str "up") rfl ?_
      walk_at "go"
      exact k _ _ (Same.refl _) rfl
    | near =>
      refine g_ixT (SqT.of hp) (v := .str "near") rfl ?_
      walk_at "go"
      exact k _ _ (Same.refl _) rfl
    | about l =>
      refine g_ixT (SqT.of hp) (v := .str "about") rfl ?_
      walk_at "go"
      exact k _ _ (Same.refl _) rfl
theorem sc_need_shown : FnScope ["wheel", "rule", "seen"] ["wheel", "rule", "seen"] (defScope s_need_shown) := ⟨rfl, rfl, rfl, by decide +kernel, rfl, by decide +kernel, by decide +kernel⟩
theorem ok_need_shown (T : Txt K mg ec) (D : Fn K mg "need_shown" s_need_shown) (c_need_seen : Knows P w K mg base 1 "need_seen" ["wheel", "seen"] (sp_need_seen ec)) : Knows P w K mg base 2 "need_shown" ["wheel", "rule", "seen"] (sp_need_shown ec) := by
  refine Knows.mk' D sc_need_shown (fun _ _ _ _ _ _ us hl => match us, hl with | [_, _, _], _ => rfl) (fun vs H Q E h => ?_) (fun f cdv A outer s H vs Q E hr h => ?_)
  · obtain ⟨n, p, r, v, x, rfl, _⟩ := h; rfl
  · obtain ⟨n, p, r, v, x, rfl, hp, hv, k1, k2⟩ := h
    refine ⟨_, (pss_one (ps_if (pt_cmpR op_eq (pe_ix ix_tup (pv 1) pe_int (fun _ _ => rfl)) pe_str (nomark _)) (pss_cons (ps_expr (pe_callN c_need_seen (hr.mono (by first | decide | omega)) passD (pa_cons (pv 0) (pa_cons (pe_ix ix_tup (pv 2) pe_int (fun _ _ => rfl)) pa_nil))))
    (pss_one (ps_expr (pe_callN c_need_seen (hr.mono (by first | decide | omega)) passD (pa_cons (pe_ix ix_tup (pv 1) pe_int (fun _ _ => rfl)) (pa_cons (pe_ix ix_tup (pv 2) pe_int (fun _ _ => rfl)) pa_nil)))))) (pss_one (ps_expr (pe_callN c_need_seen (hr.mono (by first | decide | omega)) passD (pa_cons (pv 0) (pa_cons (pv 2) pa_nil))))))), ?_⟩
    refine g_start (σ := [some _, some _, some _]) rfl ?_
    try dsimp only [cxOf]
    walk_at "go"
    cases r with
    | pair o =>
      obtain ⟨q, rfl, hq⟩ := hv
      refine g_ixT (SqT.of hp) (v := .str "pair") rfl ?_
      walk_at "go"
      refine g_ixT (SqT.of hq) (v := .int x.1) rfl ?_
      walk_at "go"
      refine ⟨n, x.1, rfl, fun h1 => ?_, fun h1 => k2 fun z => h1 z.1⟩
      walk_at "go"
      refine g_ixT (SqT.of hp) (v := .int o) rfl ?_
      walk_at "go"
      refine g_ixT (SqT.of hq) (v := .int x.2) rfl ?_
      walk_at "go"
      refine ⟨o, x.2, rfl, fun h2 => ?_, fun h2 => k2 fun z => h2 z.2⟩
      walk_at "go"
      exact k1 ⟨h1, h2⟩
    | up l =>
      refine g_ixT (SqT.of hp) (v := .str "up") rfl ?_
      walk_at "go"
      have hv : v = .int x.1 := hv
      subst hv
      refine ⟨n, x.1, rfl, fun h1 => ?_, fun h1 => k2 fun z => h1 z.1⟩
      walk_at "go"
      exact k1 ⟨h1, trivial⟩
    | near =>
      refine g_ixT (SqT.of hp) (v := .str "near") rfl ?_
      walk_at "go"
      have hv : v = .int x.1 := hv
      subst hv
      refine ⟨n, x.1, rfl, fun h1 => ?_, fun h1 => k2 fun z => h1 z.1⟩
      walk_at "go"
      exact k1 ⟨h1, trivial⟩
    | about l =>
      refine g_ixT (SqT.of hp) (v := .str "about") rfl ?_
      walk_at "go"
      have hv : v = .int x.1 := hv
      subst hv
      refine ⟨n, x.1, rfl, fun h1 => ?_, fun h1 => k2 fun z => h1 z.1⟩
      walk_at "go"
      exact k1 ⟨h1, trivial⟩
theorem inv_step {k m one other mine theirs q : Int} (h1 : m ∣ k * mine - one) (h2 : m ∣ k * theirs - other) : m ∣ k * (mine - q * theirs) - (one - q * other) := by
  have e1 : k * (q * theirs) = k * theirs * q := by rw [Int.mul_comm q theirs, Int.mul_assoc]
  have e2 : q * other = other * q := Int.mul_comm _ _
  have e : k * (mine - q * theirs) - (one - q * other) = (k * mine - one) - (k * theirs - other) * q := by
    rw [Int.mul_sub, Int.sub_mul, e1, e2]
    omega
  rw [e]
  exact Int.dvd_sub h1 (Int.dvd_mul_of_dvd_left h2)
theorem sc_inverse : FnScope ["number", "wheel", "one", "other", "mine", "theirs", "times"] ["number", "wheel"] (defScope s_inverse) := ⟨rfl, rfl, rfl, by decide +kernel, rfl, by decide +kernel, by decide +kernel⟩
theorem ok_inverse (T : Txt K mg ec) (D : Fn K mg "inverse" s_inverse)  : Knows P w K mg base 1 "inverse" ["number", "wheel"] sp_inverse := by
  refine Knows.mk' D sc_inverse (fun _ _ _ _ _ _ us hl => match us, hl with | [_, _], _ => rfl) (fun vs H Q E h => ?_) (fun f cdv A outer s H vs Q E hr h => ?_)
  · obtain ⟨k, m, rfl, _⟩ := h; rfl
  · obtain ⟨k, m, rfl, hm, hm2, hk, hgcd, kk⟩ := h
    refine ⟨_, (pss_cons (ps_par (i := 2) (j := 3) (by rfl) sc_inverse.nd rfl rfl (by decide) rfl rfl (pa_cons (pe_op op_mod (pv 0) (pv 1)) (pa_cons (pv 1) pa_nil)) (by rfl))
    (pss_cons (ps_asg (pe_tup (pa_cons pe_int (pa_cons pe_int pa_nil))) (pg_tup (n := 2) rfl (pgs_cons (pg_name (i := 4) sc_inverse.nd rfl (Or.inl rfl)) (pgs_cons (pg_name (i := 5) sc_inverse.nd rfl (Or.inl rfl)) pgs_nil))))
    (pss_cons (ps_while passO (pt_cmpR op_gt (pv 3) pe_int (nomark _)) (pss_cons (ps_set (i := 6) sc_inverse.nd rfl (Or.inl rfl) (pe_op op_fdivW (pv 2) (pv 3)))
    (pss_cons (ps_par (i := 2) (j := 3) (by rfl) sc_inverse.nd rfl rfl (by decide) rfl rfl (pa_cons (pv 3) (pa_cons (pe_op op_sub (pv 2) (pe_op op_mul (pv 6) (pv 3))) pa_nil)) (by rfl))
    (pss_one (ps_par (i := 4) (j := 5) (by rfl) sc_inverse.nd rfl rfl (by decide) rfl rfl (pa_cons (pv 5) (pa_cons (pe_op op_sub (pv 4) (pe_op op_mul (pv 6) (pv 5))) pa_nil)) (by rfl))))))
    (pss_one (ps_ret (pe_op op_mod (pv 4) (pv 1))))))), ?_⟩
    refine g_start (σ := [some _, some _, none, none, none, none, none]) rfl ?_
    try dsimp only [cxOf]
    have hm0 : 0 < m := by omega
    walk_at "go"
    refine ⟨_, _, rfl, ?_⟩
    walk_at "wp"
    walk_at "go"
    intro tp htp
    refine g_tup2 (SqT.of upd_same) ?_
    walk_at "go"
    have hk0 : 0 ≤ k % m := Int.emod_nonneg _ (by omega)
    have hk1 : k % m < m := Int.emod_lt_of_pos _ hm0
    have e0 : Same H (upd H tp (.tup [.int 1, .int 0])) := Same.new htp
    generalize upd H tp (.tup [.int 1, .int 0]) = H0 at e0
    refine ⟨fun z σ H' => H' = H0 ∧ ∃ (a b : Nat) (c d : Int) (r : Option V), σ = [some (.int k), some (.int m), some (.int (a : Int)), some (.int (b : Int)), some (.int c), some (.int d), r] ∧ z = b ∧ (a : Int) ≤ m ∧ (b : Int) ≤ m ∧ Nat.gcd a b = 1 ∧ m ∣ k * c - a ∧ m ∣ k * d - b,
      ⟨m.toNat, rfl, (k % m).toNat, m.toNat, 1, 0, none, by rw [Int.toNat_of_nonneg hk0, Int.toNat_of_nonneg (by omega)], rfl, by omega, by omega, ?_, ?_, ?_⟩, ?_⟩
    · have e : Nat.gcd k.toNat m.toNat = 1 := by unfold gcdI at hgcd; omega
      rw [Int.toNat_emod (by omega) (by omega), ← Nat.gcd_rec, Nat.gcd_comm]
      exact e
    · rw [Int.toNat_of_nonneg hk0, Int.mul_one]
      exact Int.dvd_self_sub_emod
    · rw [Int.toNat_of_nonneg (by omega : 0 ≤ m), Int.mul_zero, Int.zero_sub]
      exact Int.dvd_neg.mpr (Int.dvd_refl _)
    rintro z σ H' ⟨rfl, a, b, c, d, r, rfl, rfl, ha, hb, hg, h1, h2⟩
    walk_at "go"
    refine ite_dec (fun h3 => ?_) (fun h3 => ?_)
    · refine ⟨fun σ' H1 => ∃ z', z' < z ∧ (H1 = H' ∧ ∃ (a b : Nat) (c d : Int) (r : Option V), σ' = [some (.int k), some (.int m), some (.int (a : Int)), some (.int (b : Int)), some (.int c), some (.int d), r] ∧ z' = b ∧ (a : Int) ≤ m ∧ (b : Int) ≤ m ∧ Nat.gcd a b = 1 ∧ m ∣ k * c - a ∧ m ∣ k * d - b), fun _ _ h => h, ?_⟩
      have hz : 0 < z := by omega
      have hq0 : 0 ≤ (a : Int) / (z : Int) := Int.ediv_nonneg (by omega) (by omega)
      have hq1 : (a : Int) / (z : Int) ≤ a := Int.ediv_le_self _ (by omega)
      walk_at "go"
      refine ⟨_, _, rfl, ?_⟩
      walk_at "wp"
      walk_at "go"
      refine ⟨_, _, rfl, ?_⟩
      walk_at "wp"
      have e : (a : Int) - (a : Int) / (z : Int) * (z : Int) = ((a % z : Nat) : Int) := by
        rw [Int.natCast_emod]
        have := Int.mul_ediv_add_emod (a : Int) (z : Int)
        rw [Int.mul_comm] at this
        omega
      have hlt : a % z < z := Nat.mod_lt _ hz
      refine ⟨a % z, hlt, by first | rfl | trivial, z, a % z, d, _, _, by rw [e], rfl, hb, by omega, ?_, h2, ?_⟩
      · rw [← hg, Nat.gcd_comm z, ← Nat.gcd_rec, Nat.gcd_comm]
      · rw [← e]
        exact inv_step h1 h2
    · walk_at "go"
      have hz : z = 0 := by omega
      subst hz
      rw [Nat.gcd_zero_right] at hg
      subst hg
      refine kk _ _ (Int.emod_nonneg _ (by omega)) (Int.emod_lt_of_pos _ hm0) ?_ e0
      have a1 : m ∣ k * c - 1 := h1
      have a2 : m ∣ c - c % m := Int.dvd_self_sub_emod
      have e : k * (c % m) - 1 = (k * c - 1) - k * (c - c % m) := by rw [Int.mul_sub]; omega
      rw [e]
      exact Int.dvd_sub a1 (Int.dvd_mul_of_dvd_right a2)
theorem paired_fin {n o x y c : Int} (hn : 0 < n) (ho : 0 < o) (hc : c = gcdI n o) : 0 < c ∧ 0 < n / c ∧ 0 < o / c ∧ n / c ≤ n ∧ o / c ≤ o ∧ (1 < o / c → gcdI (n / c) (o / c) = 1) := by
  obtain ⟨cn, co⟩ := gcdI_dvd hn ho
  have hcp : 0 < c := by rw [hc]; exact gcdI_pos hn
  rw [← hc] at cn co
  have en : n = c * (n / c) := (Int.mul_ediv_cancel' cn).symm
  have eo : o = c * (o / c) := (Int.mul_ediv_cancel' co).symm
  have pn : 0 < n / c := Int.ediv_pos_of_pos_of_dvd hn (by omega) cn
  have po : 0 < o / c := Int.ediv_pos_of_pos_of_dvd ho (by omega) co
  refine ⟨hcp, pn, po, Int.ediv_le_self _ (by omega), Int.ediv_le_self _ (by omega), fun _ => ?_⟩
  unfold gcdI at hc ⊢
  have ed : ∀ z : Int, 0 < z → (z / c).toNat = z.toNat / c.toNat := fun z hz => by
    have e : z / c = ((z.toNat / c.toNat : Nat) : Int) := by rw [Int.natCast_ediv, Int.toNat_of_nonneg (by omega), Int.toNat_of_nonneg (by omega)]
    rw [e, Int.toNat_natCast]
  have e1 := ed n hn
  have e2 := ed o ho
  have e3 : c.toNat = Nat.gcd n.toNat o.toNat := by omega
  rw [e1, e2, e3, Nat.gcd_div (Nat.gcd_dvd_left _ _) (Nat.gcd_dvd_right _ _), Nat.div_self (by omega)]
  rfl
theorem sc_paired : FnScope ["wheel", "other", "rest", "more", "common", "far", "small", "times"] ["wheel", "other", "rest", "more"] (defScope s_paired) := ⟨rfl, rfl, rfl, by decide +kernel, rfl, by decide +kernel, by decide +kernel⟩
theorem ok_paired (T : Txt K mg ec) (D : Fn K mg "paired" s_paired) (c_divisor : Knows P w K mg base 1 "divisor" ["one", "other"] sp_divisor) (c_inverse : Knows P w K mg base 1 "inverse" ["number", "wheel"] sp_inverse) : Knows P w K mg base 2 "paired" ["wheel", "other", "rest", "more"] (sp_paired ec) := by
  refine Knows.mk' D sc_paired (fun _ _ _ _ _ _ us hl => match us, hl with | [_, _, _, _], _ => rfl) (fun vs H Q E h => ?_) (fun f cdv A outer s H vs Q E hr h => ?_)
  · obtain ⟨n, o, x, y, rfl, _⟩ := h; rfl
  · obtain ⟨n, o, x, y, rfl, hw, hwo, hx, hy, k1, k2⟩ := h
    refine ⟨_, (pss_cons (ps_set (i := 4) sc_paired.nd rfl (Or.inl rfl) (pe_callN c_divisor (hr.mono (by first | decide | omega)) passD (pa_cons (pv 0) (pa_cons (pv 1) pa_nil))))
    (pss_cons (ps_set (i := 5) sc_paired.nd rfl (Or.inl rfl) (pe_op op_sub (pv 3) (pv 2)))
    (pss_cons (ps_if (pt_cmpR op_ne (pe_op op_mod (pv 5) (pv 4)) pe_int (nomark _)) (pss_one (ps_raiseN T.x_NoGap)) pss_nil)
    (pss_cons (ps_set (i := 6) sc_paired.nd rfl (Or.inl rfl) (pe_op op_fdivW (pv 1) (pv 4)))
    (pss_cons (ps_set (i := 7) sc_paired.nd rfl (Or.inl rfl) (pe_ifExp (pt_cmpR op_gt (pv 6) pe_int (nomark _)) (pe_op op_mod (pe_op op_mul (pe_op op_fdivW (pv 5) (pv 4)) (pe_callN c_inverse (hr.mono (by first | decide | omega)) passD (pa_cons (pe_op op_fdivW (pv 0) (pv 4)) (pa_cons (pv 6) pa_nil)))) (pv 6)) pe_int))
    (pss_one (ps_ret (pe_op op_add (pv 2) (pe_op op_mul (pv 0) (pv 7)))))))))), ?_⟩
    refine g_start (σ := [some _, some _, some _, some _, none, none, none, none]) rfl ?_
    try dsimp only [cxOf]
    have hn : 0 < n := by have := hw.1; omega
    have ho : 0 < o := by have := hwo.1; omega
    have hn2 := hw.2
    have ho2 := hwo.2
    walk_at "go"
    refine ⟨n, o, rfl, hn, ho, ?_⟩
    obtain ⟨c, hc⟩ : ∃ c, c = gcdI n o := ⟨_, rfl⟩
    rw [← hc]
    obtain ⟨hcp, pn, po, ln, lo, hgc⟩ := paired_fin (x := x) (y := y) hn ho hc
    have lc : c ≤ n := by
      have := (gcdI_dvd hn ho).1
      rw [← hc] at this
      exact Int.le_of_dvd hn this
    walk_at "go"
    refine ite_ndec (fun h1 => ?_) (fun h1 => ?_)
    · refine k2 fun z => h1 ?_
      rw [← hc] at z
      rw [Int.emod_eq_zero_of_dvd z]
    · have hd : c ∣ y - x := Int.dvd_of_emod_eq_zero (V.int.inj h1)
      walk_at "go"
      refine ite_dec (fun h2 => ?_) (fun h2 => ?_)
      · walk_at "go"
        refine ⟨n / c, o / c, rfl, h2, by omega, pn, hgc h2, fun v H1 hv0 hv1 hv e1 => ?_⟩
        walk_at "go"
        obtain ⟨q1, q2, q3, q4⟩ := pair_core hn ho hx.1 hx.2 hc hd h2 hv _ rfl
        exact k1 _ _ q1 q2 q3 q4 e1
      · walk_at "go"
        rw [hc] at hd h2
        obtain ⟨q1, q2, q3, q4⟩ := pair_one hn ho hx.1 hx.2 hd (by omega)
        have e : x + n * 0 = x := by omega
        rw [e]
        exact k1 _ _ q1 q2 q3 q4 (Same.refl _)
theorem sc_gap_of : FnScope ["wheel", "rule", "one", "other", "about", "low", "found"] ["wheel", "rule", "one", "other", "about"] (defScope s_gap_of) := ⟨rfl, rfl, rfl, by decide +kernel, rfl, by decide +kernel, by decide +kernel⟩
theorem ok_gap_of (T : Txt K mg ec) (D : Fn K mg "gap_of" s_gap_of) (c_paired : Knows P w K mg base 2 "paired" ["wheel", "other", "rest", "more"] (sp_paired ec)) : Knows P w K mg base 3 "gap_of" ["wheel", "rule", "one", "other", "about"] (sp_gap_of ec) := by
  refine Knows.mk' D sc_gap_of (fun _ _ _ _ _ _ us hl => match us, hl with | [_, _, _, _, _], _ => rfl) (fun vs H Q E h => ?_) (fun f cdv A outer s H vs Q E hr h => ?_)
  · obtain ⟨n, p, r, v1, v2, v3, x, y, a, rfl, _⟩ := h; rfl
  · obtain ⟨n, p, r, v1, v2, v3, x, y, a, rfl, hp, hw, hr0, hv1, hv2, hv3, k1, k2⟩ := h
    refine ⟨_, (pss_cons (ps_if (pt_cmpR op_eq (pe_ix ix_tup (pv 1) pe_int (fun _ _ => rfl)) pe_str (nomark _)) (pss_one (ps_ret (pe_callN c_paired (hr.mono (by first | decide | omega)) passD (pa_cons (pv 0) (pa_cons (pe_ix ix_tup (pv 1) pe_int (fun _ _ => rfl)) (pa_cons (pe_op op_mod (pe_op op_sub (pe_ix ix_tup (pv 3) pe_int (fun _ _ => rfl)) (pe_ix ix_tup (pv 2) pe_int (fun _ _ => rfl))) (pv 0)) (pa_cons (pe_op op_mod (pe_op op_sub (pe_ix ix_tup (pv 3) pe_int (fun _ _ => rfl)) (pe_ix ix_tup (pv 2) pe_int (fun _ _ => rfl))) (pe_ix ix_tup (pv 1) pe_int (fun _ _ => rfl))) pa_nil))))))) pss_nil)
    (pss_cons (ps_if (pt_cmpR op_eq (pe_ix ix_tup (pv 1) pe_int (fun _ _ => rfl)) pe_str (nomark _)) (pss_one (ps_ret (pe_op op_add (pe_ix ix_tup (pv 1) pe_int (fun _ _ => rfl)) (pe_op op_mod (pe_op op_sub (pe_op op_sub (pv 3) (pv 2)) (pe_ix ix_tup (pv 1) pe_int (fun _ _ => rfl))) (pv 0))))) pss_nil)
    (pss_cons (ps_if (pt_cmpR op_eq (pe_ix ix_tup (pv 1) pe_int (fun _ _ => rfl)) pe_str (nomark _)) (pss_cons (ps_set (i := 5) sc_gap_of.nd rfl (Or.inl rfl) (pe_op op_sub pe_int (pe_op op_fdivW (pe_op op_sub (pv 0) pe_int) pe_int)))
    (pss_one (ps_ret (pe_op op_add (pv 5) (pe_op op_mod (pe_op op_sub (pe_op op_sub (pv 3) (pv 2)) (pv 5)) (pv 0)))))) pss_nil)
    (pss_cons (ps_set (i := 5) sc_gap_of.nd rfl (Or.inl rfl) (pe_op op_sub (pv 4) (pe_ix ix_tup (pv 1) pe_int (fun _ _ => rfl))))
    (pss_cons (ps_set (i := 6) sc_gap_of.nd rfl (Or.inl rfl) (pe_op op_add (pv 5) (pe_op op_mod (pe_op op_sub (pe_op op_sub (pv 3) (pv 2)) (pv 5)) (pv 0))))
    (pss_cons (ps_if (pt_cmpR op_gt (pv 6) (pe_op op_add (pv 4) (pe_ix ix_tup (pv 1) pe_int (fun _ _ => rfl))) (nomark _)) (pss_one (ps_raiseN T.x_NoGap)) pss_nil)
    (pss_one (ps_ret (pv 6))))))))), ?_⟩
    refine g_start (σ := [some _, some _, some _, some _, some _, none, none]) rfl ?_
    try dsimp only [cxOf]
    have hn : 0 < n := by have := hw.1; omega
    have hn2 := hw.2
    walk_at "go"
    cases r with
    | pair o =>
      have ho : 0 < o := by have := hr0.1; omega
      obtain ⟨q1, rfl, hq1⟩ := hv1
      obtain ⟨q2, rfl, hq2⟩ := hv2
      refine g_ixT (SqT.of hp) (v := .str "pair") rfl ?_
      walk_at "go"
      refine g_ixT (SqT.of hp) (v := .int o) rfl ?_
      walk_at "go"
      refine g_ixT (SqT.of hq2) (v := .int y.1) rfl ?_
      walk_at "go"
      refine g_ixT (SqT.of hq1) (v := .int x.1) rfl ?_
      walk_at "go"
      refine g_ixT (SqT.of hq2) (v := .int y.2) rfl ?_
      walk_at "go"
      refine g_ixT (SqT.of hq1) (v := .int x.2) rfl ?_
      walk_at "go"
      refine g_ixT (SqT.of hp) (v := .int o) rfl ?_
      walk_at "go"
      have m1 : n ∣ (y.1 - x.1) - (y.1 - x.1) % n := Int.dvd_self_sub_emod
      have m2 : o ∣ (y.2 - x.2) - (y.2 - x.2) % o := Int.dvd_self_sub_emod
      refine ⟨n, o, _, _, rfl, hw, hr0, ⟨Int.emod_nonneg _ (by omega), Int.emod_lt_of_pos _ hn⟩, ⟨Int.emod_nonneg _ (by omega), Int.emod_lt_of_pos _ ho⟩, fun g H1 g0 g1 g2 g3 e1 => k1 g H1 ⟨?_, ?_, ?_, ?_⟩ e1, fun hd => k2 fun hg => hd ?_⟩
      · show 0 + 0 ≤ g; omega
      · show g ≤ lcmI n o - 1 + 0; omega
      · have := Int.dvd_sub g2 m1
        rw [show g - (y.1 - x.1) % n - (y.1 - x.1 - (y.1 - x.1) % n) = g - (y.1 - x.1) by omega] at this
        exact this
      · have := Int.dvd_sub g3 m2
        rw [show g - (y.2 - x.2) % o - (y.2 - x.2 - (y.2 - x.2) % o) = g - (y.2 - x.2) by omega] at this
        exact this
      · obtain ⟨cn, co⟩ := gcdI_dvd hn ho
        have b1 := Int.dvd_trans cn m1
        have b2 := Int.dvd_trans co m2
        have b3 := Int.dvd_sub hg (Int.dvd_sub b2 b1)
        rw [show y.2 - x.2 - (y.1 - x.1) - (y.2 - x.2 - (y.2 - x.2) % o - (y.1 - x.1 - (y.1 - x.1) % n)) = (y.2 - x.2) % o - (y.1 - x.1) % n by omega] at b3
        exact b3
    | up l =>
      have hv1 : v1 = .int x.1 := hv1
      have hv2 : v2 = .int y.1 := hv2
      subst hv1 hv2
      refine g_ixT (SqT.of hp) (v := .str "up") rfl ?_
      walk_at "go"
      refine g_ixT (SqT.of hp) (v := .str "up") rfl ?_
      walk_at "go"
      refine g_ixT (SqT.of hp) (v := .int l) rfl ?_
      walk_at "go"
      refine g_ixT (SqT.of hp) (v := .int l) rfl ?_
      walk_at "go"
      obtain ⟨c1, c2, c3⟩ := rest_from (lo := l) (e := y.1 - x.1) hn
      exact k1 _ _ ⟨by show l + 0 ≤ _; omega, by show _ ≤ l + n - 1 + 0; omega, c3, trivial⟩ (Same.refl _)
    | near =>
      have hv1 : v1 = .int x.1 := hv1
      have hv2 : v2 = .int y.1 := hv2
      subst hv1 hv2
      refine g_ixT (SqT.of hp) (v := .str "near") rfl ?_
      walk_at "go"
      refine g_ixT (SqT.of hp) (v := .str "near") rfl ?_
      walk_at "go"
      refine g_ixT (SqT.of hp) (v := .str "near") rfl ?_
      walk_at "go"
      obtain ⟨c1, c2, c3⟩ := rest_from (lo := 0 - (n - 1) / 2) (e := y.1 - x.1) hn
      exact k1 _ _ ⟨by show 0 - (n - 1) / 2 + 0 ≤ _; omega, by show _ ≤ n / 2 + 0; omega, c3, trivial⟩ (Same.refl _)
    | about f =>
      have hv1 : v1 = .int x.1 := hv1
      have hv2 : v2 = .int y.1 := hv2
      have hv3 : v3 = .int a := hv3
      subst hv1 hv2 hv3
      have hr1 : 2 * f < n := hr0.2
      have hr2 : 0 ≤ 2 * f := hr0.1
      refine g_ixT (SqT.of hp) (v := .str "about") rfl ?_
      walk_at "go"
      refine g_ixT (SqT.of hp) (v := .str "about") rfl ?_
      walk_at "go"
      refine g_ixT (SqT.of hp) (v := .str "about") rfl ?_
      walk_at "go"
      refine g_ixT (SqT.of hp) (v := .int f) rfl ?_
      walk_at "go"
      refine g_ixT (SqT.of hp) (v := .int f) rfl ?_
      walk_at "go"
      obtain ⟨c1, c2, c3⟩ := rest_from (lo := a - f) (e := y.1 - x.1) hn
      refine ite_dec (fun h1 => ?_) (fun h1 => ?_)
      · refine k2 ?_
        show 2 * f < (y.1 - x.1 - (a - f)) % n
        omega
      · walk_at "go"
        exact k1 _ _ ⟨by show 0 - f + a ≤ _; omega, by show _ ≤ f + a; omega, c3, trivial⟩ (Same.refl _)
theorem sc_gap : FnScope ["wheel", "rule", "one", "other", "about"] ["wheel", "rule", "one", "other", "about"] (defScope s_gap) := ⟨rfl, rfl, rfl, by decide +kernel, rfl, by decide +kernel, by decide +kernel⟩
theorem ok_gap (T : Txt K mg ec) (D : Fn K mg "gap" s_gap) (c_need_rule : Knows P w K mg base 3 "need_rule" ["wheel", "rule"] (sp_need_rule ec)) (c_need_shown : Knows P w K mg base 2 "need_shown" ["wheel", "rule", "seen"] (sp_need_shown ec)) (c_gap_of : Knows P w K mg base 3 "gap_of" ["wheel", "rule", "one", "other", "about"] (sp_gap_of ec)) : Knows P w K mg base 4 "gap" ["wheel", "rule", "one", "other", "about"] (sp_gap ec) := by
  refine Knows.mk' D sc_gap (fun _ _ _ _ _ _ us hl => match us, hl with | [_, _, _, _, _], _ => rfl) (fun vs H Q E h => ?_) (fun f cdv A outer s H vs Q E hr h => ?_)
  · obtain ⟨n, p, w, v1, v2, v3, rfl, _⟩ := h; rfl
  · obtain ⟨n, p, raw, v1, v2, v3, rfl, hp, hs, k1, k2, k3⟩ := h
    refine ⟨_, (pss_cons (ps_expr (pe_callN c_need_rule (hr.mono (by first | decide | omega)) passD (pa_cons (pv 0) (pa_cons (pv 1) pa_nil))))
    (pss_cons (ps_expr (pe_callN c_need_shown (hr.mono (by first | decide | omega)) passD (pa_cons (pv 0) (pa_cons (pv 1) (pa_cons (pv 2) pa_nil)))))
    (pss_cons (ps_expr (pe_callN c_need_shown (hr.mono (by first | decide | omega)) passD (pa_cons (pv 0) (pa_cons (pv 1) (pa_cons (pv 3) pa_nil)))))
    (pss_one (ps_ret (pe_callN c_gap_of (hr.mono (by first | decide | omega)) passD (pa_cons (pv 0) (pa_cons (pv 1) (pa_cons (pv 2) (pa_cons (pv 3) (pa_cons (pv 4) pa_nil))))))))))), ?_⟩
    refine g_start (σ := [some _, some _, some _, some _, some _]) rfl ?_
    try dsimp only [cxOf]
    walk_at "go"
    refine ⟨n, p, raw, rfl, hp, hs, fun hw hr1 H1 e1 => ?_, k1, k2⟩
    obtain ⟨r, rfl, hr2⟩ := rule_of hr1
    obtain ⟨x, y, a, hx, hy, ha, q1, q2, q3⟩ := k3 r rfl hw hr2
    have hp1 := e1 _ _ hp
    rw [rawV_to] at hp1
    walk_at "go"
    refine ⟨n, p, r, v1, x, rfl, hp1, hx.same e1, fun hx2 => ?_, fun hx2 => q3 (fun z => hx2 z.1) _ e1⟩
    walk_at "go"
    refine ⟨n, p, r, v2, y, rfl, hp1, hy.same e1, fun hy2 => ?_, fun hy2 => q3 (fun z => hy2 z.2) _ e1⟩
    walk_at "go"
    exact ⟨n, p, r, v1, v2, v3, x, y, a, rfl, hp1, hw, hr2, hx.same e1, hy.same e1, ha, fun g H2 hg e2 => q1 hx2 hy2 g H2 hg (e1.trans e2), fun hno => q2 hx2 hy2 hno _ e1⟩
theorem sc__law_start : FnScope ["_law_script", "_law_mixed", "_law_cell"] ["_law_script"] (defScope s__law_start) := ⟨rfl, rfl, rfl, by decide +kernel, rfl, by decide +kernel, by decide +kernel⟩
theorem ok_start (T : Txt K mg ec) (D : Fn K mg "_law_start" s__law_start) : Knows P w K mg base 1 "_law_start" ["_law_script"] (sp_start K) := by
  refine Knows.mk' D sc__law_start (fun _ _ _ _ _ _ us hl => match us, hl with | [_], _ => rfl) (fun vs H Q E h => ?_) (fun f cdv A outer s H vs Q E hr h => ?_)
  · obtain ⟨s, ns, rfl, _⟩ := h; rfl
  · obtain ⟨s, ns, rfl, hS, hl, k⟩ := h
    refine ⟨_, (pss_cons (ps_set (i := 1) sc__law_start.nd rfl (Or.inl rfl) pe_int)
    (pss_cons (ps_for passO rfl (pi_list (pv 0)) (pg_name (i := 2) sc__law_start.nd rfl (Or.inl rfl)) (pss_one (ps_set (i := 1) sc__law_start.nd rfl (Or.inl rfl) (pe_op op_mod (pe_op op_add (pe_op op_add (pe_op op_mul (pv 1) pe_int) (pv 2)) pe_int) pe_int))))
    (pss_one (ps_ret (pe_lst (pa_cons (pv 0) (pa_cons pe_int (pa_cons (pv 1) (pa_cons pe_int pa_nil))))))))), ?_⟩
    refine g_start (σ := [some _, none, none]) rfl ?_
    try dsimp only [cxOf]
    walk_at "go"
    refine ⟨⟨_, hS⟩, for_L (K := K) (a := s) (xs := ns.map V.int) (fun i σ H' => H' = H ∧ ∃ (m : Int) (c : Option V), σ = [some (.ref s), some (.int m), c]) ⟨rfl, 1, none, rfl⟩ (fun i σ H' _ h => h.1 ▸ hS) ?_ ?_⟩
    · rintro i y σ H' hi ⟨rfl, m, c, rfl⟩
      obtain ⟨z, hz, _⟩ := int_at hi
      subst hz
      walk_at "go"
      exact ⟨rfl, _, _, rfl⟩
    · rintro σ H' ⟨rfl, m, c, rfl⟩
      walk_at "go"
      intro p hp
      exact k p _ hp (Same.new hp) ⟨ns, 0, m, 0, upd_same, fun o => by rw [upd_upd]; exact (Same.new hp).seq hS, hl, Int.le_refl 0⟩
theorem sc__law_drawn : FnScope ["_law_state", "_law_many", "_law_found", "_law_cell"] ["_law_state", "_law_many"] (defScope s__law_drawn) := ⟨rfl, rfl, rfl, by decide +kernel, rfl, by decide +kernel, by decide +kernel⟩
theorem ok_drawn (T : Txt K mg ec) (D : Fn K mg "_law_drawn" s__law_drawn) : Knows P w K mg base 1 "_law_drawn" ["_law_state", "_law_many"] (sp_drawn K) := by
  refine Knows.mk' D sc__law_drawn (fun _ _ _ _ _ _ us hl => match us, hl with | [_, _], _ => rfl) (fun vs H Q E h => ?_) (fun f cdv A outer s H vs Q E hr h => ?_)
  · obtain ⟨a, sc, n, rfl, _⟩ := h; rfl
  · obtain ⟨a, sc, n, rfl, hD, ⟨hn0, hn1⟩, k⟩ := h
    refine ⟨_, (pss_cons (ps_if (pt_cmpR op_gt (pe_ix ix_list (pv 0) pe_int (fun _ _ => rfl)) pe_int (nomark _)) (pss_cons (ps_set (i := 2) sc__law_drawn.nd rfl (Or.inl rfl) (pe_op op_mod (pe_ix ix_list (pv 0) pe_int (fun _ _ => rfl)) (pv 1)))
    (pss_cons (ps_asg (pe_op op_fdivW (pe_ix ix_list (pv 0) pe_int (fun _ _ => rfl)) (pv 1)) (pg_sub (pv 0) pe_int set_list))
    (pss_one (ps_ret (pv 2))))) pss_nil)
    (pss_cons (ps_asg (pe_op op_add (pe_ix ix_list (pv 0) pe_int (fun _ _ => rfl)) pe_int) (pg_sub (pv 0) pe_int set_list))
    (pss_cons (ps_if (pt_cmpR op_le (pe_ix ix_list (pv 0) pe_int (fun _ _ => rfl)) (pe_callB call_lenN (by rfl) T.len PySem.boot_len (pa_cons (pe_ix ix_list (pv 0) pe_int (fun _ _ => rfl)) pa_nil)) (nomark _)) (pss_cons (ps_set (i := 3) sc__law_drawn.nd rfl (Or.inl rfl) (pe_ix ix_list (pe_ix ix_list (pv 0) pe_int (fun _ _ => rfl)) (pe_op op_sub (pe_ix ix_list (pv 0) pe_int (fun _ _ => rfl)) pe_int) (fun _ _ => rfl)))
    (pss_cons (ps_asg (pe_ifExp (pt_cmpR op_ge (pv 3) (pe_powc (v := 1000000000000000000) ⟨by decide, by decide, by decide⟩ (by decide)) (nomark _)) (pe_op op_fdivW (pv 3) (pv 1)) pe_int) (pg_sub (pv 0) pe_int set_list))
    (pss_one (ps_ret (pe_op op_mod (pv 3) (pv 1)))))) pss_nil)
    (pss_cons (ps_asg (pe_op op_mod (pe_op op_add (pe_op op_mul (pe_ix ix_list (pv 0) pe_int (fun _ _ => rfl)) pe_int) pe_int) pe_int) (pg_sub (pv 0) pe_int set_list))
    (pss_one (ps_ret (pe_op op_mod (pe_op op_fdivW (pe_ix ix_list (pv 0) pe_int (fun _ _ => rfl)) pe_int) (pv 1)))))))), ?_⟩
    refine g_start (σ := [some _, some _, none, none]) rfl ?_
    try dsimp only [cxOf]
    obtain ⟨ns, i, m, l, ha, hS, hl, hi⟩ := hD.ex
    have fin : ∀ i' m' l' : Int, 0 ≤ i' → Go K a sc H (upd H a (.lst [.ref sc, .int i', .int m', .int l'])) := fun i' m' l' h =>
      ⟨⟨ns, i', m', l', upd_same, fun o => by rw [upd_upd]; exact hS o, hl, h⟩, Kp.upd⟩
    walk_at "go"
    refine g_ixL (SqL.of ha) rfl ?_
    walk_at "go"
    refine ite_dec (fun h1 => ?_) (fun h1 => ?_)
    · walk_at "go"
      refine g_ixL (SqL.of ha) rfl ?_
      walk_at "go"
      refine g_ixL (SqL.of ha) rfl ?_
      walk_at "go"
      refine g_set43 ha ?_
      walk_at "go"
      exact k _ _ (Int.emod_nonneg _ (by omega)) (Int.emod_lt_of_pos _ hn0) (fin _ _ _ hi)
    · walk_at "go"
      refine g_ixL (SqL.of ha) rfl ?_
      walk_at "go"
      refine g_set41 ha ?_
      walk_at "go"
      refine g_ixL (SqL.of upd_same) rfl ?_
      walk_at "go"
      refine g_ixL (SqL.of upd_same) rfl ?_
      walk_at "go"
      refine g_lenL (hS _) ?_
      walk_at "go"
      rw [List.length_map]
      refine ite_dec (fun h2 => ?_) (fun h2 => ?_)
      · walk_at "go"
        refine g_ixL (SqL.of upd_same) rfl ?_
        walk_at "go"
        refine g_ixL (SqL.of upd_same) rfl ?_
        walk_at "go"
        refine g_ixAny (hS _) (by omega) (by rw [List.length_map]; omega) (fun v hv => ?_)
        obtain ⟨c, _, rfl⟩ := List.mem_map.mp hv
        walk_at "go"
        refine ite_dec (fun h3 => ?_) (fun h3 => ?_)
        · walk_at "go"
          refine g_set43 upd_same ?_
          rw [upd_upd]
          walk_at "go"
          exact k _ _ (Int.emod_nonneg _ (by omega)) (Int.emod_lt_of_pos _ hn0) (fin _ _ _ (by omega))
        · walk_at "go"
          refine g_set43 upd_same ?_
          rw [upd_upd]
          walk_at "go"
          exact k _ _ (Int.emod_nonneg _ (by omega)) (Int.emod_lt_of_pos _ hn0) (fin _ _ _ (by omega))
      · walk_at "go"
        refine g_ixL (SqL.of upd_same) rfl ?_
        walk_at "go"
        refine g_set42 upd_same ?_
        rw [upd_upd]
        walk_at "go"
        refine g_ixL (SqL.of upd_same) rfl ?_
        walk_at "go"
        exact k _ _ (Int.emod_nonneg _ (by omega)) (Int.emod_lt_of_pos _ hn0) (fin _ _ _ (by omega))
theorem sc__law_wheel : FnScope ["_law_state", "_law_wide"] ["_law_state"] (defScope s__law_wheel) := ⟨rfl, rfl, rfl, by decide +kernel, rfl, by decide +kernel, by decide +kernel⟩
theorem ok_wheel (T : Txt K mg ec) (D : Fn K mg "_law_wheel" s__law_wheel) (c__law_drawn : Knows P w K mg base 1 "_law_drawn" ["_law_state", "_law_many"] (sp_drawn K)) : Knows P w K mg base 2 "_law_wheel" ["_law_state"] (sp_wheel K) := by
  refine Knows.mk' D sc__law_wheel (fun _ _ _ _ _ _ us hl => match us, hl with | [_], _ => rfl) (fun vs H Q E h => ?_) (fun f cdv A outer s H vs Q E hr h => ?_)
  · obtain ⟨a, sc, rfl, _⟩ := h; rfl
  · obtain ⟨a, sc, rfl, hD, k⟩ := h
    refine ⟨_, (pss_cons (ps_set (i := 1) sc__law_wheel.nd rfl (Or.inl rfl) (pe_ix ix_list (pe_lst (pa_cons pe_int (pa_cons pe_int (pa_cons (pe_op op_sub (pe_powc (v := 1000000000000) ⟨by decide, by decide, by decide⟩ (by decide)) pe_int) pa_nil)))) (pe_callN c__law_drawn (hr.mono (by first | decide | omega)) passD (pa_cons (pv 0) (pa_cons pe_int pa_nil))) (fun _ _ => rfl)))
    (pss_cons (ps_if (pt_cmpR op_eq (pe_callN c__law_drawn (hr.mono (by first | decide | omega)) passD (pa_cons (pv 0) (pa_cons pe_int pa_nil))) pe_int (nomark _)) (pss_one (ps_ret (pe_ix ix_list (pe_lst (pa_cons pe_int (pa_cons pe_int (pa_cons pe_int (pa_cons pe_int (pa_cons pe_int (pa_cons (pe_powc (v := 65536) ⟨by decide, by decide, by decide⟩ (by decide)) (pa_cons (pe_powc (v := 4294967296) ⟨by decide, by decide, by decide⟩ (by decide)) (pa_cons (pe_powc (v := 549755813888) ⟨by decide, by decide, by decide⟩ (by decide)) pa_nil))))))))) (pe_callN c__law_drawn (hr.mono (by first | decide | omega)) passD (pa_cons (pv 0) (pa_cons pe_int pa_nil))) (fun _ _ => rfl)))) pss_nil)
    (pss_one (ps_ret (pe_op op_add pe_int (pe_callN c__law_drawn (hr.mono (by first | decide | omega)) passD (pa_cons (pv 0) (pa_cons (pv 1) pa_nil)))))))), ?_⟩
    refine g_start (σ := [some _, none]) rfl ?_
    try dsimp only [cxOf]
    walk_at "go"
    intro p hp
    walk_at "go"
    refine ⟨a, sc, 3, rfl, (by walk_at "dr"), (by decide), fun r1 H1 h0 h1 g1 => ?_⟩
    have hne : p ≠ a := by walk_at "ne"
    refine g_ixAny (SqL.of (by walk_at "hp")) h0 (by simpa using h1) (fun v hv => ?_)
    obtain ⟨z, rfl, hz⟩ := one_int (zs := [6, 60, 1000000000000 - 1]) hv
    have hz2 : 6 ≤ z ∧ z ≤ 999999999999 := by
      simp only [List.mem_cons, List.not_mem_nil, or_false] at hz
      omega
    have g1' := g1.new hp
    walk_at "go"
    refine ⟨a, sc, 4, rfl, (by walk_at "dr"), (by decide), fun r2 H2 h0 h1 g2 => ?_⟩
    walk_at "go"
    refine ite_dec (fun h2 => ?_) (fun h2 => ?_)
    · walk_at "go"
      intro q hq
      walk_at "go"
      refine ⟨a, sc, 8, rfl, (by walk_at "dr"), (by decide), fun r3 H3 h0 h1 g3 => ?_⟩
      have hne : q ≠ a := by walk_at "ne"
      refine g_ixAny (SqL.of (by walk_at "hp")) h0 (by simpa using h1) (fun v hv => ?_)
      obtain ⟨z, rfl, hz⟩ := one_int (zs := [2, 4, 8, 64, 256, 65536, 4294967296, 549755813888]) hv
      simp only [List.mem_cons, List.not_mem_nil, or_false] at hz
      exact k _ _ (by show 2 ≤ z ∧ z ≤ 1000000000000; omega) ((g1'.trans g2).trans (g3.new hq))
    · walk_at "go"
      refine ⟨a, sc, z, rfl, (by walk_at "dr"), (by omega), fun r3 H3 h0 h1 g3 => ?_⟩
      walk_at "go"
      exact k _ _ (by show 2 ≤ 2 + r3 ∧ 2 + r3 ≤ 1000000000000; omega) ((g1'.trans g2).trans g3)
theorem sc__law_same : FnScope ["_law_found", "_law_due", "_law_k"] ["_law_found", "_law_due"] (defScope s__law_same) := ⟨rfl, rfl, rfl, by decide +kernel, rfl, by decide +kernel, by decide +kernel⟩
theorem same_step (T : Txt K mg ec) (D : Fn K mg "_law_same" s__law_same) (d : Nat) (c__law_same : Knows P w K mg base d "_law_same" ["_law_found", "_law_due"] (sp_samep d)) : Knows P w K mg base (d + 1) "_law_same" ["_law_found", "_law_due"] (sp_same d) := by
  refine Knows.mk' D sc__law_same (fun _ _ _ _ _ _ us hl => match us, hl with | [_, _], _ => rfl) (fun vs H Q E h => ?_) (fun f cdv A outer s H vs Q E hr h => ?_)
  · obtain ⟨x, y, rfl, _⟩ := h; rfl
  · obtain ⟨x, y, rfl, hsd, k⟩ := h
    refine ⟨_, (pss_cons (ps_if (pt_val (pe_callB call_isiT (by rfl) T.isinstance (by decide +kernel) (pa_cons (pv 1) (pa_cons (pe_tup (pa_cons (pe_bltn (v := .ty "tuple") (u := .type "tuple") (by rfl) T.tuple (by decide +kernel) rfl) (pa_cons (pe_bltn (v := .ty "list") (u := .type "list") (by rfl) T.list (by decide +kernel) rfl) pa_nil))) pa_nil))) (by intro _; rfl)) (pss_cons (ps_if (PW.pt (pw_or (pt_not (pt_val (pe_callB call_isiT (by rfl) T.isinstance (by decide +kernel) (pa_cons (pv 0) (pa_cons (pe_tup (pa_cons (pe_bltn (v := .ty "tuple") (u := .type "tuple") (by rfl) T.tuple (by decide +kernel) rfl) (pa_cons (pe_bltn (v := .ty "list") (u := .type "list") (by rfl) T.list (by decide +kernel) rfl) pa_nil))) pa_nil))) (by intro _; rfl))) (pw_or1 (pt_cmpR op_ne (pe_callB call_isi (by rfl) T.isinstance (by decide +kernel) (pa_cons (pv 0) (pa_cons (pe_bltn (v := .ty "list") (u := .type "list") (by rfl) T.list (by decide +kernel) rfl) pa_nil))) (pe_callB call_isi (by rfl) T.isinstance (by decide +kernel) (pa_cons (pv 1) (pa_cons (pe_bltn (v := .ty "list") (u := .type "list") (by rfl) T.list (by decide +kernel) rfl) pa_nil))) (nomark _))))) (pss_one (ps_ret pe_bl)) pss_nil)
    (pss_cons (ps_if (pt_cmpR op_ne (pe_callB call_lenN (by rfl) T.len PySem.boot_len (pa_cons (pv 0) pa_nil)) (pe_callB call_lenN (by rfl) T.len PySem.boot_len (pa_cons (pv 1) pa_nil)) (nomark _)) (pss_one (ps_ret pe_bl)) pss_nil)
    (pss_one (ps_ret (pe_cmpR (op_eqD hr.units) (pe_lc (own := [("_law_k", 2)]) (g := gName 2) rfl sc__law_same.nd (pi_range1 (by rfl) T.range (pa_cons (pe_callB call_lenN (by rfl) T.len PySem.boot_len (pa_cons (pv 1) pa_nil)) pa_nil)) (blkOk_by (own := [("_law_k", 2)]) (N := ["_law_found", "_law_due", "_law_k"]) (sc := defScope s__law_same) (by decide +kernel)) (fun _ _ _ _ _ => (pg_name (i := 2) sc__law_same.nd rfl (Or.inl rfl))) (fun _ _ _ _ _ => (pts_one (pt_not (pt_val (pe_callN c__law_same (hr.mono (by first | decide | omega)) passL (pa_cons (pe_ix (r := rIx K) ix_seq (pv 0) (pv 2) (fun _ _ => rfl)) (pa_cons (pe_ix (r := rIx K) ix_seq (pv 1) (pv 2) (fun _ _ => rfl)) pa_nil))) (by intro _; rfl))))) (fun _ _ _ _ _ => (pv 2))) (pe_lst pa_nil) (nomark _)))))) pss_nil)
    (pss_cons (ps_if (pt_cmpR op_isNN (pv 1) pe_non (nomark _)) (pss_one (ps_ret (pe_cmpR op_isNN (pv 0) pe_non (nomark _)))) pss_nil)
    (pss_cons (ps_if (pt_val (pe_callB call_isi (by rfl) T.isinstance (by decide +kernel) (pa_cons (pv 1) (pa_cons (pe_bltn (v := .ty "str") (u := .type "str") (by rfl) T.str (by decide +kernel) rfl) pa_nil))) (by intro _; rfl)) (pss_one (ps_ret (pe_and (pe_callB call_isi (by rfl) T.isinstance (by decide +kernel) (pa_cons (pv 0) (pa_cons (pe_bltn (v := .ty "str") (u := .type "str") (by rfl) T.str (by decide +kernel) rfl) pa_nil))) (pe_one (pe_cmpR op_eq (pv 0) (pv 1) (nomark _)))))) pss_nil)
    (pss_cons (ps_if (PW.pt (pw_or (pt_val (pe_callB call_isi (by rfl) T.isinstance (by decide +kernel) (pa_cons (pv 1) (pa_cons (pe_bltn (v := .ty "bool") (u := .type "bool") (by rfl) T.bool (by decide +kernel) rfl) pa_nil))) (by intro _; rfl)) (pw_or1 (pt_val (pe_callB call_isi (by rfl) T.isinstance (by decide +kernel) (pa_cons (pv 0) (pa_cons (pe_bltn (v := .ty "bool") (u := .type "bool") (by rfl) T.bool (by decide +kernel) rfl) pa_nil))) (by intro _; rfl))))) (pss_one (ps_ret (pe_and (pe_callB call_isi (by rfl) T.isinstance (by decide +kernel) (pa_cons (pv 1) (pa_cons (pe_bltn (v := .ty "bool") (u := .type "bool") (by rfl) T.bool (by decide +kernel) rfl) pa_nil))) (pe_and (pe_callB call_isi (by rfl) T.isinstance (by decide +kernel) (pa_cons (pv 0) (pa_cons (pe_bltn (v := .ty "bool") (u := .type "bool") (by rfl) T.bool (by decide +kernel) rfl) pa_nil))) (pe_one (pe_cmpR op_eq (pv 0) (pv 1) (nomark _))))))) pss_nil)
    (pss_one (ps_ret (pe_and (pe_callB call_isi (by rfl) T.isinstance (by decide +kernel) (pa_cons (pv 0) (pa_cons (pe_bltn (v := .ty "int") (u := .type "int") (by rfl) T.int (by decide +kernel) rfl) pa_nil))) (pe_one (pe_cmpR op_eq (pv 0) (pv 1) (nomark _)))))))))), ?_⟩
    refine g_start (σ := [some _, some _, none]) rfl ?_
    try dsimp only [cxOf]
    walk_at "go"
    intro tp htp
    have e1 : Same H (upd H tp (.tup [.ty "tuple", .ty "list"])) := Same.new htp
    walk_at "go"
    cases hsd with
    | non =>
      refine g_isiTL (.base .non) upd_same (r1 := false) (r2 := false) (r := false) (by decide +kernel) (by decide +kernel) rfl ?_
      walk_at "go"
      try refine ite_dec (fun _ => ?_) (fun z => (z rfl).elim)
      walk_at "go"
      rw [decide_eq_true rfl]
      exact k _ e1
    | str z =>
      refine g_isiTL (.base (.str z)) upd_same (r1 := false) (r2 := false) (r := false) (by decide +kernel) (by decide +kernel) rfl ?_
      walk_at "go"
      refine ite_dec (fun z => nomatch z) (fun _ => ?_)
      walk_at "go"
      refine g_isi (.base (.str z)) (r := true) (by decide +kernel) ?_
      walk_at "go"
      refine g_isi (.base (.str z)) (r := true) (by decide +kernel) ?_
      walk_at "go"
      rw [decide_eq_true rfl]
      exact k _ e1
    | bl z =>
      refine g_isiTL (.base (.bl z)) upd_same (r1 := false) (r2 := false) (r := false) (by decide +kernel) (by decide +kernel) rfl ?_
      walk_at "go"
      refine ite_dec (fun z => nomatch z) (fun _ => ?_)
      walk_at "go"
      refine g_isi (.base (.bl z)) (r := false) (by decide +kernel) ?_
      walk_at "go"
      refine g_isi (.base (.bl z)) (r := true) (by decide +kernel) ?_
      walk_at "go"
      refine g_isi (.base (.bl z)) (r := true) (by decide +kernel) ?_
      walk_at "go"
      refine g_isi (.base (.bl z)) (r := true) (by decide +kernel) ?_
      walk_at "go"
      rw [decide_eq_true rfl]
      exact k _ e1
    | int z =>
      refine g_isiTL (.base (.int z)) upd_same (r1 := false) (r2 := false) (r := false) (by decide +kernel) (by decide +kernel) rfl ?_
      walk_at "go"
      refine ite_dec (fun z => nomatch z) (fun _ => ?_)
      walk_at "go"
      refine g_isi (.base (.int z)) (r := false) (by decide +kernel) ?_
      walk_at "go"
      refine g_isi (.base (.int z)) (r := false) (by decide +kernel) ?_
      walk_at "go"
      refine g_isi (.base (.int z)) (r := false) (by decide +kernel) ?_
      walk_at "go"
      refine g_isi (.base (.int z)) (r := true) (by decide +kernel) ?_
      walk_at "go"
      rw [decide_eq_true rfl]
      exact k _ e1
    | @lst d a b xs ys h1 h2 hl hz hi =>
      refine g_isiTL (.base (.lst (e1 _ _ h2))) upd_same (r1 := false) (r2 := true) (r := true) (by decide +kernel) (by decide +kernel) rfl ?_
      walk_at "go"
      intro tq htq
      have e2 := e1.trans (Same.new (o := .tup [.ty "tuple", .ty "list"]) htq)
      walk_at "go"
      refine g_isiTL (.base (.lst (e2 _ _ h1))) upd_same (r1 := false) (r2 := true) (r := true) (by decide +kernel) (by decide +kernel) rfl ?_
      walk_at "go"
      refine g_isi (.base (.lst (e2 _ _ h1))) (r := true) (by decide +kernel) ?_
      walk_at "go"
      refine g_isi (.base (.lst (e2 _ _ h2))) (r := true) (by decide +kernel) ?_
      walk_at "go"
      try refine ite_ndec (fun z => (z rfl).elim) (fun _ => ?_)
      walk_at "go"
      refine g_lenL (SqL.of (e2 _ _ h1)) ?_
      walk_at "go"
      refine g_lenL (SqL.of (e2 _ _ h2)) ?_
      walk_at "go"
      rw [hl]
      try refine ite_ndec (fun z => (z rfl).elim) (fun _ => ?_)
      walk_at "go"
      refine g_lenL (SqL.of (e2 _ _ h2)) ?_
      walk_at "go"
      refine ⟨by omega, by omega, fun L hL => lc_R 0 _ (fun i acc H' => acc = [] ∧ Same H H' ∧ Same (upd (upd H tp (.tup [.ty "tuple", .ty "list"])) tq (.tup [.ty "tuple", .ty "list"])) H') (fun i acc H' o h => ⟨h.1, Same.mut h.2.1 (e2.free hL), Same.mut h.2.2 hL⟩) ⟨rfl, e2, Same.refl _⟩ ?_ ?_⟩
      · rintro i acc H3 hil ⟨rfl, e3, e3'⟩ hDl hal
        walk_at "wp"
        walk_at "go"
        refine ⟨rfl, ?_⟩
        walk_at "go"
        have hil2 : i < ys.length := by omega
        have hil1 : i < xs.length := by omega
        refine Or.inl (g_ixL (v := xs[i]) (SqL.of (e3 _ _ h1)) (by rw [Int.zero_add]; exact atI_nat (List.getElem?_eq_getElem hil1)) ?_)
        walk_at "go"
        refine Or.inl (g_ixL (v := ys[i]) (SqL.of (e3 _ _ h2)) (by rw [Int.zero_add]; exact atI_nat (List.getElem?_eq_getElem hil2)) ?_)
        walk_at "go"
        refine ⟨_, _, rfl, (hi i _ _ (List.getElem?_eq_getElem hil1) (List.getElem?_eq_getElem hil2)).same e3, fun H4 e4 => ?_⟩
        walk_at "go"
        exact lc_skip (e4 _ _ hDl) hal ⟨rfl, e3.trans e4, e3'.trans e4⟩
      · rintro acc H3 ⟨rfl, e3, _⟩ hDl
        walk_at "go"
        intro z hz
        refine g_eqInts (ns := []) (ms := []) (SqL.of (by walk_at "hp")) (SqL.of upd_same) ?_
        rw [decide_eq_true rfl]
        exact k _ (e3.trans (Same.new hz))
    | @tup d a b xs ys h1 h2 hl hz hi =>
      refine g_isiTL (.base (.tup (e1 _ _ h2))) upd_same (r1 := true) (r2 := false) (r := true) (by decide +kernel) (by decide +kernel) rfl ?_
      walk_at "go"
      intro tq htq
      have e2 := e1.trans (Same.new (o := .tup [.ty "tuple", .ty "list"]) htq)
      walk_at "go"
      refine g_isiTL (.base (.tup (e2 _ _ h1))) upd_same (r1 := true) (r2 := false) (r := true) (by decide +kernel) (by decide +kernel) rfl ?_
      walk_at "go"
      refine g_isi (.base (.tup (e2 _ _ h1))) (r := false) (by decide +kernel) ?_
      walk_at "go"
      refine g_isi (.base (.tup (e2 _ _ h2))) (r := false) (by decide +kernel) ?_
      walk_at "go"
      try refine ite_ndec (fun z => (z rfl).elim) (fun _ => ?_)
      walk_at "go"
      refine g_lenT (SqT.of (e2 _ _ h1)) ?_
      walk_at "go"
      refine g_lenT (SqT.of (e2 _ _ h2)) ?_
      walk_at "go"
      rw [hl]
      try refine ite_ndec (fun z => (z rfl).elim) (fun _ => ?_)
      walk_at "go"
      refine g_lenT (SqT.of (e2 _ _ h2)) ?_
      walk_at "go"
      refine ⟨by omega, by omega, fun L hL => lc_R 0 _ (fun i acc H' => acc = [] ∧ Same H H' ∧ Same (upd (upd H tp (.tup [.ty "tuple", .ty "list"])) tq (.tup [.ty "tuple", .ty "list"])) H') (fun i acc H' o h => ⟨h.1, Same.mut h.2.1 (e2.free hL), Same.mut h.2.2 hL⟩) ⟨rfl, e2, Same.refl _⟩ ?_ ?_⟩
      · rintro i acc H3 hil ⟨rfl, e3, e3'⟩ hDl hal
        walk_at "wp"
        walk_at "go"
        refine ⟨rfl, ?_⟩
        walk_at "go"
        have hil2 : i < ys.length := by omega
        have hil1 : i < xs.length := by omega
        refine Or.inr (Or.inl (g_ixT (v := xs[i]) (SqT.of (e3 _ _ h1)) (by rw [Int.zero_add]; exact atI_nat (List.getElem?_eq_getElem hil1)) ?_))
        walk_at "go"
        refine Or.inr (Or.inl (g_ixT (v := ys[i]) (SqT.of (e3 _ _ h2)) (by rw [Int.zero_add]; exact atI_nat (List.getElem?_eq_getElem hil2)) ?_))
        walk_at "go"
        refine ⟨_, _, rfl, (hi i _ _ (List.getElem?_eq_getElem hil1) (List.getElem?_eq_getElem hil2)).same e3, fun H4 e4 => ?_⟩
        walk_at "go"
        exact lc_skip (e4 _ _ hDl) hal ⟨rfl, e3.trans e4, e3'.trans e4⟩
      · rintro acc H3 ⟨rfl, e3, _⟩ hDl
        walk_at "go"
        intro z hz
        refine g_eqInts (ns := []) (ms := []) (SqL.of (by walk_at "hp")) (SqL.of upd_same) ?_
        rw [decide_eq_true rfl]
        exact k _ (e3.trans (Same.new hz))
theorem ok_same0 (T : Txt K mg ec) (D : Fn K mg "_law_same" s__law_same) : Knows P w K mg base 1 "_law_same" ["_law_found", "_law_due"] (sp_same 0) := same_step T D 0 (knows_false D (fun _ _ _ _ _ _ us hl => match us, hl with | [_, _], _ => rfl))
theorem ok_same1 (T : Txt K mg ec) (D : Fn K mg "_law_same" s__law_same) : Knows P w K mg base 2 "_law_same" ["_law_found", "_law_due"] (sp_same 1) := same_step T D 1 (ok_same0 T D)
theorem sc__law_kind : FnScope ["_law_work", "e", "_law_kinds", "_law_words"] ["_law_work"] (defScope s__law_kind) := ⟨rfl, rfl, rfl, by decide +kernel, rfl, by decide +kernel, by decide +kernel⟩
theorem kind_gives (X : Cx) {ec : Ec} (T : Txt X.K X.mg ec) (g : Addr) (cdg : Value) (q : Str) : LamX.GivesTo X ["_law_work", "e", "_law_kinds", "_law_words"] "_law_kind" (defScope s__law_kind) g cdg (defBody s__law_kind) "_law_work" q (TKind X.K ec) := by
  intro f c' s H Q tl act hc h
  refine ⟨_, pss_one (ps_try_as (X := (cxOf C8.CX0 X.prog X.w X.K X.mg X.base ["_law_work", "e", "_law_kinds", "_law_words"] "_law_kind" (defScope s__law_kind) g cdg X.A X.stack s H C8.E0).nox) (c := .ref ec.WrapError) (i := 1)
      (tb := fun W D σ H => ∃ Ech : XK, (∀ cls d σ' H', Ech cls d H' → W cls d σ' H') ∧ σ[0]? = some (some (.ref f)) ∧ H c' = some (LamX.CodeO c' q) ∧ tl Ech H D.rt)
      (ts := fun a cls d Dd σ H => ∃ D j, cls = .ref D ∧ d = none ∧ KindOf X.K ec D j ∧ (∃ σ' : L2.St, σ = σ'.set 1 (some (.ref a))) ∧ ∀ H'', Same H H'' → Dd.rt (.str (namesL.getD j "")) H'')
      (Wout := fun _ _ _ _ => False) rfl rfl sc__law_kind.nd rfl rfl ⟨rfl, by decide, .inl T.x_WrapError.g⟩ LamX.takes0 (fun W pn xe tk _ => ?_) (fun a oe cls d pn hz hv => ?_)), ?_⟩
  · refine ⟨fun pins s' σ H' D I h' => ?_⟩
    obtain ⟨Ech, hW, h1, h2, h3⟩ := h'
    exact (pss_one (ps_ret (act W pn xe Ech _ _ tk hW))).run pins s' σ H' D I ⟨h1, h2, h3⟩
  · refine pss_by fun Dd σ H' hlen h' => ?_
    obtain ⟨D, j, rfl, rfl, kd, ⟨σ', rfl⟩, k⟩ := h'
    rw [List.length_set] at hlen
    obtain ⟨x0, x1, x2, x3, rfl⟩ : ∃ x0 x1 x2 x3, σ' = [x0, x1, x2, x3] := by
      match σ', hlen with
      | [x0, x1, x2, x3], _ => exact ⟨x0, x1, x2, x3, rfl⟩
    refine ⟨_, (pss_cons (ps_set (i := 2) sc__law_kind.nd rfl (Or.inl rfl) (pe_lst (pa_cons (pe_callB (call_isE kd.c hz hv) (by rfl) T.isinstance (by decide +kernel) (pa_cons (pv 1) (pa_cons (pe_glob (v := .ref ec.BadWheel) rfl T.x_BadWheel.g rfl) pa_nil))) (pa_cons (pe_callB (call_isE kd.c hz hv) (by rfl) T.isinstance (by decide +kernel) (pa_cons (pv 1) (pa_cons (pe_glob (v := .ref ec.BadRule) rfl T.x_BadRule.g rfl) pa_nil))) (pa_cons (pe_callB (call_isE kd.c hz hv) (by rfl) T.isinstance (by decide +kernel) (pa_cons (pv 1) (pa_cons (pe_glob (v := .ref ec.BadSeen) rfl T.x_BadSeen.g rfl) pa_nil))) (pa_cons (pe_callB (call_isE kd.c hz hv) (by rfl) T.isinstance (by decide +kernel) (pa_cons (pv 1) (pa_cons (pe_glob (v := .ref ec.BadGaps) rfl T.x_BadGaps.g rfl) pa_nil))) pa_nil))))))
    (pss_cons (ps_set (i := 2) sc__law_kind.nd rfl (Or.inl rfl) (pe_op op_cat (pv 2) (pe_lst (pa_cons (pe_callB (call_isE kd.c hz hv) (by rfl) T.isinstance (by decide +kernel) (pa_cons (pv 1) (pa_cons (pe_glob (v := .ref ec.BadSpan) rfl T.x_BadSpan.g rfl) pa_nil))) (pa_cons (pe_callB (call_isE kd.c hz hv) (by rfl) T.isinstance (by decide +kernel) (pa_cons (pv 1) (pa_cons (pe_glob (v := .ref ec.BadLong) rfl T.x_BadLong.g rfl) pa_nil))) (pa_cons (pe_callB (call_isE kd.c hz hv) (by rfl) T.isinstance (by decide +kernel) (pa_cons (pv 1) (pa_cons (pe_glob (v := .ref ec.NoGap) rfl T.x_NoGap.g rfl) pa_nil))) (pa_cons (pe_callB (call_isE kd.c hz hv) (by rfl) T.isinstance (by decide +kernel) (pa_cons (pv 1) (pa_cons (pe_glob (v := .ref ec.NoSpan) rfl T.x_NoSpan.g rfl) pa_nil))) pa_nil)))))))
    (pss_cons (ps_set (i := 3) sc__law_kind.nd rfl (Or.inl rfl) (pe_lst (pa_cons pe_str (pa_cons pe_str (pa_cons pe_str (pa_cons pe_str (pa_cons pe_str (pa_cons pe_str (pa_cons pe_str (pa_cons pe_str pa_nil))))))))))
    (pss_cons (ps_if (PW.pt (pw_or (pt_cmpR op_ne (pe_bm PySem.F.plainAttrs_list PySem.F.slot_list_count PySem.F.type_list_count mt_countF (pv 2) (pa_cons pe_bl pa_nil)) pe_int (nomark _)) (pw_or1 (pt_not (pt_val (pe_callB (call_isE kd.c hz hv) (by rfl) T.isinstance (by decide +kernel) (pa_cons (pv 1) (pa_cons (pe_bltn (v := .ty "ValueError") (u := .type "ValueError") (by rfl) T.ValueError (by decide +kernel) rfl) pa_nil))) (by intro _; rfl)))))) (pss_one (ps_ret pe_str)) pss_nil)
    (pss_one (ps_ret (pe_ix ix_list (pv 3) (pe_bm PySem.F.plainAttrs_list PySem.F.slot_list_index PySem.F.type_list_index mt_index (pv 2) (pa_cons pe_bl pa_nil)) (fun _ _ => rfl)))))))), ?_⟩
    try dsimp only [cxOf]
    walk_at "wp"
    walk_at "go"
    refine g_isE kd.i0 ?_
    walk_at "go"
    refine g_isE kd.i1 ?_
    walk_at "go"
    refine g_isE kd.i2 ?_
    walk_at "go"
    refine g_isE kd.i3 ?_
    walk_at "go"
    intro p1 hp1
    walk_at "go"
    refine g_isE kd.i4 ?_
    walk_at "go"
    refine g_isE kd.i5 ?_
    walk_at "go"
    refine g_isE kd.i6 ?_
    walk_at "go"
    refine g_isE kd.i7 ?_
    walk_at "go"
    intro p2 hp2
    refine g_cat (upd_old upd_same hp2) upd_same (by simp) (fun p3 hp3 => ?_)
    have e1 := ((Same.new hp1 (o := .lst [V.bl (decide (0 = j)), V.bl (decide (1 = j)), V.bl (decide (2 = j)), V.bl (decide (3 = j))])).trans (Same.new hp2 (o := .lst [V.bl (decide (4 = j)), V.bl (decide (5 = j)), V.bl (decide (6 = j)), V.bl (decide (7 = j))]))).trans (Same.new hp3 (o := .lst (kindsL j)))
    have u1 : upd (upd (upd H' p1 (.lst [V.bl (decide (0 = j)), V.bl (decide (1 = j)), V.bl (decide (2 = j)), V.bl (decide (3 = j))])) p2 (.lst [V.bl (decide (4 = j)), V.bl (decide (5 = j)), V.bl (decide (6 = j)), V.bl (decide (7 = j))])) p3 (.lst (kindsL j)) p3 = some (.lst (kindsL j)) := upd_same
    show gName _ _ _ (upd (upd (upd H' p1 (.lst [V.bl (decide (0 = j)), V.bl (decide (1 = j)), V.bl (decide (2 = j)), V.bl (decide (3 = j))])) p2 (.lst [V.bl (decide (4 = j)), V.bl (decide (5 = j)), V.bl (decide (6 = j)), V.bl (decide (7 = j))])) p3 (.lst (kindsL j))) _
    generalize upd (upd (upd H' p1 (.lst [V.bl (decide (0 = j)), V.bl (decide (1 = j)), V.bl (decide (2 = j)), V.bl (decide (3 = j))])) p2 (.lst [V.bl (decide (4 = j)), V.bl (decide (5 = j)), V.bl (decide (6 = j)), V.bl (decide (7 = j))])) p3 (.lst (kindsL j)) = H1 at *
    walk_at "go"
    intro p4 hp4
    have e2 := Same.new hp4 (o := .lst (namesL.map V.str))
    walk_at "go"
    refine g_tyL (SqL.of (e2 _ _ u1)) ?_
    walk_at "go"
    refine g_count (SqL.of (e2 _ _ u1)) rfl (kinds_flat j) ?_
    rw [kinds_count j kd.lt]
    walk_at "go"
    refine ite_ndec (fun z => (z rfl).elim) (fun _ => ?_)
    walk_at "go"
    refine g_isET kd.v ?_
    walk_at "go"
    refine g_tyL (SqL.of (e2 _ _ u1)) ?_
    walk_at "go"
    refine g_index (SqL.of (e2 _ _ u1)) rfl (kinds_flat j) (kinds_at j kd.lt) rfl (fun m z hm hz => kinds_no kd.lt m z hm hz) ?_
    walk_at "go"
    refine g_ixL (xs := namesL.map V.str) (SqL.of upd_same) (atI_nat (names_at j kd.lt)) ?_
    walk_at "go"
    exact k _ (e1.trans e2)
  · refine ⟨_, fun cls d σ' H' h' => ?_, rfl, hc, h⟩
    obtain ⟨D, j, rfl, rfl, kd, k⟩ := h'
    exact ⟨true, kd.m, fun _ a ha => ⟨D, j, rfl, rfl, kd, ⟨σ', rfl⟩, k⟩, fun z => by cases z⟩
end
end My
namespace My
open PySem PySem.Spec PyProof.Rows L2
/-! ### promises: readers -/
def rdF (n : Int) (q : Addr) (v : V) (t : Int) : List (Str × V) := [("wheel", .int n), ("rule", .ref q), ("last", v), ("told", .int t)]
structure RdAt (C : Addr) (H : Hp) (p : Addr) (n : Int) (q : Addr) (v : V) (t : Int) : Prop where
  ob : ∃ dx, H p = some (.ins C dx (rdF n q v t))
theorem rdF_wheel {n : Int} {q : Addr} {v : V} {t : Int} : (rdF n q v t).lookup ("wheel" : Str) = some (.int n) := rfl
theorem rdF_rule {n : Int} {q : Addr} {v : V} {t : Int} : (rdF n q v t).lookup ("rule" : Str) = some (.ref q) := rfl
theorem rdF_last {n : Int} {q : Addr} {v : V} {t : Int} : (rdF n q v t).lookup ("last" : Str) = some v := rfl
theorem rdF_told {n : Int} {q : Addr} {v : V} {t : Int} : (rdF n q v t).lookup ("told" : Str) = some (.int t) := rfl
theorem rdF_look {n : Int} {q : Addr} {v : V} {t : Int} : (rdF n q v t).lookup ("look" : Str) = none := rfl
theorem rdF_now {n : Int} {q : Addr} {v : V} {t : Int} : (rdF n q v t).lookup ("now" : Str) = none := rfl
theorem rdF_pt {n : Int} {q : Addr} {v : V} {t t' : Int} : putF "told" (.int t') (rdF n q v t) = rdF n q v t' := rfl
theorem rdF_pl {n : Int} {q : Addr} {v v' : V} {t : Int} : putF "last" v' (rdF n q v t) = rdF n q v' t := rfl
theorem rdF_mk {n : Int} {q : Addr} {v : V} {t : Int} : putF "told" (.int t) (putF "last" v (putF "rule" (.ref q) (putF "wheel" (.int n) []))) = rdF n q v t := rfl
def sp_init (ec : Ec) : Sp := fun vs H Q E => ∃ (p dx : Addr) (n : Int) (q : Addr) (w : Raw) (t : Int), vs = [.ref p, .int n, .ref q, .int t] ∧ H p = some (.ins ec.Reader dx []) ∧ H q = some (.tup (rawV w)) ∧ RawS w ∧
  (∀ r, w = toRaw r → Wh n → RuleOk n r → ∀ v H', SeenAt H' r v (shownR n r t) → RdAt ec.Reader H' p n q v t → Kp p H H' → Q .non H') ∧ (¬ Wh n → E (.ref ec.BadWheel) none H) ∧ (Wh n → ¬ RawOk n w → ∀ H', Same H H' → E (.ref ec.BadRule) none H')
def sp_look (ec : Ec) : Sp := fun vs H Q E => ∃ (p : Addr) (n : Int) (q : Addr) (r : Rule) (v v2 v3 : V) (t : Int) (x y : Int × Int) (a : Int), vs = [.ref p, v2, v3] ∧ RdAt ec.Reader H p n q v t ∧ H q = some (.tup (ruleV r)) ∧ Wh n ∧ RuleOk n r ∧
  SeenAt H r v x ∧ SeenAt H r v2 y ∧ aboutV r v3 a ∧ (SeenOk n r y → ∀ g H', Gp n r x y a g → RdAt ec.Reader H' p n q v2 (t + g) → Kp p H H' → Q (.int (t + g)) H') ∧ (SeenOk n r y → (∀ g, ¬ Gp n r x y a g) → E (.ref ec.NoGap) none H) ∧
  (¬ SeenOk n r y → E (.ref ec.BadSeen) none H)
def sp_is_right (ec : Ec) : Sp := fun vs H Q _ => ∃ (p : Addr) (n : Int) (q : Addr) (r : Rule) (v v3 : V) (t time : Int) (x : Int × Int) (a : Int), vs = [.ref p, .int time, v3] ∧ RdAt ec.Reader H p n q v t ∧ H q = some (.tup (ruleV r)) ∧ Wh n ∧ RuleOk n r ∧
  SeenAt H r v x ∧ aboutV r v3 a ∧ (∀ g v2 H', Gp n r x (shownR n r time) a g → SeenAt H' r v2 (shownR n r time) → RdAt ec.Reader H' p n q v2 (t + g) → Kp p H H' → Q (.bl (decide (t + g = time))) H') ∧
  ((∀ g, ¬ Gp n r x (shownR n r time) a g) → ∀ H', Same H H' → Q (.bl false) H')
/-- is the k-th gap (of about: how much more it is) within the bound -/
def OkAt (n : Int) (r : Rule) (ts as : List Int) (k : Nat) : Prop := loR n r + shR r (as.getD (k - 1) 0) ≤ ts.getD k 0 - ts.getD (k - 1) 0 ∧ ts.getD k 0 - ts.getD (k - 1) 0 ≤ hiR n r + shR r (as.getD (k - 1) 0)
instance {n : Int} {r : Rule} {ts as : List Int} {k : Nat} : Decidable (OkAt n r ts as k) := inferInstanceAs (Decidable (_ ∧ _))
/-- the first one that errs -/
def FW (n : Int) (r : Rule) (ts as : List Int) : Option Nat → Prop
  | some k => 1 ≤ k ∧ k < ts.length ∧ ¬ OkAt n r ts as k ∧ ∀ j, 1 ≤ j → j < k → OkAt n r ts as j
  | none => ∀ j, 1 ≤ j → j < ts.length → OkAt n r ts as j
def optV : Option Nat → V
  | some i => .int (i : Nat)
  | none => .non
def wantN (w : Raw) (ts : List Int) : Int := match w with
  | .two s _ => if s = "about" then (ts.length : Int) - 1 else 0
  | _ => 0
def sp_first_wrong (K : PySem.W.Frag) (ec : Ec) : Sp := fun vs H Q E => ∃ (n : Int) (q : Addr) (w : Raw) (p1 p2 : Addr) (ts as : List Int), vs = [.int n, .ref q, .ref p1, .ref p2] ∧ H q = some (.tup (rawV w)) ∧ RawS w ∧ SqL K H p1 (ts.map V.int) ∧ SqL K H p2 (as.map V.int) ∧
  ts.length ≤ 100000 ∧ (∀ r, w = toRaw r → Wh n → RuleOk n r → ts ≠ [] → (as.length : Int) = wantN w ts → ∀ o H', FW n r ts as o → Same H H' → Q (optV o) H') ∧ (¬ Wh n → E (.ref ec.BadWheel) none H) ∧ (Wh n → ¬ RawOk n w → ∀ H', Same H H' → E (.ref ec.BadRule) none H') ∧
  (Wh n → RawOk n w → (ts = [] ∨ ¬ (as.length : Int) = wantN w ts) → ∀ H', Same H H' → E (.ref ec.BadGaps) none H')
theorem Kp.at {a b : Addr} {H H' : Hp} {o : HO} (k : Kp a H H') (h : H b = some o) (n : b ≠ a) : H' b = some o := k b o h n
theorem Kp.seq {K : PySem.W.Frag} {a p : Addr} {H H' : Hp} {xs : List V} (g : Kp a H H') (h : SqL K H p xs) (n : p ≠ a) : SqL K H' p xs := by
  rcases h with (h | ⟨o, h⟩) | h
  · exact .inl (.inl (g _ _ h n))
  · exact .inl (.inr ⟨o, g _ _ h n⟩)
  · exact .inr h
theorem SeenAt.kp {H H' : Hp} {r : Rule} {v : V} {x : Int × Int} {p C dx : Addr} {fs : List (Str × V)} (g : Kp p H H') (hp : H p = some (.ins C dx fs)) (h : SeenAt H r v x) : SeenAt H' r v x := by
  cases r with
  | pair o =>
    obtain ⟨q, h1, h2⟩ := h
    exact ⟨q, h1, g _ _ h2 (ne_of h2 hp (by intro z; cases z))⟩
  | _ => exact h
theorem int_getD {ts : List Int} {k : Nat} (h : k < ts.length) : atI (ts.map V.int) (k : Int) = some (.int (ts.getD k 0)) := by
  refine atI_nat ?_
  rw [List.getElem?_map, List.getElem?_eq_getElem h, List.getD_eq_getElem?_getD, List.getElem?_eq_getElem h]
  rfl
theorem Gp.ok {n : Int} {r : Rule} {ts as : List Int} {k : Nat} : OkAt n r ts as k ↔ Gp n r (shownR n r (ts.getD (k - 1) 0)) (shownR n r (ts.getD k 0)) (as.getD (k - 1) 0) (ts.getD k 0 - ts.getD (k - 1) 0) :=
  ⟨fun h => ⟨h.1, h.2, Cg.true⟩, fun h => ⟨h.1, h.2.1⟩⟩
theorem aboutV_int {r : Rule} {a : Int} : aboutV r (.int a) a := by cases r <;> first | rfl | trivial
theorem aboutV_non {r : Rule} {a : Int} (h : ∀ f, r ≠ .about f) : aboutV r .non a := by
  cases r with
  | about f => exact absurd rfl (h f)
  | _ => trivial
theorem wantA {f : Int} {ts : List Int} : wantN (toRaw (.about f)) ts = (ts.length : Int) - 1 := by
  show (if ("about" : Str) = "about" then (ts.length : Int) - 1 else 0) = _
  rw [if_pos rfl]
theorem wantU {f : Int} {ts : List Int} : wantN (toRaw (.up f)) ts = 0 := by
  show (if ("up" : Str) = "about" then (ts.length : Int) - 1 else 0) = _
  rw [if_neg (by decide)]
theorem wantP {f : Int} {ts : List Int} : wantN (toRaw (.pair f)) ts = 0 := by
  show (if ("pair" : Str) = "about" then (ts.length : Int) - 1 else 0) = _
  rw [if_neg (by decide)]
theorem want_about {r : Rule} {ts as : List Int} (h : (as.length : Int) = wantN (toRaw r) ts) (h2 : 1 < ts.length) (h3 : as = []) : ∀ f, r ≠ .about f := by
  rintro f rfl
  subst h3
  have : wantN (toRaw (.about f)) ts = (ts.length : Int) - 1 := wantA
  rw [this] at h
  simp at h
  omega
theorem want_len {r : Rule} {ts as : List Int} (h : (as.length : Int) = wantN (toRaw r) ts) (h2 : as ≠ []) : as.length = ts.length - 1 := by
  have h0 : 0 < as.length := List.length_pos_iff.mpr h2
  cases r with
  | about f =>
    have : wantN (toRaw (.about f)) ts = (ts.length : Int) - 1 := wantA
    omega
  | up l =>
    have : wantN (toRaw (.up l)) ts = 0 := wantU
    omega
  | pair l =>
    have : wantN (toRaw (.pair l)) ts = 0 := wantP
    omega
  | near =>
    have : wantN (toRaw .near) ts = 0 := rfl
    omega
end My
namespace My
open PySem PySem.Spec PyProof.Rows L2
def sp_now (ec : Ec) : Sp := fun vs H Q _ => ∃ (p : Addr) (n : Int) (q : Addr) (v : V) (t : Int), vs = [.ref p] ∧ RdAt ec.Reader H p n q v t ∧ Q (.int t) H
/-- a number beyond -/
def sp_far (K : PySem.W.Frag) : Sp := fun vs H Q _ => ∃ (a s : Addr) (l m : Int), vs = [.ref a, .int l, .int m] ∧ Dr K a s H ∧ ∀ z H', z < l ∨ m < z → Go K a s H H' → Q (.int z) H'
end My
namespace My
open PySem PySem.Spec PyProof.Rows L2
section
variable {P : Program} {w : World} {K : PySem.W.Frag} {mg : Str → Option Value} {base : Heap} {ec : Ec}
theorem sc_Reader_init : FnScope ["self", "wheel", "rule", "begun"] ["self", "wheel", "rule", "begun"] (defScope s_Reader_init) := ⟨rfl, rfl, rfl, by decide +kernel, rfl, by decide +kernel, by decide +kernel⟩
theorem ok_Reader_init (T : Txt K mg ec) (D : FnI K ec.Reader "Reader.__init__" s_Reader_init) (c_need_rule : Knows P w K mg base 3 "need_rule" ["wheel", "rule"] (sp_need_rule ec)) (c_shown_of : Knows P w K mg base 1 "shown_of" ["wheel", "rule", "time"] sp_shown_of) : KnowsI P w K mg base 4 ec.Reader ["self", "wheel", "rule", "begun"] (sp_init ec) := by
  refine KnowsI.mk' D sc_Reader_init (fun _ _ _ _ _ _ us hl => match us, hl with | [_, _, _, _], _ => rfl) (fun vs H Q E h => ?_) (fun f cdv A outer s H vs Q E hr h => ?_)
  · obtain ⟨p, dx, n, q, raw, t, rfl, _⟩ := h; rfl
  · obtain ⟨p, dx, n, q, raw, t, rfl, hp, hq, hs, k1, k2, k3⟩ := h
    refine ⟨_, (pss_cons (ps_expr (pe_callN c_need_rule (hr.mono (by first | decide | omega)) passD (pa_cons (pv 1) (pa_cons (pv 2) pa_nil))))
    (pss_cons (ps_fld (pv 0) (pv 1) rfl)
    (pss_cons (ps_fld (pv 0) (pv 2) rfl)
    (pss_cons (ps_fld (pv 0) (pe_callN c_shown_of (hr.mono (by first | decide | omega)) passD (pa_cons (pv 1) (pa_cons (pv 2) (pa_cons (pv 3) pa_nil)))) rfl)
    (pss_one (ps_fld (pv 0) (pv 3) rfl)))))), ?_⟩
    refine g_start (σ := [some _, some _, some _, some _]) rfl ?_
    try dsimp only [cxOf]
    walk_at "go"
    refine ⟨n, q, raw, rfl, hq, hs, fun hw hr1 H1 e1 => ?_, k2, k3⟩
    obtain ⟨r, rfl, hr2⟩ := rule_of hr1
    have hp1 := e1 _ _ hp
    have hq1 := e1 _ _ hq
    rw [rawV_to] at hq1
    have nqp : q ≠ p := ne_of hq1 hp1 (by intro z; cases z)
    walk_at "go"
    refine ⟨p, ec.Reader, dx, _, rfl, hp1, T.k_Reader, T.n_Reader_wheel, by decide, ?_⟩
    walk_at "go"
    refine ⟨p, ec.Reader, dx, _, rfl, upd_same, T.k_Reader, T.n_Reader_rule, by show 1 < 1000; decide, ?_⟩
    have kp2 : Kp p H1 (upd (upd H1 p (.ins ec.Reader dx (putF "wheel" (.int n) []))) p (.ins ec.Reader dx (putF "rule" (.ref q) (putF "wheel" (.int n) [])))) := Kp.upd.trans Kp.upd
    have hp2 : upd (upd H1 p (.ins ec.Reader dx (putF "wheel" (.int n) []))) p (.ins ec.Reader dx (putF "rule" (.ref q) (putF "wheel" (.int n) []))) p = some (.ins ec.Reader dx (putF "rule" (.ref q) (putF "wheel" (.int n) []))) := upd_same
    generalize upd (upd H1 p (.ins ec.Reader dx (putF "wheel" (.int n) []))) p (.ins ec.Reader dx (putF "rule" (.ref q) (putF "wheel" (.int n) []))) = H2 at kp2 hp2
    walk_at "go"
    refine ⟨n, q, r, t, rfl, kp2.at hq1 nqp, hw, hr2, fun v H3 e3 hv => ?_⟩
    have hp3 := e3 _ _ hp2
    walk_at "go"
    refine ⟨p, ec.Reader, dx, _, rfl, hp3, T.k_Reader, T.n_Reader_last, by show 2 < 1000; decide, ?_⟩
    walk_at "go"
    refine ⟨p, ec.Reader, dx, _, rfl, upd_same, T.k_Reader, T.n_Reader_told, by show 3 < 1000; decide, ?_⟩
    walk_at "go"
    have kp4 : Kp p H3 (upd (upd H3 p (.ins ec.Reader dx (putF "last" v (putF "rule" (.ref q) (putF "wheel" (.int n) []))))) p (.ins ec.Reader dx (putF "told" (.int t) (putF "last" v (putF "rule" (.ref q) (putF "wheel" (.int n) [])))))) := Kp.upd.trans Kp.upd
    exact k1 r rfl hw hr2 v _ (hv.kp kp4 hp3) ⟨dx, upd_same⟩ (((Kp.same e1).trans kp2).trans ((Kp.same e3).trans kp4))
theorem sc_Reader_look : FnScope ["self", "seen", "about"] ["self", "seen", "about"] (defScope s_Reader_look) := ⟨rfl, rfl, rfl, by decide +kernel, rfl, by decide +kernel, by decide +kernel⟩
theorem ok_Reader_look (T : Txt K mg ec) (D : FnD K ec.Reader "look" "Reader.look" [.non] s_Reader_look) (c_need_shown : Knows P w K mg base 2 "need_shown" ["wheel", "rule", "seen"] (sp_need_shown ec)) (c_gap_of : Knows P w K mg base 3 "gap_of" ["wheel", "rule", "one", "other", "about"] (sp_gap_of ec)) : KnowsM2 P w K mg base 4 ec.Reader "look" ["self", "seen", "about"] (sp_look ec) := by
  refine KnowsD.mk2 D sc_Reader_look (fun T kV doc pm an cdv ct us its h1 h2 => match us, its, h1, h2 with | [_, _, _], [_], _, _ => ⟨_, rfl, rfl⟩) (fun T kV doc pm an cdv ct us its h1 h2 => match us, its, h1, h2 with | [_, _], [_], _, _ => ⟨_, rfl, rfl⟩) (fun vs H Q E h => ?_) (fun f cdv A outer s H vs Q E hr h => ?_)
  · obtain ⟨p, n, q, r, v, v2, v3, t, x, y, a, rfl, _⟩ := h; rfl
  · obtain ⟨p, n, q, r, v, v2, v3, t, x, y, a, rfl, ⟨dx, hp⟩, hq, hw, hr0, hv, hv2, hv3, k1, k2, k3⟩ := h
    refine ⟨_, (pss_cons (ps_expr (pe_callN c_need_shown (hr.mono (by first | decide | omega)) passD (pa_cons (pe_fld (pv 0) rfl) (pa_cons (pe_fld (pv 0) rfl) (pa_cons (pv 1) pa_nil)))))
    (pss_cons (ps_fld (pv 0) (pe_op op_add (pe_fld (pv 0) rfl) (pe_callN c_gap_of (hr.mono (by first | decide | omega)) passD (pa_cons (pe_fld (pv 0) rfl) (pa_cons (pe_fld (pv 0) rfl) (pa_cons (pe_fld (pv 0) rfl) (pa_cons (pv 1) (pa_cons (pv 2) pa_nil))))))) rfl)
    (pss_cons (ps_fld (pv 0) (pv 1) rfl)
    (pss_one (ps_ret (pe_fld (pv 0) rfl)))))), ?_⟩
    refine g_start (σ := [some _, some _, some _]) rfl ?_
    try dsimp only [cxOf]
    walk_at "go"
    refine g_fldR T.k_Reader T.n_Reader_wheel hp rdF_wheel ?_
    walk_at "go"
    refine g_fldR T.k_Reader T.n_Reader_rule hp rdF_rule ?_
    walk_at "go"
    refine ⟨n, q, r, v2, y, rfl, hq, hv2, fun hy => ?_, k3⟩
    walk_at "go"
    refine g_fldR T.k_Reader T.n_Reader_told hp rdF_told ?_
    walk_at "go"
    refine g_fldR T.k_Reader T.n_Reader_wheel hp rdF_wheel ?_
    walk_at "go"
    refine g_fldR T.k_Reader T.n_Reader_rule hp rdF_rule ?_
    walk_at "go"
    refine g_fldR T.k_Reader T.n_Reader_last hp rdF_last ?_
    walk_at "go"
    refine ⟨n, q, r, v, v2, v3, x, y, a, rfl, hq, hw, hr0, hv, hv2, hv3, fun g H1 hg e1 => ?_, fun hno => k2 hy (hno.no hw hr0)⟩
    have hp1 := e1 _ _ hp
    walk_at "go"
    refine ⟨p, ec.Reader, dx, _, rfl, hp1, T.k_Reader, T.n_Reader_told, by show 4 < 1000; decide, ?_⟩
    walk_at "go"
    refine ⟨p, ec.Reader, dx, _, rfl, upd_same, T.k_Reader, T.n_Reader_last, by show 4 < 1000; decide, ?_⟩
    walk_at "go"
    refine g_fldR T.k_Reader T.n_Reader_told upd_same (v := .int (t + g)) rfl ?_
    walk_at "go"
    exact k1 hy g _ hg ⟨dx, upd_same⟩ ((Kp.same e1).trans (Kp.upd.trans Kp.upd))
theorem sc_Reader_now : FnScope ["self"] ["self"] (defScope s_Reader_now) := ⟨rfl, rfl, rfl, by decide +kernel, rfl, by decide +kernel, by decide +kernel⟩
theorem ok_Reader_now (T : Txt K mg ec) (D : FnM K ec.Reader "now" "Reader.now" s_Reader_now)  : KnowsM P w K mg base 1 ec.Reader "now" ["self"] [] (sp_now ec) := by
  refine KnowsM.mk' D sc_Reader_now (fun _ _ _ _ _ _ us hl => match us, hl with | [_], _ => rfl) (fun vs H Q E h => ?_) (fun f cdv A outer s H vs Q E hr h => ?_)
  · obtain ⟨p, n, q, v, t, rfl, _⟩ := h; rfl
  · obtain ⟨p, n, q, v, t, rfl, ⟨dx, hp⟩, k⟩ := h
    refine ⟨_, (pss_one (ps_ret (pe_fld (pv 0) rfl))), ?_⟩
    refine g_start (σ := [some _]) rfl ?_
    try dsimp only [cxOf]
    walk_at "go"
    refine g_fldR T.k_Reader T.n_Reader_told hp rdF_told ?_
    walk_at "go"
    exact k
end
end My
namespace My
open PySem PySem.Spec PyProof.Rows L2
/-! ### promises: what the laws about rules draw -/
def sp_rule (K : PySem.W.Frag) : Sp := fun vs H Q _ => ∃ (a s : Addr) (n : Int), vs = [.ref a, .int n] ∧ Dr K a s H ∧ Wh n ∧ ∀ r q H', RuleOk n r → H' q = some (.tup (ruleV r)) → Go K a s H H' → Q (.ref q) H'
def sp_time (K : PySem.W.Frag) : Sp := fun vs H Q _ => ∃ (a s : Addr), vs = [.ref a] ∧ Dr K a s H ∧ ∀ t H', Go K a s H H' → Q (.int t) H'
def sp_lbound : Sp := fun vs H Q _ => ∃ (n : Int) (q : Addr) (r : Rule), vs = [.int n, .ref q] ∧ H q = some (.tup (ruleV r)) ∧ Wh n ∧ RuleOk n r ∧ ∀ p H', Same H H' → H' p = some (.tup [.int (loR n r), .int (hiR n r)]) → Q (.ref p) H'
def sp_near_bound (K : PySem.W.Frag) : Sp := fun vs H Q _ => ∃ (a s : Addr) (n : Int) (q : Addr) (r : Rule), vs = [.ref a, .int n, .ref q] ∧ Dr K a s H ∧ H q = some (.tup (ruleV r)) ∧ Wh n ∧ RuleOk n r ∧ ∀ t H', Go K a s H H' → Q (.int t) H'
theorem wide_R {n : Int} {r : Rule} (hw : Wh n) (hr : RuleOk n r) : Mn (hiR n r - loR n r + 1) := by
  have h1 := hw.1
  have h2 := hw.2
  cases r with
  | up l => exact ⟨by show 0 < l + n - 1 - l + 1; omega, by show l + n - 1 - l + 1 < _; omega⟩
  | near => exact ⟨by show 0 < n / 2 - (0 - (n - 1) / 2) + 1; omega, by show n / 2 - (0 - (n - 1) / 2) + 1 < _; omega⟩
  | pair o =>
    have o1 := hr.1
    have o2 := hr.2
    have a1 := lcmI_pos (n := n) (o := o) (by omega) (by omega)
    have a2 := lcmI_le (n := n) (o := o) (by omega) (by omega)
    have a3 : n * o ≤ 1000000000000 * 1000000000000 := Int.mul_le_mul h2 o2 (by omega) (by decide)
    have a4 : (1000000000000 * 1000000000000 : Int) < 2 ^ 150 := by decide
    exact ⟨by show 0 < lcmI n o - 1 - 0 + 1; omega, by show lcmI n o - 1 - 0 + 1 < _; omega⟩
  | about f =>
    have o1 := hr.1
    have o2 := hr.2
    exact ⟨by show 0 < f - (0 - f) + 1; omega, by show f - (0 - f) + 1 < _; omega⟩
section
variable {K : PySem.W.Frag} {a s p : Addr} {H : Hp} {m : Int} {E : XK} {Q : VK}
/-- one of a new list, drawn -/
theorem g_pick {xs : List V} (hp : H p = none) (hD : Dr K a s H) (hm : Mn m) (hl : m = (xs.length : Int)) (q : ∀ v H', v ∈ xs → Go K a s (upd H p (.lst xs)) H' → Go K a s H H' → H' p = some (.lst xs) → Q v H') :
    sp_drawn K [.ref a, .int m] (upd H p (.lst xs)) (fun v H1 => rIxL K (.ref p) v H1 Q) E := by
  refine ⟨a, s, m, rfl, hD.same (Same.new hp), hm, fun r H1 h0 h1 g => ?_⟩
  have hne : p ≠ a := hD.ne hp
  have hl1 := g.at upd_same hne
  exact g_ixAny (SqL.of hl1) h0 (by omega) fun v hv => q v H1 hv g (g.new hp) hl1
theorem g_pickI {zs : List Int} (hp : H p = none) (hD : Dr K a s H) (hm : Mn m) (hl : m = (zs.length : Int)) (q : ∀ z H', z ∈ zs → Go K a s H H' → Q (.int z) H') :
    sp_drawn K [.ref a, .int m] (upd H p (.lst (zs.map V.int))) (fun v H1 => rIxL K (.ref p) v H1 Q) E :=
  g_pick hp hD hm (by rw [List.length_map]; exact hl) fun v H' hv _ g _ => by
    obtain ⟨z, rfl, hz⟩ := one_int hv
    exact q z H' hz g
end
/-- a new thing, not known to H, is changed by a def that keeps all else -/
theorem Dr.kpx {K : PySem.W.Frag} {a s D : Addr} {H H1 H' : Hp} (d : Dr K a s H) (d' : Dr K a s H1) (h : H D = none) (kp : Kp D H1 H') : Dr K a s H' := by
  obtain ⟨ns, i, m, l, h1, h2, h3, h4⟩ := d.ex
  obtain ⟨ns', i', m', l', g1, g2, g3, g4⟩ := d'.ex
  have nDa : a ≠ D := ne_of_none h1 h
  rcases h2 (.tbl #[]) with hr | hk
  · have nDs : s ≠ D := fun e => by
      subst e
      have z : L2.upd H a (.tbl #[]) s = none := by rw [upd_ne nDa.symm]; exact h
      rcases hr with hr | ⟨_, hr⟩ <;> rw [z] at hr <;> cases hr
    refine ⟨ns', i', m', l', kp _ _ g1 nDa, fun o' => ?_, g3, g4⟩
    have key : ∀ u, L2.upd H1 a o' s = some u → L2.upd H' a o' s = some u := fun u z => by
      by_cases e : s = a
      · subst e; rw [upd_same] at z ⊢; exact z
      · rw [upd_ne e] at z ⊢; exact kp _ _ z nDs
    rcases g2 o' with q | q
    · refine .inl ?_
      rcases q with q | ⟨u, q⟩
      · exact .inl (key _ q)
      · exact .inr ⟨u, key _ q⟩
    · exact .inr q
  · exact ⟨ns, i', m', l', kp _ _ g1 nDa, fun o' => .inr hk, h3, g4⟩
theorem Go.kpx {K : PySem.W.Frag} {a s D : Addr} {H H1 H' : Hp} (g : Go K a s H H1) (d : Dr K a s H) (h : H D = none) (kp : Kp D H1 H') : Go K a s H H' :=
  ⟨d.kpx g.dr h kp, fun b o hb hn => kp b o (g.kp b o hb hn) (ne_of_none hb h)⟩
end My
namespace My
open PySem PySem.Spec PyProof.Rows L2
section
variable {P : Program} {w : World} {K : PySem.W.Frag} {mg : Str → Option Value} {base : Heap} {ec : Ec}
theorem sc__law_rule : FnScope ["_law_state", "_law_wheel_here", "_law_other", "_law_least", "_law_off"] ["_law_state", "_law_wheel_here"] (defScope s__law_rule) := ⟨rfl, rfl, rfl, by decide +kernel, rfl, by decide +kernel, by decide +kernel⟩
theorem ok__law_rule (T : Txt K mg ec) (D : Fn K mg "_law_rule" s__law_rule) (c__law_drawn : Knows P w K mg base 1 "_law_drawn" ["_law_state", "_law_many"] (sp_drawn K)) (c__law_wheel : Knows P w K mg base 2 "_law_wheel" ["_law_state"] (sp_wheel K)) : Knows P w K mg base 3 "_law_rule" ["_law_state", "_law_wheel_here"] (sp_rule K) := by
  refine Knows.mk' D sc__law_rule (fun _ _ _ _ _ _ us hl => match us, hl with | [_, _], _ => rfl) (fun vs H Q E h => ?_) (fun f cdv A outer s H vs Q E hr h => ?_)
  · obtain ⟨a, sc, n, rfl, _⟩ := h; rfl
  · obtain ⟨a, sc, n, rfl, hD, hw, k⟩ := h
    refine ⟨_, (pss_cons (ps_set (i := 2) sc__law_rule.nd rfl (Or.inl rfl) (pe_ix ix_list (pe_lst (pa_cons (pe_op op_add pe_int (pe_callN c__law_drawn (hr.mono (by first | decide | omega)) passD (pa_cons (pv 0) (pa_cons pe_int pa_nil)))) (pa_cons (pv 1) (pa_cons (pe_callN c__law_wheel (hr.mono (by first | decide | omega)) passD (pa_cons (pv 0) pa_nil)) pa_nil)))) (pe_callN c__law_drawn (hr.mono (by first | decide | omega)) passD (pa_cons (pv 0) (pa_cons pe_int pa_nil))) (fun _ _ => rfl)))
    (pss_cons (ps_set (i := 3) sc__law_rule.nd rfl (Or.inl rfl) (pe_ix ix_list (pe_lst (pa_cons pe_int (pa_cons (pe_callN c__law_drawn (hr.mono (by first | decide | omega)) passD (pa_cons (pv 0) (pa_cons (pe_op op_mul pe_int (pv 1)) pa_nil))) (pa_cons (pe_callN c__law_drawn (hr.mono (by first | decide | omega)) passD (pa_cons (pv 0) (pa_cons (pe_op op_add (pe_powc (v := 1000000000000) ⟨by decide, by decide, by decide⟩ (by decide)) pe_int) pa_nil))) pa_nil)))) (pe_callN c__law_drawn (hr.mono (by first | decide | omega)) passD (pa_cons (pv 0) (pa_cons pe_int pa_nil))) (fun _ _ => rfl)))
    (pss_cons (ps_set (i := 4) sc__law_rule.nd rfl (Or.inl rfl) (pe_ix ix_list (pe_lst (pa_cons pe_int (pa_cons (pe_callN c__law_drawn (hr.mono (by first | decide | omega)) passD (pa_cons (pv 0) (pa_cons (pe_op op_fdivW (pe_op op_add (pv 1) pe_int) pe_int) pa_nil))) (pa_cons (pe_op op_fdivW (pe_op op_sub (pv 1) pe_int) pe_int) pa_nil)))) (pe_callN c__law_drawn (hr.mono (by first | decide | omega)) passD (pa_cons (pv 0) (pa_cons pe_int pa_nil))) (fun _ _ => rfl)))
    (pss_one (ps_ret (pe_ix ix_list (pe_lst (pa_cons (pe_tup (pa_cons pe_str (pa_cons (pe_callB (call_min2N rfl) (by rfl) T.min (by decide +kernel) (pa_cons (pv 3) (pa_cons (pe_powc (v := 1000000000000) ⟨by decide, by decide, by decide⟩ (by decide)) pa_nil))) pa_nil))) (pa_cons (pe_tup (pa_cons pe_str pa_nil)) (pa_cons (pe_tup (pa_cons pe_str (pa_cons (pv 2) pa_nil))) (pa_cons (pe_tup (pa_cons pe_str (pa_cons (pv 4) pa_nil))) pa_nil))))) (pe_callN c__law_drawn (hr.mono (by first | decide | omega)) passD (pa_cons (pv 0) (pa_cons pe_int pa_nil))) (fun _ _ => rfl))))))), ?_⟩
    refine g_start (σ := [some _, some _, none, none, none]) rfl ?_
    try dsimp only [cxOf]
    have hw1 := hw.1
    have hw2 := hw.2
    walk_at "go"
    refine ⟨a, sc, 12, rfl, hD, by decide, fun r1 H1 h10 h11 g1 => ?_⟩
    walk_at "go"
    refine ⟨a, sc, rfl, g1.dr, fun o H2 ho g2 => ?_⟩
    walk_at "go"
    intro p hp
    walk_at "go"
    refine g_pickI (zs := [2 + r1, n, o]) hp g2.dr (by decide) rfl (fun oth H3 hoth g3 => ?_)
    have hoth : Wh oth := by
      simp only [List.mem_cons, List.not_mem_nil, or_false] at hoth
      rcases hoth with e | e | e
      · subst e; exact ⟨by omega, by omega⟩
      · subst e; exact hw
      · subst e; exact ho
    have g13 := (g1.trans g2).trans g3
    walk_at "go"
    refine ⟨a, sc, _, rfl, g3.dr, ⟨by omega, by omega⟩, fun r4 H4 h40 h41 g4 => ?_⟩
    walk_at "go"
    refine ⟨a, sc, _, rfl, g4.dr, by decide, fun r5 H5 h50 h51 g5 => ?_⟩
    walk_at "go"
    intro p2 hp2
    walk_at "go"
    refine g_pickI (zs := [0, r4, r5]) hp2 g5.dr (by decide) rfl (fun lea H6 hlea g6 => ?_)
    have hlea : 0 ≤ lea := by
      simp only [List.mem_cons, List.not_mem_nil, or_false] at hlea
      omega
    have g16 := (g13.trans (g4.trans g5)).trans g6
    walk_at "go"
    refine ⟨a, sc, _, rfl, g6.dr, ⟨by omega, by omega⟩, fun r7 H7 h70 h71 g7 => ?_⟩
    walk_at "go"
    intro p3 hp3
    walk_at "go"
    refine g_pickI (zs := [0, r7, (n - 1) / 2]) hp3 g7.dr (by decide) rfl (fun off H8 hoff g8 => ?_)
    have hoff : 0 ≤ 2 * off ∧ 2 * off < n := by
      simp only [List.mem_cons, List.not_mem_nil, or_false] at hoff
      omega
    have g18 := (g16.trans g7).trans g8
    clear g16 g13 g1 g2 g3 g4 g5 g6 g7 hp hp2 hp3
    walk_at "go"
    intro t1 ht1
    walk_at "go"
    intro t2 ht2
    walk_at "go"
    intro t3 ht3
    walk_at "go"
    intro t4 ht4
    walk_at "go"
    intro p4 hp4
    have s1 := Same.new (o := .tup [V.str "up", V.int (if (1000000000000 : Int) < lea then 1000000000000 else lea)]) ht1
    have u1 : upd H8 t1 (.tup [V.str "up", V.int (if (1000000000000 : Int) < lea then 1000000000000 else lea)]) t1 = some (.tup (ruleV (.up (if (1000000000000 : Int) < lea then 1000000000000 else lea)))) := upd_same
    generalize upd H8 t1 (.tup [V.str "up", V.int (if (1000000000000 : Int) < lea then 1000000000000 else lea)]) = H9 at *
    have s2 := Same.new (o := .tup [V.str "near"]) ht2
    have u2 : upd H9 t2 (.tup [V.str "near"]) t2 = some (.tup (ruleV .near)) := upd_same
    generalize upd H9 t2 (.tup [V.str "near"]) = H10 at *
    have s3 := Same.new (o := .tup [V.str "pair", V.int oth]) ht3
    have u3 : upd H10 t3 (.tup [V.str "pair", V.int oth]) t3 = some (.tup (ruleV (.pair oth))) := upd_same
    generalize upd H10 t3 (.tup [V.str "pair", V.int oth]) = H11 at *
    have s4 := Same.new (o := .tup [V.str "about", V.int off]) ht4
    have u4 : upd H11 t4 (.tup [V.str "about", V.int off]) t4 = some (.tup (ruleV (.about off))) := upd_same
    generalize upd H11 t4 (.tup [V.str "about", V.int off]) = H12 at *
    have s14 := ((s1.trans s2).trans s3).trans s4
    have g12 := g18.then s14
    have v3 := s4 _ _ u3
    have v2 := s4 _ _ (s3 _ _ u2)
    have v1 := s4 _ _ (s3 _ _ (s2 _ _ u1))
    walk_at "go"
    refine g_pick hp4 g12.dr (by decide) rfl (fun v H13 hv _ g13 _ => ?_)
    have hta : ∀ t vs, H12 t = some (.tup vs) → t ≠ a := fun t vs e z => by
      obtain ⟨ns, i, m, l, h1, _⟩ := g12.dr.ex
      rw [z] at e
      rw [e] at h1
      cases h1
    simp only [List.mem_cons, List.not_mem_nil, or_false] at hv
    rcases hv with e | e | e | e
    · subst e
      exact k _ _ _ (show RuleOk n (.up _) from ⟨by split <;> omega, by split <;> omega⟩) (g13.at v1 (hta _ _ v1)) (g12.trans g13)
    · subst e
      exact k _ _ _ (show RuleOk n .near from trivial) (g13.at v2 (hta _ _ v2)) (g12.trans g13)
    · subst e
      exact k _ _ _ (show RuleOk n (.pair oth) from hoth) (g13.at v3 (hta _ _ v3)) (g12.trans g13)
    · subst e
      exact k _ _ _ (show RuleOk n (.about off) from hoff) (g13.at u4 (hta _ _ u4)) (g12.trans g13)
theorem sc__law_time : FnScope ["_law_state", "_law_far_here"] ["_law_state"] (defScope s__law_time) := ⟨rfl, rfl, rfl, by decide +kernel, rfl, by decide +kernel, by decide +kernel⟩
theorem ok__law_time (T : Txt K mg ec) (D : Fn K mg "_law_time" s__law_time) (c__law_drawn : Knows P w K mg base 1 "_law_drawn" ["_law_state", "_law_many"] (sp_drawn K)) : Knows P w K mg base 2 "_law_time" ["_law_state"] (sp_time K) := by
  refine Knows.mk' D sc__law_time (fun _ _ _ _ _ _ us hl => match us, hl with | [_], _ => rfl) (fun vs H Q E h => ?_) (fun f cdv A outer s H vs Q E hr h => ?_)
  · obtain ⟨a, sc, rfl, _⟩ := h; rfl
  · obtain ⟨a, sc, rfl, hD, k⟩ := h
    refine ⟨_, (pss_cons (ps_set (i := 1) sc__law_time.nd rfl (Or.inl rfl) (pe_ix ix_list (pe_lst (pa_cons pe_int (pa_cons (pe_powc (v := 1000000) ⟨by decide, by decide, by decide⟩ (by decide)) (pa_cons (pe_powc (v := 1000000000000000000000000000000) ⟨by decide, by decide, by decide⟩ (by decide)) pa_nil)))) (pe_callN c__law_drawn (hr.mono (by first | decide | omega)) passD (pa_cons (pv 0) (pa_cons pe_int pa_nil))) (fun _ _ => rfl)))
    (pss_one (ps_ret (pe_op op_sub (pe_callN c__law_drawn (hr.mono (by first | decide | omega)) passD (pa_cons (pv 0) (pa_cons (pv 1) pa_nil))) (pe_op op_mul (pe_callN c__law_drawn (hr.mono (by first | decide | omega)) passD (pa_cons (pv 0) (pa_cons pe_int pa_nil))) (pv 1)))))), ?_⟩
    refine g_start (σ := [some _, none]) rfl ?_
    try dsimp only [cxOf]
    walk_at "go"
    intro p hp
    walk_at "go"
    refine g_pickI (zs := [100, 1000000, 1000000000000000000000000000000]) hp hD (by decide) rfl (fun far H1 hfar g1 => ?_)
    have hfar : Mn far := by
      simp only [List.mem_cons, List.not_mem_nil, or_false] at hfar
      rcases hfar with e | e | e <;> subst e <;> decide
    walk_at "go"
    refine ⟨a, sc, far, rfl, g1.dr, hfar, fun r2 H2 h20 h21 g2 => ?_⟩
    walk_at "go"
    refine ⟨a, sc, 2, rfl, g2.dr, by decide, fun r3 H3 h30 h31 g3 => ?_⟩
    walk_at "go"
    exact k _ _ ((g1.trans g2).trans g3)
theorem sc__law_bound : FnScope ["_law_wheel_here", "_law_rule_here", "_law_one", "_law_other", "_law_rest"] ["_law_wheel_here", "_law_rule_here"] (defScope s__law_bound) := ⟨rfl, rfl, rfl, by decide +kernel, rfl, by decide +kernel, by decide +kernel⟩
theorem ok__law_bound (T : Txt K mg ec) (D : Fn K mg "_law_bound" s__law_bound)  : Knows P w K mg base 1 "_law_bound" ["_law_wheel_here", "_law_rule_here"] sp_lbound := by
  refine Knows.mk' D sc__law_bound (fun _ _ _ _ _ _ us hl => match us, hl with | [_, _], _ => rfl) (fun vs H Q E h => ?_) (fun f cdv A outer s H vs Q E hr h => ?_)
  · obtain ⟨n, q, r, rfl, _⟩ := h; rfl
  · obtain ⟨n, q, r, rfl, hq, hw, hr0, k⟩ := h
    refine ⟨_, (pss_cons (ps_if (pt_cmpR op_eq (pe_ix ix_tup (pv 1) pe_int (fun _ _ => rfl)) pe_str (nomark _)) (pss_one (ps_ret (pe_tup (pa_cons (pe_ix ix_tup (pv 1) pe_int (fun _ _ => rfl)) (pa_cons (pe_op op_sub (pe_op op_add (pe_ix ix_tup (pv 1) pe_int (fun _ _ => rfl)) (pv 0)) pe_int) pa_nil))))) pss_nil)
    (pss_cons (ps_if (pt_cmpR op_eq (pe_ix ix_tup (pv 1) pe_int (fun _ _ => rfl)) pe_str (nomark _)) (pss_one (ps_ret (pe_tup (pa_cons (pe_op op_sub (pe_op op_add pe_int (pe_op op_fdivW (pv 0) pe_int)) (pv 0)) (pa_cons (pe_op op_fdivW (pv 0) pe_int) pa_nil))))) pss_nil)
    (pss_cons (ps_if (pt_cmpR op_eq (pe_ix ix_tup (pv 1) pe_int (fun _ _ => rfl)) pe_str (nomark _)) (pss_one (ps_ret (pe_tup (pa_cons (pe_op op_sub pe_int (pe_ix ix_tup (pv 1) pe_int (fun _ _ => rfl))) (pa_cons (pe_ix ix_tup (pv 1) pe_int (fun _ _ => rfl)) pa_nil))))) pss_nil)
    (pss_cons (ps_par (i := 2) (j := 3) (by rfl) sc__law_bound.nd rfl rfl (by decide) rfl rfl (pa_cons (pv 0) (pa_cons (pe_ix ix_tup (pv 1) pe_int (fun _ _ => rfl)) pa_nil)) (by rfl))
    (pss_cons (ps_while passO (pt_cmpR op_ne (pv 3) pe_int (nomark _)) (pss_cons (ps_set (i := 4) sc__law_bound.nd rfl (Or.inl rfl) (pe_op op_mod (pv 2) (pv 3)))
    (pss_cons (ps_set (i := 2) sc__law_bound.nd rfl (Or.inl rfl) (pv 3))
    (pss_one (ps_set (i := 3) sc__law_bound.nd rfl (Or.inl rfl) (pv 4))))))
    (pss_one (ps_ret (pe_tup (pa_cons pe_int (pa_cons (pe_op op_sub (pe_op op_fdivW (pe_op op_mul (pv 0) (pe_ix ix_tup (pv 1) pe_int (fun _ _ => rfl))) (pv 2)) pe_int) pa_nil)))))))))), ?_⟩
    refine g_start (σ := [some _, some _, none, none, none]) rfl ?_
    try dsimp only [cxOf]
    have hw1 := hw.1
    have hw2 := hw.2
    walk_at "go"
    cases r with
    | up l =>
      refine g_ixT (SqT.of hq) (v := .str "up") rfl ?_
      walk_at "go"
      refine g_ixT (SqT.of hq) (v := .int l) rfl ?_
      walk_at "go"
      refine g_ixT (SqT.of hq) (v := .int l) rfl ?_
      walk_at "go"
      intro p hp
      exact k p _ (Same.new hp) upd_same
    | near =>
      refine g_ixT (SqT.of hq) (v := .str "near") rfl ?_
      walk_at "go"
      refine g_ixT (SqT.of hq) (v := .str "near") rfl ?_
      walk_at "go"
      intro p hp
      refine k p _ (Same.new hp) ?_
      rw [upd_same]
      show some (HO.tup [V.int (1 + n / 2 - n), V.int (n / 2)]) = some (HO.tup [V.int (0 - (n - 1) / 2), V.int (n / 2)])
      rw [show 1 + n / 2 - n = 0 - (n - 1) / 2 by omega]
    | about f =>
      refine g_ixT (SqT.of hq) (v := .str "about") rfl ?_
      walk_at "go"
      refine g_ixT (SqT.of hq) (v := .str "about") rfl ?_
      walk_at "go"
      refine g_ixT (SqT.of hq) (v := .str "about") rfl ?_
      walk_at "go"
      refine g_ixT (SqT.of hq) (v := .int f) rfl ?_
      walk_at "go"
      refine g_ixT (SqT.of hq) (v := .int f) rfl ?_
      walk_at "go"
      intro p hp
      exact k p _ (Same.new hp) upd_same
    | pair o =>
      have ho1 := hr0.1
      have ho2 := hr0.2
      refine g_ixT (SqT.of hq) (v := .str "pair") rfl ?_
      walk_at "go"
      refine g_ixT (SqT.of hq) (v := .str "pair") rfl ?_
      walk_at "go"
      refine g_ixT (SqT.of hq) (v := .str "pair") rfl ?_
      walk_at "go"
      refine g_ixT (SqT.of hq) (v := .int o) rfl ?_
      walk_at "go"
      refine ⟨_, _, rfl, ?_⟩
      walk_at "wp"
      walk_at "go"
      refine ⟨fun m σ H' => H' = H ∧ ∃ (x b : Nat) (z : Option V), σ = [some (.int n), some (.ref q), some (.int (x : Int)), some (.int (b : Int)), z] ∧ m = b ∧ Nat.gcd x b = Nat.gcd n.toNat o.toNat,
        ⟨o.toNat, rfl, n.toNat, o.toNat, none, by rw [Int.toNat_of_nonneg (by omega), Int.toNat_of_nonneg (by omega)], rfl, rfl⟩, ?_⟩
      rintro m σ H' ⟨rfl, x, b, z, rfl, rfl, hg⟩
      walk_at "go"
      refine ite_ndec (fun h1 => ?_) (fun h1 => ?_)
      · refine ⟨fun σ' H1 => ∃ m', m' < m ∧ (H1 = H' ∧ ∃ (x b : Nat) (z : Option V), σ' = [some (.int n), some (.ref q), some (.int (x : Int)), some (.int (b : Int)), z] ∧ m' = b ∧ Nat.gcd x b = Nat.gcd n.toNat o.toNat), fun _ _ h => h, ?_⟩
        have hm : 0 < m := by
          rcases Nat.eq_zero_or_pos m with e | e
          · exact absurd (by rw [e]; rfl) h1
          · exact e
        walk_at "go"
        refine ⟨x % m, Nat.mod_lt _ hm, rfl, m, x % m, _, by rw [Int.natCast_emod], rfl, ?_⟩
        rw [← hg, Nat.gcd_comm m, ← Nat.gcd_rec, Nat.gcd_comm]
      · have hm : m = 0 := by
          have := V.int.inj h1
          omega
        subst hm
        rw [Nat.gcd_zero_right] at hg
        have ex : (x : Int) = gcdI n o := by rw [hg]; rfl
        have e0 : 0 < gcdI n o := gcdI_pos (by omega)
        have e1 : gcdI n o ≤ n := Int.le_of_dvd (by omega) (gcdI_dvd (by omega) (by omega)).1
        rw [ex]
        walk_at "go"
        refine g_ixT (SqT.of hq) (v := .int o) rfl ?_
        walk_at "go"
        intro p hp
        refine k p _ (Same.new hp) ?_
        rw [upd_same]
        show some (HO.tup [V.int 0, V.int (n * o / gcdI n o - 1)]) = some (HO.tup [V.int 0, V.int (lcmI n o - 1)])
        rw [(lcmI_eq (by omega) (by omega)).2.2]
theorem sc__law_near_bound : FnScope ["_law_state", "_law_wheel_here", "_law_rule_here", "_law_low", "_law_high", "_law_some"] ["_law_state", "_law_wheel_here", "_law_rule_here"] (defScope s__law_near_bound) := ⟨rfl, rfl, rfl, by decide +kernel, rfl, by decide +kernel, by decide +kernel⟩
theorem ok__law_near_bound (T : Txt K mg ec) (D : Fn K mg "_law_near_bound" s__law_near_bound) (c__law_bound : Knows P w K mg base 1 "_law_bound" ["_law_wheel_here", "_law_rule_here"] sp_lbound) (c__law_drawn : Knows P w K mg base 1 "_law_drawn" ["_law_state", "_law_many"] (sp_drawn K)) : Knows P w K mg base 2 "_law_near_bound" ["_law_state", "_law_wheel_here", "_law_rule_here"] (sp_near_bound K) := by
  refine Knows.mk' D sc__law_near_bound (fun _ _ _ _ _ _ us hl => match us, hl with | [_, _, _], _ => rfl) (fun vs H Q E h => ?_) (fun f cdv A outer s H vs Q E hr h => ?_)
  · obtain ⟨a, sc, n, q, r, rfl, _⟩ := h; rfl
  · obtain ⟨a, sc, n, q, r, rfl, hD, hq, hw, hr0, k⟩ := h
    refine ⟨_, (pss_cons (ps_asg (pe_callN c__law_bound (hr.mono (by first | decide | omega)) passD (pa_cons (pv 1) (pa_cons (pv 2) pa_nil))) (pg_tup (n := 2) rfl (pgs_cons (pg_name (i := 3) sc__law_near_bound.nd rfl (Or.inl rfl)) (pgs_cons (pg_name (i := 4) sc__law_near_bound.nd rfl (Or.inl rfl)) pgs_nil))))
    (pss_cons (ps_set (i := 5) sc__law_near_bound.nd rfl (Or.inl rfl) (pe_lst (pa_cons (pv 3) (pa_cons (pv 4) (pa_cons (pe_op op_sub (pv 3) pe_int) (pa_cons (pe_op op_add (pv 4) pe_int) (pa_cons (pe_op op_add (pv 3) (pe_callN c__law_drawn (hr.mono (by first | decide | omega)) passD (pa_cons (pv 0) (pa_cons (pe_op op_add (pe_op op_sub (pv 4) (pv 3)) pe_int) pa_nil)))) pa_nil)))))))
    (pss_cons (ps_set (i := 5) sc__law_near_bound.nd rfl (Or.inl rfl) (pe_op op_cat (pv 5) (pe_lst (pa_cons (pe_op op_sub (pe_op op_sub (pv 3) pe_int) (pe_callN c__law_drawn (hr.mono (by first | decide | omega)) passD (pa_cons (pv 0) (pa_cons (pe_op op_mul pe_int (pv 1)) pa_nil)))) (pa_cons (pe_op op_add (pe_op op_add (pv 4) pe_int) (pe_callN c__law_drawn (hr.mono (by first | decide | omega)) passD (pa_cons (pv 0) (pa_cons (pe_op op_mul pe_int (pv 1)) pa_nil)))) pa_nil)))))
    (pss_one (ps_ret (pe_ix ix_list (pv 5) (pe_callN c__law_drawn (hr.mono (by first | decide | omega)) passD (pa_cons (pv 0) (pa_cons pe_int pa_nil))) (fun _ _ => rfl))))))), ?_⟩
    refine g_start (σ := [some _, some _, some _, none, none, none]) rfl ?_
    try dsimp only [cxOf]
    have hw1 := hw.1
    have hw2 := hw.2
    walk_at "go"
    refine ⟨n, q, r, rfl, hq, hw, hr0, fun p H1 e1 hp => ?_⟩
    walk_at "go"
    refine g_tup2 (SqT.of hp) ?_
    walk_at "go"
    have hD1 := hD.same e1
    refine ⟨a, sc, _, rfl, hD1, wide_R hw hr0, fun r2 H2 h20 h21 g2 => ?_⟩
    walk_at "go"
    intro p2 hp2
    walk_at "go"
    have s3 := Same.new (o := .lst [V.int (loR n r), V.int (hiR n r), V.int (loR n r - 1), V.int (hiR n r + 1), V.int (loR n r + r2)]) hp2
    have u3 : upd H2 p2 (.lst [V.int (loR n r), V.int (hiR n r), V.int (loR n r - 1), V.int (hiR n r + 1), V.int (loR n r + r2)]) p2 = some (.lst ([loR n r, hiR n r, loR n r - 1, hiR n r + 1, loR n r + r2].map V.int)) := upd_same
    generalize upd H2 p2 (.lst [V.int (loR n r), V.int (hiR n r), V.int (loR n r - 1), V.int (hiR n r + 1), V.int (loR n r + r2)]) = H3 at *
    have hD3 := g2.dr.same s3
    have np2 : p2 ≠ a := by
      intro z
      obtain ⟨ns, i, m, l, h1, _⟩ := g2.dr.ex
      rw [z, h1] at hp2
      cases hp2
    refine ⟨a, sc, _, rfl, hD3, ⟨by omega, by omega⟩, fun r4 H4 h40 h41 g4 => ?_⟩
    walk_at "go"
    refine ⟨a, sc, _, rfl, g4.dr, ⟨by omega, by omega⟩, fun r5 H5 h50 h51 g5 => ?_⟩
    walk_at "go"
    intro p3 hp3
    have u5 := g5.at (g4.at u3 np2) np2
    refine g_cat (Same.new hp3 _ _ u5) upd_same (by simp) (fun p4 hp4 => ?_)
    walk_at "go"
    have s6 := Same.new (o := .lst [V.int (loR n r - 1 - r4), V.int (hiR n r + 1 + r5)]) hp3
    generalize upd H5 p3 (.lst [V.int (loR n r - 1 - r4), V.int (hiR n r + 1 + r5)]) = H6 at *
    refine g_pickI (zs := [loR n r, hiR n r, loR n r - 1, hiR n r + 1, loR n r + r2, loR n r - 1 - r4, hiR n r + 1 + r5]) hp4 (g5.dr.same s6) (by decide) rfl (fun z H7 _ g7 => ?_)
    exact k z _ ((((((Go.same hD e1).trans g2).then s3).trans g4).trans g5).then s6 |>.trans g7)
end
end My
namespace My
open PySem PySem.Spec PyProof.Rows L2
def sp_lshown : Sp := fun vs H Q _ => ∃ (n : Int) (p : Addr) (r : Rule) (t : Int), vs = [.int n, .ref p, .int t] ∧ H p = some (.tup (ruleV r)) ∧ Wh n ∧ RuleOk n r ∧ ∀ v H', Same H H' → SeenAt H' r v (shownR n r t) → Q v H'
/-- how far, as the law has it -/
def FarAt (n : Int) (H : Hp) (r : Rule) (v : V) (x y : Int × Int) : Prop := match r with
  | .pair _ => ∃ p, v = .ref p ∧ H p = some (.tup [.int (y.1 - x.1), .int (y.2 - x.2)])
  | _ => ∃ f : Int, v = .int f ∧ n ∣ f - (y.1 - x.1)
theorem FarAt.ext {n : Int} {H H' : Hp} {r : Rule} {v : V} {x y : Int × Int} (e : LamX.ExtN H H') (h : FarAt n H r v x y) : FarAt n H' r v x y := by
  cases r with
  | pair o =>
    obtain ⟨p, h1, h2⟩ := h
    exact ⟨p, h1, extN_tup e h2⟩
  | _ => exact h
theorem SeenAt.go {K : PySem.W.Frag} {a s : Addr} {H H' : Hp} {r : Rule} {v : V} {x : Int × Int} (d : Dr K a s H) (g : Go K a s H H') (h : SeenAt H r v x) : SeenAt H' r v x := by
  cases r with
  | pair o =>
    obtain ⟨p, h1, h2⟩ := h
    refine ⟨p, h1, g.at h2 ?_⟩
    intro z
    obtain ⟨ns, i, m, l, k1, _⟩ := d.ex
    rw [z, k1] at h2
    cases h2
  | _ => exact h
def sp_is_gap : Sp := fun vs H Q _ => ∃ (n : Int) (q : Addr) (r : Rule) (vf va v : V) (x y : Int × Int) (a : Int), vs = [.int n, .ref q, vf, va, v] ∧ H q = some (.tup (ruleV r)) ∧ Wh n ∧ RuleOk n r ∧ FarAt n H r vf x y ∧ aboutV r va a ∧
  ((∃ g, v = .int g ∧ Gp n r x y a g) ∨ (v = .str "NoGap" ∧ NoGp n r x y a)) ∧ ∀ H', Same H H' → Q (.bl true) H'
theorem gcd_of_lcm {n o : Int} (hn : 0 < n) (ho : 0 < o) : n * o / (lcmI n o - 1 + 1) = gcdI n o := by
  have h := lcmI_pos hn ho
  have e : n * o = gcdI n o * lcmI n o := by
    rw [(lcmI_eq hn ho).1, Int.mul_comm (gcdI n o), Int.mul_assoc, Int.ediv_mul_cancel (gcdI_dvd hn ho).2]
  rw [show lcmI n o - 1 + 1 = lcmI n o by omega, e]
  exact Int.mul_ediv_cancel _ (by omega)
theorem emod_of_dvd {n a b : Int} (h : n ∣ a - b) : a % n = b % n := Int.emod_eq_emod_iff_emod_sub_eq_zero.mpr (Int.emod_eq_zero_of_dvd h)
/-- the one number in a wheel's width -/
theorem one_rest {n lo f e g : Int} (hn : 0 < n) (hf : n ∣ f - e) (h1 : lo ≤ g) (h2 : g ≤ lo + n - 1) (h3 : n ∣ g - e) : lo + (f - lo) % n = g := by
  obtain ⟨c1, c2, c3⟩ := rest_from (lo := lo) (e := f) hn
  have a := Int.dvd_sub (Int.dvd_add c3 hf) h3
  rw [show lo + (f - lo) % n - f + (f - e) - (g - e) = lo + (f - lo) % n - g by omega] at a
  have z := zero_of a (by omega) (by omega)
  omega
end My
namespace My
open PySem PySem.Spec PyProof.Rows L2
section
variable {P : Program} {w : World} {K : PySem.W.Frag} {mg : Str → Option Value} {base : Heap} {ec : Ec}
theorem sc__law_shown : FnScope ["_law_wheel_here", "_law_rule_here", "_law_time_here"] ["_law_wheel_here", "_law_rule_here", "_law_time_here"] (defScope s__law_shown) := ⟨rfl, rfl, rfl, by decide +kernel, rfl, by decide +kernel, by decide +kernel⟩
theorem ok__law_shown (T : Txt K mg ec) (D : Fn K mg "_law_shown" s__law_shown)  : Knows P w K mg base 1 "_law_shown" ["_law_wheel_here", "_law_rule_here", "_law_time_here"] sp_lshown := by
  refine Knows.mk' D sc__law_shown (fun _ _ _ _ _ _ us hl => match us, hl with | [_, _, _], _ => rfl) (fun vs H Q E h => ?_) (fun f cdv A outer s H vs Q E hr h => ?_)
  · obtain ⟨n, p, r, t, rfl, _⟩ := h; rfl
  · obtain ⟨n, p, r, t, rfl, hp, hw, hr0, k⟩ := h
    refine ⟨_, (pss_one (ps_ret (pe_ifExp (pt_cmpR op_eq (pe_ix ix_tup (pv 1) pe_int (fun _ _ => rfl)) pe_str (nomark _)) (pe_tup (pa_cons (pe_op op_mod (pv 2) (pv 0)) (pa_cons (pe_op op_mod (pv 2) (pe_ix ix_tup (pv 1) pe_int (fun _ _ => rfl))) pa_nil))) (pe_op op_mod (pv 2) (pv 0))))), ?_⟩
    refine g_start (σ := [some _, some _, some _]) rfl ?_
    try dsimp only [cxOf]
    have hn : 0 < n := by have := hw.1; omega
    walk_at "go"
    cases r with
    | pair o =>
      have ho : 0 < o := by have := hr0.1; omega
      refine g_ixT (SqT.of hp) (v := .str "pair") rfl ?_
      walk_at "go"
      refine g_ixT (SqT.of hp) (v := .int o) rfl ?_
      walk_at "go"
      intro q hq
      exact k _ _ (Same.new hq) ⟨q, rfl, upd_same⟩
    | up l =>
      refine g_ixT (SqT.of hp) (v := .str "up") rfl ?_
      walk_at "go"
      exact k _ _ (Same.refl _) rfl
    | near =>
      refine g_ixT (SqT.of hp) (v := .str "near") rfl ?_
      walk_at "go"
      exact k _ _ (Same.refl _) rfl
    | about l =>
      refine g_ixT (SqT.of hp) (v := .str "about") rfl ?_
      walk_at "go"
      exact k _ _ (Same.refl _) rfl
theorem sc__law_far : FnScope ["_law_state", "_law_least", "_law_most", "_law_far_here"] ["_law_state", "_law_least", "_law_most"] (defScope s__law_far) := ⟨rfl, rfl, rfl, by decide +kernel, rfl, by decide +kernel, by decide +kernel⟩
theorem ok__law_far (T : Txt K mg ec) (D : Fn K mg "_law_far" s__law_far) (c__law_drawn : Knows P w K mg base 1 "_law_drawn" ["_law_state", "_law_many"] (sp_drawn K)) : Knows P w K mg base 2 "_law_far" ["_law_state", "_law_least", "_law_most"] (sp_far K) := by
  refine Knows.mk' D sc__law_far (fun _ _ _ _ _ _ us hl => match us, hl with | [_, _, _], _ => rfl) (fun vs H Q E h => ?_) (fun f cdv A outer s H vs Q E hr h => ?_)
  · obtain ⟨a, sc, l, m, rfl, _⟩ := h; rfl
  · obtain ⟨a, sc, l, m, rfl, hD, k⟩ := h
    refine ⟨_, (pss_cons (ps_set (i := 3) sc__law_far.nd rfl (Or.inl rfl) (pe_ix ix_list (pe_lst (pa_cons pe_int (pa_cons pe_int (pa_cons (pe_powc (v := 100000000000000000000000000000) ⟨by decide, by decide, by decide⟩ (by decide)) pa_nil)))) (pe_callN c__law_drawn (hr.mono (by first | decide | omega)) passD (pa_cons (pv 0) (pa_cons pe_int pa_nil))) (fun _ _ => rfl)))
    (pss_one (ps_ret (pe_ix ix_list (pe_lst (pa_cons (pe_op op_sub (pe_op op_sub (pv 1) pe_int) (pe_callN c__law_drawn (hr.mono (by first | decide | omega)) passD (pa_cons (pv 0) (pa_cons (pv 3) pa_nil)))) (pa_cons (pe_op op_add (pe_op op_add (pv 2) pe_int) (pe_callN c__law_drawn (hr.mono (by first | decide | omega)) passD (pa_cons (pv 0) (pa_cons (pv 3) pa_nil)))) pa_nil))) (pe_callN c__law_drawn (hr.mono (by first | decide | omega)) passD (pa_cons (pv 0) (pa_cons pe_int pa_nil))) (fun _ _ => rfl))))), ?_⟩
    refine g_start (σ := [some _, some _, some _, none]) rfl ?_
    try dsimp only [cxOf]
    walk_at "go"
    intro p hp
    walk_at "go"
    refine g_pickI (zs := [1, 20, 100000000000000000000000000000]) hp hD (by decide) rfl (fun w H1 hw g1 => ?_)
    have hw : Mn w := by
      simp only [List.mem_cons, List.not_mem_nil, or_false] at hw
      rcases hw with e | e | e <;> subst e <;> decide
    walk_at "go"
    refine ⟨a, sc, w, rfl, g1.dr, hw, fun r2 H2 h20 h21 g2 => ?_⟩
    walk_at "go"
    refine ⟨a, sc, w, rfl, g2.dr, hw, fun r3 H3 h30 h31 g3 => ?_⟩
    walk_at "go"
    intro p2 hp2
    walk_at "go"
    refine g_pickI (zs := [l - 1 - r2, m + 1 + r3]) hp2 g3.dr (by decide) rfl (fun z H4 hz g4 => ?_)
    simp only [List.mem_cons, List.not_mem_nil, or_false] at hz
    exact k z _ (by omega) (((g1.trans g2).trans g3).trans g4)
end
end My
namespace My
open PySem PySem.Spec PyProof.Rows L2
open LamX (Tabs ExtN CodeO)
/-- all that is tracked stays, but three places and the tables -/
def K3 (a p x : Addr) (H H' : Hp) : Prop := ∀ b o, H b = some o → b ≠ a → b ≠ p → b ≠ x → (∀ ps, o ≠ .tbl ps) → H' b = some o
section
variable {K : PySem.W.Frag} {a s p x : Addr} {H H1 H' : Hp}
theorem K3.refl : K3 a p x H H := fun _ _ h _ _ _ _ => h
theorem K3.trans (u : K3 a p x H H1) (v : K3 a p x H1 H') : K3 a p x H H' := fun b o h n1 n2 n3 m => v b o (u b o h n1 n2 n3 m) n1 n2 n3 m
theorem K3.go (g : Go K a s H H') : K3 a p x H H' := fun b o h n _ _ _ => g.kp b o h n
theorem K3.same (e : Same H H') : K3 a p x H H' := fun b o h _ _ _ _ => e b o h
theorem K3.ext (e : ExtN H H') : K3 a p x H H' := fun b o h _ _ _ m => e b o h m
theorem K3.kp (e : Kp x H H') : K3 a p x H H' := fun b o h _ _ n _ => e b o h n
theorem K3.upd {o : HO} : K3 a p x H (L2.upd H p o) := fun b u h _ n _ _ => by rw [upd_ne n]; exact h
theorem Dr.kpi {C dx : Addr} {fs : List (Str × V)} (d : Dr K a s H) (hx : H x = some (.ins C dx fs)) (kp : Kp x H H') : Dr K a s H' := by
  obtain ⟨ns, i, m, l, h1, h2, h3, h4⟩ := d.ex
  have nax : a ≠ x := ne_of h1 hx (by intro z; cases z)
  refine ⟨ns, i, m, l, kp _ _ h1 nax, fun o => ?_, h3, h4⟩
  have key : ∀ u, L2.upd H a o s = some u → (∀ C dx fs, u ≠ .ins C dx fs) → L2.upd H' a o s = some u := fun u z hu => by
    by_cases e : s = a
    · subst e; rw [upd_same] at z ⊢; exact z
    · rw [upd_ne e] at z ⊢
      refine kp _ _ z fun q => ?_
      rw [q, hx] at z
      exact hu _ _ _ (Option.some.inj z).symm
  rcases h2 o with (h | ⟨u, h⟩) | h
  · exact .inl (.inl (key _ h (fun _ _ _ z => by cases z)))
  · exact .inl (.inr ⟨u, key _ h (fun _ _ _ z => by cases z)⟩)
  · exact .inr h
theorem Dr.side {o' : HO} {z : V} {rest : List V} (d : Dr K a s H) (hp : H p = some (.lst (.ref x :: z :: rest))) (hz : ∀ i, z = .int i → rest.length = 4) : Dr K a s (L2.upd H p o') := by
  obtain ⟨ns, i, m, l, h1, h2, h3, h4⟩ := d.ex
  have nap : a ≠ p := by
    intro e
    rw [e, hp] at h1
    have h1 := HO.lst.inj (Option.some.inj h1)
    injection h1 with _ h1
    injection h1 with e1 h1
    have := hz _ e1
    rw [h1] at this
    simp at this
  refine ⟨ns, i, m, l, by rw [upd_ne nap]; exact h1, fun o => ?_, h3, h4⟩
  have key : ∀ u, L2.upd H a o s = some u → u ≠ .lst (.ref x :: z :: rest) → L2.upd (L2.upd H p o') a o s = some u := fun u y hu => by
    by_cases e : s = a
    · subst e; rw [upd_same] at y ⊢; exact y
    · rw [upd_ne e] at y ⊢
      rw [upd_ne (fun q => hu (by rw [q, hp] at y; exact (Option.some.inj y).symm))]
      exact y
  rcases h2 o with (h | ⟨u, h⟩) | h
  · refine .inl (.inl (key _ h fun y => ?_))
    have y := HO.lst.inj y
    cases ns with
    | nil => cases y
    | cons n ns => injection y with y; cases y
  · exact .inl (.inr ⟨u, key _ h (fun y => by cases y)⟩)
  · exact .inr h
theorem tabs_kpi {T : List (Addr × Str)} {C dx : Addr} {fs : List (Str × V)} (t : Tabs T H) (hx : H x = some (.ins C dx fs)) (kp : Kp x H H') : Tabs T H' :=
  tabs_kp t (fun ps z => by rw [hx] at z; cases z) (fun c q z => by rw [hx] at z; unfold CodeO at z; cases z) kp
theorem tabs_lst {T : List (Addr × Str)} {xs : List V} {o : HO} (t : Tabs T H) (hp : H p = some (.lst xs)) : Tabs T (L2.upd H p o) :=
  tabs_kp t (fun ps z => by rw [hp] at z; cases z) (fun c q z => by rw [hp] at z; unfold CodeO at z; cases z) Kp.upd
end
structure Side (ec : Ec) (H : Hp) (p x : Addr) (n : Int) (q : Addr) (r : Rule) (v u : V) (long there : Int) : Prop where
  l : H p = some (.lst [.ref x, .int n, .ref q, v, .int long, .int there])
  rd : RdAt ec.Reader H x n q u long
  ru : H q = some (.tup (ruleV r))
  se : SeenAt H r v (shownR n r there)
  su : SeenAt H r u (shownR n r there)
def sp_llook (K : PySem.W.Frag) (ec : Ec) (TL : List (Addr × Str)) : Sp := fun vs H Q _ => ∃ (a s p x : Addr) (n : Int) (q : Addr) (r : Rule) (v u : V) (long there : Int), vs = [.ref a, .ref p] ∧ Dr K a s H ∧ Tabs TL H ∧ Side ec H p x n q r v u long there ∧ Wh n ∧ RuleOk n r ∧
  ∀ v' u' long' there' H', Dr K a s H' → Tabs TL H' → Side ec H' p x n q r v' u' long' there' → K3 a p x H H' → Q (.bl true) H'
/-- what stays of a side while nothing of it is written -/
theorem Side.k3 {ec : Ec} {H H' : Hp} {p x a : Addr} {n : Int} {q : Addr} {r : Rule} {v u : V} {long there : Int} (S : Side ec H p x n q r v u long there) (h : ∀ b o, H b = some o → b ≠ a → (∀ ps, o ≠ .tbl ps) → H' b = some o) (hpa : p ≠ a) (hta : ∀ C dx fs, H a ≠ some (.ins C dx fs)) (htt : ∀ xs, H a ≠ some (.tup xs)) :
    Side ec H' p x n q r v u long there := by
  obtain ⟨dx, hx⟩ := S.rd.ob
  have mv : ∀ w, SeenAt H r w (shownR n r there) → SeenAt H' r w (shownR n r there) := fun w se => by
    cases r with
    | pair o =>
      obtain ⟨q2, h1, h2⟩ := se
      exact ⟨q2, h1, h _ _ h2 (fun z => htt _ (z ▸ h2)) (fun _ z => by cases z)⟩
    | _ => exact se
  exact ⟨h _ _ S.l hpa (fun _ z => by cases z), ⟨dx, h _ _ hx (fun z => hta _ _ _ (z ▸ hx)) (fun _ z => by cases z)⟩, h _ _ S.ru (fun z => htt _ (z ▸ S.ru)) (fun _ z => by cases z), mv v S.se, mv u S.su⟩
theorem g_lst6 {K : PySem.W.Frag} {g1 g2 g3 g4 g5 g6 : TG} {x1 x2 x3 x4 x5 x6 : V} {p : Addr} {σ : L2.St} {H : Hp} {Qs : L2.St → Hp → Prop} (h : SqL K H p [x1, x2, x3, x4, x5, x6])
    (q : g1 x1 σ H fun σ1 H1 => ∃ v r, [x2, x3, x4, x5, x6] = v :: r ∧ g2 v σ1 H1 fun σ2 H2 => ∃ v r', r = v :: r' ∧ g3 v σ2 H2 fun σ3 H3 => ∃ v r, r' = v :: r ∧ g4 v σ3 H3 fun σ4 H4 => ∃ v r', r = v :: r' ∧ g5 v σ4 H4 fun σ5 H5 => ∃ v r, r' = v :: r ∧ g6 v σ5 H5 fun σ6 H6 => r = [] ∧ Qs σ6 H6) :
    gLst K 6 (gCons g1 (gCons g2 (gCons g3 (gCons g4 (gCons g5 (gCons g6 gNil)))))) (.ref p) σ H Qs := ⟨p, _, rfl, h, rfl, x1, _, rfl, q⟩
end My
namespace My
open PySem PySem.Spec PyProof.Rows L2
section
variable {P : Program} {w : World} {K : PySem.W.Frag} {mg : Str → Option Value} {base : Heap} {ec : Ec}
def qL__law_look : Str := (envOfC "_law_look" (defScope s__law_look) 0 0 .none).qual ++ "<lambda>"
theorem sc__law_look : FnScope ["_law_state", "_law_side", "_law_reader", "_law_wheel_here", "_law_rule_here", "_law_last", "_law_long", "_law_there", "_law_far_here", "_law_about", "_law_seen", "_law_odd", "_law_due", "_law_told"] ["_law_state", "_law_side"] (defScope s__law_look) := ⟨rfl, rfl, rfl, by decide +kernel, rfl, by decide +kernel, by decide +kernel⟩
theorem ok__law_look {cL__law_look PL__law_look : Addr}  (T : Txt K mg ec) (D : FnC K mg "_law_look" s__law_look cL__law_look) (TB : LamX.TabB base mg cL__law_look PL__law_look) (D__law_kind : FnL K mg "_law_kind" s__law_kind) (c__law_near_bound : Knows P w K mg base 2 "_law_near_bound" ["_law_state", "_law_wheel_here", "_law_rule_here"] (sp_near_bound K)) (c__law_shown : Knows P w K mg base 1 "_law_shown" ["_law_wheel_here", "_law_rule_here", "_law_time_here"] sp_lshown) (c__law_far : Knows P w K mg base 2 "_law_far" ["_law_state", "_law_least", "_law_most"] (sp_far K)) (c__law_same : Knows P w K mg base 2 "_law_same" ["_law_found", "_law_due"] (sp_same 1)) (c__law_drawn : Knows P w K mg base 1 "_law_drawn" ["_law_state", "_law_many"] (sp_drawn K)) (c_gap : Knows P w K mg base 4 "gap" ["wheel", "rule", "one", "other", "about"] (sp_gap ec)) (c_Reader_now : KnowsM P w K mg base 1 ec.Reader "now" ["self"] [] (sp_now ec)) (c_Reader_look : KnowsM2 P w K mg base 4 ec.Reader "look" ["self", "seen", "about"] (sp_look ec)) : Knows P w K mg base 7 "_law_look" ["_law_state", "_law_side"] (sp_llook K ec [(PL__law_look, qL__law_look)]) := by
  refine Knows.mkC D sc__law_look (fun _ _ _ _ _ _ us hl => match us, hl with | [_, _], _ => rfl) (fun vs H Q E h => ?_) (fun f A outer s H vs Q E hr h => ?_)
  · obtain ⟨a, sc, p, x, n, q, r, v, u, long, there, rfl, _⟩ := h; rfl
  · obtain ⟨a, sc, p, x, n, q, r, v, u, long, there, rfl, hD, hT, hS, hn, hr0, k⟩ := h
    refine ⟨_, (pss_cons (ps_asg (pv 1) (pg_lst (n := 6) rfl (pgs_cons (pg_name (i := 2) sc__law_look.nd rfl (Or.inr rfl)) (pgs_cons (pg_name (i := 3) sc__law_look.nd rfl (Or.inr rfl)) (pgs_cons (pg_name (i := 4) sc__law_look.nd rfl (Or.inr rfl)) (pgs_cons (pg_name (i := 5) sc__law_look.nd rfl (Or.inr rfl)) (pgs_cons (pg_name (i := 6) sc__law_look.nd rfl (Or.inl rfl)) (pgs_cons (pg_name (i := 7) sc__law_look.nd rfl (Or.inl rfl)) pgs_nil))))))))
    (pss_cons (ps_set (i := 8) sc__law_look.nd rfl (Or.inl rfl) (pe_callN c__law_near_bound (hr.mono (by first | decide | omega)) passD (pa_cons (pv 0) (pa_cons (pv 3) (pa_cons (pv 4) pa_nil)))))
    (pss_cons (ps_set (i := 9) sc__law_look.nd rfl (Or.inr rfl) pe_non)
    (pss_cons (ps_if (pt_cmpR op_eq (pe_ix ix_tup (pv 4) pe_int (fun _ _ => rfl)) pe_str (nomark _)) (pss_cons (ps_set (i := 9) sc__law_look.nd rfl (Or.inr rfl) (pe_op op_add (pe_callN c__law_drawn (hr.mono (by first | decide | omega)) passD (pa_cons (pv 0) (pa_cons (pe_op op_mul pe_int (pv 3)) pa_nil))) (pv 8)))
    (pss_one (ps_set (i := 8) sc__law_look.nd rfl (Or.inl rfl) (pe_op op_sub (pv 9) (pv 8))))) pss_nil)
    (pss_cons (ps_set (i := 10) sc__law_look.nd rfl (Or.inr rfl) (pe_callN c__law_shown (hr.mono (by first | decide | omega)) passD (pa_cons (pv 3) (pa_cons (pv 4) (pa_cons (pe_op op_add (pv 7) (pv 8)) pa_nil)))))
    (pss_cons (ps_set (i := 11) sc__law_look.nd rfl (Or.inr rfl) (pe_callN c__law_far (hr.mono (by first | decide | omega)) passD (pa_cons (pv 0) (pa_cons pe_int (pa_cons (pe_op op_sub (pv 3) pe_int) pa_nil)))))
    (pss_cons (ps_if (pt_cmpR op_eq (pe_ix ix_tup (pv 4) pe_int (fun _ _ => rfl)) pe_str (nomark _)) (pss_one (ps_set (i := 11) sc__law_look.nd rfl (Or.inr rfl) (pe_tup (pa_cons (pv 11) (pa_cons (pe_ix ix_tup (pv 10) pe_int (fun _ _ => rfl)) pa_nil))))) pss_nil)
    (pss_cons (ps_if (PW.pt (pw_or (pt_cmpR op_ne (pe_lamN (T := [(PL__law_look, qL__law_look)]) (TT := TKind K ec) (t := fun E => (tMeth ec.Reader "look" (sp_look ec) [] E (tVar 2) (tCons (tVar 11) (tCons (tVar 9) tNil)))) D__law_kind (by rfl) (fun _ _ _ _ _ _ us hl => match us, hl with | [_], _ => rfl) sc__law_kind rfl (by first | exact Or.inl rfl | exact Or.inr (Or.inl rfl)) (fun g cdv => kind_gives _ T g cdv _) TB rfl (.head _) (fun p hp _ => (congrArg Prod.snd (List.mem_singleton.mp hp)).trans rfl) (k := 4) (hr.mono (by first | decide | omega)) (by exact LamX.lamS_by (sc := defScope s__law_look) (by decide +kernel)) rfl (fun _ _ _ _ _ => rfl) (fun A outer s H E f c1 hr2 => (pe_methL (pv 2) T.k_Reader c_Reader_look.three (hr2.mono (by first | decide | omega)) (by exact (pa_cons (pv 11) (pa_cons (pv 9) pa_nil)))))) pe_str (nomark _)) (pw_or1 (pt_not (pt_val (pe_callN c__law_same (hr.mono (by first | decide | omega)) passD (pa_cons (pe_methN0 (pv 2) T.k_Reader c_Reader_now (hr.mono (by first | decide | omega)) passD) (pa_cons (pv 6) pa_nil))) (by intro _; rfl)))))) (pss_one (ps_ret pe_bl)) pss_nil)
    (pss_cons (ps_set (i := 12) sc__law_look.nd rfl (Or.inl rfl) (pe_lamN (T := [(PL__law_look, qL__law_look)]) (TT := TKind K ec) (t := fun E => (tCall (sp_gap ec) [] E (tCons (tVar 3) (tCons (tVar 4) (tCons (tVar 5) (tCons (tVar 10) (tCons (tVar 9) tNil))))))) D__law_kind (by rfl) (fun _ _ _ _ _ _ us hl => match us, hl with | [_], _ => rfl) sc__law_kind rfl (by first | exact Or.inl rfl | exact Or.inr (Or.inl rfl)) (fun g cdv => kind_gives _ T g cdv _) TB rfl (.head _) (fun p hp _ => (congrArg Prod.snd (List.mem_singleton.mp hp)).trans rfl) (k := 4) (hr.mono (by first | decide | omega)) (by exact LamX.lamS_by (sc := defScope s__law_look) (by decide +kernel)) rfl (fun _ _ _ _ _ => rfl) (fun A outer s H E f c1 hr2 => (pe_callL c_gap (hr2.mono (by first | decide | omega)) (by exact (pa_cons (pv 3) (pa_cons (pv 4) (pa_cons (pv 5) (pa_cons (pv 10) (pa_cons (pv 9) pa_nil))))))))))
    (pss_cons (ps_set (i := 13) sc__law_look.nd rfl (Or.inl rfl) (pe_lamN (T := [(PL__law_look, qL__law_look)]) (TT := TKind K ec) (t := fun E => (tIf (tTest (tOp rNotN (tVar 9) (tC .non))) (tMeth ec.Reader "look" (sp_look ec) [] E (tVar 2) (tCons (tVar 10) (tCons (tVar 9) tNil))) (tMeth ec.Reader "look" (sp_look ec) [.non] E (tVar 2) (tCons (tVar 10) tNil)))) D__law_kind (by rfl) (fun _ _ _ _ _ _ us hl => match us, hl with | [_], _ => rfl) sc__law_kind rfl (by first | exact Or.inl rfl | exact Or.inr (Or.inl rfl)) (fun g cdv => kind_gives _ T g cdv _) TB rfl (.head _) (fun p hp _ => (congrArg Prod.snd (List.mem_singleton.mp hp)).trans rfl) (k := 4) (hr.mono (by first | decide | omega)) (by exact LamX.lamS_by (sc := defScope s__law_look) (by decide +kernel)) rfl (fun _ _ _ _ _ => rfl) (fun A outer s H E f c1 hr2 => (pe_ifExp (pt_cmpR op_notNN (pv 9) pe_non (nomark _)) (pe_methL (pv 2) T.k_Reader c_Reader_look.three (hr2.mono (by first | decide | omega)) (by exact (pa_cons (pv 10) (pa_cons (pv 9) pa_nil)))) (pe_methL (pv 2) T.k_Reader c_Reader_look.two (hr2.mono (by first | decide | omega)) (by exact (pa_cons (pv 10) pa_nil)))))))
    (pss_cons (ps_if (pt_cmpR op_eq (pv 12) pe_str (nomark _)) (pss_one (ps_ret (pe_and (pe_cmpR op_eq (pv 13) pe_str (nomark _)) (pe_one (pe_cmpR op_eq (pe_methN0 (pv 2) T.k_Reader c_Reader_now (hr.mono (by first | decide | omega)) passD) (pv 6) (nomark _)))))) pss_nil)
    (pss_cons (ps_asg (pv 10) (pg_sub (pv 1) pe_int set_list))
    (pss_cons (ps_asg (pe_op op_add (pv 6) (pv 12)) (pg_sub (pv 1) pe_int set_list))
    (pss_cons (ps_asg (pe_op op_add (pv 7) (pv 8)) (pg_sub (pv 1) pe_int set_list))
    (pss_one (ps_ret (pe_callN c__law_same (hr.mono (by first | decide | omega)) passD (pa_cons (pe_lst (pa_cons (pv 13) (pa_cons (pe_methN0 (pv 2) T.k_Reader c_Reader_now (hr.mono (by first | decide | omega)) passD) pa_nil))) (pa_cons (pe_op op_rep (pe_lst (pa_cons (pe_op op_add (pv 6) (pv 12)) pa_nil)) pe_int) pa_nil))))))))))))))))))), ?_⟩
    refine g_start (σ := [some _, some _, none, none, none, none, none, none, none, none, none, none, none, none]) rfl ?_
    try dsimp only [cxOf]
    have hn1 := hn.1
    have hn2 := hn.2
    have nal : ∀ {H' : Hp}, Dr K a sc H' → (∀ C dx fs, H' a ≠ some (.ins C dx fs)) ∧ (∀ xs, H' a ≠ some (.tup xs)) := fun {H'} d => by
      obtain ⟨ns, i, m, l, h1, _⟩ := d.ex
      exact ⟨fun C dx fs z => by (rw [h1] at z; cases z), fun xs z => by (rw [h1] at z; cases z)⟩
    have npa : p ≠ a := by
      obtain ⟨ns, i, m, l, h1, _⟩ := hD.ex
      intro z
      have := hS.l
      rw [z, h1] at this
      injection this with this
      injection this with this
      injection this with _ this
      injection this with _ this
      injection this with _ this
      injection this with _ this
      cases this
    have sgo : ∀ {H1 H2 : Hp} {v u : V} {long there : Int}, Dr K a sc H1 → Side ec H1 p x n q r v u long there → GoT K a sc [(PL__law_look, qL__law_look)] H1 H2 → Side ec H2 p x n q r v u long there := fun d S g => S.k3 (a := a) g.kp npa (nal d).1 (nal d).2
    walk_at "goS"
    refine g_lst6 (SqL.of hS.l) ?_
    walk_at "goS"
    refine ⟨_, _, rfl, ?_⟩
    walk_at "goS"
    refine ⟨_, _, rfl, ?_⟩
    walk_at "goS"
    refine ⟨_, _, rfl, ?_⟩
    walk_at "goS"
    refine ⟨_, _, rfl, ?_⟩
    walk_at "goS"
    refine ⟨_, _, rfl, ?_⟩
    walk_at "goS"
    refine ⟨rfl, ?_⟩
    walk_at "goS"
    refine ⟨a, sc, n, q, r, rfl, hD, hS.ru, hn, hr0, fun f H1 g1 => ?_⟩
    have hG1 := GoT.of hT hD g1
    have hS1 := sgo hD hS hG1
    have hD1 := hG1.dr
    have hT1 := hG1.tb
    have hK1 : K3 a p x H H1 := K3.go g1
    clear g1 hG1
    walk_at "goS"
    refine g_cutS (fun σ' H2 => ∃ (f' av : Int) (va : V), σ' = [some (.ref a), some (.ref p), some (.ref x), some (.int n), some (.ref q), some v, some (.int long), some (.int there), some (.int f'), some va, none, none, none, none] ∧ aboutV r va av ∧ (va = .non ∨ ∃ z, va = .int z) ∧ Go K a sc H1 H2) (fun N hN => ?_) ?_
    · walk_at "go"
      cases r with
      | about off =>
        refine g_ixT (SqT.of hS1.ru) (v := .str "about") rfl ?_
        walk_at "go"
        refine ⟨a, sc, _, rfl, hD1, ⟨by omega, by omega⟩, fun z H2 h20 h21 g2 => ?_⟩
        walk_at "go"
        exact hN _ _ ⟨_, z + f, _, rfl, rfl, .inr ⟨_, rfl⟩, g2⟩
      | up l =>
        refine g_ixT (SqT.of hS1.ru) (v := .str "up") rfl ?_
        walk_at "go"
        exact hN _ _ ⟨f, 0, _, rfl, trivial, .inl rfl, Go.refl hD1⟩
      | pair l =>
        refine g_ixT (SqT.of hS1.ru) (v := .str "pair") rfl ?_
        walk_at "go"
        exact hN _ _ ⟨f, 0, _, rfl, trivial, .inl rfl, Go.refl hD1⟩
      | near =>
        refine g_ixT (SqT.of hS1.ru) (v := .str "near") rfl ?_
        walk_at "go"
        exact hN _ _ ⟨f, 0, _, rfl, trivial, .inl rfl, Go.refl hD1⟩
    · rintro σ' H2 ⟨f', av, va, rfl, hav, hva, g2⟩
      have hG2 := GoT.of hT1 hD1 g2
      have hS2 := sgo hD1 hS1 hG2
      have hD2 := hG2.dr
      have hT2 := hG2.tb
      have hK2 : K3 a p x H H2 := hK1.trans (K3.go g2)
      clear g2 hG2
      walk_at "goS"
      refine ⟨n, q, r, there + f', rfl, hS2.ru, hn, hr0, fun v2 H3 e3 hv2 => ?_⟩
      have hG3 := GoT.same hT2 hD2 e3
      have hS3 := sgo hD2 hS2 hG3
      have hD3 := hG3.dr
      have hT3 := hG3.tb
      have hK3 : K3 a p x H H3 := hK2.trans (K3.same e3)
      clear e3 hG3
      walk_at "goS"
      refine ⟨a, sc, _, _, rfl, hD3, fun odd H4 hodd g4 => ?_⟩
      have hG4 := GoT.of hT3 hD3 g4
      have hS4 := sgo hD3 hS3 hG4
      have hv4 := hv2.go hD3 g4
      have hD4 := hG4.dr
      have hT4 := hG4.tb
      have hK4 : K3 a p x H H4 := hK3.trans (K3.go g4)
      clear g4 hG4
      walk_at "goS"
      refine g_cutS (fun σ' H5 => ∃ (vo : V) (y2 : Int), σ' = [some (.ref a), some (.ref p), some (.ref x), some (.int n), some (.ref q), some v, some (.int long), some (.int there), some (.int f'), some va, some v2, some vo, none, none] ∧ SeenAt H5 r vo (odd, y2) ∧ Same H4 H5) (fun N hN => ?_) ?_
      · walk_at "go"
        cases r with
        | pair o =>
          obtain ⟨q2, rfl, hq2⟩ := hv4
          refine g_ixT (SqT.of hS4.ru) (v := .str "pair") rfl ?_
          walk_at "go"
          refine g_ixT (SqT.of hq2) (v := .int ((there + f') % o)) rfl ?_
          walk_at "go"
          intro t5 ht5
          exact hN _ _ ⟨.ref t5, _, rfl, ⟨t5, rfl, upd_same⟩, Same.new ht5⟩
        | up l =>
          refine g_ixT (SqT.of hS4.ru) (v := .str "up") rfl ?_
          walk_at "go"
          exact hN _ _ ⟨.int odd, 0, rfl, rfl, Same.refl _⟩
        | near =>
          refine g_ixT (SqT.of hS4.ru) (v := .str "near") rfl ?_
          walk_at "go"
          exact hN _ _ ⟨.int odd, 0, rfl, rfl, Same.refl _⟩
        | about l =>
          refine g_ixT (SqT.of hS4.ru) (v := .str "about") rfl ?_
          walk_at "go"
          exact hN _ _ ⟨.int odd, 0, rfl, rfl, Same.refl _⟩
      · rintro σ' H5 ⟨vo, y2, rfl, hvo, e5⟩
        have hG5 := GoT.same hT4 hD4 e5
        have hS5 := sgo hD4 hS4 hG5
        have hv5 := hv4.same e5
        have hD5 := hG5.dr
        have hT5 := hG5.tb
        have hK5 : K3 a p x H H5 := hK4.trans (K3.same e5)
        clear e5 hG5
        walk_at "goS"
        refine g_ifS ?_
        walk_at "goS"
        refine g_cutE (fun v' H' => v' = .str "BadSeen" ∧ LamX.ExtN H5 H' ∧ LamX.Tabs [(PL__law_look, qL__law_look)] H') (fun Q' hQ => ?_) ?_
        · refine g_lam hT5 (fun H6 e6 hT6 => ?_)
          unfold TKind
          obtain ⟨dx, hx5⟩ := hS5.rd.ob
          walk_at "go"
          refine ⟨x, dx, _, rfl, extN_ins e6 hx5, rdF_look, ?_⟩
          walk_at "go"
          refine ⟨x, n, q, r, u, vo, va, long, shownR n r there, (odd, y2), av, rfl, ⟨dx, extN_ins e6 hx5⟩, extN_tup e6 hS5.ru, hn, hr0, hS5.su.ext e6, hvo.ext e6, hav, fun h => ?_, fun h => ?_, fun _ => EKind.mk T.q_BadSeen fun H7 e7 => hQ _ _ ⟨rfl, e6.trans (extN_same e7), tabs_same hT6 e7⟩⟩
          · have := h.1.1
            have := h.1.2
            exact absurd hodd (by omega)
          · have := h.1.1
            have := h.1.2
            exact absurd hodd (by omega)
        · rintro v' H6 ⟨rfl, e6, hT6⟩
          have hG6 := GoT.ext hD5 e6 hT6
          have hS6 := sgo hD5 hS5 hG6
          have hv6 := hv5.ext e6
          have hD6 := hG6.dr
          have hK6 : K3 a p x H H6 := hK5.trans (K3.ext e6)
          clear e6 hG6
          obtain ⟨dx, hx6⟩ := hS6.rd.ob
          walk_at "goS"
          refine ⟨x, dx, _, rfl, hx6, rdF_now, ?_⟩
          walk_at "goS"
          refine ⟨x, n, q, u, long, rfl, hS6.rd, ?_⟩
          walk_at "goS"
          refine ⟨_, _, rfl, .int long, fun H7 e7 => ?_⟩
          have hG7 := GoT.same hT6 hD6 e7
          have hS7 := sgo hD6 hS6 hG7
          have hv7 := hv6.same e7
          have hD7 := hG7.dr
          have hT7 := hG7.tb
          have hK7 : K3 a p x H H7 := hK6.trans (K3.same e7)
          clear hx6 e7 hG7 hS6 hS5 hS4 hS3 hS2 hS1 hv4 hv5 hv6 hvo
          walk_at "goS"
          refine g_cutE (fun v' H' => ((∃ g, v' = .int g ∧ Gp n r (shownR n r there) (shownR n r (there + f')) av g) ∨ (v' = .str "NoGap" ∧ NoGp n r (shownR n r there) (shownR n r (there + f')) av)) ∧ LamX.ExtN H7 H' ∧ LamX.Tabs [(PL__law_look, qL__law_look)] H') (fun Q' hQ => ?_) ?_
          · refine g_lam hT7 (fun H8 e8 hT8 => ?_)
            unfold TKind
            walk_at "go"
            refine ⟨n, q, toRaw r, v, v2, va, rfl, by rw [rawV_to]; exact extN_tup e8 hS7.ru, rawS_to r, fun h => absurd hn h, fun _ h => absurd (rawOk_to.mpr hr0) h, fun r' er _ _ => ?_⟩
            cases toRaw_inj er
            exact ⟨_, _, av, hS7.se.ext e8, hv7.ext e8, hav, fun _ _ g H9 hg e9 => hQ _ _ ⟨.inl ⟨g, rfl, hg⟩, e8.trans (extN_same e9), tabs_same hT8 e9⟩,
              fun _ _ hno H9 e9 => EKind.mk T.q_NoGap (fun H10 e10 => hQ _ _ ⟨.inr ⟨rfl, hno⟩, e8.trans (extN_same (e9.trans e10)), tabs_same hT8 (e9.trans e10)⟩), fun h => absurd ⟨SeenOk.true hn hr0, SeenOk.true hn hr0⟩ h⟩
          · rintro due H8 ⟨hdue, e8, hT8⟩
            have hG8 := GoT.ext hD7 e8 hT8
            have hS8 := sgo hD7 hS7 hG8
            have hv8 := hv7.ext e8
            have hD8 := hG8.dr
            have hK8 : K3 a p x H H8 := hK7.trans (K3.ext e8)
            clear hS7 hv7 hG8
            rcases hdue with ⟨g, rfl, hg⟩ | ⟨rfl, hno⟩
            · walk_at "goS"
              refine g_cutE (fun v' H' => v' = .int (long + g) ∧ RdAt ec.Reader H' x n q v2 (long + g) ∧ Dr K a sc H' ∧ LamX.Tabs [(PL__law_look, qL__law_look)] H' ∧ K3 a p x H H' ∧ H' p = some (.lst [.ref x, .int n, .ref q, v, .int long, .int there]) ∧ H' q = some (.tup (ruleV r)) ∧ SeenAt H' r v2 (shownR n r (there + f'))) (fun Q' hQ => ?_) ?_
              · refine g_lam hT8 (fun H9 e9 hT9 => ?_)
                unfold TKind
                obtain ⟨dx, hx8⟩ := hS8.rd.ob
                have hx9 := extN_ins e9 hx8
                have hq9 := extN_tup e9 hS8.ru
                have hp9 := extN_lst e9 hS8.l
                have hv9 := hv8.ext e9
                have nqx : q ≠ x := ne_of hq9 hx9 (by intro z; cases z)
                have npx : p ≠ x := ne_of hp9 hx9 (by intro z; cases z)
                have fin : ∀ g' H10, Gp n r (shownR n r there) (shownR n r (there + f')) av g' → RdAt ec.Reader H10 x n q v2 (long + g') → Kp x H9 H10 → Q' (.int (long + g')) H10 := fun g' H10 hg' hR kp => by
                  have eg := Gp.uniq hn hr0 hg' hg
                  subst eg
                  exact hQ _ _ ⟨rfl, hR, (hD8.ext e9).kpi hx9 kp, tabs_kpi hT9 hx9 kp, (hK8.trans (K3.ext e9)).trans (K3.kp kp), kp _ _ hp9 npx, kp _ _ hq9 nqx, hv9.kp kp hx9⟩
                rcases hva with rfl | ⟨z, rfl⟩
                · walk_at "go"
                  refine ⟨x, dx, _, rfl, hx9, rdF_look, ?_⟩
                  walk_at "go"
                  exact ⟨x, n, q, r, u, v2, .non, long, shownR n r there, shownR n r (there + f'), av, rfl, ⟨dx, hx9⟩, hq9, hn, hr0, hS8.su.ext e9, hv9, hav, fun _ g' H10 hg' hR kp => fin g' H10 hg' hR kp, fun _ h => absurd hg (h g), fun h => absurd (SeenOk.true hn hr0) h⟩
                · walk_at "go"
                  refine ite_ndec (fun _ => ?_) (fun z => by cases z)
                  walk_at "go"
                  refine ⟨x, dx, _, rfl, hx9, rdF_look, ?_⟩
                  walk_at "go"
                  exact ⟨x, n, q, r, u, v2, .int z, long, shownR n r there, shownR n r (there + f'), av, rfl, ⟨dx, hx9⟩, hq9, hn, hr0, hS8.su.ext e9, hv9, hav, fun _ g' H10 hg' hR kp => fin g' H10 hg' hR kp, fun _ h => absurd hg (h g), fun h => absurd (SeenOk.true hn hr0) h⟩
              · rintro v' H9 ⟨rfl, hR9, hD9, hT9, hK9, hp9, hq9, hv9⟩
                walk_at "go"
                refine ite_dec (fun z => by cases z) (fun _ => ?_)
                walk_at "go"
                refine g_setL (ys := [.ref x, .int n, .ref q, v2, .int long, .int there]) hp9 rfl rfl ?_
                walk_at "go"
                refine g_setL (ys := [.ref x, .int n, .ref q, v2, .int (long + g), .int there]) upd_same rfl rfl ?_
                walk_at "go"
                refine g_setL (ys := [.ref x, .int n, .ref q, v2, .int (long + g), .int (there + f')]) upd_same rfl rfl ?_
                walk_at "go"
                have u1 : upd (upd (upd H9 p (.lst [.ref x, .int n, .ref q, v2, .int long, .int there])) p (.lst [.ref x, .int n, .ref q, v2, .int (long + g), .int there])) p (.lst [.ref x, .int n, .ref q, v2, .int (long + g), .int (there + f')]) = upd H9 p (.lst [.ref x, .int n, .ref q, v2, .int (long + g), .int (there + f')]) := by
                  funext b
                  by_cases hb : b = p
                  · subst hb; rw [upd_same, upd_same]
                  · rw [upd_ne hb, upd_ne hb, upd_ne hb, upd_ne hb]
                obtain ⟨dx, hx9⟩ := hR9.ob
                have nxp : x ≠ p := ne_of hx9 hp9 (by intro z; cases z)
                have nqp : q ≠ p := ne_of hq9 hp9 (by intro z; cases z)
                have kp : Kp p H9 (upd H9 p (.lst [.ref x, .int n, .ref q, v2, .int (long + g), .int (there + f')])) := Kp.upd
                have hD10 : Dr K a sc (upd H9 p (.lst [.ref x, .int n, .ref q, v2, .int (long + g), .int (there + f')])) := hD9.side hp9 (fun _ _ => rfl)
                have hT10 : LamX.Tabs [(PL__law_look, qL__law_look)] (upd H9 p (.lst [.ref x, .int n, .ref q, v2, .int (long + g), .int (there + f')])) := tabs_lst hT9 hp9
                have hv10 : SeenAt (upd H9 p (.lst [.ref x, .int n, .ref q, v2, .int (long + g), .int (there + f')])) r v2 (shownR n r (there + f')) := by
                  cases r with
                  | pair o =>
                    obtain ⟨q2, h1, h2⟩ := hv9
                    exact ⟨q2, h1, kp _ _ h2 (ne_of h2 hp9 (by intro z; cases z))⟩
                  | _ => exact hv9
                have hS10 : Side ec (upd H9 p (.lst [.ref x, .int n, .ref q, v2, .int (long + g), .int (there + f')])) p x n q r v2 v2 (long + g) (there + f') := ⟨upd_same, ⟨dx, kp _ _ hx9 nxp⟩, kp _ _ hq9 nqp, hv10, hv10⟩
                have hK10 : K3 a p x H (upd H9 p (.lst [.ref x, .int n, .ref q, v2, .int (long + g), .int (there + f')])) := hK9.trans K3.upd
                have key : ∀ H11, Same (upd H9 p (.lst [.ref x, .int n, .ref q, v2, .int (long + g), .int (there + f')])) H11 → Q (.bl true) H11 := fun H11 e => by
                  have g11 := GoT.same (T := [(PL__law_look, qL__law_look)]) hT10 hD10 e
                  exact k _ _ _ _ _ g11.dr g11.tb (sgo hD10 hS10 g11) (hK10.trans (K3.same e))
                rw [u1]
                generalize upd H9 p (.lst [.ref x, .int n, .ref q, v2, .int (long + g), .int (there + f')]) = H10 at *
                obtain ⟨dx, hx10⟩ := hS10.rd.ob
                refine ⟨x, dx, _, rfl, hx10, rdF_now, ?_⟩
                walk_at "go"
                refine ⟨x, n, q, v2, long + g, rfl, hS10.rd, ?_⟩
                walk_at "go"
                intro p5 hp5
                walk_at "go"
                intro p6 hp6
                have e5 := Same.new hp5 (o := .lst [V.int (long + g), V.int (long + g)])
                refine ⟨p6, 2, _, rfl, rfl, upd_same, by decide, by decide, by show 1 * 2 ≤ sizeLine; exact sz (by decide), fun p7 hp7 => ?_⟩
                have e6 := Same.new hp6 (o := .lst [V.int (long + g)])
                have e7 := Same.new hp7 (o := .lst [V.int (long + g), V.int (long + g)])
                walk_at "go"
                refine ⟨_, _, rfl, .lst (e7 _ _ (e6 _ _ upd_same)) upd_same rfl (by simp) (SD.flat (fun z hz d => by
                  simp only [List.mem_cons, List.not_mem_nil, or_false] at hz
                  rcases hz with rfl | rfl <;> exact .int _) rfl), fun H11 e11 => key _ (((e5.trans e6).trans e7).trans e11)⟩
            · walk_at "goS"
              refine g_cutE (fun v' H' => v' = .str "NoGap" ∧ LamX.ExtN H8 H' ∧ LamX.Tabs [(PL__law_look, qL__law_look)] H') (fun Q' hQ => ?_) ?_
              · refine g_lam hT8 (fun H9 e9 hT9 => ?_)
                unfold TKind
                obtain ⟨dx, hx8⟩ := hS8.rd.ob
                have hx9 := extN_ins e9 hx8
                have hq9 := extN_tup e9 hS8.ru
                have hv9 := hv8.ext e9
                rcases hva with rfl | ⟨z, rfl⟩
                · walk_at "go"
                  refine ⟨x, dx, _, rfl, hx9, rdF_look, ?_⟩
                  walk_at "go"
                  exact ⟨x, n, q, r, u, v2, .non, long, shownR n r there, shownR n r (there + f'), av, rfl, ⟨dx, hx9⟩, hq9, hn, hr0, hS8.su.ext e9, hv9, hav, fun _ g' H10 hg' => absurd hg' (hno.no hn hr0 g'), fun _ _ => EKind.mk T.q_NoGap fun H10 e10 => hQ _ _ ⟨rfl, e9.trans (extN_same e10), tabs_same hT9 e10⟩, fun h => absurd (SeenOk.true hn hr0) h⟩
                · walk_at "go"
                  refine ite_ndec (fun _ => ?_) (fun z => by cases z)
                  walk_at "go"
                  refine ⟨x, dx, _, rfl, hx9, rdF_look, ?_⟩
                  walk_at "go"
                  exact ⟨x, n, q, r, u, v2, .int z, long, shownR n r there, shownR n r (there + f'), av, rfl, ⟨dx, hx9⟩, hq9, hn, hr0, hS8.su.ext e9, hv9, hav, fun _ g' H10 hg' => absurd hg' (hno.no hn hr0 g'), fun _ _ => EKind.mk T.q_NoGap fun H10 e10 => hQ _ _ ⟨rfl, e9.trans (extN_same e10), tabs_same hT9 e10⟩, fun h => absurd (SeenOk.true hn hr0) h⟩
              · rintro v' H9 ⟨rfl, e9, hT9⟩
                have hS9 := sgo hD8 hS8 (GoT.ext hD8 e9 hT9)
                obtain ⟨dx, hx9⟩ := hS9.rd.ob
                walk_at "go"
                refine ⟨x, dx, _, rfl, hx9, rdF_now, ?_⟩
                walk_at "go"
                refine ⟨x, n, q, u, long, rfl, hS9.rd, ?_⟩
                walk_at "go"
                try rw [decide_eq_true rfl]
                exact k _ _ _ _ _ (hD8.ext e9) hT9 hS9 (hK8.trans (K3.ext e9))
end
end My
namespace My
open PySem PySem.Spec PyProof.Rows L2
open LamX (Tabs ExtN CodeO)
/-- a side, whatever it shows -/
def SideX (ec : Ec) (H : Hp) (p x : Addr) (long : Int) : Prop := ∃ n q r v u there, Side ec H p x n q r v u long there ∧ Wh n ∧ RuleOk n r
theorem SeenAt.tup {H H' : Hp} {r : Rule} {v : V} {x : Int × Int} (h : SeenAt H r v x) (t : ∀ b xs, H b = some (.tup xs) → H' b = some (.tup xs)) : SeenAt H' r v x := by
  cases r with
  | pair o =>
    obtain ⟨q2, e1, e2⟩ := h
    exact ⟨q2, e1, t _ _ e2⟩
  | _ => exact h
theorem Side.of3 {ec : Ec} {H H' : Hp} {p x a p0 x0 : Addr} {n : Int} {q : Addr} {r : Rule} {v u : V} {long there : Int} (S : Side ec H p x n q r v u long there) (h : ∀ b o, H b = some o → b ≠ a → b ≠ p0 → b ≠ x0 → (∀ ps, o ≠ .tbl ps) → H' b = some o)
    (h1 : p ≠ a) (h2 : p ≠ p0) (h3 : x ≠ x0) (ha : ∃ xs, H a = some (.lst xs)) (hp : ∃ xs, H p0 = some (.lst xs)) (hx : ∃ C dx fs, H x0 = some (.ins C dx fs)) : Side ec H' p x n q r v u long there := by
  obtain ⟨l1, ha⟩ := ha
  obtain ⟨l2, hp⟩ := hp
  obtain ⟨C, d0, fs, hx⟩ := hx
  obtain ⟨dx, hd⟩ := S.rd.ob
  have tup : ∀ b xs, H b = some (.tup xs) → H' b = some (.tup xs) := fun b xs e => h _ _ e (ne_of e ha (by intro z; cases z)) (ne_of e hp (by intro z; cases z)) (ne_of e hx (by intro z; cases z)) (fun _ z => by cases z)
  exact ⟨h _ _ S.l h1 h2 (ne_of S.l hx (by intro z; cases z)) (fun _ z => by cases z), ⟨dx, h _ _ hd (ne_of hd ha (by intro z; cases z)) (ne_of hd hp (by intro z; cases z)) h3 (fun _ z => by cases z)⟩, tup _ _ S.ru, S.se.tup tup, S.su.tup tup⟩
theorem SideX.of3 {ec : Ec} {H H' : Hp} {p x a p0 x0 : Addr} {long : Int} (S : SideX ec H p x long) (h : ∀ b o, H b = some o → b ≠ a → b ≠ p0 → b ≠ x0 → (∀ ps, o ≠ .tbl ps) → H' b = some o)
    (h1 : p ≠ a) (h2 : p ≠ p0) (h3 : x ≠ x0) (ha : ∃ xs, H a = some (.lst xs)) (hp : ∃ xs, H p0 = some (.lst xs)) (hx : ∃ C dx fs, H x0 = some (.ins C dx fs)) : SideX ec H' p x long := by
  obtain ⟨n, q, r, v, u, there, s, w⟩ := S
  exact ⟨n, q, r, v, u, there, s.of3 h h1 h2 h3 ha hp hx, w⟩
theorem Side.same {ec : Ec} {H H' : Hp} {p x : Addr} {n : Int} {q : Addr} {r : Rule} {v u : V} {long there : Int} (S : Side ec H p x n q r v u long there) (e : Same H H') : Side ec H' p x n q r v u long there := by
  obtain ⟨dx, hd⟩ := S.rd.ob
  exact ⟨e _ _ S.l, ⟨dx, e _ _ hd⟩, e _ _ S.ru, S.se.same e, S.su.same e⟩
theorem SideX.same {ec : Ec} {H H' : Hp} {p x : Addr} {long : Int} (S : SideX ec H p x long) (e : Same H H') : SideX ec H' p x long := by
  obtain ⟨n, q, r, v, u, there, s, w⟩ := S
  exact ⟨n, q, r, v, u, there, s.same e, w⟩
theorem SideX.lst {ec : Ec} {H : Hp} {p x : Addr} {long : Int} (S : SideX ec H p x long) : ∃ n q v there, H p = some (.lst [.ref x, .int n, .ref q, v, .int long, .int there]) := by
  obtain ⟨n, q, r, v, u, there, s, w⟩ := S
  exact ⟨n, q, v, there, s.l⟩
theorem SideX.ins {ec : Ec} {H : Hp} {p x : Addr} {long : Int} (S : SideX ec H p x long) : ∃ C dx fs, H x = some (.ins C dx fs) := by
  obtain ⟨n, q, r, v, u, there, s, w⟩ := S
  obtain ⟨dx, hd⟩ := s.rd.ob
  exact ⟨_, _, _, hd⟩
theorem SideX.na {K : PySem.W.Frag} {ec : Ec} {H : Hp} {p x a s : Addr} {long : Int} (S : SideX ec H p x long) (d : Dr K a s H) : p ≠ a := by
  obtain ⟨n, q, v, there, h⟩ := S.lst
  obtain ⟨ns, i, m, l, h1, _⟩ := d.ex
  refine ne_of h h1 fun z => ?_
  have z := HO.lst.inj z
  injection z with _ z
  injection z with _ z
  injection z with z
  cases z
theorem Dr.lst {K : PySem.W.Frag} {a s : Addr} {H : Hp} (d : Dr K a s H) : ∃ xs, H a = some (.lst xs) := by
  obtain ⟨ns, i, m, l, h1, _⟩ := d.ex
  exact ⟨_, h1⟩
/-- the sides made so far -/
structure SidesAt (ec : Ec) (H : Hp) (D : Addr) (ps : List (Addr × Addr × Int)) : Prop where
  l : H D = some (.lst (ps.map fun p => V.ref p.1))
  s : ∀ p ∈ ps, SideX ec H p.1 p.2.1 p.2.2
  nd : ps.Pairwise fun p p' => p.1 ≠ p'.1 ∧ p.2.1 ≠ p'.2.1
theorem SidesAt.ne {ec : Ec} {H : Hp} {D : Addr} {ps : List (Addr × Addr × Int)} (S : SidesAt ec H D ps) (hl : ps.length ≤ 2) {p : Addr × Addr × Int} (hp : p ∈ ps) : p.1 ≠ D := by
  obtain ⟨n, q, v, there, h⟩ := (S.s p hp).lst
  refine ne_of h S.l fun z => ?_
  have z := congrArg List.length (HO.lst.inj z)
  simp at z
  omega
theorem SidesAt.na {K : PySem.W.Frag} {a s : Addr} {ec : Ec} {H : Hp} {D : Addr} {ps : List (Addr × Addr × Int)} (S : SidesAt ec H D ps) (hl : ps.length ≤ 2) (d : Dr K a s H) : D ≠ a := by
  obtain ⟨ns, i, m, l, h1, _⟩ := d.ex
  refine ne_of S.l h1 fun z => ?_
  have z := congrArg List.length (HO.lst.inj z)
  simp at z
  omega
theorem SidesAt.same {ec : Ec} {H H' : Hp} {D : Addr} {ps : List (Addr × Addr × Int)} (S : SidesAt ec H D ps) (e : Same H H') : SidesAt ec H' D ps := ⟨e _ _ S.l, fun p hp => (S.s p hp).same e, S.nd⟩
theorem SideX.go {K : PySem.W.Frag} {a s : Addr} {ec : Ec} {H H' : Hp} {p x : Addr} {long : Int} (S : SideX ec H p x long) (d : Dr K a s H) (g : Go K a s H H') : SideX ec H' p x long := by
  have na := S.na d
  obtain ⟨n, q, r, v, u, there, z, w⟩ := S
  obtain ⟨xs, ha⟩ := d.lst
  exact ⟨n, q, r, v, u, there, z.k3 (a := a) (fun b o e n _ => g.kp b o e n) na (fun C dx fs e => by rw [ha] at e; cases e) (fun ys e => by rw [ha] at e; cases e), w⟩
theorem SidesAt.go {K : PySem.W.Frag} {a s : Addr} {ec : Ec} {H H' : Hp} {D : Addr} {ps : List (Addr × Addr × Int)} (S : SidesAt ec H D ps) (hl : ps.length ≤ 2) (d : Dr K a s H) (g : Go K a s H H') : SidesAt ec H' D ps :=
  ⟨g.at S.l (S.na hl d), fun p hp => (S.s p hp).go d g, S.nd⟩
/-- one more -/
theorem SidesAt.more {ec : Ec} {H H' : Hp} {D p x : Addr} {t : Int} {ps : List (Addr × Addr × Int)} (S : SidesAt ec H D ps) (hl : ps.length ≤ 1) (e : Same H H') (hp : H p = none) (hx : H x = none) (s : SideX ec H' p x t) : SidesAt ec (upd H' D (.lst (ps.map (fun p => V.ref p.1) ++ [.ref p]))) D (ps ++ [(p, x, t)]) := by
  have kp : ∀ b o, H' b = some o → b ≠ D → upd H' D (.lst (ps.map (fun p => V.ref p.1) ++ [.ref p])) b = some o := fun b o z n => by rw [upd_ne n]; exact z
  have hD := e _ _ S.l
  have mv : ∀ {p0 x0 : Addr} {t0 : Int}, SideX ec H' p0 x0 t0 → p0 ≠ D → SideX ec (upd H' D (.lst (ps.map (fun p => V.ref p.1) ++ [.ref p]))) p0 x0 t0 := fun {p0 x0 t0} z n => by
    obtain ⟨n0, q, r, v, u, there, y, w⟩ := z
    obtain ⟨dx, hd⟩ := y.rd.ob
    have tup : ∀ b xs, H' b = some (.tup xs) → upd H' D (.lst (ps.map (fun p => V.ref p.1) ++ [.ref p])) b = some (.tup xs) := fun b xs e => kp _ _ e (ne_of e hD (by intro z; cases z))
    exact ⟨n0, q, r, v, u, there, ⟨kp _ _ y.l n, ⟨dx, kp _ _ hd (ne_of hd hD (by intro z; cases z))⟩, tup _ _ y.ru, y.se.tup tup, y.su.tup tup⟩, w⟩
  refine ⟨by rw [upd_same, List.map_append]; rfl, fun z hz => ?_, ?_⟩
  · rcases List.mem_append.mp hz with hz | hz
    · exact mv ((S.s z hz).same e) (S.ne (by omega) hz)
    · rw [List.mem_singleton.mp hz]
      exact mv s (ne_of_none S.l hp).symm
  · rw [List.pairwise_append]
    refine ⟨S.nd, List.pairwise_singleton _ _, fun z hz y hy => ?_⟩
    rw [List.mem_singleton.mp hy]
    obtain ⟨n0, q, v, there, h1⟩ := (S.s z hz).lst
    obtain ⟨C, dx, fs, h2⟩ := (S.s z hz).ins
    exact ⟨ne_of_none h1 hp, ne_of_none h2 hx⟩
end My
namespace My
open PySem PySem.Spec PyProof.Rows L2
section
variable {P : Program} {w : World} {K : PySem.W.Frag} {mg : Str → Option Value} {base : Heap} {ec : Ec}
theorem sc_law : FnScope ["_law_script", "_law_state", "_law_sides", "_law_k", "_law_wheel_here", "_law_rule_here", "_law_begun", "_law_turn", "_law_side"] ["_law_script"] (defScope s_law) := ⟨rfl, rfl, rfl, by decide +kernel, rfl, by decide +kernel, by decide +kernel⟩
theorem ok_law {f0 PL__law_look : Addr} {fd0 : FuncData} (T : Txt K mg ec) (F : Fun K "law" "law" s_law f0 fd0) (c__law_start : Knows P w K mg base 1 "_law_start" ["_law_script"] (sp_start K)) (c__law_wheel : Knows P w K mg base 2 "_law_wheel" ["_law_state"] (sp_wheel K)) (c__law_rule : Knows P w K mg base 3 "_law_rule" ["_law_state", "_law_wheel_here"] (sp_rule K)) (c__law_time : Knows P w K mg base 2 "_law_time" ["_law_state"] (sp_time K)) (c__law_drawn : Knows P w K mg base 1 "_law_drawn" ["_law_state", "_law_many"] (sp_drawn K)) (c__law_look : Knows P w K mg base 7 "_law_look" ["_law_state", "_law_side"] (sp_llook K ec [(PL__law_look, qL__law_look)])) (c__law_same : Knows P w K mg base 2 "_law_same" ["_law_found", "_law_due"] (sp_same 1)) (c_Reader_init : KnowsI P w K mg base 4 ec.Reader ["self", "wheel", "rule", "begun"] (sp_init ec)) (c__law_shown : Knows P w K mg base 1 "_law_shown" ["_law_wheel_here", "_law_rule_here", "_law_time_here"] sp_lshown) (c_Reader_now : KnowsM P w K mg base 1 ec.Reader "now" ["self"] [] (sp_now ec)) : FnOk P w K mg base (L2.CX P w) 8 f0 fd0 ["_law_script"] (sp_lawTs K [PL__law_look]) := by
  refine fnok_mk F sc_law (fun vs H Q E h => ?_) (fun cdv A outer s H vs Q E hr h => ?_)
  · obtain ⟨s, ns, rfl, _⟩ := h; rfl
  · obtain ⟨s, ns, rfl, hS, hl, hP, k⟩ := h
    refine ⟨_, (pss_cons (ps_set (i := 1) sc_law.nd rfl (Or.inl rfl) (pe_callN c__law_start (hr.mono (by first | decide | omega)) passD (pa_cons (pv 0) pa_nil)))
    (pss_cons (ps_set (i := 2) sc_law.nd rfl (Or.inl rfl) (pe_lst pa_nil))
    (pss_cons (ps_for passO rfl (pi_range1 (by rfl) T.range (pa_cons pe_int pa_nil)) (pg_name (i := 3) sc_law.nd rfl (Or.inl rfl)) (pss_cons (ps_set (i := 4) sc_law.nd rfl (Or.inl rfl) (pe_callN c__law_wheel (hr.mono (by first | decide | omega)) passD (pa_cons (pv 1) pa_nil)))
    (pss_cons (ps_set (i := 5) sc_law.nd rfl (Or.inl rfl) (pe_callN c__law_rule (hr.mono (by first | decide | omega)) passD (pa_cons (pv 1) (pa_cons (pv 4) pa_nil))))
    (pss_cons (ps_set (i := 6) sc_law.nd rfl (Or.inl rfl) (pe_callN c__law_time (hr.mono (by first | decide | omega)) passD (pa_cons (pv 1) pa_nil)))
    (pss_one (ps_expr (pe_bm PySem.F.plainAttrs_list PySem.F.slot_list_append PySem.F.type_list_append mt_append (pv 2) (pa_cons (pe_lst (pa_cons (pe_makeN c_Reader_init (hr.mono (by first | decide | omega)) T.g_Reader passD (pa_cons (pv 4) (pa_cons (pv 5) (pa_cons (pv 6) pa_nil)))) (pa_cons (pv 4) (pa_cons (pv 5) (pa_cons (pe_callN c__law_shown (hr.mono (by first | decide | omega)) passD (pa_cons (pv 4) (pa_cons (pv 5) (pa_cons (pv 6) pa_nil)))) (pa_cons (pv 6) (pa_cons (pv 6) pa_nil))))))) pa_nil))))))))
    (pss_cons (ps_for passO rfl (pi_range1 (by rfl) T.range (pa_cons (pe_callN c__law_drawn (hr.mono (by first | decide | omega)) passD (pa_cons (pv 1) (pa_cons pe_int pa_nil))) pa_nil)) (pg_name (i := 7) sc_law.nd rfl (Or.inl rfl)) (pss_cons (ps_if (pt_not (pt_val (pe_callN c__law_look (hr.mono (by first | decide | omega)) passD (pa_cons (pv 1) (pa_cons (pe_ix ix_list (pv 2) (pe_callN c__law_drawn (hr.mono (by first | decide | omega)) passD (pa_cons (pv 1) (pa_cons pe_int pa_nil))) (fun _ _ => rfl)) pa_nil))) (by intro _; rfl))) (pss_one (ps_ret pe_bl)) pss_nil)
    (pss_one (ps_if (pt_not (pt_val (pe_callN c__law_same (hr.mono (by first | decide | omega)) passD (pa_cons (pe_lc (own := [("_law_side", 8)]) (g := gName 8) (tt := tYes) rfl sc_law.nd (pi_list (pv 2)) (blkOk_by (own := [("_law_side", 8)]) (N := ["_law_script", "_law_state", "_law_sides", "_law_k", "_law_wheel_here", "_law_rule_here", "_law_begun", "_law_turn", "_law_side"]) (sc := defScope s_law) (by decide +kernel)) (fun _ _ _ _ _ => (pg_name (i := 8) sc_law.nd rfl (Or.inl rfl))) (fun _ _ _ _ _ => pts_nil) (fun _ _ _ _ _ => (pe_methN0 (pe_ix (r := rIxL K) ix_list (pv 8) pe_int (fun _ _ => rfl)) T.k_Reader c_Reader_now (hr.mono (by first | decide | omega)) passL))) (pa_cons (pe_lc (own := [("_law_side", 8)]) (g := gName 8) (tt := tYes) rfl sc_law.nd (pi_list (pv 2)) (blkOk_by (own := [("_law_side", 8)]) (N := ["_law_script", "_law_state", "_law_sides", "_law_k", "_law_wheel_here", "_law_rule_here", "_law_begun", "_law_turn", "_law_side"]) (sc := defScope s_law) (by decide +kernel)) (fun _ _ _ _ _ => (pg_name (i := 8) sc_law.nd rfl (Or.inl rfl))) (fun _ _ _ _ _ => pts_nil) (fun _ _ _ _ _ => (pe_ix (r := rIxL K) ix_list (pv 8) pe_int (fun _ _ => rfl)))) pa_nil))) (by intro _; rfl))) (pss_one (ps_ret pe_bl)) pss_nil))))
    (pss_one (ps_ret pe_bl)))))), ?_⟩
    refine g_start (σ := [some _, none, none, none, none, none, none, none, none]) rfl ?_
    try dsimp only [cxOf]
    have hT0 : LamX.Tabs [(PL__law_look, qL__law_look)] H := fun p hp => by
      have hp : p = (PL__law_look, qL__law_look) := by simpa using hp
      rcases hp with rfl
      exact LamX.TabS.nil (hP _ (by simp))
    walk_at "go"
    refine ⟨s, ns, rfl, hS, hl, fun a H1 ha e1 hD1 => ?_⟩
    walk_at "go"
    intro D hD
    have hT1 := tabs_same (tabs_same hT0 e1) (Same.new hD (o := .lst []))
    have hD2 := hD1.same (Same.new hD (o := .lst []))
    have uD : upd H1 D (.lst []) D = some (.lst []) := upd_same
    generalize upd H1 D (.lst []) = H2 at *
    walk_at "go"
    refine ⟨by decide, by decide, for_R (fun i σ H' => Dr K a s H' ∧ LamX.Tabs [(PL__law_look, qL__law_look)] H' ∧ (∃ ps, SidesAt ec H' D ps ∧ ps.length = i) ∧ ∃ v3 v4 v5 v6 v7 v8, σ = [some (.ref s), some (.ref a), some (.ref D), v3, v4, v5, v6, v7, v8]) ⟨hD2, hT1, ⟨[], ⟨uD, (fun p hp => by cases hp), .nil⟩, rfl⟩, _, _, _, _, _, _, rfl⟩ ?_ ?_⟩
    · rintro i σ H3 hi ⟨hD3, hT3, ⟨ps, hps, hpl⟩, v3, v4, v5, v6, v7, v8, rfl⟩
      have hi2 : i < 2 := hi
      walk_at "go"
      refine ⟨a, s, rfl, hD3, fun n H4 hn g4 => ?_⟩
      walk_at "go"
      refine ⟨a, s, n, rfl, g4.dr, hn, fun r q H5 hr0 hq5 g5 => ?_⟩
      walk_at "go"
      refine ⟨a, s, rfl, g5.dr, fun t H6 g6 => ?_⟩
      have hD6 := g6.dr
      have hT6 := tabs_go (tabs_go (tabs_go hT3 hD3 g4) g4.dr g5) g5.dr g6
      have hps6 := ((hps.go (by omega) hD3 g4).go (by omega) g4.dr g5).go (by omega) g5.dr g6
      have hq6 : H6 q = some (.tup (ruleV r)) := by
        refine g6.at hq5 ?_
        obtain ⟨xs, h1⟩ := g5.dr.lst
        exact ne_of hq5 h1 (by intro z; cases z)
      clear g4 g5 g6 hps hq5 hT3
      walk_at "go"
      refine g_tyL (SqL.of hps6.l) ?_
      walk_at "go"
      intro x dx nx ndx nex
      have e7 : Same H6 (upd (upd H6 dx (.own x)) x (.ins ec.Reader dx [])) := fun b o e => by
        rw [upd_ne (ne_of_none e nx), upd_ne (ne_of_none e ndx)]
        exact e
      refine ⟨x, dx, n, q, toRaw r, t, rfl, upd_same, by rw [rawV_to]; exact e7 _ _ hq6, rawS_to r, fun r' er _ _ v H7 hv hR kp => ⟨rfl, ?_⟩, fun h => (h hn).elim, fun _ h => absurd (rawOk_to.mpr hr0) h⟩
      cases toRaw_inj er
      have e67 : Same H6 H7 := fun b o e => kp b o (e7 b o e) (ne_of_none e nx)
      clear e7 kp
      walk_at "go"
      refine ⟨n, q, r, t, rfl, e67 _ _ hq6, hn, hr0, fun v2 H8 e78 hv2 => ?_⟩
      walk_at "go"
      intro p hp
      have hR8 : RdAt ec.Reader H8 x n q v t := by
        obtain ⟨d, h⟩ := hR
        exact ⟨d, e78 _ _ h⟩
      have e8 := Same.new hp (o := .lst [.ref x, .int n, .ref q, v2, .int t, .int t])
      have hp6 : H6 p = none := by
        cases z : H6 p with
        | none => rfl
        | some o => have := e78 _ _ (e67 _ _ z); rw [this] at hp; cases hp
      have u8 : upd H8 p (.lst [.ref x, .int n, .ref q, v2, .int t, .int t]) p = some (.lst [.ref x, .int n, .ref q, v2, .int t, .int t]) := upd_same
      have S8 : SideX ec (upd H8 p (.lst [.ref x, .int n, .ref q, v2, .int t, .int t])) p x t := by
        obtain ⟨d, h⟩ := hR8
        exact ⟨n, q, r, v2, v, t, ⟨u8, ⟨d, e8 _ _ h⟩, e8 _ _ (e78 _ _ (e67 _ _ hq6)), hv2.same e8, (hv.same e78).same e8⟩, hn, hr0⟩
      have e69 : Same H6 (upd H8 p (.lst [.ref x, .int n, .ref q, v2, .int t, .int t])) := (e67.trans e78).trans e8
      have hS9 := hps6.more (by omega) e69 hp6 nx S8
      have hD9 := hD6.same e69
      have hT9 := tabs_same hT6 e69
      have hl9 := e69 _ _ hps6.l
      generalize upd H8 p (.lst [.ref x, .int n, .ref q, v2, .int t, .int t]) = H9 at *
      walk_at "go"
      refine g_app hl9 (by rw [List.length_map]; omega) ?_
      exact ⟨hD1.mut hD9 hD, tabs_lst hT9 hl9, ⟨_, hS9, by rw [List.length_append, hpl]; rfl⟩, _, _, _, _, _, _, rfl⟩
    · rintro σ H3 ⟨hD3, hT3, ⟨ps, hps, hpl⟩, v3, v4, v5, v6, v7, v8, rfl⟩
      walk_at "go"
      refine ⟨a, s, 41, rfl, hD3, by decide, fun m H4 h40 h41 g4 => ?_⟩
      have hps4 := hps.go (by omega) hD3 g4
      have hT4 := tabs_go hT3 hD3 g4
      have hD4 := g4.dr
      walk_at "go"
      refine ⟨by omega, by omega, for_R (fun i σ H' => Dr K a s H' ∧ LamX.Tabs [(PL__law_look, qL__law_look)] H' ∧ (∃ ps, SidesAt ec H' D ps ∧ ps.length = 2) ∧ ∃ v3 v4 v5 v6 v7 v8, σ = [some (.ref s), some (.ref a), some (.ref D), v3, v4, v5, v6, v7, v8]) ⟨hD4, hT4, ⟨ps, hps4, hpl⟩, _, _, _, _, _, _, rfl⟩ ?_ ?_⟩
      · rintro i σ H5 hi ⟨hD5, hT5, ⟨ps5, hps5, hpl5⟩, v3, v4, v5, v6, v7, v8, rfl⟩
        obtain ⟨p0, x0, t0, p1, x1, t1, rfl⟩ : ∃ p0 x0 t0 p1 x1 t1, ps5 = [(p0, x0, t0), (p1, x1, t1)] := by
          match ps5, hpl5 with
          | [(p0, x0, t0), (p1, x1, t1)], _ => exact ⟨p0, x0, t0, p1, x1, t1, rfl⟩
        walk_at "goS"
        refine g_cutS (fun σ' H7 => σ' = [some (.ref s), some (.ref a), some (.ref D), v3, v4, v5, v6, some (.int (0 + (i : Nat))), v8] ∧ Dr K a s H7 ∧ LamX.Tabs [(PL__law_look, qL__law_look)] H7 ∧ ∃ t0 t1, SidesAt ec H7 D [(p0, x0, t0), (p1, x1, t1)]) (fun N hN => ?_) ?_
        · walk_at "go"
          refine ⟨a, s, 2, rfl, hD5, by decide, fun j H6 h60 h61 g6 => ?_⟩
          have hps6 := hps5.go (by simp) hD5 g6
          have hT6 := tabs_go hT5 hD5 g6
          have hD6 := g6.dr
          clear g6
          have hl6 := hps6.l
          have sA := hps6.s (p0, x0, t0) (by simp)
          have sB := hps6.s (p1, x1, t1) (by simp)
          have n0 : p0 ≠ p1 ∧ x0 ≠ x1 := by
            have := hps6.nd
            simp at this
            exact this
          have dA := hps6.ne (by simp) (p := (p0, x0, t0)) (by simp)
          have dB := hps6.ne (by simp) (p := (p1, x1, t1)) (by simp)
          have da := hps6.na (by simp) hD6
          have iA := sA.ins
          have iB := sB.ins
          have dxA : D ≠ x0 := by
            obtain ⟨C, d, fs, h⟩ := iA
            exact ne_of hl6 h (by intro z; cases z)
          have dxB : D ≠ x1 := by
            obtain ⟨C, d, fs, h⟩ := iB
            exact ne_of hl6 h (by intro z; cases z)
          have lA : ∃ xs, H6 p0 = some (.lst xs) := by obtain ⟨_, _, _, _, h⟩ := sA.lst; exact ⟨_, h⟩
          have lB : ∃ xs, H6 p1 = some (.lst xs) := by obtain ⟨_, _, _, _, h⟩ := sB.lst; exact ⟨_, h⟩
          have aA := sA.na hD6
          have aB := sB.na hD6
          have hj : j = 0 ∨ j = 1 := by omega
          rcases hj with rfl | rfl
          · refine g_ixL (SqL.of hl6) (v := .ref p0) rfl ?_
            obtain ⟨n, q, r, v, u, there, S, hn, hr0⟩ := sA
            walk_at "go"
            refine ⟨a, s, p0, x0, n, q, r, v, u, t0, there, rfl, hD6, hT6, S, hn, hr0, fun v' u' long' there' H7 hD7 hT7 S7 k7 => ?_⟩
            walk_at "go"
            exact hN _ _ ⟨rfl, hD7, hT7, long', t1, ⟨k7 _ _ hl6 da dA.symm dxA (fun _ z => by cases z), fun p hp => by
              rcases List.mem_cons.mp hp with rfl | hp
              · exact ⟨n, q, r, v', u', there', S7, hn, hr0⟩
              · rw [List.mem_singleton.mp hp]
                exact sB.of3 (a := a) (p0 := p0) (x0 := x0) k7 aB n0.1.symm n0.2.symm hD6.lst lA iA, .cons (fun z hz => by rw [List.mem_singleton.mp hz]; exact n0) (List.pairwise_singleton _ _)⟩⟩
          · refine g_ixL (SqL.of hl6) (v := .ref p1) rfl ?_
            obtain ⟨n, q, r, v, u, there, S, hn, hr0⟩ := sB
            walk_at "go"
            refine ⟨a, s, p1, x1, n, q, r, v, u, t1, there, rfl, hD6, hT6, S, hn, hr0, fun v' u' long' there' H7 hD7 hT7 S7 k7 => ?_⟩
            walk_at "go"
            exact hN _ _ ⟨rfl, hD7, hT7, t0, long', ⟨k7 _ _ hl6 da dB.symm dxB (fun _ z => by cases z), fun p hp => by
              rcases List.mem_cons.mp hp with rfl | hp
              · exact sA.of3 (a := a) (p0 := p1) (x0 := x1) k7 aA n0.1 n0.2 hD6.lst lB iB
              · rw [List.mem_singleton.mp hp]
                exact ⟨n, q, r, v', u', there', S7, hn, hr0⟩, .cons (fun z hz => by rw [List.mem_singleton.mp hz]; exact n0) (List.pairwise_singleton _ _)⟩⟩
        · rintro σ' H7 ⟨rfl, hD7, hT7, t0, t1, hps7⟩
          walk_at "goS"
          refine g_ifS ?_
          walk_at "goS"
          have hl7 := hps7.l
          have sA := hps7.s (p0, x0, t0) (by simp)
          have sB := hps7.s (p1, x1, t1) (by simp)
          obtain ⟨nA, qA, rA, vA, uA, thA, SA, _⟩ := sA
          obtain ⟨nB, qB, rB, vB, uB, thB, SB, _⟩ := sB
          obtain ⟨dA, iA⟩ := SA.rd.ob
          obtain ⟨dB, iB⟩ := SB.rd.ob
          refine ⟨⟨_, SqL.of hl7⟩, fun D1 hD1n => ?_⟩
          refine lc_L (fun i acc H => Same H7 H ∧ acc = [V.int t0, V.int t1].take i) (fun i acc H o h => ⟨Same.mut h.1 hD1n, h.2⟩) ⟨Same.refl _, rfl⟩ (fun i acc H h => h.1.seq (SqL.of hl7)) ?_ ?_
          · rintro i x acc H8 hx ⟨e8, rfl⟩ hDl hle
            walk_at "wp"
            match i, hx with
            | 0, hx =>
              cases hx
              walk_at "go"
              refine ⟨rfl, ?_⟩
              walk_at "go"
              refine g_ixL (SqL.of (e8 _ _ SA.l)) (v := .ref x0) rfl ?_
              walk_at "go"
              refine ⟨x0, dA, _, rfl, e8 _ _ iA, rdF_now, ?_⟩
              walk_at "go"
              exact ⟨x0, nA, qA, uA, t0, rfl, ⟨dA, e8 _ _ iA⟩, lc_leaf (J := fun i acc H => Same H7 H ∧ acc = [V.int t0, V.int t1].take i) (fun i acc H o h => ⟨Same.mut h.1 hD1n, h.2⟩) hDl hle (by decide) ⟨e8, rfl⟩⟩
            | 1, hx =>
              cases hx
              walk_at "go"
              refine ⟨rfl, ?_⟩
              walk_at "go"
              refine g_ixL (SqL.of (e8 _ _ SB.l)) (v := .ref x1) rfl ?_
              walk_at "go"
              refine ⟨x1, dB, _, rfl, e8 _ _ iB, rdF_now, ?_⟩
              walk_at "go"
              exact ⟨x1, nB, qB, uB, t1, rfl, ⟨dB, e8 _ _ iB⟩, lc_leaf (J := fun i acc H => Same H7 H ∧ acc = [V.int t0, V.int t1].take i) (fun i acc H o h => ⟨Same.mut h.1 hD1n, h.2⟩) hDl hle (by decide) ⟨e8, rfl⟩⟩
          · rintro acc H8 ⟨e8, rfl⟩ u8
            walk_at "goS"
            refine ⟨⟨_, SqL.of (e8 _ _ hl7)⟩, fun D2 hD2n => ?_⟩
            refine lc_L (fun i acc H => Same H8 H ∧ acc = [V.int t0, V.int t1].take i) (fun i acc H o h => ⟨Same.mut h.1 hD2n, h.2⟩) ⟨Same.refl _, rfl⟩ (fun i acc H h => h.1.seq (SqL.of (e8 _ _ hl7))) ?_ ?_
            · rintro i x acc H9 hx ⟨e9, rfl⟩ hDl hle
              walk_at "wp"
              match i, hx with
              | 0, hx =>
                cases hx
                walk_at "go"
                refine ⟨rfl, ?_⟩
                walk_at "go"
                refine g_ixL (SqL.of (e9 _ _ (e8 _ _ SA.l))) (v := .int t0) rfl ?_
                exact lc_leaf (J := fun i acc H => Same H8 H ∧ acc = [V.int t0, V.int t1].take i) (fun i acc H o h => ⟨Same.mut h.1 hD2n, h.2⟩) hDl hle (by decide) ⟨e9, rfl⟩
              | 1, hx =>
                cases hx
                walk_at "go"
                refine ⟨rfl, ?_⟩
                walk_at "go"
                refine g_ixL (SqL.of (e9 _ _ (e8 _ _ SB.l))) (v := .int t1) rfl ?_
                exact lc_leaf (J := fun i acc H => Same H8 H ∧ acc = [V.int t0, V.int t1].take i) (fun i acc H o h => ⟨Same.mut h.1 hD2n, h.2⟩) hDl hle (by decide) ⟨e9, rfl⟩
            · rintro acc H9 ⟨e9, rfl⟩ u9
              walk_at "go"
              refine ⟨_, _, rfl, .lst (e9 _ _ u8) u9 rfl (by simp) (SD.flat (fun z hz d => by
                simp only [List.map_cons, List.map_nil, List.length_cons, List.length_nil, List.take_succ_cons, List.take_nil, List.mem_cons, List.not_mem_nil, or_false, List.take_zero] at hz
                rcases hz with rfl | rfl <;> exact .int _) rfl), fun H10 e10 => ?_⟩
              walk_at "go"
              have e710 := (e8.trans e9).trans e10
              exact ⟨hD7.same e710, tabs_same hT7 e710, ⟨_, hps7.same e710, rfl⟩, _, _, _, _, _, _, rfl⟩
      · rintro σ H5 ⟨hD5, _, _, v3, v4, v5, v6, v7, v8, rfl⟩
        walk_at "go"
        exact k H5
end
end My
namespace My
open PySem PySem.Spec PyProof.Rows L2
section
variable {P : Program} {w : World} {K : PySem.W.Frag} {mg : Str → Option Value} {base : Heap} {ec : Ec}
theorem all_mk {l : PySem.W.OpenLaw} {w : World} {K : PySem.W.Frag} {h : Heap} {mg : Str → Option Value} {fa : Addr} (X : K.In h) (G : h.Ns mainGlobals mg) (hfa : mg "law" = some (.ref fa))
    {C_Reader : Addr}
    {f0 : Addr} {od0 an0 : Option Addr} {sl0 : Array (Option Value)} {oc0 kV0 dc0 pm0 cd0 ct0 : Value}
    {f1 : Addr} {od1 an1 : Option Addr} {sl1 : Array (Option Value)} {oc1 kV1 dc1 pm1 cd1 ct1 : Value}
    {f2 : Addr} {od2 an2 : Option Addr} {sl2 : Array (Option Value)} {oc2 kV2 dc2 pm2 cd2 ct2 : Value}
    {f3 : Addr} {od3 an3 : Option Addr} {sl3 : Array (Option Value)} {oc3 kV3 dc3 pm3 cd3 ct3 : Value}
    {f4 : Addr} {od4 an4 : Option Addr} {sl4 : Array (Option Value)} {oc4 kV4 dc4 pm4 cd4 ct4 : Value}
    {f5 : Addr} {od5 an5 : Option Addr} {sl5 : Array (Option Value)} {oc5 kV5 dc5 pm5 cd5 ct5 : Value}
    {f6 : Addr} {od6 an6 : Option Addr} {sl6 : Array (Option Value)} {oc6 kV6 dc6 pm6 cd6 ct6 : Value}
    {f7 : Addr} {od7 an7 : Option Addr} {sl7 : Array (Option Value)} {oc7 kV7 dc7 pm7 cd7 ct7 : Value}
    {f8 : Addr} {od8 an8 : Option Addr} {sl8 : Array (Option Value)} {oc8 kV8 dc8 pm8 cd8 ct8 : Value}
    {f9 : Addr} {od9 an9 : Option Addr} {sl9 : Array (Option Value)} {oc9 kV9 dc9 pm9 cd9 ct9 : Value}
    {f10 : Addr} {od10 an10 : Option Addr} {sl10 : Array (Option Value)} {oc10 kV10 dc10 pm10 cd10 ct10 : Value}
    {f11 : Addr} {od11 an11 : Option Addr} {sl11 : Array (Option Value)} {oc11 kV11 dc11 pm11 cd11 ct11 : Value}
    {f12 : Addr} {od12 an12 : Option Addr} {sl12 : Array (Option Value)} {oc12 kV12 dc12 pm12 cd12 ct12 : Value}
    {f13 T13 : Addr} {od13 an13 zd13 : Option Addr} {sl13 zs13 : Array (Option Value)} {oc13 kV13 dc13 pm13 cd13 ct13 zc13 : Value} {zn13 : Nat}
    {f14 : Addr} {od14 an14 : Option Addr} {sl14 : Array (Option Value)} {oc14 kV14 dc14 pm14 cd14 ct14 : Value}
    {f15 : Addr} {od15 an15 : Option Addr} {sl15 : Array (Option Value)} {oc15 kV15 dc15 pm15 cd15 ct15 : Value}
    {f16 : Addr} {od16 an16 : Option Addr} {sl16 : Array (Option Value)} {oc16 kV16 dc16 pm16 cd16 ct16 : Value}
    {f17 : Addr} {od17 an17 : Option Addr} {sl17 : Array (Option Value)} {oc17 kV17 dc17 pm17 cd17 ct17 : Value}
    {f18 : Addr} {od18 an18 : Option Addr} {sl18 : Array (Option Value)} {oc18 kV18 dc18 pm18 cd18 ct18 : Value}
    {f19 : Addr} {od19 an19 : Option Addr} {sl19 : Array (Option Value)} {oc19 kV19 dc19 pm19 cd19 ct19 : Value}
    {f20 : Addr} {od20 an20 : Option Addr} {sl20 : Array (Option Value)} {oc20 kV20 dc20 pm20 cd20 ct20 : Value}
    {f21 : Addr} {od21 an21 : Option Addr} {sl21 : Array (Option Value)} {oc21 kV21 dc21 pm21 cd21 ct21 : Value}
    {f22 : Addr} {od22 an22 : Option Addr} {sl22 : Array (Option Value)} {oc22 kV22 dc22 pm22 cd22 ct22 : Value}
    {f23 : Addr} {od23 an23 : Option Addr} {sl23 : Array (Option Value)} {oc23 kV23 dc23 pm23 cd23 ct23 : Value}
    {f24 : Addr} {od24 an24 : Option Addr} {sl24 : Array (Option Value)} {oc24 kV24 dc24 pm24 cd24 ct24 : Value}
    {f25 : Addr} {od25 an25 : Option Addr} {sl25 : Array (Option Value)} {oc25 kV25 dc25 pm25 cd25 ct25 : Value}
    {f26 cL__law_look PL__law_look : Addr} {od26 an26 ddL__law_look : Option Addr} {sl26 slL__law_look : Array (Option Value)} {vsL__law_look : Array Value} {oc26 kV26 dc26 pm26 ct26 eL__law_look : Value}
    {f27 : Addr} {od27 an27 : Option Addr} {sl27 : Array (Option Value)} {oc27 kV27 dc27 pm27 cd27 ct27 : Value}
    {t_MOST_WHEEL : Tok}
    {t_MOST_LEAST : Tok}
    {C_BadWheel : Addr}
    {C_BadRule : Addr}
    {C_BadSeen : Addr}
    {C_BadGaps : Addr}
    {C_BadSpan : Addr}
    {C_BadLong : Addr}
    {C_NoGap : Addr}
    {C_NoSpan : Addr}
    {C_WrapError : Addr}
    (gc_Reader : PySem.W.nsIn K mainGlobals "Reader" = some (some (.ref C_Reader)))
    (a0 : PySem.W.nsIn K mainGlobals "is_wheel" = some (some (.ref f0)))
    (l0 : K.lookup f0 = some ⟨oc0, od0, .func (PySem.W.fnOf "is_wheel" "is_wheel" (defArgs s_is_wheel) (defBody s_is_wheel) (defScope s_is_wheel) .none kV0 dc0 pm0 an0 cd0 ct0), sl0⟩)
    (c0 : PySem.W.codeIn K cd0 "is_wheel" = true)
    (k0 : PySem.W.keepIn K (.ref f0) = true)
    (a1 : PySem.W.nsIn K mainGlobals "need_wheel" = some (some (.ref f1)))
    (l1 : K.lookup f1 = some ⟨oc1, od1, .func (PySem.W.fnOf "need_wheel" "need_wheel" (defArgs s_need_wheel) (defBody s_need_wheel) (defScope s_need_wheel) .none kV1 dc1 pm1 an1 cd1 ct1), sl1⟩)
    (c1 : PySem.W.codeIn K cd1 "need_wheel" = true)
    (k1 : PySem.W.keepIn K (.ref f1) = true)
    (a2 : PySem.W.nsIn K mainGlobals "need_seen" = some (some (.ref f2)))
    (l2 : K.lookup f2 = some ⟨oc2, od2, .func (PySem.W.fnOf "need_seen" "need_seen" (defArgs s_need_seen) (defBody s_need_seen) (defScope s_need_seen) .none kV2 dc2 pm2 an2 cd2 ct2), sl2⟩)
    (c2 : PySem.W.codeIn K cd2 "need_seen" = true)
    (k2 : PySem.W.keepIn K (.ref f2) = true)
    (a3 : PySem.W.nsIn K mainGlobals "is_rule" = some (some (.ref f3)))
    (l3 : K.lookup f3 = some ⟨oc3, od3, .func (PySem.W.fnOf "is_rule" "is_rule" (defArgs s_is_rule) (defBody s_is_rule) (defScope s_is_rule) .none kV3 dc3 pm3 an3 cd3 ct3), sl3⟩)
    (c3 : PySem.W.codeIn K cd3 "is_rule" = true)
    (k3 : PySem.W.keepIn K (.ref f3) = true)
    (a4 : PySem.W.nsIn K mainGlobals "need_rule" = some (some (.ref f4)))
    (l4 : K.lookup f4 = some ⟨oc4, od4, .func (PySem.W.fnOf "need_rule" "need_rule" (defArgs s_need_rule) (defBody s_need_rule) (defScope s_need_rule) .none kV4 dc4 pm4 an4 cd4 ct4), sl4⟩)
    (c4 : PySem.W.codeIn K cd4 "need_rule" = true)
    (k4 : PySem.W.keepIn K (.ref f4) = true)
    (a5 : PySem.W.nsIn K mainGlobals "divisor" = some (some (.ref f5)))
    (l5 : K.lookup f5 = some ⟨oc5, od5, .func (PySem.W.fnOf "divisor" "divisor" (defArgs s_divisor) (defBody s_divisor) (defScope s_divisor) .none kV5 dc5 pm5 an5 cd5 ct5), sl5⟩)
    (c5 : PySem.W.codeIn K cd5 "divisor" = true)
    (k5 : PySem.W.keepIn K (.ref f5) = true)
    (a6 : PySem.W.nsIn K mainGlobals "shown_of" = some (some (.ref f6)))
    (l6 : K.lookup f6 = some ⟨oc6, od6, .func (PySem.W.fnOf "shown_of" "shown_of" (defArgs s_shown_of) (defBody s_shown_of) (defScope s_shown_of) .none kV6 dc6 pm6 an6 cd6 ct6), sl6⟩)
    (c6 : PySem.W.codeIn K cd6 "shown_of" = true)
    (k6 : PySem.W.keepIn K (.ref f6) = true)
    (a7 : PySem.W.nsIn K mainGlobals "need_shown" = some (some (.ref f7)))
    (l7 : K.lookup f7 = some ⟨oc7, od7, .func (PySem.W.fnOf "need_shown" "need_shown" (defArgs s_need_shown) (defBody s_need_shown) (defScope s_need_shown) .none kV7 dc7 pm7 an7 cd7 ct7), sl7⟩)
    (c7 : PySem.W.codeIn K cd7 "need_shown" = true)
    (k7 : PySem.W.keepIn K (.ref f7) = true)
    (a8 : PySem.W.nsIn K mainGlobals "inverse" = some (some (.ref f8)))
    (l8 : K.lookup f8 = some ⟨oc8, od8, .func (PySem.W.fnOf "inverse" "inverse" (defArgs s_inverse) (defBody s_inverse) (defScope s_inverse) .none kV8 dc8 pm8 an8 cd8 ct8), sl8⟩)
    (c8 : PySem.W.codeIn K cd8 "inverse" = true)
    (k8 : PySem.W.keepIn K (.ref f8) = true)
    (a9 : PySem.W.nsIn K mainGlobals "paired" = some (some (.ref f9)))
    (l9 : K.lookup f9 = some ⟨oc9, od9, .func (PySem.W.fnOf "paired" "paired" (defArgs s_paired) (defBody s_paired) (defScope s_paired) .none kV9 dc9 pm9 an9 cd9 ct9), sl9⟩)
    (c9 : PySem.W.codeIn K cd9 "paired" = true)
    (k9 : PySem.W.keepIn K (.ref f9) = true)
    (a10 : PySem.W.nsIn K mainGlobals "gap_of" = some (some (.ref f10)))
    (l10 : K.lookup f10 = some ⟨oc10, od10, .func (PySem.W.fnOf "gap_of" "gap_of" (defArgs s_gap_of) (defBody s_gap_of) (defScope s_gap_of) .none kV10 dc10 pm10 an10 cd10 ct10), sl10⟩)
    (c10 : PySem.W.codeIn K cd10 "gap_of" = true)
    (k10 : PySem.W.keepIn K (.ref f10) = true)
    (a11 : PySem.W.nsIn K mainGlobals "gap" = some (some (.ref f11)))
    (l11 : K.lookup f11 = some ⟨oc11, od11, .func (PySem.W.fnOf "gap" "gap" (defArgs s_gap) (defBody s_gap) (defScope s_gap) .none kV11 dc11 pm11 an11 cd11 ct11), sl11⟩)
    (c11 : PySem.W.codeIn K cd11 "gap" = true)
    (k11 : PySem.W.keepIn K (.ref f11) = true)
    (a12 : PySem.W.findIn K (.ref C_Reader) "__init__" = some (some (.ref f12)))
    (i12 : PySem.W.isFn K (.ref f12) = true)
    (l12 : K.lookup f12 = some ⟨oc12, od12, .func (PySem.W.fnOf "__init__" "Reader.__init__" (defArgs s_Reader_init) (defBody s_Reader_init) (defScope s_Reader_init) .none kV12 dc12 pm12 an12 cd12 ct12), sl12⟩)
    (c12 : PySem.W.codeIn K cd12 "Reader.__init__" = true)
    (k12 : PySem.W.keepIn K (.ref f12) = true)
    (a13 : PySem.W.findIn K (.ref C_Reader) "look" = some (some (.ref f13)))
    (i13 : PySem.W.isFn K (.ref f13) = true)
    (l13 : K.lookup f13 = some ⟨oc13, od13, .func (PySem.W.fnOf "look" "Reader.look" (defArgs s_Reader_look) (defBody s_Reader_look) (defScope s_Reader_look) (.ref T13) kV13 dc13 pm13 an13 cd13 ct13), sl13⟩)
    (c13 : PySem.W.codeIn K cd13 "Reader.look" = true)
    (k13 : PySem.W.keepIn K (.ref f13) = true)
    (v13 : K.lookup T13 = some ⟨zc13, zd13, .seq #[.none] zn13, zs13⟩)
    (a14 : PySem.W.findIn K (.ref C_Reader) "now" = some (some (.ref f14)))
    (i14 : PySem.W.isFn K (.ref f14) = true)
    (l14 : K.lookup f14 = some ⟨oc14, od14, .func (PySem.W.fnOf "now" "Reader.now" (defArgs s_Reader_now) (defBody s_Reader_now) (defScope s_Reader_now) .none kV14 dc14 pm14 an14 cd14 ct14), sl14⟩)
    (c14 : PySem.W.codeIn K cd14 "Reader.now" = true)
    (k14 : PySem.W.keepIn K (.ref f14) = true)
    (a15 : PySem.W.nsIn K mainGlobals "_law_start" = some (some (.ref f15)))
    (l15 : K.lookup f15 = some ⟨oc15, od15, .func (PySem.W.fnOf "_law_start" "_law_start" (defArgs s__law_start) (defBody s__law_start) (defScope s__law_start) .none kV15 dc15 pm15 an15 cd15 ct15), sl15⟩)
    (c15 : PySem.W.codeIn K cd15 "_law_start" = true)
    (k15 : PySem.W.keepIn K (.ref f15) = true)
    (a16 : PySem.W.nsIn K mainGlobals "_law_drawn" = some (some (.ref f16)))
    (l16 : K.lookup f16 = some ⟨oc16, od16, .func (PySem.W.fnOf "_law_drawn" "_law_drawn" (defArgs s__law_drawn) (defBody s__law_drawn) (defScope s__law_drawn) .none kV16 dc16 pm16 an16 cd16 ct16), sl16⟩)
    (c16 : PySem.W.codeIn K cd16 "_law_drawn" = true)
    (k16 : PySem.W.keepIn K (.ref f16) = true)
    (a17 : PySem.W.nsIn K mainGlobals "_law_same" = some (some (.ref f17)))
    (l17 : K.lookup f17 = some ⟨oc17, od17, .func (PySem.W.fnOf "_law_same" "_law_same" (defArgs s__law_same) (defBody s__law_same) (defScope s__law_same) .none kV17 dc17 pm17 an17 cd17 ct17), sl17⟩)
    (c17 : PySem.W.codeIn K cd17 "_law_same" = true)
    (k17 : PySem.W.keepIn K (.ref f17) = true)
    (a18 : PySem.W.nsIn K mainGlobals "_law_kind" = some (some (.ref f18)))
    (l18 : K.lookup f18 = some ⟨oc18, od18, .func (PySem.W.fnOf "_law_kind" "_law_kind" (defArgs s__law_kind) (defBody s__law_kind) (defScope s__law_kind) .none kV18 dc18 pm18 an18 cd18 ct18), sl18⟩)
    (c18 : PySem.W.codeIn K cd18 "_law_kind" = true)
    (k18 : PySem.W.keepIn K (.ref f18) = true)
    (a19 : PySem.W.nsIn K mainGlobals "_law_far" = some (some (.ref f19)))
    (l19 : K.lookup f19 = some ⟨oc19, od19, .func (PySem.W.fnOf "_law_far" "_law_far" (defArgs s__law_far) (defBody s__law_far) (defScope s__law_far) .none kV19 dc19 pm19 an19 cd19 ct19), sl19⟩)
    (c19 : PySem.W.codeIn K cd19 "_law_far" = true)
    (k19 : PySem.W.keepIn K (.ref f19) = true)
    (a20 : PySem.W.nsIn K mainGlobals "_law_wheel" = some (some (.ref f20)))
    (l20 : K.lookup f20 = some ⟨oc20, od20, .func (PySem.W.fnOf "_law_wheel" "_law_wheel" (defArgs s__law_wheel) (defBody s__law_wheel) (defScope s__law_wheel) .none kV20 dc20 pm20 an20 cd20 ct20), sl20⟩)
    (c20 : PySem.W.codeIn K cd20 "_law_wheel" = true)
    (k20 : PySem.W.keepIn K (.ref f20) = true)
    (a21 : PySem.W.nsIn K mainGlobals "_law_rule" = some (some (.ref f21)))
    (l21 : K.lookup f21 = some ⟨oc21, od21, .func (PySem.W.fnOf "_law_rule" "_law_rule" (defArgs s__law_rule) (defBody s__law_rule) (defScope s__law_rule) .none kV21 dc21 pm21 an21 cd21 ct21), sl21⟩)
    (c21 : PySem.W.codeIn K cd21 "_law_rule" = true)
    (k21 : PySem.W.keepIn K (.ref f21) = true)
    (a22 : PySem.W.nsIn K mainGlobals "_law_time" = some (some (.ref f22)))
    (l22 : K.lookup f22 = some ⟨oc22, od22, .func (PySem.W.fnOf "_law_time" "_law_time" (defArgs s__law_time) (defBody s__law_time) (defScope s__law_time) .none kV22 dc22 pm22 an22 cd22 ct22), sl22⟩)
    (c22 : PySem.W.codeIn K cd22 "_law_time" = true)
    (k22 : PySem.W.keepIn K (.ref f22) = true)
    (a23 : PySem.W.nsIn K mainGlobals "_law_bound" = some (some (.ref f23)))
    (l23 : K.lookup f23 = some ⟨oc23, od23, .func (PySem.W.fnOf "_law_bound" "_law_bound" (defArgs s__law_bound) (defBody s__law_bound) (defScope s__law_bound) .none kV23 dc23 pm23 an23 cd23 ct23), sl23⟩)
    (c23 : PySem.W.codeIn K cd23 "_law_bound" = true)
    (k23 : PySem.W.keepIn K (.ref f23) = true)
    (a24 : PySem.W.nsIn K mainGlobals "_law_near_bound" = some (some (.ref f24)))
    (l24 : K.lookup f24 = some ⟨oc24, od24, .func (PySem.W.fnOf "_law_near_bound" "_law_near_bound" (defArgs s__law_near_bound) (defBody s__law_near_bound) (defScope s__law_near_bound) .none kV24 dc24 pm24 an24 cd24 ct24), sl24⟩)
    (c24 : PySem.W.codeIn K cd24 "_law_near_bound" = true)
    (k24 : PySem.W.keepIn K (.ref f24) = true)
    (a25 : PySem.W.nsIn K mainGlobals "_law_shown" = some (some (.ref f25)))
    (l25 : K.lookup f25 = some ⟨oc25, od25, .func (PySem.W.fnOf "_law_shown" "_law_shown" (defArgs s__law_shown) (defBody s__law_shown) (defScope s__law_shown) .none kV25 dc25 pm25 an25 cd25 ct25), sl25⟩)
    (c25 : PySem.W.codeIn K cd25 "_law_shown" = true)
    (k25 : PySem.W.keepIn K (.ref f25) = true)
    (a26 : PySem.W.nsIn K mainGlobals "_law_look" = some (some (.ref f26)))
    (l26 : K.lookup f26 = some ⟨oc26, od26, .func (PySem.W.fnOf "_law_look" "_law_look" (defArgs s__law_look) (defBody s__law_look) (defScope s__law_look) .none kV26 dc26 pm26 an26 (.ref cL__law_look) ct26), sl26⟩)
    (c26 : PySem.W.codeIn K (.ref cL__law_look) "_law_look" = true)
    (k26 : PySem.W.keepIn K (.ref f26) = true)
    (a27 : PySem.W.nsIn K mainGlobals "law" = some (some (.ref f27)))
    (l27 : K.lookup f27 = some ⟨oc27, od27, .func (PySem.W.fnOf "law" "law" (defArgs s_law) (defBody s_law) (defScope s_law) .none kV27 dc27 pm27 an27 cd27 ct27), sl27⟩)
    (c27 : PySem.W.codeIn K cd27 "law" = true)
    (k27 : PySem.W.keepIn K (.ref f27) = true)
    (g_MOST_WHEEL : PySem.W.nsIn K mainGlobals "MOST_WHEEL" = some (some (.int 1000000000000 t_MOST_WHEEL)))
    (g_MOST_LEAST : PySem.W.nsIn K mainGlobals "MOST_LEAST" = some (some (.int 1000000000000 t_MOST_LEAST)))
    (z_ValueError : PySem.W.nsIn K mainGlobals "ValueError" = some none)
    (z_isinstance : PySem.W.nsIn K mainGlobals "isinstance" = some none)
    (z_str : PySem.W.nsIn K mainGlobals "str" = some none)
    (z_range : PySem.W.nsIn K mainGlobals "range" = some none)
    (z_len : PySem.W.nsIn K mainGlobals "len" = some none)
    (z_tuple : PySem.W.nsIn K mainGlobals "tuple" = some none)
    (z_list : PySem.W.nsIn K mainGlobals "list" = some none)
    (z_bool : PySem.W.nsIn K mainGlobals "bool" = some none)
    (z_int : PySem.W.nsIn K mainGlobals "int" = some none)
    (z_min : PySem.W.nsIn K mainGlobals "min" = some none)
    (eg_BadWheel : PySem.W.nsIn K mainGlobals "BadWheel" = some (some (.ref C_BadWheel)))
    (ex_BadWheel : PySem.W.excIn K C_BadWheel [.type "ValueError", .type "Exception", .type "BaseException", .type "object"] "ValueError.__new__" = true)
    (ek_BadWheel : PySem.W.keepIn K (.ref C_BadWheel) = true)
    (eb_BadWheel : PySem.W.subIn K (.ref C_BadWheel) (.type "BaseException") = some true)
    (et_BadWheel : PySem.W.typeIn K (.ref C_BadWheel) = some (.type "type"))
    (eg_BadRule : PySem.W.nsIn K mainGlobals "BadRule" = some (some (.ref C_BadRule)))
    (ex_BadRule : PySem.W.excIn K C_BadRule [.type "ValueError", .type "Exception", .type "BaseException", .type "object"] "ValueError.__new__" = true)
    (ek_BadRule : PySem.W.keepIn K (.ref C_BadRule) = true)
    (eb_BadRule : PySem.W.subIn K (.ref C_BadRule) (.type "BaseException") = some true)
    (et_BadRule : PySem.W.typeIn K (.ref C_BadRule) = some (.type "type"))
    (eg_BadSeen : PySem.W.nsIn K mainGlobals "BadSeen" = some (some (.ref C_BadSeen)))
    (ex_BadSeen : PySem.W.excIn K C_BadSeen [.type "ValueError", .type "Exception", .type "BaseException", .type "object"] "ValueError.__new__" = true)
    (ek_BadSeen : PySem.W.keepIn K (.ref C_BadSeen) = true)
    (eb_BadSeen : PySem.W.subIn K (.ref C_BadSeen) (.type "BaseException") = some true)
    (et_BadSeen : PySem.W.typeIn K (.ref C_BadSeen) = some (.type "type"))
    (eg_BadGaps : PySem.W.nsIn K mainGlobals "BadGaps" = some (some (.ref C_BadGaps)))
    (ex_BadGaps : PySem.W.excIn K C_BadGaps [.type "ValueError", .type "Exception", .type "BaseException", .type "object"] "ValueError.__new__" = true)
    (ek_BadGaps : PySem.W.keepIn K (.ref C_BadGaps) = true)
    (eb_BadGaps : PySem.W.subIn K (.ref C_BadGaps) (.type "BaseException") = some true)
    (et_BadGaps : PySem.W.typeIn K (.ref C_BadGaps) = some (.type "type"))
    (eg_BadSpan : PySem.W.nsIn K mainGlobals "BadSpan" = some (some (.ref C_BadSpan)))
    (ex_BadSpan : PySem.W.excIn K C_BadSpan [.type "ValueError", .type "Exception", .type "BaseException", .type "object"] "ValueError.__new__" = true)
    (ek_BadSpan : PySem.W.keepIn K (.ref C_BadSpan) = true)
    (eb_BadSpan : PySem.W.subIn K (.ref C_BadSpan) (.type "BaseException") = some true)
    (et_BadSpan : PySem.W.typeIn K (.ref C_BadSpan) = some (.type "type"))
    (eg_BadLong : PySem.W.nsIn K mainGlobals "BadLong" = some (some (.ref C_BadLong)))
    (ex_BadLong : PySem.W.excIn K C_BadLong [.type "ValueError", .type "Exception", .type "BaseException", .type "object"] "ValueError.__new__" = true)
    (ek_BadLong : PySem.W.keepIn K (.ref C_BadLong) = true)
    (eb_BadLong : PySem.W.subIn K (.ref C_BadLong) (.type "BaseException") = some true)
    (et_BadLong : PySem.W.typeIn K (.ref C_BadLong) = some (.type "type"))
    (eg_NoGap : PySem.W.nsIn K mainGlobals "NoGap" = some (some (.ref C_NoGap)))
    (ex_NoGap : PySem.W.excIn K C_NoGap [.type "ValueError", .type "Exception", .type "BaseException", .type "object"] "ValueError.__new__" = true)
    (ek_NoGap : PySem.W.keepIn K (.ref C_NoGap) = true)
    (eb_NoGap : PySem.W.subIn K (.ref C_NoGap) (.type "BaseException") = some true)
    (et_NoGap : PySem.W.typeIn K (.ref C_NoGap) = some (.type "type"))
    (eg_NoSpan : PySem.W.nsIn K mainGlobals "NoSpan" = some (some (.ref C_NoSpan)))
    (ex_NoSpan : PySem.W.excIn K C_NoSpan [.type "ValueError", .type "Exception", .type "BaseException", .type "object"] "ValueError.__new__" = true)
    (ek_NoSpan : PySem.W.keepIn K (.ref C_NoSpan) = true)
    (eb_NoSpan : PySem.W.subIn K (.ref C_NoSpan) (.type "BaseException") = some true)
    (et_NoSpan : PySem.W.typeIn K (.ref C_NoSpan) = some (.type "type"))
    (eg_WrapError : PySem.W.nsIn K mainGlobals "WrapError" = some (some (.ref C_WrapError)))
    (ex_WrapError : PySem.W.excIn K C_WrapError [.type "ValueError", .type "Exception", .type "BaseException", .type "object"] "ValueError.__new__" = true)
    (ek_WrapError : PySem.W.keepIn K (.ref C_WrapError) = true)
    (eb_WrapError : PySem.W.subIn K (.ref C_WrapError) (.type "BaseException") = some true)
    (et_WrapError : PySem.W.typeIn K (.ref C_WrapError) = some (.type "type"))
    (pg_Reader : PySem.W.plainGet K C_Reader Str.empty = true)
    (hd_Reader : PySem.W.hasDictIn K C_Reader = true)
    (po_Reader : PySem.W.plainOver K C_Reader = true)
    (sa_Reader : PySem.W.findIn K (.ref C_Reader) "__setattr__" = some (some (.builtin "object.__setattr__")))
    (mk_Reader : PySem.W.makesIn K C_Reader = true)
    (kc_Reader : PySem.W.keepIn K (.ref C_Reader) = true)
    (na_Reader_last : PySem.W.findIn K (.ref C_Reader) "last" = some none)
    (na_Reader_rule : PySem.W.findIn K (.ref C_Reader) "rule" = some none)
    (na_Reader_told : PySem.W.findIn K (.ref C_Reader) "told" = some none)
    (na_Reader_wheel : PySem.W.findIn K (.ref C_Reader) "wheel" = some none)
    (ox_BadWheel : PySem.W.hasDictIn K C_BadWheel = true)
    (ox_BadRule : PySem.W.hasDictIn K C_BadRule = true)
    (ox_BadSeen : PySem.W.hasDictIn K C_BadSeen = true)
    (ox_BadGaps : PySem.W.hasDictIn K C_BadGaps = true)
    (ox_BadSpan : PySem.W.hasDictIn K C_BadSpan = true)
    (ox_BadLong : PySem.W.hasDictIn K C_BadLong = true)
    (ox_NoGap : PySem.W.hasDictIn K C_NoGap = true)
    (ox_NoSpan : PySem.W.hasDictIn K C_NoSpan = true)
    (ox_WrapError : PySem.W.hasDictIn K C_WrapError = true)
    (ohg_BadSeen : PySem.W.findIn K (.ref C_BadSeen) "__getattribute__" = some (some (.builtin "BaseException.__getattribute__")))
    (ohk_BadSeen : PySem.W.findIn K (.ref C_BadSeen) "__getattr__" = some none)
    (oha_BadSeen : PySem.W.findIn K (.ref C_BadSeen) "__class__" = some (some (.builtin "object.__class__")))
    (ohm_BadSeen : PySem.W.mroIn K C_BadSeen (.type "object") = some true)
    (osw_BadSeen : PySem.W.subIn K (.ref C_BadSeen) (.ref C_WrapError) = some true)
    (osv_BadSeen : PySem.W.subIn K (.ref C_BadSeen) (.type "ValueError") = some true)
    (ok0_BadSeen : PySem.W.subIn K (.ref C_BadSeen) (.ref C_BadWheel) = some false)
    (oz0_BadSeen : C_BadSeen ≠ C_BadWheel)
    (ok1_BadSeen : PySem.W.subIn K (.ref C_BadSeen) (.ref C_BadRule) = some false)
    (oz1_BadSeen : C_BadSeen ≠ C_BadRule)
    (ok2_BadSeen : PySem.W.subIn K (.ref C_BadSeen) (.ref C_BadSeen) = some true)
    (ok3_BadSeen : PySem.W.subIn K (.ref C_BadSeen) (.ref C_BadGaps) = some false)
    (oz3_BadSeen : C_BadSeen ≠ C_BadGaps)
    (ok4_BadSeen : PySem.W.subIn K (.ref C_BadSeen) (.ref C_BadSpan) = some false)
    (oz4_BadSeen : C_BadSeen ≠ C_BadSpan)
    (ok5_BadSeen : PySem.W.subIn K (.ref C_BadSeen) (.ref C_BadLong) = some false)
    (oz5_BadSeen : C_BadSeen ≠ C_BadLong)
    (ok6_BadSeen : PySem.W.subIn K (.ref C_BadSeen) (.ref C_NoGap) = some false)
    (oz6_BadSeen : C_BadSeen ≠ C_NoGap)
    (ok7_BadSeen : PySem.W.subIn K (.ref C_BadSeen) (.ref C_NoSpan) = some false)
    (oz7_BadSeen : C_BadSeen ≠ C_NoSpan)
    (ohg_NoGap : PySem.W.findIn K (.ref C_NoGap) "__getattribute__" = some (some (.builtin "BaseException.__getattribute__")))
    (ohk_NoGap : PySem.W.findIn K (.ref C_NoGap) "__getattr__" = some none)
    (oha_NoGap : PySem.W.findIn K (.ref C_NoGap) "__class__" = some (some (.builtin "object.__class__")))
    (ohm_NoGap : PySem.W.mroIn K C_NoGap (.type "object") = some true)
    (osw_NoGap : PySem.W.subIn K (.ref C_NoGap) (.ref C_WrapError) = some true)
    (osv_NoGap : PySem.W.subIn K (.ref C_NoGap) (.type "ValueError") = some true)
    (ok0_NoGap : PySem.W.subIn K (.ref C_NoGap) (.ref C_BadWheel) = some false)
    (oz0_NoGap : C_NoGap ≠ C_BadWheel)
    (ok1_NoGap : PySem.W.subIn K (.ref C_NoGap) (.ref C_BadRule) = some false)
    (oz1_NoGap : C_NoGap ≠ C_BadRule)
    (ok2_NoGap : PySem.W.subIn K (.ref C_NoGap) (.ref C_BadSeen) = some false)
    (oz2_NoGap : C_NoGap ≠ C_BadSeen)
    (ok3_NoGap : PySem.W.subIn K (.ref C_NoGap) (.ref C_BadGaps) = some false)
    (oz3_NoGap : C_NoGap ≠ C_BadGaps)
    (ok4_NoGap : PySem.W.subIn K (.ref C_NoGap) (.ref C_BadSpan) = some false)
    (oz4_NoGap : C_NoGap ≠ C_BadSpan)
    (ok5_NoGap : PySem.W.subIn K (.ref C_NoGap) (.ref C_BadLong) = some false)
    (oz5_NoGap : C_NoGap ≠ C_BadLong)
    (ok6_NoGap : PySem.W.subIn K (.ref C_NoGap) (.ref C_NoGap) = some true)
    (ok7_NoGap : PySem.W.subIn K (.ref C_NoGap) (.ref C_NoSpan) = some false)
    (oz7_NoGap : C_NoGap ≠ C_NoSpan)
    (ohn : PySem.W.specialIn K (.builtin "object.__class__") "__get__" = some (some (.builtin "getset_descriptor.__get__")))
    (oht : PySem.W.takesIn K (.builtin "object.__class__") = some true)
    (lcL__law_look : K.lookup cL__law_look = some ⟨eL__law_look, ddL__law_look, .fields vsL__law_look, slL__law_look⟩)
    (vL__law_look : vsL__law_look[11]? = some (.ref PL__law_look))
    (hdL__law_look : PySem.W.codeHdIn K cL__law_look PL__law_look = true)
    (nPL__law_look : K.lookup PL__law_look = none)
    (tbL__law_look : h.get? PL__law_look = some { cls := .none, data := .fields #[] }) :
    LamX.LawAtS l w K (L2.CX l.prog w) 8 63 "_law_script" mg fa h := by
  have T : Txt K mg ⟨C_BadWheel, C_BadRule, C_BadSeen, C_BadGaps, C_BadSpan, C_BadLong, C_NoGap, C_NoSpan, C_WrapError, C_Reader⟩ := { g_MOST_WHEEL := ⟨_, PySem.W.mg_of X G g_MOST_WHEEL⟩, g_MOST_LEAST := ⟨_, PySem.W.mg_of X G g_MOST_LEAST⟩, ValueError := PySem.W.mg_none_of X G z_ValueError, isinstance := PySem.W.mg_none_of X G z_isinstance, str := PySem.W.mg_none_of X G z_str, range := PySem.W.mg_none_of X G z_range, len := PySem.W.mg_none_of X G z_len, tuple := PySem.W.mg_none_of X G z_tuple, list := PySem.W.mg_none_of X G z_list, bool := PySem.W.mg_none_of X G z_bool, int := PySem.W.mg_none_of X G z_int, min := PySem.W.mg_none_of X G z_min, x_BadWheel := ⟨PySem.W.mg_of X G eg_BadWheel, ex_BadWheel, ek_BadWheel, eb_BadWheel, et_BadWheel⟩, x_BadRule := ⟨PySem.W.mg_of X G eg_BadRule, ex_BadRule, ek_BadRule, eb_BadRule, et_BadRule⟩, x_BadSeen := ⟨PySem.W.mg_of X G eg_BadSeen, ex_BadSeen, ek_BadSeen, eb_BadSeen, et_BadSeen⟩, x_BadGaps := ⟨PySem.W.mg_of X G eg_BadGaps, ex_BadGaps, ek_BadGaps, eb_BadGaps, et_BadGaps⟩, x_BadSpan := ⟨PySem.W.mg_of X G eg_BadSpan, ex_BadSpan, ek_BadSpan, eb_BadSpan, et_BadSpan⟩, x_BadLong := ⟨PySem.W.mg_of X G eg_BadLong, ex_BadLong, ek_BadLong, eb_BadLong, et_BadLong⟩, x_NoGap := ⟨PySem.W.mg_of X G eg_NoGap, ex_NoGap, ek_NoGap, eb_NoGap, et_NoGap⟩, x_NoSpan := ⟨PySem.W.mg_of X G eg_NoSpan, ex_NoSpan, ek_NoSpan, eb_NoSpan, et_NoSpan⟩, x_WrapError := ⟨PySem.W.mg_of X G eg_WrapError, ex_WrapError, ek_WrapError, eb_WrapError, et_WrapError⟩, k_Reader := ⟨pg_Reader, hd_Reader, po_Reader, sa_Reader⟩, g_Reader := PySem.W.mg_of X G gc_Reader, n_Reader_last := na_Reader_last, n_Reader_rule := na_Reader_rule, n_Reader_told := na_Reader_told, n_Reader_wheel := na_Reader_wheel, q_BadSeen := ⟨⟨ohg_BadSeen, ohk_BadSeen, eb_BadSeen, ox_BadSeen, oha_BadSeen, ohn, oht, ohm_BadSeen⟩, PySem.W.exm_ref eb_WrapError ox_WrapError et_WrapError osw_BadSeen, kit_ve osv_BadSeen, kit_no ox_BadWheel et_BadWheel oz0_BadSeen ok0_BadSeen, kit_no ox_BadRule et_BadRule oz1_BadSeen ok1_BadSeen, kit_yes ox_BadSeen et_BadSeen ok2_BadSeen, kit_no ox_BadGaps et_BadGaps oz3_BadSeen ok3_BadSeen, kit_no ox_BadSpan et_BadSpan oz4_BadSeen ok4_BadSeen, kit_no ox_BadLong et_BadLong oz5_BadSeen ok5_BadSeen, kit_no ox_NoGap et_NoGap oz6_BadSeen ok6_BadSeen, kit_no ox_NoSpan et_NoSpan oz7_BadSeen ok7_BadSeen, by decide⟩, q_NoGap := ⟨⟨ohg_NoGap, ohk_NoGap, eb_NoGap, ox_NoGap, oha_NoGap, ohn, oht, ohm_NoGap⟩, PySem.W.exm_ref eb_WrapError ox_WrapError et_WrapError osw_NoGap, kit_ve osv_NoGap, kit_no ox_BadWheel et_BadWheel oz0_NoGap ok0_NoGap, kit_no ox_BadRule et_BadRule oz1_NoGap ok1_NoGap, kit_no ox_BadSeen et_BadSeen oz2_NoGap ok2_NoGap, kit_no ox_BadGaps et_BadGaps oz3_NoGap ok3_NoGap, kit_no ox_BadSpan et_BadSpan oz4_NoGap ok4_NoGap, kit_no ox_BadLong et_BadLong oz5_NoGap ok5_NoGap, kit_yes ox_NoGap et_NoGap ok6_NoGap, kit_no ox_NoSpan et_NoSpan oz7_NoGap ok7_NoGap, by decide⟩ }
  have e := hfa.symm.trans (PySem.W.mg_of X G a27)
  cases e
  have F := fun_mk (st := s_law) l27 c27 k27
  have mem : ∀ p : Addr × Addr, p ∈ [(cL__law_look, PL__law_look)] → p = (cL__law_look, PL__law_look) := fun p hp => by simpa using hp
  refine ⟨PySem.W.fnOf "law" "law" (defArgs s_law) (defBody s_law) (defScope s_law) .none kV27 dc27 pm27 an27 cd27 ct27, [(cL__law_look, PL__law_look)], sp_lawTs K [PL__law_look], fun p hp => ?_, fun p hp => ?_, fun p hp => ?_, fun s v => .of_eq rfl, fun H a ns h1 _ h2 h3 => ⟨a, ns, rfl, h3, h1, fun P hP => ?_, fun _ => rfl⟩, fun base hK hM hTB => ?_⟩
  · rcases mem p hp with rfl
    · exact tbL__law_look
  · rcases mem p hp with rfl
    · exact nPL__law_look
  · rcases mem p hp with rfl
    · exact PySem.W.codeHd_of_K X hdL__law_look
  · have hP : P = PL__law_look := by simpa using hP
    rcases hP with hP
    · rw [hP]; exact h2 (cL__law_look, PL__law_look) (by simp)
  have D_is_wheel : Fn K mg "is_wheel" s_is_wheel := ⟨f0, _, fun_mk (st := s_is_wheel) l0 c0 k0, PySem.W.mg_of X G a0⟩
  have D_need_wheel : Fn K mg "need_wheel" s_need_wheel := ⟨f1, _, fun_mk (st := s_need_wheel) l1 c1 k1, PySem.W.mg_of X G a1⟩
  have D_need_seen : Fn K mg "need_seen" s_need_seen := ⟨f2, _, fun_mk (st := s_need_seen) l2 c2 k2, PySem.W.mg_of X G a2⟩
  have D_is_rule : Fn K mg "is_rule" s_is_rule := ⟨f3, _, fun_mk (st := s_is_rule) l3 c3 k3, PySem.W.mg_of X G a3⟩
  have D_need_rule : Fn K mg "need_rule" s_need_rule := ⟨f4, _, fun_mk (st := s_need_rule) l4 c4 k4, PySem.W.mg_of X G a4⟩
  have D_divisor : Fn K mg "divisor" s_divisor := ⟨f5, _, fun_mk (st := s_divisor) l5 c5 k5, PySem.W.mg_of X G a5⟩
  have D_shown_of : Fn K mg "shown_of" s_shown_of := ⟨f6, _, fun_mk (st := s_shown_of) l6 c6 k6, PySem.W.mg_of X G a6⟩
  have D_need_shown : Fn K mg "need_shown" s_need_shown := ⟨f7, _, fun_mk (st := s_need_shown) l7 c7 k7, PySem.W.mg_of X G a7⟩
  have D_inverse : Fn K mg "inverse" s_inverse := ⟨f8, _, fun_mk (st := s_inverse) l8 c8 k8, PySem.W.mg_of X G a8⟩
  have D_paired : Fn K mg "paired" s_paired := ⟨f9, _, fun_mk (st := s_paired) l9 c9 k9, PySem.W.mg_of X G a9⟩
  have D_gap_of : Fn K mg "gap_of" s_gap_of := ⟨f10, _, fun_mk (st := s_gap_of) l10 c10 k10, PySem.W.mg_of X G a10⟩
  have D_gap : Fn K mg "gap" s_gap := ⟨f11, _, fun_mk (st := s_gap) l11 c11 k11, PySem.W.mg_of X G a11⟩
  have D_Reader_init : FnI K C_Reader "Reader.__init__" s_Reader_init := ⟨f12, _, fun_mk (st := s_Reader_init) l12 c12 k12, ⟨mk_Reader, a12, i12, kc_Reader⟩⟩
  have D_Reader_look : FnD K C_Reader "look" "Reader.look" [.non] s_Reader_look := ⟨f13, _, ⟨⟨_, _, _, _, _, _, _, _, _, _, rfl, l13, c13, .inr ⟨by simp, _, _, [.none], _, rfl, v13, rfl, .cons rfl .nil⟩, .inl rfl⟩, k13⟩, ⟨a13, i13, k13⟩⟩
  have D_Reader_now : FnM K C_Reader "now" "Reader.now" s_Reader_now := ⟨f14, _, fun_mk (st := s_Reader_now) l14 c14 k14, ⟨a14, i14, k14⟩⟩
  have D__law_start : Fn K mg "_law_start" s__law_start := ⟨f15, _, fun_mk (st := s__law_start) l15 c15 k15, PySem.W.mg_of X G a15⟩
  have D__law_drawn : Fn K mg "_law_drawn" s__law_drawn := ⟨f16, _, fun_mk (st := s__law_drawn) l16 c16 k16, PySem.W.mg_of X G a16⟩
  have D__law_same : Fn K mg "_law_same" s__law_same := ⟨f17, _, fun_mk (st := s__law_same) l17 c17 k17, PySem.W.mg_of X G a17⟩
  have D__law_kind : FnL K mg "_law_kind" s__law_kind := ⟨f18, _, _, _, _, _, _, _, _, _, l18, c18, k18, PySem.W.mg_of X G a18⟩
  have D__law_far : Fn K mg "_law_far" s__law_far := ⟨f19, _, fun_mk (st := s__law_far) l19 c19 k19, PySem.W.mg_of X G a19⟩
  have D__law_wheel : Fn K mg "_law_wheel" s__law_wheel := ⟨f20, _, fun_mk (st := s__law_wheel) l20 c20 k20, PySem.W.mg_of X G a20⟩
  have D__law_rule : Fn K mg "_law_rule" s__law_rule := ⟨f21, _, fun_mk (st := s__law_rule) l21 c21 k21, PySem.W.mg_of X G a21⟩
  have D__law_time : Fn K mg "_law_time" s__law_time := ⟨f22, _, fun_mk (st := s__law_time) l22 c22 k22, PySem.W.mg_of X G a22⟩
  have D__law_bound : Fn K mg "_law_bound" s__law_bound := ⟨f23, _, fun_mk (st := s__law_bound) l23 c23 k23, PySem.W.mg_of X G a23⟩
  have D__law_near_bound : Fn K mg "_law_near_bound" s__law_near_bound := ⟨f24, _, fun_mk (st := s__law_near_bound) l24 c24 k24, PySem.W.mg_of X G a24⟩
  have D__law_shown : Fn K mg "_law_shown" s__law_shown := ⟨f25, _, fun_mk (st := s__law_shown) l25 c25 k25, PySem.W.mg_of X G a25⟩
  have D__law_look : FnC K mg "_law_look" s__law_look cL__law_look := ⟨f26, _, _, _, _, _, _, _, _, l26, c26, k26, PySem.W.mg_of X G a26⟩
  have c_is_wheel := ok_is_wheel (P := l.prog) (w := w) (base := base) T D_is_wheel 
  have c_need_wheel := ok_need_wheel (P := l.prog) (w := w) (base := base) T D_need_wheel c_is_wheel
  have c_need_seen := ok_need_seen (P := l.prog) (w := w) (base := base) T D_need_seen 
  have c_is_rule := ok_is_rule (P := l.prog) (w := w) (base := base) T D_is_rule c_is_wheel
  have c_need_rule := ok_need_rule (P := l.prog) (w := w) (base := base) T D_need_rule c_need_wheel c_is_rule
  have c_divisor := ok_divisor (P := l.prog) (w := w) (base := base) T D_divisor 
  have c_shown_of := ok_shown_of (P := l.prog) (w := w) (base := base) T D_shown_of 
  have c_need_shown := ok_need_shown (P := l.prog) (w := w) (base := base) T D_need_shown c_need_seen
  have c_inverse := ok_inverse (P := l.prog) (w := w) (base := base) T D_inverse 
  have c_paired := ok_paired (P := l.prog) (w := w) (base := base) T D_paired c_divisor c_inverse
  have c_gap_of := ok_gap_of (P := l.prog) (w := w) (base := base) T D_gap_of c_paired
  have c_gap := ok_gap (P := l.prog) (w := w) (base := base) T D_gap c_need_rule c_need_shown c_gap_of
  have c_Reader_init := ok_Reader_init (P := l.prog) (w := w) (base := base) T D_Reader_init c_need_rule c_shown_of
  have c_Reader_look := ok_Reader_look (P := l.prog) (w := w) (base := base) T D_Reader_look c_need_shown c_gap_of
  have c_Reader_now := ok_Reader_now (P := l.prog) (w := w) (base := base) T D_Reader_now 
  have c__law_start := ok_start (P := l.prog) (w := w) (base := base) T D__law_start 
  have c__law_drawn := ok_drawn (P := l.prog) (w := w) (base := base) T D__law_drawn 
  have c__law_same := ok_same1 (P := l.prog) (w := w) (base := base) T D__law_same 
  have c__law_far := ok__law_far (P := l.prog) (w := w) (base := base) T D__law_far c__law_drawn
  have c__law_wheel := ok_wheel (P := l.prog) (w := w) (base := base) T D__law_wheel c__law_drawn
  have c__law_rule := ok__law_rule (P := l.prog) (w := w) (base := base) T D__law_rule c__law_drawn c__law_wheel
  have c__law_time := ok__law_time (P := l.prog) (w := w) (base := base) T D__law_time c__law_drawn
  have c__law_bound := ok__law_bound (P := l.prog) (w := w) (base := base) T D__law_bound 
  have c__law_near_bound := ok__law_near_bound (P := l.prog) (w := w) (base := base) T D__law_near_bound c__law_bound c__law_drawn
  have c__law_shown := ok__law_shown (P := l.prog) (w := w) (base := base) T D__law_shown 
  have c__law_look := ok__law_look (P := l.prog) (w := w) (base := base) T D__law_look (hTB (cL__law_look, PL__law_look) (by simp)) D__law_kind c__law_near_bound c__law_shown c__law_far c__law_same c__law_drawn c_gap c_Reader_now c_Reader_look
  exact ok_law T F c__law_start c__law_wheel c__law_rule c__law_time c__law_drawn c__law_look c__law_same c_Reader_init c__law_shown c_Reader_now
end
end My
open PySem PySem.W PyProof.Rows
set_option maxRecDepth 100000 in
set_option maxHeartbeats 0 in
theorem PySem.Challenge.cw_wraptime_k06_readers_holds : PySem.Challenge.rw_wraptime_k06_readers.Holds := by
  w_on; o_law; k_head; (case hw => w_witness2)
  k_fill
  refine LamX.walk_ofTs (n := 63) (k := 8) (x := "_law_script") (CX := fun w => L2.CX (PySem.Challenge.rw_wraptime_k06_readers).prog w) rfl (by decide) rfl (by exact ⟨rfl, by decide, by decide⟩) (fun w h Y => PySem.W.km_in_of Y) ?F (fun _ _ _ _ _ h => by obtain ⟨_, _, _, _, _, _, _, _, _, _, _, _, z⟩ := h; exact z)
  case F =>
    intro w mg fa h Y KX G hmg
    refine' My.all_mk KX G hmg ?gc_Reader ?a0 ?l0 ?c0 ?k0 ?a1 ?l1 ?c1 ?k1 ?a2 ?l2 ?c2 ?k2 ?a3 ?l3 ?c3 ?k3 ?a4 ?l4 ?c4 ?k4 ?a5 ?l5 ?c5 ?k5 ?a6 ?l6 ?c6 ?k6 ?a7 ?l7 ?c7 ?k7 ?a8 ?l8 ?c8 ?k8 ?a9 ?l9 ?c9 ?k9 ?a10 ?l10 ?c10 ?k10 ?a11 ?l11 ?c11 ?k11 ?a12 ?i12 ?l12 ?c12 ?k12 ?a13 ?i13 ?l13 ?c13 ?k13 ?v13 ?a14 ?i14 ?l14 ?c14 ?k14 ?a15 ?l15 ?c15 ?k15 ?a16 ?l16 ?c16 ?k16 ?a17 ?l17 ?c17 ?k17 ?a18 ?l18 ?c18 ?k18 ?a19 ?l19 ?c19 ?k19 ?a20 ?l20 ?c20 ?k20 ?a21 ?l21 ?c21 ?k21 ?a22 ?l22 ?c22 ?k22 ?a23 ?l23 ?c23 ?k23 ?a24 ?l24 ?c24 ?k24 ?a25 ?l25 ?c25 ?k25 ?a26 ?l26 ?c26 ?k26 ?a27 ?l27 ?c27 ?k27 ?g_MOST_WHEEL ?g_MOST_LEAST ?z_ValueError ?z_isinstance ?z_str ?z_range ?z_len ?z_tuple ?z_list ?z_bool ?z_int ?z_min ?eg_BadWheel ?ex_BadWheel ?ek_BadWheel ?eb_BadWheel ?et_BadWheel ?eg_BadRule ?ex_BadRule ?ek_BadRule ?eb_BadRule ?et_BadRule ?eg_BadSeen ?ex_BadSeen ?ek_BadSeen ?eb_BadSeen ?et_BadSeen ?eg_BadGaps ?ex_BadGaps ?ek_BadGaps ?eb_BadGaps ?et_BadGaps ?eg_BadSpan ?ex_BadSpan ?ek_BadSpan ?eb_BadSpan ?et_BadSpan ?eg_BadLong ?ex_BadLong ?ek_BadLong ?eb_BadLong ?et_BadLong ?eg_NoGap ?ex_NoGap ?ek_NoGap ?eb_NoGap ?et_NoGap ?eg_NoSpan ?ex_NoSpan ?ek_NoSpan ?eb_NoSpan ?et_NoSpan ?eg_WrapError ?ex_WrapError ?ek_WrapError ?eb_WrapError ?et_WrapError ?pg_Reader ?hd_Reader ?po_Reader ?sa_Reader ?mk_Reader ?kc_Reader ?na_Reader_last ?na_Reader_rule ?na_Reader_told ?na_Reader_wheel ?ox_BadWheel ?ox_BadRule ?ox_BadSeen ?ox_BadGaps ?ox_BadSpan ?ox_BadLong ?ox_NoGap ?ox_NoSpan ?ox_WrapError ?ohg_BadSeen ?ohk_BadSeen ?oha_BadSeen ?ohm_BadSeen ?osw_BadSeen ?osv_BadSeen ?ok0_BadSeen ?oz0_BadSeen ?ok1_BadSeen ?oz1_BadSeen ?ok2_BadSeen ?ok3_BadSeen ?oz3_BadSeen ?ok4_BadSeen ?oz4_BadSeen ?ok5_BadSeen ?oz5_BadSeen ?ok6_BadSeen ?oz6_BadSeen ?ok7_BadSeen ?oz7_BadSeen ?ohg_NoGap ?ohk_NoGap ?oha_NoGap ?ohm_NoGap ?osw_NoGap ?osv_NoGap ?ok0_NoGap ?oz0_NoGap ?ok1_NoGap ?oz1_NoGap ?ok2_NoGap ?oz2_NoGap ?ok3_NoGap ?oz3_NoGap ?ok4_NoGap ?oz4_NoGap ?ok5_NoGap ?oz5_NoGap ?ok6_NoGap ?ok7_NoGap ?oz7_NoGap ?ohn ?oht ?lcL__law_look ?vL__law_look ?hdL__law_look ?nPL__law_look ?tbL__law_look
    (case gc_Reader => k_is)
    (case a0 => k_is)
    (case l0 => k_is)
    (case c0 => k_is)
    (case k0 => k_is)
    (case a1 => k_is)
    (case l1 => k_is)
    (case c1 => k_is)
    (case k1 => k_is)
    (case a2 => k_is)
    (case l2 => k_is)
    (case c2 => k_is)
    (case k2 => k_is)
    (case a3 => k_is)
    (case l3 => k_is)
    (case c3 => k_is)
    (case k3 => k_is)
    (case a4 => k_is)
    (case l4 => k_is)
    (case c4 => k_is)
    (case k4 => k_is)
    (case a5 => k_is)
    (case l5 => k_is)
    (case c5 => k_is)
    (case k5 => k_is)
    (case a6 => k_is)
    (case l6 => k_is)
    (case c6 => k_is)
    (case k6 => k_is)
    (case a7 => k_is)
    (case l7 => k_is)
    (case c7 => k_is)
    (case k7 => k_is)
    (case a8 => k_is)
    (case l8 => k_is)
    (case c8 => k_is)
    (case k8 => k_is)
    (case a9 => k_is)
    (case l9 => k_is)
    (case c9 => k_is)
    (case k9 => k_is)
    (case a10 => k_is)
    (case l10 => k_is)
    (case c10 => k_is)
    (case k10 => k_is)
    (case a11 => k_is)
    (case l11 => k_is)
    (case c11 => k_is)
    (case k11 => k_is)
    (case a12 => k_is)
    (case i12 => k_is)
    (case l12 => k_is)
    (case c12 => k_is)
    (case k12 => k_is)
    (case a13 => k_is)
    (case i13 => k_is)
    (case l13 => k_is)
    (case c13 => k_is)
    (case k13 => k_is)
    (case v13 => k_is)
    (case a14 => k_is)
    (case i14 => k_is)
    (case l14 => k_is)
    (case c14 => k_is)
    (case k14 => k_is)
    (case a15 => k_is)
    (case l15 => k_is)
    (case c15 => k_is)
    (case k15 => k_is)
    (case a16 => k_is)
    (case l16 => k_is)
    (case c16 => k_is)
    (case k16 => k_is)
    (case a17 => k_is)
    (case l17 => k_is)
    (case c17 => k_is)
    (case k17 => k_is)
    (case a18 => k_is)
    (case l18 => k_is)
    (case c18 => k_is)
    (case k18 => k_is)
    (case a19 => k_is)
    (case l19 => k_is)
    (case c19 => k_is)
    (case k19 => k_is)
    (case a20 => k_is)
    (case l20 => k_is)
    (case c20 => k_is)
    (case k20 => k_is)
    (case a21 => k_is)
    (case l21 => k_is)
    (case c21 => k_is)
    (case k21 => k_is)
    (case a22 => k_is)
    (case l22 => k_is)
    (case c22 => k_is)
    (case k22 => k_is)
    (case a23 => k_is)
    (case l23 => k_is)
    (case c23 => k_is)
    (case k23 => k_is)
    (case a24 => k_is)
    (case l24 => k_is)
    (case c24 => k_is)
    (case k24 => k_is)
    (case a25 => k_is)
    (case l25 => k_is)
    (case c25 => k_is)
    (case k25 => k_is)
    (case a26 => k_is)
    (case l26 => k_is)
    (case c26 => k_is)
    (case k26 => k_is)
    (case a27 => k_is)
    (case l27 => k_is)
    (case c27 => k_is)
    (case k27 => k_is)
    (case g_MOST_WHEEL => k_is)
    (case g_MOST_LEAST => k_is)
    (case z_ValueError => k_is)
    (case z_isinstance => k_is)
    (case z_str => k_is)
    (case z_range => k_is)
    (case z_len => k_is)
    (case z_tuple => k_is)
    (case z_list => k_is)
    (case z_bool => k_is)
    (case z_int => k_is)
    (case z_min => k_is)
    (case eg_BadWheel => k_is)
    (case ex_BadWheel => k_exc)
    (case ek_BadWheel => k_is)
    (case eb_BadWheel => k_is)
    (case et_BadWheel => k_is)
    (case eg_BadRule => k_is)
    (case ex_BadRule => k_exc)
    (case ek_BadRule => k_is)
    (case eb_BadRule => k_is)
    (case et_BadRule => k_is)
    (case eg_BadSeen => k_is)
    (case ex_BadSeen => k_exc)
    (case ek_BadSeen => k_is)
    (case eb_BadSeen => k_is)
    (case et_BadSeen => k_is)
    (case eg_BadGaps => k_is)
    (case ex_BadGaps => k_exc)
    (case ek_BadGaps => k_is)
    (case eb_BadGaps => k_is)
    (case et_BadGaps => k_is)
    (case eg_BadSpan => k_is)
    (case ex_BadSpan => k_exc)
    (case ek_BadSpan => k_is)
    (case eb_BadSpan => k_is)
    (case et_BadSpan => k_is)
    (case eg_BadLong => k_is)
    (case ex_BadLong => k_exc)
    (case ek_BadLong => k_is)
    (case eb_BadLong => k_is)
    (case et_BadLong => k_is)
    (case eg_NoGap => k_is)
    (case ex_NoGap => k_exc)
    (case ek_NoGap => k_is)
    (case eb_NoGap => k_is)
    (case et_NoGap => k_is)
    (case eg_NoSpan => k_is)
    (case ex_NoSpan => k_exc)
    (case ek_NoSpan => k_is)
    (case eb_NoSpan => k_is)
    (case et_NoSpan => k_is)
    (case eg_WrapError => k_is)
    (case ex_WrapError => k_exc)
    (case ek_WrapError => k_is)
    (case eb_WrapError => k_is)
    (case et_WrapError => k_is)
    (case pg_Reader => k_is)
    (case hd_Reader => k_is)
    (case po_Reader => k_is)
    (case sa_Reader => k_is)
    (case mk_Reader => k_is)
    (case kc_Reader => k_is)
    (case na_Reader_last => k_is)
    (case na_Reader_rule => k_is)
    (case na_Reader_told => k_is)
    (case na_Reader_wheel => k_is)
    (case ox_BadWheel => k_is)
    (case ox_BadRule => k_is)
    (case ox_BadSeen => k_is)
    (case ox_BadGaps => k_is)
    (case ox_BadSpan => k_is)
    (case ox_BadLong => k_is)
    (case ox_NoGap => k_is)
    (case ox_NoSpan => k_is)
    (case ox_WrapError => k_is)
    (case ohg_BadSeen => k_is)
    (case ohk_BadSeen => k_is)
    (case oha_BadSeen => k_is)
    (case ohm_BadSeen => k_is)
    (case osw_BadSeen => k_is)
    (case osv_BadSeen => k_is)
    (case ok0_BadSeen => k_is)
    (case oz0_BadSeen => decide)
    (case ok1_BadSeen => k_is)
    (case oz1_BadSeen => decide)
    (case ok2_BadSeen => k_is)
    (case ok3_BadSeen => k_is)
    (case oz3_BadSeen => decide)
    (case ok4_BadSeen => k_is)
    (case oz4_BadSeen => decide)
    (case ok5_BadSeen => k_is)
    (case oz5_BadSeen => decide)
    (case ok6_BadSeen => k_is)
    (case oz6_BadSeen => decide)
    (case ok7_BadSeen => k_is)
    (case oz7_BadSeen => decide)
    (case ohg_NoGap => k_is)
    (case ohk_NoGap => k_is)
    (case oha_NoGap => k_is)
    (case ohm_NoGap => k_is)
    (case osw_NoGap => k_is)
    (case osv_NoGap => k_is)
    (case ok0_NoGap => k_is)
    (case oz0_NoGap => decide)
    (case ok1_NoGap => k_is)
    (case oz1_NoGap => decide)
    (case ok2_NoGap => k_is)
    (case oz2_NoGap => decide)
    (case ok3_NoGap => k_is)
    (case oz3_NoGap => decide)
    (case ok4_NoGap => k_is)
    (case oz4_NoGap => decide)
    (case ok5_NoGap => k_is)
    (case oz5_NoGap => decide)
    (case ok6_NoGap => k_is)
    (case ok7_NoGap => k_is)
    (case oz7_NoGap => decide)
    (case ohn => k_is)
    (case oht => k_is)
    (case lcL__law_look => k_is)
    (case vL__law_look => rfl)
    (case hdL__law_look => kernel_rfl)
    (case nPL__law_look => kernel_rfl)
    (case tbL__law_look => exact PySem.W.km_tabs_of Y _ (by decide))

