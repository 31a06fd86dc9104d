import PyProof.Rows.All
import Wide.All
import OpenK.AllK
import Wide.FinOn
import PySem.Challenge.RW_pq1326_01
open PySem PySem.W PySem.Calls PyProof.Rows
set_option Elab.async false
set_option maxRecDepth 100000
set_option maxHeartbeats 8000000
set_option linter.unusedVariables false
set_option linter.all false
namespace Mine
section
local macro_rules | `(tactic| o_head $H) => `(tactic| refine (fun (_ : True) (h : _) => h) ?hw ?hc)
local macro_rules | `(tactic| w_witness2) => `(tactic| trivial)
set_option maxHeartbeats 8000000 in
open_top k0 for PySem.Challenge.rw_pq1326_01.row
end
noncomputable def view : Program := { PySem.Challenge.rw_pq1326_01.prog with main := { PySem.Challenge.rw_pq1326_01.prog.main with body := let b := PySem.Challenge.rw_pq1326_01.prog.main.body; (b.drop 0).take 1 ++ (b.drop 2).take 4 ++ (b.drop 7).take 2 ++ (b.drop 10).take 4 ++ (b.drop 17).take 1 ++ (b.drop 19).take 6 ++ (b.drop 26).take 2 ++ (b.drop 29).take 4 ++ (b.drop 34).take 11 ++ (b.drop 46).take 10 ++ (b.drop 58).take 1 ++ (b.drop 61).take 6 ++ (b.drop 68).take 3 } }
set_option genSizeOf false
set_option genInjectivity false
/-- a machine that walks the code's structure: what is left of it are the steps that do something -/
inductive Res | v (v : Value) | l (l : List Value) | f (f : Flow) | b (b : Bool)
inductive Frm
  | binR (op : Operator) (r : PySem.Expr) | bin (op : Operator) (a : Value) | una (op : PySem.UnaryOp)
  | cmpR (op : CmpOp) (r : PySem.Expr) | cmp (op : CmpOp) (a : Value)
  | subR (value slice : PySem.Expr) | sub (value slice : PySem.Expr) (o : Value) | attr (a : Str)
  | callW (args : List PySem.Expr) (pos : Pos) | star (rest : List PySem.Expr) (pos : Pos) | cons (v : Value) | tup | lis
  | ifE (b o : PySem.Expr) | tru | andT (rest : List PySem.Expr) (pos : Pos) | orT (rest : List PySem.Expr) (pos : Pos) | notT
  | asgN (x : Str) | asgAR (o : PySem.Expr) (a : Str) | asgA (a : Str) (v : Value) | asgSR (o i : PySem.Expr) | asgSI (i : PySem.Expr) (v : Value) | asgS (o v : Value)
  | retF | iff (b o : List PySem.Stmt) | seq (rest : List PySem.Stmt)
inductive Ctl | ev (e : PySem.Expr) | sp (es : List PySem.Expr) (pos : Pos) | xs (l : List PySem.Stmt) | tr (e : PySem.Expr) | ret (r : Res)
structure Cx where
  M : Model
  A : Around
  env : Env
  E : Value → Shared → Prop
  Q : Res → Shared → Prop
noncomputable def QEnd (C : Cx) (r : Res) (s : Shared) : Prop := C.Q r s
@[reducible] noncomputable def bump (s : Shared) : Shared := { s with toks := s.toks + 1 }
@[reducible] noncomputable def isSet : PySem.Expr → Bool
  | .Set .. => true
  | _ => false
@[reducible] noncomputable def isComp : PySem.Expr → Bool
  | .ListComp .. => true
  | .SetComp .. => true
  | .DictComp .. => true
  | _ => false
@[reducible] noncomputable def isStar : PySem.Expr → Bool
  | .Starred .. => true
  | _ => false
@[reducible] noncomputable def rEv (C : Cx) (k : Ctl → List Frm → Shared → Prop) (e : PySem.Expr) (K : List Frm) (s : Shared) : Prop := match e with
  | .Constant (.int i) _ _ => k (.ret (.v (.int i s.toks))) K (bump s)
  | .Constant (.str x) _ _ => k (.ret (.v (.str x s.toks))) K (bump s)
  | .Constant .none _ _ => k (.ret (.v .none)) K s
  | .Constant (.bool b) _ _ => k (.ret (.v (.bool b))) K s
  | .BinOp l op r _ => k (.ev l) (.binR op r :: K) s
  | .UnaryOp op x _ => k (.ev x) (.una op :: K) s
  | .Compare l [op] [r] pos => match isSet r with
    | false => k (.ev l) (.cmpR op r :: K) s
    | true => wpAny C.M C.A (eval (.Compare l [op] [r] pos) C.env) (fun v s => k (.ret (.v v)) K s) C.E s
  | .Subscript v i _ => k (.ev v) (.subR v i :: K) s
  | .Attribute (.Name x xp) a _ => k (.ev (.Name x xp)) (.attr a :: K) s
  | .Call (.Name x xp) args [] pos => k (.ev (.Name x xp)) (.callW args pos :: K) s
  | .IfExp t b o _ => k (.tr t) (.ifE b o :: K) s
  | .Tuple es _ pos => k (.sp es pos) (.tup :: K) s
  | .List es pos => k (.sp es pos) (.lis :: K) s
  | e => wpAny C.M C.A (eval e C.env) (fun v s => k (.ret (.v v)) K s) C.E s
@[reducible] noncomputable def rSp (C : Cx) (k : Ctl → List Frm → Shared → Prop) (es : List PySem.Expr) (pos : Pos) (K : List Frm) (s : Shared) : Prop := match es with
  | [] => k (.ret (.l [])) K s
  | e :: rest => match isStar e with
    | false => k (.ev e) (.star rest pos :: K) s
    | true => wpAny C.M C.A (spliced (backTo pos (starEach (e :: rest) C.env))) (fun l s => k (.ret (.l l)) K s) C.E s
@[reducible] noncomputable def rTr (C : Cx) (k : Ctl → List Frm → Shared → Prop) (e : PySem.Expr) (K : List Frm) (s : Shared) : Prop := match e with
  | .Compare l [op] [r] pos => match isSet r with
    | false => k (.ev l) (.cmpR op r :: .tru :: K) s
    | true => wpAny C.M C.A (isTrue (.Compare l [op] [r] pos) C.env (eval (.Compare l [op] [r] pos) C.env)) (fun b s => k (.ret (.b b)) K s) C.E s
  | .BoolOp .And [] _ => k (.ret (.b true)) K s
  | .BoolOp .And (x :: rest) pos => k (.tr x) (.andT rest pos :: K) s
  | .BoolOp .Or [] _ => k (.ret (.b false)) K s
  | .BoolOp .Or (x :: rest) pos => k (.tr x) (.orT rest pos :: K) s
  | .UnaryOp .Not x _ => k (.tr x) (.notT :: K) s
  | .Name x xp => k (.ev (.Name x xp)) (.tru :: K) s
  | .Call f as ks p => k (.ev (.Call f as ks p)) (.tru :: K) s
  | .Attribute o a p => k (.ev (.Attribute o a p)) (.tru :: K) s
  | .Subscript o i p => k (.ev (.Subscript o i p)) (.tru :: K) s
  | e => wpAny C.M C.A (isTrue e C.env (eval e C.env)) (fun b s => k (.ret (.b b)) K s) C.E s
@[reducible] noncomputable def rXs (C : Cx) (k : Ctl → List Frm → Shared → Prop) (l : List PySem.Stmt) (K : List Frm) (s : Shared) : Prop := match l with
  | [] => k (.ret (.f .next)) K s
  | st :: rest => match st with
    | .Assign [.Name x xp] e pos => match isComp e with
      | false => k (.ev e) (.asgN x :: .seq rest :: K) s
      | true => wpAny C.M C.A (exec (.Assign [.Name x xp] e pos) C.env) (fun f s => k (.ret (.f f)) (.seq rest :: K) s) C.E s
    | .Assign [.Attribute o a p] e pos => match isComp e with
      | false => k (.ev e) (.asgAR o a :: .seq rest :: K) s
      | true => wpAny C.M C.A (exec (.Assign [.Attribute o a p] e pos) C.env) (fun f s => k (.ret (.f f)) (.seq rest :: K) s) C.E s
    | .Assign [.Subscript o i p] e pos => match isComp e with
      | false => k (.ev e) (.asgSR o i :: .seq rest :: K) s
      | true => wpAny C.M C.A (exec (.Assign [.Subscript o i p] e pos) C.env) (fun f s => k (.ret (.f f)) (.seq rest :: K) s) C.E s
    | .Return (some e) _ => k (.ev e) (.retF :: .seq rest :: K) s
    | .Return none _ => k (.ret (.f (.ret .none))) (.seq rest :: K) s
    | .If t b o _ => k (.tr t) (.iff b o :: .seq rest :: K) s
    | .Pass _ => k (.xs rest) K s
    | .Break _ => k (.ret (.f .brk)) K s
    | .Continue _ => k (.ret (.f .cont)) K s
    | st => wpAny C.M C.A (exec st C.env) (fun f s => k (.ret (.f f)) (.seq rest :: K) s) C.E s
@[reducible] noncomputable def rRet (C : Cx) (k : Ctl → List Frm → Shared → Prop) (r : Res) (K : List Frm) (s : Shared) : Prop := match K, r with
  | [], r => QEnd C r s
  | .binR op e :: K, .v a => k (.ev e) (.bin op a :: K) s
  | .bin op a :: K, .v b => wpAny C.M C.A (binaryOp op a b) (fun v s => k (.ret (.v v)) K s) C.E s
  | .una op :: K, .v a => wpAny C.M C.A (unaryOp op a) (fun v s => k (.ret (.v v)) K s) C.E s
  | .cmpR op e :: K, .v a => k (.ev e) (.cmp op a :: K) s
  | .cmp op a :: K, .v b => wpAny C.M C.A (compareOp op a b) (fun v s => k (.ret (.v v)) K s) C.E s
  | .subR v i :: K, .v o => k (.ev i) (.sub v i o :: K) s
  | .sub v i o :: K, .v j => wpAny C.M C.A (subscriptTail v i o j) (fun v s => k (.ret (.v v)) K s) C.E s
  | .attr a :: K, .v o => wpAny C.M C.A (getAttr o a true) (fun v s => k (.ret (.v v)) K s) C.E s
  | .callW args pos :: K, .v f => wpAny C.M C.A (callWith pos f [] (backTo pos (starEach args C.env)) []) (fun v s => k (.ret (.v v)) K s) C.E s
  | .star rest pos :: K, .v a => k (.sp rest pos) (.cons a :: K) s
  | .cons a :: K, .l vs => k (.ret (.l (a :: vs))) K s
  | .tup :: K, .l vs => wpAny C.M C.A (newTuple vs) (fun v s => k (.ret (.v v)) K s) C.E s
  | .lis :: K, .l vs => wpAny C.M C.A (newList vs) (fun v s => k (.ret (.v v)) K s) C.E s
  | .ifE b o :: K, .b c => if c then k (.ev b) K s else k (.ev o) K s
  | .tru :: K, .v a => wpAny C.M C.A (truthy a) (fun b s => k (.ret (.b b)) K s) C.E s
  | .andT rest pos :: K, .b c => if c then k (.tr (.BoolOp .And rest pos)) K s else k (.ret (.b false)) K s
  | .orT rest pos :: K, .b c => if c then k (.ret (.b true)) K s else k (.tr (.BoolOp .Or rest pos)) K s
  | .notT :: K, .b c => k (.ret (.b (!c))) K s
  | .asgN x :: K, .v a => wpAny C.M C.A (storeName C.env x a) (fun _ s => k (.ret (.f .next)) K s) C.E s
  | .asgAR o x :: K, .v a => k (.ev o) (.asgA x a :: K) s
  | .asgA x a :: K, .v o => wpAny C.M C.A (setAttr o x a) (fun _ s => k (.ret (.f .next)) K s) C.E s
  | .asgSR o i :: K, .v a => k (.ev o) (.asgSI i a :: K) s
  | .asgSI i a :: K, .v o => k (.ev i) (.asgS o a :: K) s
  | .asgS o a :: K, .v i => wpAny C.M C.A (setItem o i a) (fun _ s => k (.ret (.f .next)) K s) C.E s
  | .retF :: K, .v a => k (.ret (.f (.ret a))) K s
  | .iff b o :: K, .b c => if c then k (.xs b) K s else k (.xs o) K s
  | .seq rest :: K, .f fl => match fl with
    | .next => k (.xs rest) K s
    | fl => k (.ret (.f fl)) K s
  | _, _ => False

@[reducible] noncomputable def run (C : Cx) : Nat → Ctl → List Frm → Shared → Prop
  | 0, _, _, _ => False
  | n + 1, c, K, s => match c with
    | .ev e => rEv C (run C n) e K s
    | .sp es pos => rSp C (run C n) es pos K s
    | .xs l => rXs C (run C n) l K s
    | .tr e => rTr C (run C n) e K s
    | .ret r => rRet C (run C n) r K s

/-- what a frame asks, without the machine -/
noncomputable def den (C : Cx) : List Frm → Res → Shared → Prop
  | [], r, s => C.Q r s
  | .binR op e :: K, .v a, s => wpAny C.M C.A (eval e C.env) (fun b s => wpAny C.M C.A (binaryOp op a b) (fun v s => den C K (.v v) s) C.E s) C.E s
  | .bin op a :: K, .v b, s => wpAny C.M C.A (binaryOp op a b) (fun v s => den C K (.v v) s) C.E s
  | .una op :: K, .v a, s => wpAny C.M C.A (unaryOp op a) (fun v s => den C K (.v v) s) C.E s
  | .cmpR op e :: K, .v a, s => wpAny C.M C.A (eval e C.env) (fun b s => wpAny C.M C.A (compareOp op a b) (fun v s => den C K (.v v) s) C.E s) C.E s
  | .cmp op a :: K, .v b, s => wpAny C.M C.A (compareOp op a b) (fun v s => den C K (.v v) s) C.E s
  | .subR v i :: K, .v o, s => wpAny C.M C.A (eval i C.env) (fun j s => wpAny C.M C.A (subscriptTail v i o j) (fun v s => den C K (.v v) s) C.E s) C.E s
  | .sub v i o :: K, .v j, s => wpAny C.M C.A (subscriptTail v i o j) (fun v s => den C K (.v v) s) C.E s
  | .attr a :: K, .v o, s => wpAny C.M C.A (getAttr o a true) (fun v s => den C K (.v v) s) C.E s
  | .callW args pos :: K, .v f, s => wpAny C.M C.A (callWith pos f [] (backTo pos (starEach args C.env)) []) (fun v s => den C K (.v v) s) C.E s
  | .star rest pos :: K, .v a, s => wpAny C.M C.A (spliced (backTo pos (starEach rest C.env))) (fun vs s => den C K (.l (a :: vs)) s) C.E s
  | .cons a :: K, .l vs, s => den C K (.l (a :: vs)) s
  | .tup :: K, .l vs, s => wpAny C.M C.A (newTuple vs) (fun v s => den C K (.v v) s) C.E s
  | .lis :: K, .l vs, s => wpAny C.M C.A (newList vs) (fun v s => den C K (.v v) s) C.E s
  | .ifE b o :: K, .b c, s => if c then wpAny C.M C.A (eval b C.env) (fun v s => den C K (.v v) s) C.E s else wpAny C.M C.A (eval o C.env) (fun v s => den C K (.v v) s) C.E s
  | .tru :: K, .v a, s => wpAny C.M C.A (truthy a) (fun b s => den C K (.b b) s) C.E s
  | .andT rest pos :: K, .b c, s => if c then wpAny C.M C.A (isTrue (.BoolOp .And rest pos) C.env (eval (.BoolOp .And rest pos) C.env)) (fun b s => den C K (.b b) s) C.E s else den C K (.b false) s
  | .orT rest pos :: K, .b c, s => if c then den C K (.b true) s else wpAny C.M C.A (isTrue (.BoolOp .Or rest pos) C.env (eval (.BoolOp .Or rest pos) C.env)) (fun b s => den C K (.b b) s) C.E s
  | .notT :: K, .b c, s => den C K (.b (!c)) s
  | .asgN x :: K, .v a, s => wpAny C.M C.A (storeName C.env x a) (fun _ s => den C K (.f .next) s) C.E s
  | .asgAR o x :: K, .v a, s => wpAny C.M C.A (eval o C.env) (fun o s => wpAny C.M C.A (setAttr o x a) (fun _ s => den C K (.f .next) s) C.E s) C.E s
  | .asgA x a :: K, .v o, s => wpAny C.M C.A (setAttr o x a) (fun _ s => den C K (.f .next) s) C.E s
  | .asgSR o i :: K, .v a, s => wpAny C.M C.A (eval o C.env) (fun o s => wpAny C.M C.A (eval i C.env) (fun i s => wpAny C.M C.A (setItem o i a) (fun _ s => den C K (.f .next) s) C.E s) C.E s) C.E s
  | .asgSI i a :: K, .v o, s => wpAny C.M C.A (eval i C.env) (fun i s => wpAny C.M C.A (setItem o i a) (fun _ s => den C K (.f .next) s) C.E s) C.E s
  | .asgS o a :: K, .v i, s => wpAny C.M C.A (setItem o i a) (fun _ s => den C K (.f .next) s) C.E s
  | .retF :: K, .v a, s => den C K (.f (.ret a)) s
  | .iff b o :: K, .b c, s => if c then wpAny C.M C.A (execs b C.env) (fun f s => den C K (.f f) s) C.E s else wpAny C.M C.A (execs o C.env) (fun f s => den C K (.f f) s) C.E s
  | .seq rest :: K, .f fl, s => match fl with
    | .next => wpAny C.M C.A (execs rest C.env) (fun f s => den C K (.f f) s) C.E s
    | fl => den C K (.f fl) s
  | _, _, _ => False
noncomputable def sem (C : Cx) : Ctl → List Frm → Shared → Prop
  | .ev e, K, s => wpAny C.M C.A (eval e C.env) (fun v s => den C K (.v v) s) C.E s
  | .sp es pos, K, s => wpAny C.M C.A (spliced (backTo pos (starEach es C.env))) (fun vs s => den C K (.l vs) s) C.E s
  | .tr e, K, s => wpAny C.M C.A (isTrue e C.env (eval e C.env)) (fun b s => den C K (.b b) s) C.E s
  | .xs l, K, s => wpAny C.M C.A (execs l C.env) (fun f s => den C K (.f f) s) C.E s
  | .ret r, K, s => den C K r s
theorem swaps_no {e : PySem.Expr} {t : Option PySem.Expr} {l : Nat} {env : Env} (h : isComp e = false) : swapsWith e t l env = pure false := by
  cases e <;> first | rfl | cases h
theorem star_no {e : PySem.Expr} {rest : List PySem.Expr} {env : Env} (h : isStar e = false) : starEach (e :: rest) env = (false, eval e env) :: starEach rest env := by
  cases e <;> first | rfl | cases h
theorem marks_no {op : CmpOp} {e : PySem.Expr} (h : isSet e = false) : behindInMarks op e = false := by
  cases e <;> first | rfl | cases h
section
variable {C : Cx} {k : Ctl → List Frm → Shared → Prop} (ih : ∀ c K s, k c K s → sem C c K s)
include ih
theorem iv {K : List Frm} {s : Shared} {t : Sem Value} (h : wpAny C.M C.A t (fun v s => k (.ret (.v v)) K s) C.E s) : wpAny C.M C.A t (fun v s => den C K (.v v) s) C.E s := wpAny_mono h (fun v s h => ih (.ret (.v v)) _ _ h) fun _ _ x => x
theorem ib {K : List Frm} {s : Shared} {t : Sem Bool} (h : wpAny C.M C.A t (fun v s => k (.ret (.b v)) K s) C.E s) : wpAny C.M C.A t (fun v s => den C K (.b v) s) C.E s := wpAny_mono h (fun v s h => ih (.ret (.b v)) _ _ h) fun _ _ x => x
theorem il {K : List Frm} {s : Shared} {t : Sem (List Value)} (h : wpAny C.M C.A t (fun v s => k (.ret (.l v)) K s) C.E s) : wpAny C.M C.A t (fun v s => den C K (.l v) s) C.E s := wpAny_mono h (fun v s h => ih (.ret (.l v)) _ _ h) fun _ _ x => x
theorem iu {K : List Frm} {s : Shared} {t : Sem Unit} (h : wpAny C.M C.A t (fun _ s => k (.ret (.f .next)) K s) C.E s) : wpAny C.M C.A t (fun _ s => den C K (.f .next) s) C.E s := wpAny_mono h (fun v s h => ih (.ret (.f .next)) _ _ h) fun _ _ x => x
theorem is {K : List Frm} {s : Shared} {t : Sem Flow} {rest : List PySem.Stmt} (h : wpAny C.M C.A t (fun v s => k (.ret (.f v)) (.seq rest :: K) s) C.E s) :
    wpAny C.M C.A t (fun f s => match f with | .next => wpAny C.M C.A (execs rest C.env) (fun f s => den C K (.f f) s) C.E s | f => den C K (.f f) s) C.E s :=
  wpAny_mono h (fun v s h => by have := ih (.ret (.f v)) _ _ h; cases v <;> exact this) fun _ _ x => x
theorem rEv_ok {e : PySem.Expr} {K : List Frm} {s : Shared} (h : rEv C k e K s) : sem C (.ev e) K s := by
  cases e with
  | Constant c _ _ => cases c with
    | int i => obtain ⟨_, _, _, _, _⟩ := s; exact wpAny_Constant_int (ih _ _ _ h)
    | str i => obtain ⟨_, _, _, _, _⟩ := s; exact Constant_str (ih _ _ _ h)
    | none => exact wpAny_Constant_none (ih _ _ _ h)
    | bool b => exact wpAny_Constant_bool (ih _ _ _ h)
    | _ => exact iv ih h
  | BinOp => exact wpAny_BinOp (ih _ _ _ h)
  | UnaryOp => exact UnaryOp_ (ih _ _ _ h)
  | Compare l ops rs pos =>
    match ops, rs, h with
    | [op], [r], h =>
      change (match isSet r with | false => _ | true => _) at h
      cases hs : isSet r with
      | false => rw [hs] at h; exact wpAny_Compare1 (ih _ _ _ h) (marks_no hs)
      | true => rw [hs] at h; exact iv ih h
    | [], _, h => exact iv ih h
    | _ :: _ :: _, _, h => exact iv ih h
    | [_], [], h => exact iv ih h
    | [_], _ :: _ :: _, h => exact iv ih h
  | Subscript => exact Subscript_ (ih _ _ _ h)
  | Attribute o a p => cases o with
    | Name => exact Attribute_Name_ (ih _ _ _ h)
    | _ => exact iv ih h
  | Call f args ks pos => cases f with
    | Name => cases ks with
      | nil => exact Call_ (ih _ _ _ h)
      | cons => exact iv ih h
    | _ => exact iv ih h
  | IfExp => exact IfExp_ (ih _ _ _ h)
  | Tuple => exact Tuple_ (ih _ _ _ h)
  | List => exact List_ (ih _ _ _ h)
  | _ => exact iv ih h
theorem rSp_ok {es : List PySem.Expr} {pos : Pos} {K : List Frm} {s : Shared} (h : rSp C k es pos K s) : sem C (.sp es pos) K s := by
  cases es with
  | nil => exact spliced_none (ih _ _ _ h)
  | cons e rest =>
    change (match isStar e with | false => _ | true => _) at h
    cases he : isStar e with
    | false => rw [he] at h; exact spliced_more (ih _ _ _ h) (star_no he)
    | true => rw [he] at h; exact il ih h
theorem rTr_ok {e : PySem.Expr} {K : List Frm} {s : Shared} (h : rTr C k e K s) : sem C (.tr e) K s := by
  cases e with
  | Compare l ops rs pos =>
    match ops, rs, h with
    | [op], [r], h =>
      change (match isSet r with | false => _ | true => _) at h
      cases hs : isSet r with
      | false => rw [hs] at h; exact wpAny_isTrue_Compare1 (ih _ _ _ h) (marks_no hs)
      | true => rw [hs] at h; exact ib ih h
    | [], _, h => exact ib ih h
    | _ :: _ :: _, _, h => exact ib ih h
    | [_], [], h => exact ib ih h
    | [_], _ :: _ :: _, h => exact ib ih h
  | BoolOp op es p => cases op with
    | And => cases es with
      | nil => exact isTrue_and_nil (ih _ _ _ h)
      | cons => exact isTrue_and (ih _ _ _ h)
    | Or => cases es with
      | nil => exact isTrue_or_nil (ih _ _ _ h)
      | cons => exact isTrue_or (ih _ _ _ h)
  | UnaryOp op x p => cases op with
    | Not => exact isTrue_not (ih _ _ _ h)
    | _ => exact ib ih h
  | Name => exact isTrue_plain (ih _ _ _ h)
  | Call => exact isTrue_plain (ih _ _ _ h)
  | Attribute => exact isTrue_plain (ih _ _ _ h)
  | Subscript => exact isTrue_plain (ih _ _ _ h)
  | _ => exact ib ih h
theorem rAs_ok {ts : List PySem.Expr} {e : PySem.Expr} {pos : Pos} {rest : List PySem.Stmt} {K : List Frm} {s : Shared} (h : rXs C k (.Assign ts e pos :: rest) K s) : sem C (.xs (.Assign ts e pos :: rest)) K s := by
  refine wpAny_execs_cons ?_
  match ts, h with
  | [], h => exact is ih h
  | a :: _ :: _, h => cases a <;> exact is ih h
  | [t], h =>
    cases t with
    | Name =>
      change (match isComp e with | false => _ | true => _) at h
      cases hs : isComp e with
      | false => rw [hs] at h; exact wpAny_Assign_Name (ih _ _ _ h) (swaps_no hs)
      | true => rw [hs] at h; exact is ih h
    | Attribute =>
      change (match isComp e with | false => _ | true => _) at h
      cases hs : isComp e with
      | false => rw [hs] at h; exact plainObj_wpAny_Assign_Attribute (ih _ _ _ h) (swaps_no hs)
      | true => rw [hs] at h; exact is ih h
    | Subscript =>
      change (match isComp e with | false => _ | true => _) at h
      cases hs : isComp e with
      | false => rw [hs] at h; exact wpAny_Assign_Subscript (ih _ _ _ h) (swaps_no hs)
      | true => rw [hs] at h; exact is ih h
    | _ => exact is ih h
theorem rXs_ok {l : List PySem.Stmt} {K : List Frm} {s : Shared} (h : rXs C k l K s) : sem C (.xs l) K s := by
  cases l with
  | nil => exact wpAny_execs_nil (ih _ _ _ h)
  | cons st rest =>
    cases st with
    | Assign ts e pos => exact rAs_ok ih h
    | Return v p => cases v with
      | none => exact wpAny_execs_cons (wpAny_Return_none (ih _ _ _ h))
      | some => exact wpAny_execs_cons (wpAny_Return_some (ih _ _ _ h))
    | If t b o p =>
      refine wpAny_execs_cons (wpAny_If (wpAny_mono (ih _ _ _ h) (fun b s h => ?_) fun _ _ x => x))
      cases b <;> exact wpAny_mono h (fun f s h => by cases f <;> exact h) fun _ _ x => x
    | Pass => exact wpAny_execs_cons (wpAny_Pass (ih _ _ _ h))
    | Break => exact wpAny_execs_cons (wpAny_Break (ih _ _ _ h))
    | Continue => exact wpAny_execs_cons (wpAny_Continue (ih _ _ _ h))
    | _ => exact wpAny_execs_cons (is ih h)
theorem rRet_ok {r : Res} {K : List Frm} {s : Shared} (h : rRet C k r K s) : sem C (.ret r) K s := by
  cases K with
  | nil => exact h
  | cons f K =>
    cases f <;> cases r <;> first
      | exact h.elim
      | exact iv ih h
      | exact ib ih h
      | exact iu ih h
      | (have h' := ih _ _ _ h; exact h')
      | (rename_i c; cases c <;> (have h' := ih _ _ _ h; exact h'))
end
theorem run_ok (C : Cx) : ∀ n c K s, run C n c K s → sem C c K s
  | 0, _, _, _, h => h.elim
  | n + 1, .ev _, _, _, h => rEv_ok (run_ok C n) h
  | n + 1, .sp _ _, _, _, h => rSp_ok (run_ok C n) h
  | n + 1, .xs _, _, _, h => rXs_ok (run_ok C n) h
  | n + 1, .tr _, _, _, h => rTr_ok (run_ok C n) h
  | n + 1, .ret _, _, _, h => rRet_ok (run_ok C n) h
section
variable {M : Model} {A : Around} {E : Value → Shared → Prop} {s : Shared} {env : Env}
noncomputable abbrev qF (Q : Flow → Shared → Prop) : Res → Shared → Prop := fun r s => match r with | .f f => Q f s | _ => False
noncomputable abbrev qV (Q : Value → Shared → Prop) : Res → Shared → Prop := fun r s => match r with | .v v => Q v s | _ => False
noncomputable abbrev qL (Q : List Value → Shared → Prop) : Res → Shared → Prop := fun r s => match r with | .l v => Q v s | _ => False
noncomputable abbrev qB (Q : Bool → Shared → Prop) : Res → Shared → Prop := fun r s => match r with | .b v => Q v s | _ => False
theorem go_xs {b : List PySem.Stmt} {Q : Flow → Shared → Prop} (k : let C : Cx := ⟨M, A, env, E, qF Q⟩; run C 1000 (.xs b) [] s) : wpAny M A (execs b env) Q E s := run_ok _ _ _ _ _ k
theorem go_sp {es : List PySem.Expr} {pos : Pos} {Q : List Value → Shared → Prop} (k : let C : Cx := ⟨M, A, env, E, qL Q⟩; run C 1000 (.sp es pos) [] s) : wpAny M A (spliced (backTo pos (starEach es env))) Q E s := run_ok _ _ _ _ _ k
theorem go_ev {e : PySem.Expr} {Q : Value → Shared → Prop} (k : let C : Cx := ⟨M, A, env, E, qV Q⟩; run C 1000 (.ev e) [] s) : wpAny M A (eval e env) Q E s := run_ok _ _ _ _ _ k
theorem go_tr {e : PySem.Expr} {Q : Bool → Shared → Prop} (k : let C : Cx := ⟨M, A, env, E, qB Q⟩; run C 1000 (.tr e) [] s) : wpAny M A (isTrue e env (eval e env)) Q E s := run_ok _ _ _ _ _ k
theorem eta_wp {α : Type} {t : Sem α} {Q : α → Shared → Prop} (k : wpAny M A t Q E ⟨s.heap, s.gens, s.drawn, s.toks, s.os⟩) : wpAny M A t Q E s := k
theorem run_qF {Q : Flow → Shared → Prop} {f : Flow} (h : Q f s) : QEnd ⟨M, A, env, E, qF Q⟩ (.f f) s := h
theorem run_qL {Q : List Value → Shared → Prop} {f : List Value} (h : Q f s) : QEnd ⟨M, A, env, E, qL Q⟩ (.l f) s := h
theorem run_qV {Q : Value → Shared → Prop} {f : Value} (h : Q f s) : QEnd ⟨M, A, env, E, qV Q⟩ (.v f) s := h
theorem run_qB {Q : Bool → Shared → Prop} {f : Bool} (h : Q f s) : QEnd ⟨M, A, env, E, qB Q⟩ (.b f) s := h
end
theorem execs_app {M : Model} {Γ : Ctx} {env : Env} {rest : List PySem.Stmt} {Q : Flow → Pos → Shared → Prop} {E : Value → Pos → Shared → Prop} : ∀ (pre : List PySem.Stmt) (p : Pos) (s : Shared),
    Sem.wp M Γ (execs pre env) (fun f p' s' => match f with | .next => Sem.wp M Γ (execs rest env) Q E p' s' | f => Q f p' s') E p s → Sem.wp M Γ (execs (pre ++ rest) env) Q E p s
  | [], _, _, h => h
  | st :: pre, p, s, h => by
    show Sem.wp M Γ (execs (st :: (pre ++ rest)) env) Q E p s
    rw [execs_cons, Sem.wp_bind'] at h ⊢
    refine Sem.wp_mono M Γ _ (fun f p' s' h' => ?_) (fun _ _ _ h' => h') _ _ h
    cases f <;> first | exact execs_app pre p' s' h' | exact h'
theorem go_cut {M : Model} {A : Around} {E : Value → Shared → Prop} {s : Shared} {env : Env} {pre rest : List PySem.Stmt} {Q : Flow → Shared → Prop} (k : let C : Cx := ⟨M, A, env, E, qF (fun f s => match f with | .next => wpAny M A (execs rest env) Q E s | f => Q f s)⟩; run C 1000 (.xs pre) [] s) : wpAny M A (execs (pre ++ rest) env) Q E s := fun Γ p hΓ => by
  have h : wpAny M A (execs pre env) (fun f s => match f with | .next => wpAny M A (execs rest env) Q E s | f => Q f s) E s := run_ok _ _ _ _ _ k
  refine execs_app pre p s (Sem.wp_mono M Γ _ (fun f p' s' h' => ?_) (fun _ _ _ h' => h') _ _ (h Γ p hΓ))
  cases f <;> first | exact h' Γ p' hΓ | exact h'
theorem go_cut2 {M : Model} {A : Around} {E : Value → Shared → Prop} {s : Shared} {env : Env} {pre rest : List PySem.Stmt} {Q : Flow → Shared → Prop} (R : Shared → Prop) (k2 : ∀ s', R s' → wpAny M A (execs rest env) Q E s')
    (k : let C : Cx := ⟨M, A, env, E, qF (fun f s => match f with | .next => R s | f => Q f s)⟩; run C 1000 (.xs pre) [] s) : wpAny M A (execs (pre ++ rest) env) Q E s := fun Γ p hΓ => by
  have h : wpAny M A (execs pre env) (fun f s => match f with | .next => R s | f => Q f s) E s := run_ok _ _ _ _ _ k
  refine execs_app pre p s (Sem.wp_mono M Γ _ (fun f p' s' h' => ?_) (fun _ _ _ h' => h') _ _ (h Γ p hΓ))
  cases f <;> first | exact k2 _ h' Γ p' hΓ | exact h'
-- facts of arithmetic, linear over Nat, by a check of a sum
set_option genSizeOf false
set_option genInjectivity false
inductive LE | v (i : Nat) | n (k : Nat) | a (x y : LE) | m (k : Nat) (x : LE)
inductive Cn | le (x y : LE) | lt (x y : LE) | eq (x y : LE) | nle (x y : LE) | nlt (x y : LE)
noncomputable def nth : List Nat → Nat → Nat
  | [], _ => 0
  | x :: _, 0 => x
  | _ :: l, i + 1 => nth l i
noncomputable def LE.den (c : List Nat) : LE → Nat
  | .v i => nth c i
  | .n k => k
  | .a x y => x.den c + y.den c
  | .m k x => k * x.den c
noncomputable def padd : List Nat → List Nat → List Nat
  | [], q => q
  | x :: p, [] => x :: p
  | x :: p, y :: q => (x + y) :: padd p q
noncomputable def unit : Nat → List Nat
  | 0 => [1]
  | i + 1 => 0 :: unit i
noncomputable def LE.pol : LE → List Nat
  | .v i => 0 :: unit i
  | .n k => [k]
  | .a x y => padd x.pol y.pol
  | .m k x => x.pol.map (k * ·)
noncomputable def ple : List Nat → List Nat → Bool
  | [], _ => true
  | x :: p, [] => x.ble 0 && ple p []
  | x :: p, y :: q => x.ble y && ple p q
noncomputable def pev (c : List Nat) (p : List Nat) : Nat := p.rec (motive := fun _ => List Nat → Nat) (fun _ => 0) (fun x _ ih c => x * nth c 0 + ih (c.drop 1)) c
theorem nth_drop : ∀ (c : List Nat) i, nth (c.drop 1) i = nth c (i + 1)
  | [], 0 => rfl
  | [], _ + 1 => rfl
  | _ :: _, _ => rfl
theorem pev_add : ∀ (p q c : List Nat), pev c (padd p q) = pev c p + pev c q
  | [], q, c => (Nat.zero_add _).symm
  | x :: p, [], c => rfl
  | x :: p, y :: q, c => by
    show (x + y) * nth c 0 + pev (c.drop 1) (padd p q) = (x * nth c 0 + pev (c.drop 1) p) + (y * nth c 0 + pev (c.drop 1) q)
    rw [pev_add p q, Nat.add_mul, Nat.add_add_add_comm]
theorem pev_mul (k : Nat) : ∀ (p c : List Nat), pev c (p.map (k * ·)) = k * pev c p
  | [], c => rfl
  | x :: p, c => by
    show k * x * nth c 0 + pev (c.drop 1) (p.map (k * ·)) = k * (x * nth c 0 + pev (c.drop 1) p)
    rw [pev_mul k p, Nat.mul_add, Nat.mul_assoc]
theorem pev_unit : ∀ (i : Nat) (c : List Nat), pev c (unit i) = nth c i
  | 0, c => Nat.one_mul _
  | i + 1, c => by
    show 0 * nth c 0 + pev (c.drop 1) (unit i) = nth c (i + 1)
    rw [pev_unit i, Nat.zero_mul, Nat.zero_add, nth_drop]
theorem pev_le : ∀ (p q c : List Nat), ple p q = true → pev c p ≤ pev c q
  | [], _, _, _ => Nat.zero_le _
  | x :: p, [], c, h => by
    have h := (Bool.and_eq_true _ _).mp h
    have h1 : x = 0 := Nat.le_zero.mp (Nat.le_of_ble_eq_true h.1)
    show x * nth c 0 + pev (c.drop 1) p ≤ 0
    rw [h1, Nat.zero_mul, Nat.zero_add]
    exact pev_le p [] _ h.2
  | x :: p, y :: q, c, h =>
    have h := (Bool.and_eq_true _ _).mp h
    Nat.add_le_add (Nat.mul_le_mul_right _ (Nat.le_of_ble_eq_true h.1)) (pev_le p q _ h.2)
theorem pol_ev (c : List Nat) : ∀ e : LE, pev (1 :: c) e.pol = e.den c
  | .v i => (Nat.zero_add _ ▸ pev_unit i c : 0 * 1 + pev c (unit i) = nth c i)
  | .n k => Nat.mul_one k
  | .a x y => (pev_add _ _ _).trans (congr (congrArg _ (pol_ev c x)) (pol_ev c y))
  | .m k x => (pev_mul k _ _).trans (congrArg _ (pol_ev c x))
noncomputable def Cn.den (c : List Nat) : Cn → Prop
  | .le x y => x.den c ≤ y.den c
  | .lt x y => x.den c < y.den c
  | .eq x y => x.den c = y.den c
  | .nle x y => ¬ x.den c ≤ y.den c
  | .nlt x y => ¬ x.den c < y.den c
/-- what a fact bounds, and by what; an equation also the other way round -/
noncomputable def Cn.lr (f : Bool) : Cn → LE × LE
  | .le x y => (x, y)
  | .lt x y => (.a x (.n 1), y)
  | .eq x y => bif f then (y, x) else (x, y)
  | .nle x y => (.a y (.n 1), x)
  | .nlt x y => (y, x)
theorem Cn.ok (c : List Nat) (f : Bool) : ∀ g : Cn, g.den c → (g.lr f).1.den c ≤ (g.lr f).2.den c
  | .le _ _, h => h
  | .lt _ _, h => h
  | .eq _ _, h => match f with
    | false => Nat.le_of_eq h
    | true => Nat.le_of_eq (Eq.symm h)
  | .nle _ _, h => Nat.not_le.mp h
  | .nlt _ _, h => Nat.not_lt.mp h
noncomputable def Cn.all (c : List Nat) (P : Prop) : List Cn → Prop
  | [] => P
  | h :: hs => h.den c → Cn.all c P hs
/-- x and so many times each fact's upper side; y and so many times its lower side -/
noncomputable def sums : List Cn → List Nat → LE → LE → LE × LE
  | [], _, x, y => (x, y)
  | _ :: _, [], x, y => (x, y)
  | h :: hs, k :: ks, x, y => sums hs ks (.a x (.m (k / 2) (h.lr (k % 2 == 1)).2)) (.a y (.m (k / 2) (h.lr (k % 2 == 1)).1))
theorem Cn.mono (c : List Nat) {P Q : Prop} (h : P → Q) : ∀ hs : List Cn, Cn.all c P hs → Cn.all c Q hs
  | [], a => h a
  | _ :: hs, a => fun d => Cn.mono c h hs (a d)
theorem Cn.triv (c : List Nat) {P : Prop} (h : P) : ∀ hs : List Cn, Cn.all c P hs
  | [] => h
  | _ :: hs => fun _ => Cn.triv c h hs
theorem lin_sums (c : List Nat) : ∀ (hs : List Cn) (ks : List Nat) (x y : LE), (sums hs ks x y).1.den c ≤ (sums hs ks x y).2.den c → Cn.all c (x.den c ≤ y.den c) hs
  | [], _, _, _, h => h
  | _ :: hs, [], _, _, h => fun _ => Cn.triv c h hs
  | _ :: hs, _ :: ks, x, y, h => fun d => Cn.mono c (fun (q : x.den c + _ * _ ≤ y.den c + _ * _) => Nat.le_of_add_le_add_right (Nat.le_trans q (Nat.add_le_add_left (Nat.mul_le_mul_left _ (Cn.ok c _ _ d)) _))) hs (lin_sums c hs ks _ _ h)
noncomputable def chk (hs : List Cn) (ks : List Nat) (p : LE × LE) : Bool := ple (sums hs ks p.1 p.2).1.pol (sums hs ks p.1 p.2).2.pol
theorem lin_chk (c : List Nat) (hs : List Cn) (ks : List Nat) (p : LE × LE) (h : chk hs ks p = true) : Cn.all c (p.1.den c ≤ p.2.den c) hs :=
  lin_sums c hs ks _ _ (pol_ev c (sums hs ks p.1 p.2).1 ▸ pol_ev c (sums hs ks p.1 p.2).2 ▸ pev_le _ _ _ h)
noncomputable def Cn.goal : Cn → LE × LE
  | .le x y => (x, y)
  | .lt x y => (.a x (.n 1), y)
  | .eq x y => (x, y)
  | .nle x y => (.a y (.n 1), x)
  | .nlt x y => (y, x)
theorem lin (c : List Nat) (hs : List Cn) (x y : LE) (ks : List Nat) (h : chk hs ks (x, y) = true) : Cn.all c (x.den c ≤ y.den c) hs := lin_chk c hs ks (x, y) h
theorem linT (c : List Nat) (hs : List Cn) (x y : LE) (ks : List Nat) (h : chk hs ks (.a x (.n 1), y) = true) : Cn.all c (x.den c < y.den c) hs := lin_chk c hs ks (.a x (.n 1), y) h
theorem linE (c : List Nat) (hs : List Cn) (x y : LE) (ks js : List Nat) (h : chk hs ks (x, y) = true) (h' : chk hs js (y, x) = true) : Cn.all c (x.den c = y.den c) hs :=
  have : ∀ hs : List Cn, Cn.all c (x.den c ≤ y.den c) hs → Cn.all c (y.den c ≤ x.den c) hs → Cn.all c (x.den c = y.den c) hs := fun hs => hs.rec Nat.le_antisymm fun _ _ ih a b d => ih (a d) (b d)
  this hs (lin_chk c hs ks (x, y) h) (lin_chk c hs js (y, x) h')
theorem i63 {a : Nat} (h : a ≤ 1048576) : (a : Int) < 2 ^ 63 := Int.lt_of_le_of_lt (Int.ofNat_le.mpr h : (a : Int) ≤ ((1048576 : Nat) : Int)) (by decide)
theorem om_3 : ∀ (a1 a2 : Nat), a1 < a2 → a2 - (1 : Nat) - a1 + a1 + (1 : Nat) = a2 := fun a b h => (congrArg (· + 1) (Nat.sub_add_cancel (Nat.le_sub_one_of_lt h))).trans (Nat.sub_add_cancel (Nat.lt_of_le_of_lt (Nat.zero_le _) h))
theorem om_136 : ∀ (a1 : Nat), a1 < (3 : Nat) → a1 = (0 : Nat) ∨ a1 = (1 : Nat) ∨ a1 = (2 : Nat) := by decide
theorem om_154 : ∀ (a1 : Nat), a1 < (2 : Nat) → a1 = (0 : Nat) ∨ a1 = (1 : Nat) := by decide
theorem om_197 : ∀ (a1 : Nat), a1 < (4 : Nat) → a1 = (0 : Nat) ∨ a1 = (1 : Nat) ∨ a1 = (2 : Nat) ∨ a1 = (3 : Nat) := by decide
theorem om_1 : ∀ (a1 : Nat), a1 ≤ (3 : Nat) → a1 ≤ (1048576 : Nat) := fun a1 => lin [a1] [.le (.v 0) (.n 3)] (.v 0) (.n 1048576) [2] rfl
theorem om_2 : ∀ (a1 a2 : Nat), a1 < a2 → (↑a2 : Int) - (1 : Int) + (↑a1 : Int) * (-1 : Int) = (↑(a2 - (1 : Nat) - a1) : Int) := by intros; omega
theorem om_4 : ∀ (a1 a2 a3 : Nat), a1 + a2 + (1 : Nat) = a3 → (↑a1 : Int) + (1 : Int) ≤ (↑a3 : Int) := fun a b c h => (Int.ofNat_le.mpr ((lin [a, b, c] [.eq (.a (.a (.v 0) (.v 1)) (.n 1)) (.v 2)] (.a (.v 0) (.n 1)) (.v 2) [2] rfl) h) : ((a + 1 : Nat) : Int) ≤ c)
theorem om_5 : ∀ (a1 : Nat), (0 : Int) ≤ (↑a1 : Int) + (1 : Int) := fun a => Int.natCast_nonneg (a + 1)
theorem om_6 : ∀ (a1 : Nat), a1 ≤ (3 : Nat) → (↑a1 : Int) ≤ (1048576 : Int) := fun a h => (Int.ofNat_le.mpr (Nat.le_trans h (by decide)) : (a : Int) ≤ ((1048576 : Nat) : Int))
theorem om_7 : ∀ (a1 a2 a3 : Nat), a1 + a2 + (1 : Nat) = a3 → (↑a3 : Int) - ((↑a1 : Int) + (1 : Int)) = (↑a2 : Int) := fun a b c h => Int.sub_eq_iff_eq_add.mpr (congrArg Int.ofNat ((linE [a, b, c] [.eq (.a (.a (.v 0) (.v 1)) (.n 1)) (.v 2)] (.v 2) (.a (.v 1) (.a (.v 0) (.n 1))) [3] [2] rfl rfl) h) : (c : Int) = ((b + (a + 1) : Nat) : Int))
theorem om_8 : ∀ (a1 a2 : Nat), (↑a1 : Int) + (1 : Int) + (↑a2 : Int) * (1 : Int) = (↑(a1 + (1 : Nat) + a2) : Int) := fun a b => (congrArg (fun x => (a : Int) + 1 + x) (Int.mul_one _))
theorem om_9 : ∀ (a1 a2 a3 : Nat), a1 + a2 + (1 : Nat) = a3 → a2 ≤ a3 := fun a1 a2 a3 => lin [a1, a2, a3] [.eq (.a (.a (.v 0) (.v 1)) (.n 1)) (.v 2)] (.v 1) (.v 2) [2] rfl
theorem om_10 : ∀ (a1 a2 a3 a4 : Nat), a1 + a2 + (1 : Nat) = a3 → a4 < a2 → a1 + (1 : Nat) + a4 ≤ a3 := fun a1 a2 a3 a4 => lin [a1, a2, a3, a4] [.eq (.a (.a (.v 0) (.v 1)) (.n 1)) (.v 2), .lt (.v 3) (.v 1)] (.a (.a (.v 0) (.n 1)) (.v 3)) (.v 2) [2, 2] rfl
theorem om_11 : ∀ (a1 a2 a3 : Nat), a1 ≤ (3 : Nat) → a2 + a3 + (1 : Nat) = a1 → a3 = (0 : Nat) ∨ a3 = (1 : Nat) ∨ a3 = (2 : Nat) := fun a b c h1 h2 => om_136 c ((linT [a, b, c] [.le (.v 0) (.n 3), .eq (.a (.a (.v 1) (.v 2)) (.n 1)) (.v 0)] (.v 2) (.n 3) [2, 2] rfl) h1 h2)
theorem om_12 : ∀ (a1 a2 : Nat), (2 : Nat) * ((2 : Nat) * a1 + a2 + (1 : Nat)) + a2 + (1 : Nat) ≤ (4 : Nat) * a1 + (3 : Nat) * (a2 + (1 : Nat)) := fun a1 a2 => lin [a1, a2] [] (.a (.a (.m 2 (.a (.a (.m 2 (.v 0)) (.v 1)) (.n 1))) (.v 1)) (.n 1)) (.a (.m 4 (.v 0)) (.m 3 (.a (.v 1) (.n 1)))) [] rfl
theorem om_13 : ∀ (a1 a2 a3 : Nat), a1 + (1 : Nat) + a2 = a3 → a1 < a3 := fun a1 a2 a3 => linT [a1, a2, a3] [.eq (.a (.a (.v 0) (.n 1)) (.v 1)) (.v 2)] (.v 0) (.v 2) [2] rfl
theorem om_14 : ∀ (a1 a2 a3 a4 a5 : Nat), a1 + a2 + (1 : Nat) = a3 → a4 < a2 → a1 + (1 : Nat) + a4 = a5 → a5 < a3 := fun a1 a2 a3 a4 a5 => linT [a1, a2, a3, a4, a5] [.eq (.a (.a (.v 0) (.v 1)) (.n 1)) (.v 2), .lt (.v 3) (.v 1), .eq (.a (.a (.v 0) (.n 1)) (.v 3)) (.v 4)] (.v 4) (.v 2) [2, 2, 3] rfl
theorem om_15 : ∀ (a1 a2 a3 a4 a5 a6 : Nat), a1 = a2 → a3 + a4 + (1 : Nat) = a2 → a5 < a4 → a3 + (1 : Nat) + a5 = a6 → a6 < a1 := fun a1 a2 a3 a4 a5 a6 => linT [a1, a2, a3, a4, a5, a6] [.eq (.v 0) (.v 1), .eq (.a (.a (.v 2) (.v 3)) (.n 1)) (.v 1), .lt (.v 4) (.v 3), .eq (.a (.a (.v 2) (.n 1)) (.v 4)) (.v 5)] (.v 5) (.v 0) [3, 2, 2, 3] rfl
theorem om_16 : ∀ (a1 a2 a3 a4 : Nat), a1 + a2 + (1 : Nat) = a3 → a4 = a3 → a1 < a4 := fun a1 a2 a3 a4 => linT [a1, a2, a3, a4] [.eq (.a (.a (.v 0) (.v 1)) (.n 1)) (.v 2), .eq (.v 3) (.v 2)] (.v 0) (.v 3) [2, 3] rfl
theorem om_17 : ∀ (a1 a2 a3 a4 a5 a6 : Nat), a1 + a2 + (1 : Nat) = a3 → a4 < a2 → a1 + (1 : Nat) + a4 = a5 → a6 = a3 → a5 < a6 := fun a1 a2 a3 a4 a5 a6 => linT [a1, a2, a3, a4, a5, a6] [.eq (.a (.a (.v 0) (.v 1)) (.n 1)) (.v 2), .lt (.v 3) (.v 1), .eq (.a (.a (.v 0) (.n 1)) (.v 3)) (.v 4), .eq (.v 5) (.v 2)] (.v 4) (.v 5) [2, 2, 3, 3] rfl
theorem om_18 : ∀ (a1 a2 a3 : Nat), a1 = a2 → a3 < a1 → a3 < a2 := fun a1 a2 a3 => linT [a1, a2, a3] [.eq (.v 0) (.v 1), .lt (.v 2) (.v 0)] (.v 2) (.v 1) [2, 2] rfl
theorem om_19 : ∀ (a1 a2 a3 a4 : Nat), a1 + (1 : Nat) + a2 = a3 → a4 = a3 → a1 < a4 := fun a1 a2 a3 a4 => linT [a1, a2, a3, a4] [.eq (.a (.a (.v 0) (.n 1)) (.v 1)) (.v 2), .eq (.v 3) (.v 2)] (.v 0) (.v 3) [2, 3] rfl
theorem om_20 : ∀ (a1 : Nat), a1 + (1 : Nat) + (1 : Nat) ≠ a1 + (1 : Nat) := fun a => Nat.succ_ne_self _
theorem om_21 : ∀ (a1 a2 : Nat), a1 ≤ (3 : Nat) → a2 ≤ a1 → a2 ≤ (1048576 : Nat) := fun a1 a2 => lin [a1, a2] [.le (.v 0) (.n 3), .le (.v 1) (.v 0)] (.v 1) (.n 1048576) [2, 2] rfl
theorem om_22 : ∀ (a1 : Nat), (0 : Int) + (↑a1 : Int) * (1 : Int) = (↑a1 : Int) := fun a => (Int.zero_add _).trans (Int.mul_one _)
theorem om_23 : ∀ (a1 a2 : Nat), a1 < a2 → a1 ≤ a2 := fun a1 a2 => lin [a1, a2] [.lt (.v 0) (.v 1)] (.v 0) (.v 1) [2] rfl
theorem om_24 : ∀ (a1 a2 a3 : Nat), a1 = a2 → a3 < a2 → a3 < a1 := fun a1 a2 a3 => linT [a1, a2, a3] [.eq (.v 0) (.v 1), .lt (.v 2) (.v 1)] (.v 2) (.v 0) [3, 2] rfl
theorem om_25 : ∀ (a1 a2 a3 : Nat), a1 ≤ (3 : Nat) → a2 ≤ a1 → a3 < a2 → a3 ≤ (2 : Nat) := fun a1 a2 a3 => lin [a1, a2, a3] [.le (.v 0) (.n 3), .le (.v 1) (.v 0), .lt (.v 2) (.v 1)] (.v 2) (.n 2) [2, 2, 2] rfl
theorem om_26 : ∀ (a1 a2 : Nat), a1 ≤ (5 : Nat) → a2 = a1 → a2 ≤ (5 : Nat) := fun a1 a2 => lin [a1, a2] [.le (.v 0) (.n 5), .eq (.v 1) (.v 0)] (.v 1) (.n 5) [2, 2] rfl
theorem om_27 : ∀ (a1 a2 a3 : Nat), a1 ≤ (3 : Nat) → a2 ≤ a1 → a3 = a2 → a3 ≤ (3 : Nat) := fun a1 a2 a3 => lin [a1, a2, a3] [.le (.v 0) (.n 3), .le (.v 1) (.v 0), .eq (.v 2) (.v 1)] (.v 2) (.n 3) [2, 2, 2] rfl
theorem om_28 : ∀ (a1 a2 : Nat), a1 ≤ (3 : Nat) → a2 ≤ a1 → a2 ≤ (3 : Nat) := fun a1 a2 => lin [a1, a2] [.le (.v 0) (.n 3), .le (.v 1) (.v 0)] (.v 1) (.n 3) [2, 2] rfl
theorem om_29 : (8 : Nat) * (35032 : Nat) + (8 : Nat) * (35032 : Nat) + (8 : Nat) ≤ (16777216 : Nat) := lin [] [] (.a (.a (.m 8 (.n 35032)) (.m 8 (.n 35032))) (.n 8)) (.n 16777216) [] rfl
theorem om_30 : ∀ (a1 a2 a3 : Nat), a1 ≤ (5 : Nat) → a2 = a1 → a3 = a2 → a3 ≤ (1048576 : Nat) := fun a1 a2 a3 => lin [a1, a2, a3] [.le (.v 0) (.n 5), .eq (.v 1) (.v 0), .eq (.v 2) (.v 1)] (.v 2) (.n 1048576) [2, 2, 2] rfl
theorem om_31 : ∀ (a1 a2 a3 : Nat), a1 ≤ (5 : Nat) → a2 = a1 → a3 = a2 → a3 ≤ (5 : Nat) := fun a1 a2 a3 => lin [a1, a2, a3] [.le (.v 0) (.n 5), .eq (.v 1) (.v 0), .eq (.v 2) (.v 1)] (.v 2) (.n 5) [2, 2, 2] rfl
theorem om_32 : ∀ (a1 a2 a3 a4 : Nat), a1 = a2 → a3 = a2 → a4 < a1 → a4 < a3 := fun a1 a2 a3 a4 => linT [a1, a2, a3, a4] [.eq (.v 0) (.v 1), .eq (.v 2) (.v 1), .lt (.v 3) (.v 0)] (.v 3) (.v 2) [2, 3, 2] rfl
theorem om_33 : ∀ (a1 a2 a3 : Nat), a1 = a2 → a3 = a2 → a1 = a3 := fun a1 a2 a3 => linE [a1, a2, a3] [.eq (.v 0) (.v 1), .eq (.v 2) (.v 1)] (.v 0) (.v 2) [2, 3] [3, 2] rfl rfl
theorem om_34 : ∀ (a1 a2 : Nat), a1 = a2 → a2 ≤ a1 := fun a1 a2 => lin [a1, a2] [.eq (.v 0) (.v 1)] (.v 1) (.v 0) [3] rfl
theorem om_35 : ∀ (a1 a2 : Nat), a1 ≤ (3 : Nat) → a2 = a1 → a2 ≤ (1048576 : Nat) := fun a1 a2 => lin [a1, a2] [.le (.v 0) (.n 3), .eq (.v 1) (.v 0)] (.v 1) (.n 1048576) [2, 2] rfl
theorem om_36 : ∀ (a1 a2 a3 : Nat), a1 = a2 → a3 < a1 → a3 ≤ a2 := fun a1 a2 a3 => lin [a1, a2, a3] [.eq (.v 0) (.v 1), .lt (.v 2) (.v 0)] (.v 2) (.v 1) [2, 2] rfl
theorem om_37 : ∀ (a1 a2 a3 a4 a5 : Nat), a1 ≤ (3 : Nat) → a2 = a1 → a3 < a2 → a4 ≤ a3 → a5 = a4 → a5 ≤ (1048576 : Nat) := fun a1 a2 a3 a4 a5 => lin [a1, a2, a3, a4, a5] [.le (.v 0) (.n 3), .eq (.v 1) (.v 0), .lt (.v 2) (.v 1), .le (.v 3) (.v 2), .eq (.v 4) (.v 3)] (.v 4) (.n 1048576) [2, 2, 2, 2, 2] rfl
theorem om_38 : ∀ (a1 a2 a3 a4 a5 : Nat), a1 ≤ (3 : Nat) → a2 = a1 → a3 < a2 → a4 ≤ a3 → a5 < a4 → a5 ≤ (2 : Nat) := fun a1 a2 a3 a4 a5 => lin [a1, a2, a3, a4, a5] [.le (.v 0) (.n 3), .eq (.v 1) (.v 0), .lt (.v 2) (.v 1), .le (.v 3) (.v 2), .lt (.v 4) (.v 3)] (.v 4) (.n 2) [2, 2, 2, 2, 2] rfl
theorem om_39 : ∀ (a1 a2 : Nat), a1 = a2 → a1 ≤ a2 := fun a1 a2 => lin [a1, a2] [.eq (.v 0) (.v 1)] (.v 0) (.v 1) [2] rfl
theorem om_40 : ∀ (a1 a2 a3 a4 a5 : Nat), a1 ≤ (3 : Nat) → a2 = a1 → a3 < a2 → a4 ≤ a3 → a5 = a4 → a5 ≤ (2 : Nat) := fun a1 a2 a3 a4 a5 => lin [a1, a2, a3, a4, a5] [.le (.v 0) (.n 3), .eq (.v 1) (.v 0), .lt (.v 2) (.v 1), .le (.v 3) (.v 2), .eq (.v 4) (.v 3)] (.v 4) (.n 2) [2, 2, 2, 2, 2] rfl
theorem om_41 : ∀ (a1 : Int), (0 : Int) ≤ a1 → -(2 : Int) ^ (64 : Nat) < a1 := fun a h => Int.lt_of_lt_of_le (by decide) h
theorem om_42 : ∀ (a1 : Int), a1 < (2147483563 : Int) → a1 < (2 : Int) ^ (64 : Nat) := fun a h => Int.lt_trans h (by decide)
theorem om_43 : (0 : Int) ≤ (11 : Int) := by decide
theorem om_44 : ∀ (a1 : Nat), (0 : Int) ≤ (↑a1 : Int) := fun a => Int.natCast_nonneg a
theorem om_45 : ∀ (a1 : Int), a1 < (2147483563 : Int) → a1 < (2147483648 : Int) := fun a h => Int.lt_trans h (by decide)
theorem om_46 : ∀ (a1 : Nat), (0 : Nat) < a1 → (0 : Int) < (↑a1 : Int) := fun a h => Int.natCast_pos.mpr h
theorem om_47 : ∀ (a1 : Nat), a1 + (1 : Nat) ≤ (64 : Nat) → a1 ≤ (64 : Nat) := fun a1 => lin [a1] [.le (.a (.v 0) (.n 1)) (.n 64)] (.v 0) (.n 64) [2] rfl
theorem om_48 : ∀ (a1 : Int), ¬(0 : Int) ≤ a1 → (0 : Int) ≤ -a1 := fun a h => Int.neg_nonneg_of_nonpos (Int.le_of_lt (Int.not_le.mp h))
theorem om_49 : ∀ (a1 : Nat), a1 ≤ (5 : Nat) → a1 ≤ (64 : Nat) := fun a1 => lin [a1] [.le (.v 0) (.n 5)] (.v 0) (.n 64) [2] rfl
theorem om_50 : ∀ (a1 a2 : Nat), a1 ≤ (3 : Nat) → a2 = a1 → a2 ≤ (3 : Nat) := fun a1 a2 => lin [a1, a2] [.le (.v 0) (.n 3), .eq (.v 1) (.v 0)] (.v 1) (.n 3) [2, 2] rfl
theorem om_51 : ∀ (a1 a2 : Nat), a1 ≤ (5 : Nat) → a2 < a1 → (↑a2 : Int) < (2 : Int) ^ (63 : Nat) := fun a b h1 h2 => i63 ((lin [a, b] [.le (.v 0) (.n 5), .lt (.v 1) (.v 0)] (.v 1) (.n 1048576) [2, 2] rfl) h1 h2)
theorem om_52 : ∀ (a1 a2 a3 : Nat), a1 ≤ (3 : Nat) → a2 = a3 → a3 ≤ a1 → a2 ≤ (64 : Nat) := fun a1 a2 a3 => lin [a1, a2, a3] [.le (.v 0) (.n 3), .eq (.v 1) (.v 2), .le (.v 2) (.v 0)] (.v 1) (.n 64) [2, 2, 2] rfl
theorem om_53 : ∀ (a1 a2 : Nat), a1 ≤ (3 : Nat) → a2 ≤ a1 → a2 ≤ (5 : Nat) := fun a1 a2 => lin [a1, a2] [.le (.v 0) (.n 3), .le (.v 1) (.v 0)] (.v 1) (.n 5) [2, 2] rfl
theorem om_54 : (3 : Nat) + (8000000 : Nat) ≤ (8000100 : Nat) := lin [] [] (.a (.n 3) (.n 8000000)) (.n 8000100) [] rfl
theorem om_55 : (38539 : Nat) ≤ (90000000 : Nat) := lin [] [] (.n 38539) (.n 90000000) [] rfl
theorem om_56 : (38535 : Nat) ≤ (38539 : Nat) := lin [] [] (.n 38535) (.n 38539) [] rfl
theorem om_57 : (38539 : Nat) + (3 : Nat) ≤ (8000100 : Nat) := lin [] [] (.a (.n 38539) (.n 3)) (.n 8000100) [] rfl
theorem om_58 : (3 : Nat) ≤ (90000000 : Nat) := lin [] [] (.n 3) (.n 90000000) [] rfl
theorem om_59 : ∀ (a1 a2 : Nat), a1 ≤ (5 : Nat) → a2 = a1 → a2 ≤ (1048576 : Nat) := fun a1 a2 => lin [a1, a2] [.le (.v 0) (.n 5), .eq (.v 1) (.v 0)] (.v 1) (.n 1048576) [2, 2] rfl
theorem om_60 : ∀ (a1 a2 a3 a4 : Nat), a1 = a2 → a3 = a1 → a4 < a3 → a4 < a2 := fun a1 a2 a3 a4 => linT [a1, a2, a3, a4] [.eq (.v 0) (.v 1), .eq (.v 2) (.v 0), .lt (.v 3) (.v 2)] (.v 3) (.v 1) [2, 2, 2] rfl
theorem om_61 : ∀ (a1 a2 a3 : Nat), a1 = a2 → a3 = a1 → a2 ≤ a3 := fun a1 a2 a3 => lin [a1, a2, a3] [.eq (.v 0) (.v 1), .eq (.v 2) (.v 0)] (.v 1) (.v 2) [3, 3] rfl
theorem om_62 : ∀ (a1 a2 a3 a4 : Nat), a1 = a2 → a2 ≤ (3 : Nat) → a3 = a4 → a4 = a1 → a3 ≤ (64 : Nat) := fun a1 a2 a3 a4 => lin [a1, a2, a3, a4] [.eq (.v 0) (.v 1), .le (.v 1) (.n 3), .eq (.v 2) (.v 3), .eq (.v 3) (.v 0)] (.v 2) (.n 64) [2, 2, 2, 2] rfl
theorem om_63 : ∀ (a1 : Nat), a1 ≤ (64 : Nat) → a1 ≤ (64 : Nat) := fun a1 => lin [a1] [.le (.v 0) (.n 64)] (.v 0) (.n 64) [2] rfl
theorem om_64 : ∀ (a1 a2 a3 : Nat), a1 ≤ (5 : Nat) → a2 = a3 → a3 = a1 → a2 ≤ (64 : Nat) := fun a1 a2 a3 => lin [a1, a2, a3] [.le (.v 0) (.n 5), .eq (.v 1) (.v 2), .eq (.v 2) (.v 0)] (.v 1) (.n 64) [2, 2, 2] rfl
theorem om_65 : ∀ (a1 a2 a3 : Nat), a1 ≤ (5 : Nat) → a2 = a1 → a3 = a2 → a3 ≤ (64 : Nat) := fun a1 a2 a3 => lin [a1, a2, a3] [.le (.v 0) (.n 5), .eq (.v 1) (.v 0), .eq (.v 2) (.v 1)] (.v 2) (.n 64) [2, 2, 2] rfl
theorem om_66 : ∀ (a1 a2 : Nat), a1 = a2 → a2 ≤ (3 : Nat) → a1 ≤ (3 : Nat) := fun a1 a2 => lin [a1, a2] [.eq (.v 0) (.v 1), .le (.v 1) (.n 3)] (.v 0) (.n 3) [2, 2] rfl
theorem om_67 : ∀ (a1 a2 a3 : Nat), a1 = a2 → a2 ≤ (3 : Nat) → a3 = a1 → a3 ≤ (1048576 : Nat) := fun a1 a2 a3 => lin [a1, a2, a3] [.eq (.v 0) (.v 1), .le (.v 1) (.n 3), .eq (.v 2) (.v 0)] (.v 2) (.n 1048576) [2, 2, 2] rfl
theorem om_68 : ∀ (a1 a2 a3 : Nat), a1 = a2 → a2 ≤ (3 : Nat) → a3 = a1 → a3 ≤ (3 : Nat) := fun a1 a2 a3 => lin [a1, a2, a3] [.eq (.v 0) (.v 1), .le (.v 1) (.n 3), .eq (.v 2) (.v 0)] (.v 2) (.n 3) [2, 2, 2] rfl
theorem om_69 : ∀ (a1 a2 a3 a4 : Nat), a1 = a2 → a2 ≤ (3 : Nat) → a3 = a1 → a4 < a3 → a4 < (3 : Nat) := fun a1 a2 a3 a4 => linT [a1, a2, a3, a4] [.eq (.v 0) (.v 1), .le (.v 1) (.n 3), .eq (.v 2) (.v 0), .lt (.v 3) (.v 2)] (.v 3) (.n 3) [2, 2, 2, 2] rfl
theorem om_70 : ∀ (a1 : Nat), a1 + (1 : Nat) ≠ a1 + (1 : Nat) + (1 : Nat) := fun a => (Nat.succ_ne_self _).symm
theorem om_71 : ∀ (a1 : Nat), a1 + (1 : Nat) ≠ a1 + (1 : Nat) + (1 : Nat) + (1 : Nat) := fun a => Nat.ne_of_lt (linT [a] [] (.a (.v 0) (.n 1)) (.a (.a (.a (.v 0) (.n 1)) (.n 1)) (.n 1)) [] rfl)
theorem om_72 : ∀ (a1 : Nat), a1 + (1 : Nat) + (1 : Nat) ≠ a1 + (1 : Nat) + (1 : Nat) + (1 : Nat) := fun a => Nat.ne_of_lt (linT [a] [] (.a (.a (.v 0) (.n 1)) (.n 1)) (.a (.a (.a (.v 0) (.n 1)) (.n 1)) (.n 1)) [] rfl)
theorem om_73 : ∀ (a1 a2 : Nat), a1 = a2 → a2 ≤ (15 : Nat) → a1 ≤ (15 : Nat) := fun a1 a2 => lin [a1, a2] [.eq (.v 0) (.v 1), .le (.v 1) (.n 15)] (.v 0) (.n 15) [2, 2] rfl
theorem om_74 : ∀ (a1 : Nat), a1 ≤ (3 : Nat) → a1 ≤ (3 : Nat) := fun a1 => lin [a1] [.le (.v 0) (.n 3)] (.v 0) (.n 3) [2] rfl
theorem om_75 : ∀ (a1 a2 : Nat), a1 ≤ (3 : Nat) → a2 < a1 → a2 ≤ (65 : Nat) := fun a1 a2 => lin [a1, a2] [.le (.v 0) (.n 3), .lt (.v 1) (.v 0)] (.v 1) (.n 65) [2, 2] rfl
theorem om_76 : ∀ (a1 a2 : Nat), a1 ≤ (3 : Nat) → a2 < a1 → a2 ≤ (64 : Nat) := fun a1 a2 => lin [a1, a2] [.le (.v 0) (.n 3), .lt (.v 1) (.v 0)] (.v 1) (.n 64) [2, 2] rfl
theorem om_77 : ∀ (a1 a2 : Nat), a1 < a2 → a1 < a2 := fun a1 a2 => linT [a1, a2] [.lt (.v 0) (.v 1)] (.v 0) (.v 1) [2] rfl
theorem om_78 : ∀ (a1 a2 a3 a4 : Nat), a1 = a2 → a3 + a4 ≤ a2 → a3 + a4 ≤ a1 := fun a1 a2 a3 a4 => lin [a1, a2, a3, a4] [.eq (.v 0) (.v 1), .le (.a (.v 2) (.v 3)) (.v 1)] (.a (.v 2) (.v 3)) (.v 0) [3, 2] rfl
theorem om_79 : ∀ (a1 : Nat), a1 + (4 : Nat) + (100 : Nat) < PySem.recursionLimit → a1 + (1 : Nat) < PySem.recursionLimit := fun a h => Nat.lt_of_le_of_lt (lin [a] [] (.a (.v 0) (.n 1)) (.a (.a (.v 0) (.n 4)) (.n 100)) [] rfl) h
theorem om_80 : ∀ (a1 : Nat), a1 < (4 : Nat) → (↑a1 : Int) < (2 : Int) ^ (63 : Nat) := fun a h => i63 ((lin [a] [.lt (.v 0) (.n 4)] (.v 0) (.n 1048576) [2] rfl) h)
theorem om_81 : ∀ (a1 a2 : Nat), a1 < (4 : Nat) → a2 = (4 : Nat) → a1 < a2 := fun a1 a2 => linT [a1, a2] [.lt (.v 0) (.n 4), .eq (.v 1) (.n 4)] (.v 0) (.v 1) [2, 3] rfl
theorem om_82 : ∀ (a1 : Nat), a1 = (4 : Nat) → a1 ≤ (64 : Nat) := fun a1 => lin [a1] [.eq (.v 0) (.n 4)] (.v 0) (.n 64) [2] rfl
theorem om_85 : ∀ (a1 a2 : Nat), a1 = a2 → ¬a2 ≤ (1 : Nat) → (2 : Nat) ≤ a1 := fun a1 a2 => lin [a1, a2] [.eq (.v 0) (.v 1), .nle (.v 1) (.n 1)] (.n 2) (.v 0) [3, 2] rfl
theorem om_86 : ∀ (a1 a2 a3 : Nat), ¬a1 ≤ (1 : Nat) → a2 = a1 → a3 = a2 → (2 : Nat) ≤ a3 := fun a1 a2 a3 => lin [a1, a2, a3] [.nle (.v 0) (.n 1), .eq (.v 1) (.v 0), .eq (.v 2) (.v 1)] (.n 2) (.v 2) [2, 3, 3] rfl
theorem om_87 : ∀ (a1 : Nat), (0 : Int) < (↑(a1 + (1 : Nat) + (1 : Nat)) : Int) := fun a => Int.natCast_pos.mpr (Nat.succ_pos _)
theorem om_88 : ∀ (a1 : Nat), (1 : Int) < (↑(a1 + (1 : Nat) + (1 : Nat)) : Int) := fun a => (Int.ofNat_lt.mpr (Nat.succ_lt_succ (Nat.succ_pos _)) : ((1 : Nat) : Int) < ((a + 1 + 1 : Nat) : Int))
theorem om_89 : ∀ (a1 a2 : Nat), a1 + (1 : Nat) ≤ a2 → a1 ≤ a2 := fun a1 a2 => lin [a1, a2] [.le (.a (.v 0) (.n 1)) (.v 1)] (.v 0) (.v 1) [2] rfl
theorem om_90 : ∀ (a1 a2 : Nat), a1 + (1 : Nat) ≤ a2 → a1 < a2 := fun a1 a2 => linT [a1, a2] [.le (.a (.v 0) (.n 1)) (.v 1)] (.v 0) (.v 1) [2] rfl
theorem om_91 : ∀ (a1 : Nat), (10 : Nat) * a1 + (6 : Nat) + ((10 : Nat) * a1 + (6 : Nat)) ≤ (20 : Nat) * a1 + (12 : Nat) := fun a1 => lin [a1] [] (.a (.a (.m 10 (.v 0)) (.n 6)) (.a (.m 10 (.v 0)) (.n 6))) (.a (.m 20 (.v 0)) (.n 12)) [] rfl
theorem om_92 : ∀ (a1 : Nat), a1 + ((20 : Nat) * a1 + (12 : Nat) + a1) + (1 : Nat) ≤ (22 : Nat) * a1 + (13 : Nat) := fun a1 => lin [a1] [] (.a (.a (.v 0) (.a (.a (.m 20 (.v 0)) (.n 12)) (.v 0))) (.n 1)) (.a (.m 22 (.v 0)) (.n 13)) [] rfl
theorem om_93 : ∀ (a1 a2 a3 : Nat), a1 = a2 → ¬a3 < a1 → a3 - a1 = (0 : Nat) → a3 = a2 := fun a b c h1 h2 h3 => (Nat.le_antisymm (Nat.le_of_sub_eq_zero h3) (Nat.not_lt.mp h2)).trans h1
theorem om_94 : ∀ (a1 a2 : Nat), ¬a1 - a2 = (0 : Nat) → (1 : Nat) ≤ a1 - a2 := fun a b h => Nat.pos_of_ne_zero h
theorem om_95 : ∀ (a1 a2 : Nat), ¬a1 < a2 → a1 - a2 = (0 : Nat) → a1 = a2 := fun a b h1 h2 => Nat.le_antisymm (Nat.le_of_sub_eq_zero h2) (Nat.not_lt.mp h1)
theorem om_96 : ∀ (a1 a2 : Nat), a1 + (3 : Nat) ≤ (2 : Nat) → a2 ≤ (1751 : Nat) := fun a b h => absurd (Nat.le_trans (Nat.le_add_left 3 a) h) (by decide)
theorem om_97 : ∀ (a1 a2 a3 : Nat), a1 ≤ a2 → a1 ≤ (2 : Nat) * a2 + a3 + (1 : Nat) := fun a1 a2 a3 => lin [a1, a2, a3] [.le (.v 0) (.v 1)] (.v 0) (.a (.a (.m 2 (.v 1)) (.v 2)) (.n 1)) [2] rfl
theorem om_98 : ∀ (a1 a2 a3 : Nat), a1 + (1 : Nat) + (a2 + (1 : Nat)) ≤ a3 → a1 + (1 : Nat) + a2 ≤ a3 := fun a1 a2 a3 => lin [a1, a2, a3] [.le (.a (.a (.v 0) (.n 1)) (.a (.v 1) (.n 1))) (.v 2)] (.a (.a (.v 0) (.n 1)) (.v 1)) (.v 2) [2] rfl
theorem om_99 : ∀ (a1 a2 : Nat), a1 + a2 ≤ a1 + (a2 + (1 : Nat)) := fun a1 a2 => lin [a1, a2] [] (.a (.v 0) (.v 1)) (.a (.v 0) (.a (.v 1) (.n 1))) [] rfl
theorem om_100 : ∀ (a1 a2 a3 a4 a5 : Nat), a1 = a2 → a3 + (1 : Nat) + (a4 + (1 : Nat)) ≤ a2 → a5 = a1 → a3 < a5 := fun a1 a2 a3 a4 a5 => linT [a1, a2, a3, a4, a5] [.eq (.v 0) (.v 1), .le (.a (.a (.v 2) (.n 1)) (.a (.v 3) (.n 1))) (.v 1), .eq (.v 4) (.v 0)] (.v 2) (.v 4) [3, 2, 3] rfl
theorem om_101 : ∀ (a1 a2 : Nat), a1 < a1 + (1 : Nat) + a2 := fun a1 a2 => linT [a1, a2] [] (.v 0) (.a (.a (.v 0) (.n 1)) (.v 1)) [] rfl
theorem om_102 : ∀ (a1 a2 a3 : Nat), a1 + (1 : Nat) + (a2 + (1 : Nat)) ≤ a3 → a1 + (1 : Nat) + a2 < a3 := fun a1 a2 a3 => linT [a1, a2, a3] [.le (.a (.a (.v 0) (.n 1)) (.a (.v 1) (.n 1))) (.v 2)] (.a (.a (.v 0) (.n 1)) (.v 1)) (.v 2) [2] rfl
theorem om_103 : ∀ (a1 a2 a3 a4 a5 : Nat), a1 = a2 → a3 + (1 : Nat) + (a4 + (1 : Nat)) ≤ a2 → a5 = a1 → a3 + (1 : Nat) + a4 < a5 := fun a1 a2 a3 a4 a5 => linT [a1, a2, a3, a4, a5] [.eq (.v 0) (.v 1), .le (.a (.a (.v 2) (.n 1)) (.a (.v 3) (.n 1))) (.v 1), .eq (.v 4) (.v 0)] (.a (.a (.v 2) (.n 1)) (.v 3)) (.v 4) [3, 2, 3] rfl
theorem om_104 : ∀ (a1 a2 : Nat), a1 + (a2 + a1) + (1 : Nat) ≤ (2 : Nat) * a1 + a2 + (1 : Nat) := fun a1 a2 => lin [a1, a2] [] (.a (.a (.v 0) (.a (.v 1) (.v 0))) (.n 1)) (.a (.a (.m 2 (.v 0)) (.v 1)) (.n 1)) [] rfl
theorem om_105 : ∀ (a1 a2 : Nat), a1 + (1 : Nat) ≤ a2 → a2 - (1 : Nat) - a1 + (1 : Nat) + a1 ≤ a2 := fun a b h => Nat.le_of_eq ((Nat.add_right_comm _ _ _).trans (om_3 a b h))
theorem om_106 : ∀ (a1 a2 a3 : Nat), a1 = a2 → a3 = a2 → a3 = a1 := fun a1 a2 a3 => linE [a1, a2, a3] [.eq (.v 0) (.v 1), .eq (.v 2) (.v 1)] (.v 2) (.v 0) [3, 2] [2, 3] rfl rfl
theorem om_107 : ∀ (a1 a2 : Nat), a1 < a2 + (1 : Nat) → ¬a1 = a2 → a1 < a2 := fun a b h1 h2 => Nat.lt_of_le_of_ne (Nat.le_of_lt_succ h1) h2
theorem om_108 : ∀ (a1 a2 : Nat), ¬a1 < a2 → a1 < a2 + (1 : Nat) → a1 = a2 := fun a1 a2 => linE [a1, a2] [.nlt (.v 0) (.v 1), .lt (.v 0) (.a (.v 1) (.n 1))] (.v 0) (.v 1) [0, 2] [2] rfl rfl
theorem om_109 : ∀ (a1 : Nat), a1 ≤ (3 : Nat) → a1 = (0 : Nat) ∨ a1 = (1 : Nat) ∨ a1 = (2 : Nat) ∨ a1 = (3 : Nat) := fun a h => om_197 a (Nat.lt_succ_of_le h)
theorem om_110 : (0 : Nat) < (1 : Nat) := linT [] [] (.n 0) (.n 1) [] rfl
theorem om_111 : (1 : Nat) < (2 : Nat) := linT [] [] (.n 1) (.n 2) [] rfl
theorem om_112 : (0 : Nat) < (2 : Nat) := linT [] [] (.n 0) (.n 2) [] rfl
theorem om_113 : (1 : Nat) < (3 : Nat) := linT [] [] (.n 1) (.n 3) [] rfl
theorem om_114 : (2 : Nat) < (3 : Nat) := linT [] [] (.n 2) (.n 3) [] rfl
theorem om_115 : (0 : Nat) < (3 : Nat) := linT [] [] (.n 0) (.n 3) [] rfl
theorem om_116 : ∀ (a1 : Nat), ¬a1 = (0 : Nat) → (2 : Nat) ≤ a1 + (1 : Nat) := fun a h => Nat.succ_le_succ (Nat.pos_of_ne_zero h)
theorem om_117 : ∀ (a1 a2 : Nat), a1 < a2 → a2 + (1 : Nat) - (a1 + (1 : Nat)) < a2 + (1 : Nat) - a1 := fun a b h => Nat.sub_lt_sub_left (Nat.lt_succ_of_lt h) (Nat.lt_succ_self a)
theorem om_118 : ∀ (a1 a2 : Nat), a1 ≤ a2 → ¬a1 < a2 → a1 = a2 := fun a1 a2 => linE [a1, a2] [.le (.v 0) (.v 1), .nlt (.v 0) (.v 1)] (.v 0) (.v 1) [2] [0, 2] rfl rfl
theorem om_119 : ∀ (a1 a2 : Nat), a1 ≤ a1 + a2 := fun a1 a2 => lin [a1, a2] [] (.v 0) (.a (.v 0) (.v 1)) [] rfl
theorem om_120 : ∀ (a1 a2 : Nat), a1 = a2 + (1 : Nat) + (1 : Nat) → a1 ≠ a2 := fun a b h => Nat.ne_of_gt ((linT [a, b] [.eq (.v 0) (.a (.a (.v 1) (.n 1)) (.n 1))] (.v 1) (.v 0) [3] rfl) h)
theorem om_121 : ∀ (a1 a2 : Nat), a1 = a2 + (1 : Nat) → a2 ≠ a1 := fun a b h => Nat.ne_of_lt ((linT [a, b] [.eq (.v 0) (.a (.v 1) (.n 1))] (.v 1) (.v 0) [3] rfl) h)
theorem om_122 : ∀ (a1 a2 a3 : Nat), a1 = a2 + (1 : Nat) + (1 : Nat) → a3 < a2 → a3 ≠ a1 := fun a b c h1 h2 => Nat.ne_of_lt ((linT [a, b, c] [.eq (.v 0) (.a (.a (.v 1) (.n 1)) (.n 1)), .lt (.v 2) (.v 1)] (.v 2) (.v 0) [3, 2] rfl) h1 h2)
theorem om_123 : ∀ (a1 a2 a3 a4 : Nat), a1 = a2 + (1 : Nat) → a1 = a3 + (1 : Nat) + (1 : Nat) → a4 < a3 → a4 ≠ a2 := fun a b c d h1 h2 h3 => Nat.ne_of_lt ((linT [a, b, c, d] [.eq (.v 0) (.a (.v 1) (.n 1)), .eq (.v 0) (.a (.a (.v 2) (.n 1)) (.n 1)), .lt (.v 3) (.v 2)] (.v 3) (.v 1) [2, 3, 2] rfl) h1 h2 h3)
theorem om_124 : ∀ (a1 a2 : Nat), a1 < a2 → a1 ≠ a2 := fun a b h => Nat.ne_of_lt h
theorem om_125 : ∀ (a1 a2 a3 : Nat), a1 = a2 + (1 : Nat) + (1 : Nat) → a3 ≤ a2 → a3 ≤ a1 := fun a1 a2 a3 => lin [a1, a2, a3] [.eq (.v 0) (.a (.a (.v 1) (.n 1)) (.n 1)), .le (.v 2) (.v 1)] (.v 2) (.v 0) [3, 2] rfl
theorem om_126 : ∀ (a1 a2 a3 a4 : Nat), a1 = a2 + (1 : Nat) → a1 = a3 + (1 : Nat) + (1 : Nat) → a4 ≤ a3 → a4 ≤ a2 := fun a1 a2 a3 a4 => lin [a1, a2, a3, a4] [.eq (.v 0) (.a (.v 1) (.n 1)), .eq (.v 0) (.a (.a (.v 2) (.n 1)) (.n 1)), .le (.v 3) (.v 2)] (.v 3) (.v 1) [2, 3, 2] rfl
theorem om_127 : ∀ (a1 a2 : Nat), a1 = a2 + (1 : Nat) + (1 : Nat) → a2 ≤ a1 := fun a1 a2 => lin [a1, a2] [.eq (.v 0) (.a (.a (.v 1) (.n 1)) (.n 1))] (.v 1) (.v 0) [3] rfl
theorem om_128 : ∀ (a1 a2 a3 : Nat), a1 = a2 + (1 : Nat) → a1 = a3 + (1 : Nat) + (1 : Nat) → a3 ≤ a2 := fun a1 a2 a3 => lin [a1, a2, a3] [.eq (.v 0) (.a (.v 1) (.n 1)), .eq (.v 0) (.a (.a (.v 2) (.n 1)) (.n 1))] (.v 2) (.v 1) [2, 3] rfl
theorem om_129 : ∀ (a1 a2 a3 : Nat), a1 ≤ PySem.sizeLine → a2 ≤ a3 → a3 < a1 → a2 ≤ PySem.sizeLine := fun a b c h1 h2 h3 => Nat.le_trans h2 (Nat.le_of_lt (Nat.lt_of_lt_of_le h3 h1))
theorem om_130 : ∀ (a1 a2 : Nat), a1 ≤ a2 → a1 ≤ a2 := fun a1 a2 => lin [a1, a2] [.le (.v 0) (.v 1)] (.v 0) (.v 1) [2] rfl
theorem om_131 : ∀ (a1 a2 a3 : Nat), a1 ≤ a2 → a3 < a1 → a3 < a2 := fun a1 a2 a3 => linT [a1, a2, a3] [.le (.v 0) (.v 1), .lt (.v 2) (.v 0)] (.v 2) (.v 1) [2, 2] rfl
theorem om_132 : ∀ (a1 a2 a3 a4 : Nat), a1 ≤ a2 → a3 < a1 → a4 = a2 → a3 < a4 := fun a1 a2 a3 a4 => linT [a1, a2, a3, a4] [.le (.v 0) (.v 1), .lt (.v 2) (.v 0), .eq (.v 3) (.v 1)] (.v 2) (.v 3) [2, 2, 3] rfl
theorem om_133 : ∀ (a1 : Nat), -(2 : Int) ^ (63 : Nat) ≤ (↑a1 : Int) := fun a => Int.le_trans (by decide : -(2 : Int) ^ 63 ≤ 0) (Int.natCast_nonneg a)
theorem om_134 : ∀ (a1 : Nat), a1 ≤ (64 : Nat) → (↑a1 : Int) < (2 : Int) ^ (63 : Nat) := fun a h => i63 (Nat.le_trans h (by decide))
theorem om_135 : ∀ (a1 : Nat), a1 ≤ (64 : Nat) → a1 ≤ (256 : Nat) := fun a1 => lin [a1] [.le (.v 0) (.n 64)] (.v 0) (.n 256) [2] rfl
theorem om_137 : ∀ (a1 : Nat), (↑a1 : Int) < (4 : Int) → a1 < (4 : Nat) := fun a h => Int.ofNat_lt.mp h
theorem om_138 : ∀ (a1 : Int), (0 : Int) ≤ a1 → a1 < (8 : Int) → a1 = (0 : Int) ∨ a1 = (1 : Int) ∨ a1 = (2 : Int) ∨ a1 = (3 : Int) ∨ a1 = (4 : Int) ∨ a1 = (5 : Int) ∨ a1 = (6 : Int) ∨ a1 = (7 : Int) := by
  intro a h0 h1
  obtain ⟨n, rfl⟩ := Int.eq_ofNat_of_zero_le h0
  have h : n < 8 := Int.ofNat_lt.mp h1
  clear h0 h1
  revert n
  decide
theorem om_139 : (38535 : Nat) + (3 : Nat) ≤ (8000100 : Nat) := lin [] [] (.a (.n 38535) (.n 3)) (.n 8000100) [] rfl
theorem om_140 : ∀ (a1 : Nat), a1 ≤ (3 : Nat) → a1 ≤ (64 : Nat) := fun a1 => lin [a1] [.le (.v 0) (.n 3)] (.v 0) (.n 64) [2] rfl
theorem om_141 : ∀ (a1 a2 : Int), (0 : Int) ≤ a1 → a1 < a2 → a1.toNat < a2.toNat := fun a b h1 h2 => (Int.toNat_lt_toNat (Int.lt_of_le_of_lt h1 h2)).mpr h2
theorem om_142 : ∀ (a1 : Int), (0 : Int) ≤ a1 → a1 ≤ (0 : Int) → a1 = (0 : Int) := fun a h1 h2 => Int.le_antisymm h2 h1
theorem om_143 : ∀ (a1 : Nat), (0 : Int) < (↑a1 : Int) → ¬a1 = (0 : Nat) := fun a h => Nat.ne_of_gt (Int.natCast_pos.mp h)
theorem om_144 : ∀ (a1 : Int), ¬a1 < (0 : Int) → (0 : Int) ≤ a1 := fun a h => Int.not_lt.mp h
theorem om_145 : ∀ (a1 a2 : Int), a1 ≠ (0 : Int) → ¬(a2 = (0 : Int) ∧ a1 = (0 : Int)) := fun a b h k => h k.2
theorem om_146 : ∀ (a1 : Nat), (0 : Int) < (↑a1 : Int) → (0 : Nat) < a1 := fun a h => Int.natCast_pos.mp h
theorem om_147 : ∀ (a1 : Int), (0 : Int) ≤ a1 → (0 : Int) ≤ (1 : Int) + a1 := fun a h => Int.add_nonneg (by decide) h
theorem om_148 : ∀ (a1 : Int), a1 < (9973 : Int) → (1 : Int) + a1 < (2147483648 : Int) := fun a h => Int.lt_trans (Int.add_lt_add_left h 1) (by decide)
theorem om_149 : ∀ (a1 a2 a3 : Nat), a1 ≤ (63 : Nat) → a2 = a3 → a2 ≤ a1 → a3 ≤ (64 : Nat) := fun a1 a2 a3 => lin [a1, a2, a3] [.le (.v 0) (.n 63), .eq (.v 1) (.v 2), .le (.v 1) (.v 0)] (.v 2) (.n 64) [2, 3, 2] rfl
theorem om_150 : ∀ (a1 a2 : Nat), a1 + a2 = (0 : Nat) → a1 = (0 : Nat) := fun a1 a2 => linE [a1, a2] [.eq (.a (.v 0) (.v 1)) (.n 0)] (.v 0) (.n 0) [2] [] rfl rfl
theorem om_151 : ∀ (a1 a2 : Nat), a1 + a2 = (1 : Nat) → a1 = (0 : Nat) ∨ a1 = (1 : Nat) := fun a b h => om_154 a ((linT [a, b] [.eq (.a (.v 0) (.v 1)) (.n 1)] (.v 0) (.n 2) [2] rfl) h)
theorem om_152 : ∀ (a1 : Nat), (0 : Nat) + a1 = (1 : Nat) → (0 : Nat) < a1 := fun a1 => linT [a1] [.eq (.a (.n 0) (.v 0)) (.n 1)] (.n 0) (.v 0) [3] rfl
theorem om_153 : ∀ (a1 a2 : Nat), a1 ≤ (5 : Nat) → a2 < a1 → a2 < (5 : Nat) := fun a1 a2 => linT [a1, a2] [.le (.v 0) (.n 5), .lt (.v 1) (.v 0)] (.v 1) (.n 5) [2, 2] rfl
theorem om_155 : ∀ (a1 : Nat), (1 : Int) + (↑a1 : Int) = (↑((1 : Nat) + a1) : Int) := fun a => rfl
theorem om_156 : ∀ (a1 : Nat), (1 : Nat) ≤ (1 : Nat) + a1 := fun a1 => lin [a1] [] (.n 1) (.a (.n 1) (.v 0)) [] rfl
theorem om_157 : ∀ (a1 : Nat), (↑a1 : Int) < (5 : Int) → (1 : Nat) + a1 ≤ (5 : Nat) := fun a h => (lin [a] [.lt (.v 0) (.n 5)] (.a (.n 1) (.v 0)) (.n 5) [2] rfl) (Int.ofNat_lt.mp h)
theorem om_158 : ∀ (a1 : Nat), (↑a1 : Int) < (3 : Int) → (1 : Nat) + a1 ≤ (3 : Nat) := fun a h => (lin [a] [.lt (.v 0) (.n 3)] (.a (.n 1) (.v 0)) (.n 3) [2] rfl) (Int.ofNat_lt.mp h)
theorem om_159 : ∀ (a1 a2 : Nat), a1 ≤ a1 + a2 + (100 : Nat) := fun a1 a2 => lin [a1, a2] [] (.v 0) (.a (.a (.v 0) (.v 1)) (.n 100)) [] rfl
theorem om_160 : ∀ (a1 a2 : Nat), a1 + (1 : Nat) + (100 : Nat) ≤ a1 + (a2 + (1 : Nat)) + (100 : Nat) := fun a1 a2 => lin [a1, a2] [] (.a (.a (.v 0) (.n 1)) (.n 100)) (.a (.a (.v 0) (.a (.v 1) (.n 1))) (.n 100)) [] rfl
theorem om_161 : ∀ (a1 : Nat), a1 + (3 : Nat) + (64 : Nat) ≤ a1 + (200 : Nat) := fun a1 => lin [a1] [] (.a (.a (.v 0) (.n 3)) (.n 64)) (.a (.v 0) (.n 200)) [] rfl
theorem om_162 : ∀ (a1 : Nat), (0 : Int) < (↑a1 : Int) → (↑a1 : Int) ≠ (0 : Int) := fun a h => Int.ne_of_gt h
theorem om_163 : ∀ (a1 a2 : Nat), a1 + a2 ≤ (134217728 : Nat) → a2 + a1 ≤ (134217728 : Nat) := fun a1 a2 => lin [a1, a2] [.le (.a (.v 0) (.v 1)) (.n 134217728)] (.a (.v 1) (.v 0)) (.n 134217728) [2] rfl
theorem om_164 : ∀ (a1 a2 a3 : Nat), a1 + a2 + (a3 + (1 : Nat)) + (1 : Nat) ≤ a3 + (a1 + a2 + (1 : Nat)) + (1 : Nat) := fun a1 a2 a3 => lin [a1, a2, a3] [] (.a (.a (.a (.v 0) (.v 1)) (.a (.v 2) (.n 1))) (.n 1)) (.a (.a (.v 2) (.a (.a (.v 0) (.v 1)) (.n 1))) (.n 1)) [] rfl
theorem om_165 : ∀ (a1 a2 : Nat), a1 ≤ (1048576 : Nat) → a2 = a1 → (↑a2 : Int) < (2 : Int) ^ (63 : Nat) := fun a b h1 h2 => i63 (Nat.le_trans (Nat.le_of_eq h2) h1)
theorem om_166 : ∀ (a1 : Nat), a1 ≤ (1048576 : Nat) → (↑a1 : Int) < (9223372036854775808 : Int) ∧ (a1 = (0 : Nat) ∨ (↑a1 : Int) < (9223372036854775808 : Int)) := fun a h => ⟨i63 h, .inr (i63 h)⟩
theorem om_167 : ∀ (a1 a2 : Int), a1 ≤ a2 → (0 : Int) ≤ a1 → a2 ≤ (1048576 : Int) → ((((-9223372036854775808 : Int) ≤ a1 ∧ a1 < (9223372036854775808 : Int)) ∧ (-9223372036854775808 : Int) ≤ a2 ∧ a2 < (9223372036854775808 : Int)) ∧ (-9223372036854775808 : Int) ≤ a2 - a1 ∧ a2 - a1 < (9223372036854775808 : Int)) ∧ (a2 - a1 = (0 : Int) ∨ (-9223372036854775808 : Int) ≤ a2 ∧ a2 < (9223372036854775808 : Int)) := fun a b h1 h2 h3 =>
  have hb : b < 9223372036854775808 := Int.lt_of_le_of_lt h3 (by decide)
  have hb0 : -9223372036854775808 ≤ b := Int.le_trans (by decide : (-9223372036854775808 : Int) ≤ 0) (Int.le_trans h2 h1)
  ⟨⟨⟨⟨Int.le_trans (by decide) h2, Int.lt_of_le_of_lt h1 hb⟩, hb0, hb⟩, Int.le_trans (by decide : (-9223372036854775808 : Int) ≤ 0) (Int.sub_nonneg_of_le h1), Int.lt_of_le_of_lt (Int.sub_le_self b h2) hb⟩, .inr ⟨hb0, hb⟩⟩
theorem om_168 : ∀ (a1 : Nat), a1 ≤ (1048576 : Nat) → ((-9223372036854775808 : Int) ≤ (↑a1 : Int) - (1 : Int) ∧ (↑a1 : Int) - (1 : Int) < (9223372036854775808 : Int)) ∧ (↑a1 : Int) < (9223372036854775808 : Int) := fun a h => ⟨⟨Int.le_sub_one_of_lt (Int.lt_of_lt_of_le (by decide) (Int.natCast_nonneg a)), Int.lt_of_le_of_lt (Int.sub_le_self _ (by decide)) (i63 h)⟩, i63 h⟩
theorem om_169 : ∀ (a1 a2 : Nat), a1 ≤ (3 : Nat) → a2 < a1 → a2 ≤ (2 : Nat) := fun a1 a2 => lin [a1, a2] [.le (.v 0) (.n 3), .lt (.v 1) (.v 0)] (.v 1) (.n 2) [2, 2] rfl
theorem om_170 : ∀ (a1 : Nat), a1 ≤ (1751 : Nat) → (20 : Nat) * a1 + (12 : Nat) ≤ (35032 : Nat) := fun a1 => lin [a1] [.le (.v 0) (.n 1751)] (.a (.m 20 (.v 0)) (.n 12)) (.n 35032) [40] rfl
theorem om_171 : ∀ (a1 a2 : Nat), a1 ≤ (3 : Nat) → a2 < a1 → a2 ≤ (3 : Nat) := fun a b h1 h2 => Nat.le_trans (Nat.le_of_lt h2) h1
theorem om_172 : (2 : Nat) * ((2 : Nat) * ((2 : Nat) * (35032 : Nat) + (35032 : Nat) + (1 : Nat)) + (35032 : Nat) + (1 : Nat)) + (35032 : Nat) + (1 : Nat) ≤ (8000000 : Nat) := lin [] [] (.a (.a (.m 2 (.a (.a (.m 2 (.a (.a (.m 2 (.n 35032)) (.n 35032)) (.n 1))) (.n 35032)) (.n 1))) (.n 35032)) (.n 1)) (.n 8000000) [] rfl
theorem om_173 : ∀ (a1 a2 : Nat), a1 + (4 : Nat) ≤ (3 : Nat) → a2 ≤ (38535 : Nat) := fun a b h => absurd (Nat.le_trans (Nat.le_add_left 4 a) h) (by decide)
theorem om_174 : ∀ (a1 a2 : Nat), a1 < a2 → a2 ≤ (64 : Nat) → (↑a1 : Int) < (2 : Int) ^ (63 : Nat) - (1 : Int) := fun a b h1 h2 => Int.lt_of_lt_of_le (Int.ofNat_lt.mpr (Nat.lt_of_lt_of_le h1 h2) : (a : Int) < ((64 : Nat) : Int)) (by decide)
theorem om_175 : ∀ (a1 a2 a3 : Nat), a1 < a2 → a3 = a2 → a1 < a3 := fun a1 a2 a3 => linT [a1, a2, a3] [.lt (.v 0) (.v 1), .eq (.v 2) (.v 1)] (.v 0) (.v 2) [2, 3] rfl
theorem om_176 : ∀ (a1 a2 a3 : Nat), a1 < a2 → a3 < a1 → a3 < a2 := fun a1 a2 a3 => linT [a1, a2, a3] [.lt (.v 0) (.v 1), .lt (.v 2) (.v 0)] (.v 2) (.v 1) [2, 2] rfl
theorem om_177 : ∀ (a1 : Nat), a1 ≤ (64 : Nat) → a1 + (1 : Nat) ≤ (65 : Nat) := fun a1 => lin [a1] [.le (.v 0) (.n 64)] (.a (.v 0) (.n 1)) (.n 65) [2] rfl
theorem om_178 : ∀ (a1 a2 : Nat), a1 + a2 = a2 + a1 := fun a1 a2 => linE [a1, a2] [] (.a (.v 0) (.v 1)) (.a (.v 1) (.v 0)) [] [] rfl rfl
theorem om_179 : ∀ (a1 : Nat), a1 < (5 : Nat) → a1 ≤ (4 : Nat) := fun a1 => lin [a1] [.lt (.v 0) (.n 5)] (.v 0) (.n 4) [2] rfl
theorem om_180 : ∀ (a1 : Nat), a1 ≤ (8000100 : Nat) → a1 + (1 : Nat) ≤ (8000101 : Nat) := fun a1 => lin [a1] [.le (.v 0) (.n 8000100)] (.a (.v 0) (.n 1)) (.n 8000101) [2] rfl
theorem om_181 : ∀ (a1 a2 a3 a4 : Nat), a1 + a2 ≤ a3 → a3 ≤ (8000100 : Nat) → a4 ≤ (4 : Nat) * (8000101 : Nat) → a4 + (1 : Nat) + a1 ≤ (134217728 : Nat) := fun a1 a2 a3 a4 => lin [a1, a2, a3, a4] [.le (.a (.v 0) (.v 1)) (.v 2), .le (.v 2) (.n 8000100), .le (.v 3) (.m 4 (.n 8000101))] (.a (.a (.v 3) (.n 1)) (.v 0)) (.n 134217728) [2, 2, 2] rfl
theorem om_182 : ∀ (a1 a2 a3 a4 : Nat), a1 + a2 ≤ a3 → a3 ≤ (8000100 : Nat) → a4 ≤ (4 : Nat) * (8000101 : Nat) → a4 + (1 : Nat) + a1 + a2 ≤ (134217728 : Nat) := fun a1 a2 a3 a4 => lin [a1, a2, a3, a4] [.le (.a (.v 0) (.v 1)) (.v 2), .le (.v 2) (.n 8000100), .le (.v 3) (.m 4 (.n 8000101))] (.a (.a (.a (.v 3) (.n 1)) (.v 0)) (.v 1)) (.n 134217728) [2, 2, 2] rfl
theorem om_183 : ∀ (a1 a2 a3 : Nat), a1 + a2 ≤ a3 → a3 ≤ (8000100 : Nat) → a1 + a2 ≤ (134217728 : Nat) := fun a1 a2 a3 => lin [a1, a2, a3] [.le (.a (.v 0) (.v 1)) (.v 2), .le (.v 2) (.n 8000100)] (.a (.v 0) (.v 1)) (.n 134217728) [2, 2] rfl
theorem om_184 : ∀ (a1 a2 a3 a4 : Nat), a1 + a2 ≤ a3 → a3 ≤ (8000100 : Nat) → a4 ≤ (4 : Nat) * (8000100 : Nat) → a1 + a2 + (a4 + (1 : Nat)) ≤ (134217728 : Nat) := fun a1 a2 a3 a4 => lin [a1, a2, a3, a4] [.le (.a (.v 0) (.v 1)) (.v 2), .le (.v 2) (.n 8000100), .le (.v 3) (.m 4 (.n 8000100))] (.a (.a (.v 0) (.v 1)) (.a (.v 3) (.n 1))) (.n 134217728) [2, 2, 2] rfl
theorem om_185 : ∀ (a1 a2 a3 a4 : Nat), a1 + a2 ≤ a3 → a3 ≤ (8000100 : Nat) → a4 ≤ (4 : Nat) * (8000100 : Nat) → a4 + (1 : Nat) + a1 ≤ (134217728 : Nat) := fun a1 a2 a3 a4 => lin [a1, a2, a3, a4] [.le (.a (.v 0) (.v 1)) (.v 2), .le (.v 2) (.n 8000100), .le (.v 3) (.m 4 (.n 8000100))] (.a (.a (.v 3) (.n 1)) (.v 0)) (.n 134217728) [2, 2, 2] rfl
theorem om_186 : ∀ (a1 a2 a3 a4 : Nat), a1 + a2 ≤ a3 → a3 ≤ (8000100 : Nat) → a4 ≤ (4 : Nat) * (8000100 : Nat) → a4 + (1 : Nat) + a1 + a2 ≤ (134217728 : Nat) := fun a1 a2 a3 a4 => lin [a1, a2, a3, a4] [.le (.a (.v 0) (.v 1)) (.v 2), .le (.v 2) (.n 8000100), .le (.v 3) (.m 4 (.n 8000100))] (.a (.a (.a (.v 3) (.n 1)) (.v 0)) (.v 1)) (.n 134217728) [2, 2, 2] rfl
theorem om_187 : ∀ (a1 : Int), (0 : Int) < a1 → (0 : Nat) < a1.toNat := fun a h => Int.lt_toNat.mpr h
theorem om_188 : ∀ (a1 : Int), a1 ≤ (64 : Int) → a1.toNat ≤ (64 : Nat) := fun a h => Int.toNat_le.mpr h
theorem om_189 : ∀ (a1 : Nat) (a2 : Int), a1 < a2.toNat → (↑a1 : Int) < a2 := fun a b h => Int.lt_toNat.mp h
theorem om_190 : ∀ (a1 a2 : Nat), a1 < a2 → a2 ≤ (64 : Nat) → (↑a1 : Int) < (2 : Int) ^ (63 : Nat) := fun a b h1 h2 => i63 ((lin [a, b] [.lt (.v 0) (.v 1), .le (.v 1) (.n 64)] (.v 0) (.n 1048576) [2, 2] rfl) h1 h2)
theorem om_191 : ∀ (a1 : Nat), (1 : Nat) ≤ a1 → a1 ≤ (3 : Nat) → a1 = (1 : Nat) ∨ a1 = (2 : Nat) ∨ a1 = (3 : Nat) := fun a h1 h2 => (by decide : ∀ a : Nat, a < 4 → 1 ≤ a → a = 1 ∨ a = 2 ∨ a = 3) a (Nat.lt_succ_of_le h2) h1
theorem om_192 : (3 : Nat) + (38535 : Nat) + (1 : Nat) ≤ (38539 : Nat) := lin [] [] (.a (.a (.n 3) (.n 38535)) (.n 1)) (.n 38539) [] rfl
theorem om_193 : ∀ (a1 a2 a3 : Nat), a1 = a2 → a3 + (1 : Nat) ≤ a1 → a3 < a2 := fun a1 a2 a3 => linT [a1, a2, a3] [.eq (.v 0) (.v 1), .le (.a (.v 2) (.n 1)) (.v 0)] (.v 2) (.v 1) [2, 2] rfl
theorem om_194 : ∀ (a1 a2 : Nat), a1 ≤ (90000000 : Nat) → a2 ≤ (5 : Nat) * (8000101 : Nat) → a2 + (1 : Nat) + a1 ≤ (134217728 : Nat) := fun a1 a2 => lin [a1, a2] [.le (.v 0) (.n 90000000), .le (.v 1) (.m 5 (.n 8000101))] (.a (.a (.v 1) (.n 1)) (.v 0)) (.n 134217728) [2, 2] rfl
theorem om_195 : ∀ (a1 a2 : Nat), a1 ≤ (90000000 : Nat) → a2 ≤ (5 : Nat) * (8000100 : Nat) → a1 + (a2 + (1 : Nat)) ≤ (134217728 : Nat) := fun a1 a2 => lin [a1, a2] [.le (.v 0) (.n 90000000), .le (.v 1) (.m 5 (.n 8000100))] (.a (.v 0) (.a (.v 1) (.n 1))) (.n 134217728) [2, 2] rfl
theorem om_196 : ∀ (a1 : Nat), (↑a1 : Int) = (1 : Int) → a1 = (1 : Nat) := fun a h => Int.ofNat.inj h
theorem om_198 : ∀ (a1 : Nat), a1 ≤ (64 : Nat) → a1 ≤ (1048576 : Nat) := fun a1 => lin [a1] [.le (.v 0) (.n 64)] (.v 0) (.n 1048576) [2] rfl
theorem om_200 : ∀ (a1 : Nat), a1 + (8 : Nat) + (100 : Nat) < PySem.recursionLimit → a1 + (1 : Nat) < PySem.recursionLimit := fun a h => Nat.lt_of_le_of_lt (lin [a] [] (.a (.v 0) (.n 1)) (.a (.a (.v 0) (.n 8)) (.n 100)) [] rfl) h
theorem om_201 : ∀ (a1 a2 : Nat), a1 ≤ (64 : Nat) → a2 = a1 → a2 ≤ (64 : Nat) := fun a1 a2 => lin [a1, a2] [.le (.v 0) (.n 64), .eq (.v 1) (.v 0)] (.v 1) (.n 64) [2, 2] rfl
theorem om_202 : ∀ (a1 a2 a3 : Nat), a1 ≤ (3 : Nat) → a2 = a1 → a3 = a2 → a3 ≤ (64 : Nat) := fun a1 a2 a3 => lin [a1, a2, a3] [.le (.v 0) (.n 3), .eq (.v 1) (.v 0), .eq (.v 2) (.v 1)] (.v 2) (.n 64) [2, 2, 2] rfl
theorem om_203 : (4 : Nat) ≤ (64 : Nat) := lin [] [] (.n 4) (.n 64) [] rfl
theorem om_204 : ∀ (a1 a2 : Nat), ¬a1 = a2 → (↑a1 : Int) ≠ (↑a2 : Int) := fun a b h e => h (Int.ofNat.inj e)
theorem om_205 : ∀ (a1 a2 a3 : Nat), a1 + (1 : Nat) ≤ a2 → a3 + (1 : Nat) + a1 + (100 : Nat) ≤ a3 + a2 + (100 : Nat) := fun a1 a2 a3 => lin [a1, a2, a3] [.le (.a (.v 0) (.n 1)) (.v 1)] (.a (.a (.a (.v 2) (.n 1)) (.v 0)) (.n 100)) (.a (.a (.v 2) (.v 1)) (.n 100)) [2] rfl
theorem om_206 : ∀ (a1 a2 a3 a4 : Nat), a1 + a2 ≤ a3 → a4 + (1 : Nat) + a1 + a2 ≤ a4 + a3 + (1 : Nat) := fun a1 a2 a3 a4 => lin [a1, a2, a3, a4] [.le (.a (.v 0) (.v 1)) (.v 2)] (.a (.a (.a (.v 3) (.n 1)) (.v 0)) (.v 1)) (.a (.a (.v 3) (.v 2)) (.n 1)) [2] rfl
theorem om_207 : ∀ (a1 a2 a3 a4 : Nat), a1 + a2 ≤ a3 → a4 + (1 : Nat) + a1 + a2 ≤ a4 + (a3 + (1 : Nat)) := fun a1 a2 a3 a4 => lin [a1, a2, a3, a4] [.le (.a (.v 0) (.v 1)) (.v 2)] (.a (.a (.a (.v 3) (.n 1)) (.v 0)) (.v 1)) (.a (.v 3) (.a (.v 2) (.n 1))) [2] rfl
theorem om_209 : ∀ (a1 a2 a3 a4 a5 a6 : Nat), a1 + a2 ≤ a3 → a4 = a5 + a6 → a1 + a2 + (a5 + (1 : Nat)) ≤ a4 + (a3 + (1 : Nat)) := fun a1 a2 a3 a4 a5 a6 => lin [a1, a2, a3, a4, a5, a6] [.le (.a (.v 0) (.v 1)) (.v 2), .eq (.v 3) (.a (.v 4) (.v 5))] (.a (.a (.v 0) (.v 1)) (.a (.v 4) (.n 1))) (.a (.v 3) (.a (.v 2) (.n 1))) [2, 3] rfl
theorem om_210 : ∀ (a1 a2 : Nat), a1 ≤ (5 : Nat) * (a2 + a2 + (1 : Nat)) → a1 + (1 : Nat) ≤ (10 : Nat) * a2 + (6 : Nat) := fun a1 a2 => lin [a1, a2] [.le (.v 0) (.m 5 (.a (.a (.v 1) (.v 1)) (.n 1)))] (.a (.v 0) (.n 1)) (.a (.m 10 (.v 1)) (.n 6)) [2] rfl
theorem om_211 : ∀ (a1 a2 a3 : Nat), a1 = (5 : Nat) → a2 < a3 → a3 = (5 : Nat) → a2 < a1 := fun a1 a2 a3 => linT [a1, a2, a3] [.eq (.v 0) (.n 5), .lt (.v 1) (.v 2), .eq (.v 2) (.n 5)] (.v 1) (.v 0) [3, 2, 2] rfl
theorem om_212 : ∀ (a1 a2 : Nat), a1 < a2 → a2 = (5 : Nat) → (↑a1 : Int) < (2 : Int) ^ (63 : Nat) := fun a b h1 h2 => i63 ((lin [a, b] [.lt (.v 0) (.v 1), .eq (.v 1) (.n 5)] (.v 0) (.n 1048576) [2, 2] rfl) h1 h2)
theorem om_213 : ∀ (a1 : Nat), a1 ≤ (1751 : Nat) → (5 : Nat) * (a1 + a1 + (1 : Nat)) + (1 : Nat) + (a1 + a1) ≤ (134217728 : Nat) := fun a1 => lin [a1] [.le (.v 0) (.n 1751)] (.a (.a (.m 5 (.a (.a (.v 0) (.v 0)) (.n 1))) (.n 1)) (.a (.v 0) (.v 0))) (.n 134217728) [24] rfl
theorem om_214 : ∀ (a1 : Nat), a1 ≤ (1751 : Nat) → (10 : Nat) * a1 + (6 : Nat) + ((10 : Nat) * a1 + (6 : Nat)) ≤ (134217728 : Nat) := fun a1 => lin [a1] [.le (.v 0) (.n 1751)] (.a (.a (.m 10 (.v 0)) (.n 6)) (.a (.m 10 (.v 0)) (.n 6))) (.n 134217728) [40] rfl
theorem om_215 : ∀ (a1 : Nat), a1 ≤ (1751 : Nat) → a1 + ((10 : Nat) * a1 + (6 : Nat) + ((10 : Nat) * a1 + (6 : Nat)) + a1) ≤ (134217728 : Nat) := fun a1 => lin [a1] [.le (.v 0) (.n 1751)] (.a (.v 0) (.a (.a (.a (.m 10 (.v 0)) (.n 6)) (.a (.m 10 (.v 0)) (.n 6))) (.v 0))) (.n 134217728) [44] rfl
theorem om_216 : ∀ (a1 a2 : Nat), (8 : Nat) * a1 + (8 : Nat) * a2 + (8 : Nat) ≤ (16777216 : Nat) → a2 + ((4 : Nat) * a1 + (3 : Nat) * (a2 + (1 : Nat))) ≤ (134217728 : Nat) := fun a1 a2 => lin [a1, a2] [.le (.a (.a (.m 8 (.v 0)) (.m 8 (.v 1))) (.n 8)) (.n 16777216)] (.a (.v 1) (.a (.m 4 (.v 0)) (.m 3 (.a (.v 1) (.n 1))))) (.n 134217728) [2] rfl
theorem om_217 : ∀ (a1 a2 : Nat), (8 : Nat) * a1 + (8 : Nat) * a2 + (8 : Nat) ≤ (16777216 : Nat) → (4 : Nat) * a1 + (3 : Nat) * (a2 + (1 : Nat)) + (a2 + ((4 : Nat) * a1 + (3 : Nat) * (a2 + (1 : Nat)))) ≤ (134217728 : Nat) := fun a1 a2 => lin [a1, a2] [.le (.a (.a (.m 8 (.v 0)) (.m 8 (.v 1))) (.n 8)) (.n 16777216)] (.a (.a (.m 4 (.v 0)) (.m 3 (.a (.v 1) (.n 1)))) (.a (.v 1) (.a (.m 4 (.v 0)) (.m 3 (.a (.v 1) (.n 1)))))) (.n 134217728) [2] rfl
noncomputable abbrev LO : List Str := [Str.ofString "match_names", Str.ofString "take", Str.ofString "list_of", Str.ofString "fit", Str.ofString "first_argument", Str.ofString "Vector", Str.ofString "NAN", Str.ofString "ZERO"]
theorem room_le {dp c c' : Nat} (h : dp + c' + 100 < recursionLimit) (hc : (c + 1).ble c' = true) : dp + 1 + c + 100 < recursionLimit := Nat.lt_of_le_of_lt (om_205 _ _ _ (Nat.le_of_ble_eq_true hc)) h
theorem room_lt {dp c : Nat} (h : dp + c + 100 < recursionLimit) : dp < recursionLimit := Nat.lt_of_le_of_lt (by exact om_159 _ _) h
theorem room_dp {dp c : Nat} (h : dp + (c + 1) + 100 < recursionLimit) : dp + 1 + 100 < recursionLimit := Nat.lt_of_le_of_lt (by exact om_160 _ _) h
theorem units_le {un : Nat} (h : un + 200 < cLine) : un + 3 + 64 < cLine := Nat.lt_of_le_of_lt (by exact om_161 _) h
noncomputable abbrev Store := Addr → Obj → Prop
noncomputable abbrev Led := List (Addr × Obj)
/-- what a frame knows: `S`, and its ledger -/
noncomputable def Kn (S : Store) (news : Led) : Store := fun a o => S a o ∨ (a, o) ∈ news
noncomputable abbrev tupO (vs : List Value) : Obj := { cls := .type "tuple", data := .seq vs.toArray }
noncomputable abbrev lisO (vs : List Value) (k : Nat) : Obj := { cls := .type "list", data := .seq vs.toArray k }

structure Gr (w : World) (S : Store) (h : Heap) : Prop where
  k : ∀ a o, (k0.heap_1 w.params).lookup a = some o → S a o
  s : ∀ a o, S a o → h.get? a = some o
  t : ∃ mean mg mb, Top view LO mean mg mb h

theorem Gr.In {w : World} {S : Store} {h : Heap} (G : Gr w S h) : (k0.heap_1 w.params).In h := fun a o e => G.s a o (G.k a o e)
theorem Gr.sub {w : World} {S S' : Store} {h : Heap} (G : Gr w S h) (h1 : ∀ a o, S a o → S' a o) (h2 : ∀ a o, S' a o → h.get? a = some o) : Gr w S' h :=
  ⟨fun a o e => h1 _ _ (G.k a o e), h2, G.t⟩
theorem Gr.keeps {w : World} {S : Store} {h h' : Heap} (G : Gr w S h) (hk : ∀ b o, h.get? b = some o → h'.get? b = some o) : Gr w S h' :=
  ⟨G.k, fun a o e => hk _ _ (G.s a o e), let ⟨a, b, c, T⟩ := G.t; ⟨a, b, c, T.keeps hk⟩⟩

theorem Kn.l {S : Store} {news : Led} {a o} (h : S a o) : Kn S news a o := Or.inl h
theorem Kn.r {S : Store} {news : Led} {a o} (h : (a, o) ∈ news) : Kn S news a o := Or.inr h
theorem Kn.app {S : Store} {n1 n2 : Led} : Kn (Kn S n1) n2 = Kn S (n1 ++ n2) := by
  funext a o; apply propext; simp [Kn, List.mem_append, or_assoc]
theorem Kn.get {S : Store} {w} {h₀ h : Heap} {L m} {news : Led} (G : Gr w S h₀) (F : Fr h₀ L h m) (N : News h₀ L h news) : ∀ a o, Kn S news a o → h.get? a = some o :=
  fun a o e => e.elim (fun e => F.keep _ _ (G.s _ _ e)) fun e => (N _ e).1
theorem Kn.gr {S : Store} {w} {h₀ h : Heap} {L m} {news : Led} (G : Gr w S h₀) (F : Fr h₀ L h m) (N : News h₀ L h news) : Gr w (Kn S news) h :=
  (G.keeps F.keep).sub (fun _ _ => Kn.l) (Kn.get G F N)

/-- a call that allocates only: `c` levels of frames below it -/
noncomputable def PureT (w : World) (c : Nat) (f : Addr) (vs : List Value) (S : Store) (Post : Led → Value → Prop) : Prop :=
  ∀ (dp un : Nat) (fr : List Env) (gd : Option (List Code)) (base : Heap) (s : Shared) (Q E : Value → Shared → Prop), dp + c + 100 < recursionLimit → Gr w S s.heap → Below { handled := none, depth := dp, frames := some fr, guards := gd, units := un } base fr s.heap →
    (∀ r tl h' tk', (∀ b o, s.heap.get? b = some o → h'.get? b = some o) → (∀ p ∈ tl, h'.get? p.1 = some p.2 ∧ s.heap.get? p.1 = none) → Post tl r → Q r { s with heap := h', toks := tk' }) →
    wpAny (model PySem.Challenge.rw_pq1326_01.prog w) { handled := none, depth := dp, frames := some fr, guards := gd, units := un } (call (.ref f) vs) Q E s

noncomputable def Pure (w : World) (c : Nat) (f : Addr) (vs : List Value) (S : Store) (Post : Store → Value → Prop) : Prop := PureT w c f vs S fun tl r => Post (Kn S tl) r

noncomputable def Off (X Y : Led) : Prop := ∀ p ∈ X, ∀ q ∈ Y, p.1 ≠ q.1

section
variable {w : World} {c : Nat} {f : Addr} {vs : List Value} {S : Store} {Post : Store → Value → Prop} {A : Around} {s : Shared} {Q E : Value → Shared → Prop} {h₀ : Heap} {L : Addr} {m : Str → Option Value} {news : Led}
theorem Off.appR {X n tl : Led} (h : Off X n) (h' : Off (X ++ n) tl) : Off X (n ++ tl) := fun p hp q hq =>
  (List.mem_append.mp hq).elim (h p hp q) fun hq => h' p (List.mem_append_left _ hp) q hq
theorem PureT.use {Y : Led} {Post : Led → Value → Prop} (C : PureT w c f vs (Kn S news) Post) (G : Gr w S h₀) (F : Fr h₀ L s.heap m) (N : News h₀ L s.heap (Y ++ news)) (O : Off Y news) (hh : A.handled = none) {A₀ : Around} {base : Heap} {outer : List Env} {env : Env} (B : Below A₀ base outer h₀) (hfr : A.frames = some (env :: outer)) (hf : env.frame = some L) (hke : env.scope.kind = .function) (hd : A.depth + c + 100 < recursionLimit)
    (k : ∀ r tl h' tk', Fr h₀ L h' m → News h₀ L h' (Y ++ (news ++ tl)) → Off Y (news ++ tl) → Off (Y ++ news) tl → Post tl r → Q r { s with heap := h', toks := tk' }) :
    wpAny (model PySem.Challenge.rw_pq1326_01.prog w) A (call (.ref f) vs) Q E s := by
  obtain ⟨_, dp, _, gd, un⟩ := A
  subst hh
  subst hfr
  have Nr : News h₀ L s.heap news := fun p hp => N p (List.mem_append_right _ hp)
  have B' := pushX B F hf hke
  refine C dp un (env :: outer) gd base s Q E hd (Kn.gr G F Nr) ⟨rfl, B'.stays, B'.frames⟩ fun r tl h' tk' hk ht hp => ?_
  have o' : Off (Y ++ news) tl := fun p hp q hq e => by
    have h1 := (N p hp).1
    have h2 := (ht q hq).2
    rw [← e, h1] at h2; cases h2
  refine k r tl h' tk' (F.keeps hk) (fun p hp => ?_) (O.appR o') o' hp
  have old : p ∈ Y ++ news → h'.get? p.1 = some p.2 ∧ p.1 ≠ L ∧ h₀.get? p.1 = none := fun hp => ⟨hk _ _ (N p hp).1, (N p hp).2⟩
  rcases List.mem_append.mp hp with hp | hp
  · exact old (List.mem_append_left _ hp)
  · rcases List.mem_append.mp hp with hp | hp
    · exact old (List.mem_append_right _ hp)
    · refine ⟨(ht p hp).1, fun e => ?_, ?_⟩
      · obtain ⟨o, _, _, hL, _⟩ := F.ns
        have := (ht p hp).2
        rw [e, hL] at this; cases this
      · cases q : h₀.get? p.1 with
        | none => rfl
        | some o => have := (ht p hp).2; rw [F.keep _ _ q] at this; cases this
theorem Pure.use {Y : Led} (C : Pure w c f vs (Kn S news) Post) (G : Gr w S h₀) (F : Fr h₀ L s.heap m) (N : News h₀ L s.heap (Y ++ news)) (O : Off Y news) (hh : A.handled = none) {A₀ : Around} {base : Heap} {outer : List Env} {env : Env} (B : Below A₀ base outer h₀) (hfr : A.frames = some (env :: outer)) (hf : env.frame = some L) (hke : env.scope.kind = .function) (hd : A.depth + c + 100 < recursionLimit)
    (k : ∀ r tl h' tk', Fr h₀ L h' m → News h₀ L h' (Y ++ (news ++ tl)) → Off Y (news ++ tl) → Off (Y ++ news) tl → Post (Kn S (news ++ tl)) r → Q r { s with heap := h', toks := tk' }) :
    wpAny (model PySem.Challenge.rw_pq1326_01.prog w) A (call (.ref f) vs) Q E s :=
  PureT.use C G F N O hh B hfr hf hke hd fun r tl h' tk' F' N' O' o' hp => k r tl h' tk' F' N' O' o' (Kn.app ▸ hp)
end

/-- a frame's names, some set anew -/
noncomputable def upd (m : Str → Option Value) : List (Str × Option Value) → Str → Option Value
  | [], y => m y
  | (x, v) :: r, y => if y = x then v else upd m r y
noncomputable def AllEq (m : Str → Option Value) : List (Str × Option Value) → Prop
  | [] => True
  | (x, v) :: r => m x = v ∧ AllEq m r
noncomputable def NotIn (y : Str) : List (Str × Option Value) → Prop
  | [] => True
  | (x, _) :: r => y ≠ x ∧ NotIn y r
theorem upd_ext {m₀ m₁ : Str → Option Value} : ∀ (l : List (Str × Option Value)), AllEq m₁ l → (∀ y, NotIn y l → m₁ y = m₀ y) → m₁ = upd m₀ l := by
  intro l h1 h2
  funext y
  have key : ∀ l' : List (Str × Option Value), AllEq m₁ l' → (NotIn y l' → m₁ y = m₀ y) → m₁ y = upd m₀ l' y := by
    intro l'
    induction l' with
    | nil => intro _ h; exact h trivial
    | cons p r ih =>
      obtain ⟨x, v⟩ := p
      intro h h'
      show m₁ y = if y = x then v else upd m₀ r y
      by_cases e : y = x
      · rw [if_pos e, e]; exact h.1
      · rw [if_neg e]; exact ih h.2 fun n => h' ⟨e, n⟩
  exact key l h1 (h2 y)
theorem fr_upd {h₀ h : Heap} {L : Addr} {m₀ m₁ : Str → Option Value} (l : List (Str × Option Value)) (F : Fr h₀ L h m₁) (h1 : AllEq m₁ l) (h2 : ∀ y, NotIn y l → m₁ y = m₀ y) : Fr h₀ L h (upd m₀ l) := upd_ext l h1 h2 ▸ F

theorem lookup_upd (l : List (Str × Value)) : (fun y => l.lookup y) = upd (fun _ => none) (l.map fun p => (p.1, some p.2)) := by
  funext y
  induction l with
  | nil => rfl
  | cons p r ih =>
    obtain ⟨x, v⟩ := p
    show List.lookup y ((x, v) :: r) = if y = x then some v else upd (fun _ => none) (r.map fun p => (p.1, some p.2)) y
    rw [List.lookup_cons]
    by_cases e : y = x
    · rw [if_pos e, e]; simp
    · rw [if_neg e, beq_eq_false_iff_ne.mpr e]; exact ih

section
variable {prog : Program} {w : World} {A : Around} {s : Shared} {K : Frag} {R : Result → Shared → Prop} {name qual : Str} {params : Arguments} {body : List Stmt} {scope : Scope} {dV kV doc pm cdv ct oc : Value} {an od : Option Addr}
  {osl : Array (Option Value)} {f : Addr} {args : Args} {binds : List (Str × Value)} {p : Program} {loose : List Str} {mean : ExcName → Option Value} {mg mb : Str → Option Value}
/-- into a def, from any heap: all that stands is its base -/
theorem enterP (X : K.In s.heap) (T : Top p loose mean mg mb s.heap) (ho : K.lookup f = some ⟨oc, od, .func (fnOf name qual params body scope dV kV doc pm an cdv ct), osl⟩) (hcd : codeIn K cdv qual = true)
    (hroom : A.depth < recursionLimit) (hbind : BindsTo s (fnOf name qual params body scope dV kV doc pm an cdv ct) args binds) (hloc : ∀ y ∈ binds, scope.names.lookup y.1 = some .local)
    (h : ∀ h₁, Fr s.heap s.heap.objs.size h₁ (upd (fun _ => none) (binds.reverse.map fun p => (p.1, some p.2))) →
      wpAny (model prog w) (A.deeper (envOf qual scope s.heap.objs.size f cdv)) (execs body (envOf qual scope s.heap.objs.size f cdv))
        (fun fl s' => R (.ok (.ret (match fl with | .ret v => v | _ => .none))) s') (fun _ _ => False) { s with heap := h₁, toks := s.toks + binds.length })
    (hcell : ∀ x ∈ scope.names, x.2 ≠ .cell) (hco : scope.isCoroutine = false) (hgen : scope.isGenerator = false) (hk : scope.kind = .function) : codeAny (model prog w) A (.call (.ref f) args) R s := by
  refine codeAny_call_def (fd := fnOf name qual params body scope dV kV doc pm an cdv ct) (body := body) (binds := binds) hroom (X _ _ ho) rfl T.nolimit (codeRec_of X hcd) rfl hbind hcell hloc (fun h₁ hns hk₁ => ?_) hco hgen hk
  exact wpAny_mono (h h₁ ⟨lookup_upd _ ▸ hns, hk₁, Nat.le_refl _⟩) (fun _ _ x => x) fun _ _ x => x.elim
end

open PySem.Builtin.Int in
/-- how long a number's two ints are -/
noncomputable def Sz (q : Rat) (B : Nat) : Prop := intBits q.num ≤ B ∧ intBits (q.den : Int) ≤ B
theorem Sz.le {q : Rat} {B C : Nat} (h : Sz q B) (hc : B ≤ C) : Sz q C := ⟨Nat.le_trans h.1 hc, Nat.le_trans h.2 hc⟩

/-- the value is the tuple of a number's two ints -/
inductive RatS (S : Store) (v : Value) (q : Rat) : Prop
  | mk (a t1 t2 : _) (h1_ : v = .ref a) (h2_ : S a (tupO [.int q.num t1, .int (q.den : Int) t2])) : RatS S v q
theorem RatS.mono {S S' : Store} {v : Value} {q : Rat} (h : RatS S v q) (hs : ∀ a o, S a o → S' a o) : RatS S' v q :=
  by obtain ⟨a, t1, t2, e, x⟩ := h; exact ⟨a, t1, t2, e, hs _ _ x⟩
theorem RatS.l {S : Store} {v : Value} {q : Rat} {n : Led} (h : RatS S v q) : RatS (Kn S n) v q := h.mono fun _ _ => Kn.l

theorem RatS.app {S : Store} {v : Value} {q : Rat} {n n' : Led} (h : RatS (Kn S n) v q) : RatS (Kn S (n ++ n')) v q := h.mono fun _ _ e => e.imp id fun e => List.mem_append_left _ e
theorem RatS.cons {S : Store} {v : Value} {q : Rat} {p : Addr × Obj} {n : Led} (h : RatS (Kn S n) v q) : RatS (Kn S (p :: n)) v q := h.mono fun _ _ e => e.imp id fun e => List.mem_cons_of_mem _ e
theorem of_news {h₀ h : Heap} {L : Addr} {tl : Led} (N : News h₀ L h tl) : ∀ p ∈ tl, h.get? p.1 = some p.2 ∧ h₀.get? p.1 = none := fun p hp => ⟨(N p hp).1, (N p hp).2.2⟩
theorem tup_new {M : Model} {A : Around} {E : Value → Shared → Prop} {s : Shared} {h₀ : Heap} {L : Addr} {m : Str → Option Value} {Y n : Led} {vs : List Value} {Q : Value → Shared → Prop} (F : Fr h₀ L s.heap m) (N : News h₀ L s.heap (Y ++ n)) (O : Off Y n)
    (h : ∀ D h', Fr h₀ L h' m → News h₀ L h' (Y ++ ((D, tupO vs) :: n)) → Off Y ((D, tupO vs) :: n) → (∀ p ∈ Y ++ n, p.1 < D) → Q (.ref D) { s with heap := h' }) (hz : vs.length ≤ sizeLine) : wpAny M A (newTuple vs) Q E s :=
  newTuple_N F N (fun h' F' N' => h _ h' F' (fun p hp => N' p (by
      rcases List.mem_append.mp hp with hp | hp
      · exact .tail _ (List.mem_append_left _ hp)
      · rcases List.mem_cons.mp hp with rfl | hp
        · exact .head _
        · exact .tail _ (List.mem_append_right _ hp)))
    (fun p hp q hq => by
      rcases List.mem_cons.mp hq with rfl | hq
      · exact Nat.ne_of_lt (Heap.lt_size (N p (List.mem_append_left _ hp)).1)
      · exact O p hp q hq) fun p hp => Heap.lt_size (N p hp).1) hz
theorem lis_new {M : Model} {A : Around} {E : Value → Shared → Prop} {s : Shared} {h₀ : Heap} {L : Addr} {m : Str → Option Value} {Y n : Led} {vs : List Value} {Q : Value → Shared → Prop} (F : Fr h₀ L s.heap m) (N : News h₀ L s.heap (Y ++ n)) (O : Off Y n)
    (h : ∀ D h', Fr h₀ L h' m → News h₀ L h' (Y ++ ((D, lisO vs 0) :: n)) → Off Y ((D, lisO vs 0) :: n) → (∀ p ∈ Y ++ n, p.1 < D) → Q (.ref D) { s with heap := h' }) (hz : vs.length ≤ sizeLine) : wpAny M A (newList vs) Q E s :=
  newList_N F N (fun h' F' N' => h _ h' F' (fun p hp => N' p (by
      rcases List.mem_append.mp hp with hp | hp
      · exact .tail _ (List.mem_append_left _ hp)
      · rcases List.mem_cons.mp hp with rfl | hp
        · exact .head _
        · exact .tail _ (List.mem_append_right _ hp)))
    (fun p hp q hq => by
      rcases List.mem_cons.mp hq with rfl | hq
      · exact Nat.ne_of_lt (Heap.lt_size (N p (List.mem_append_left _ hp)).1)
      · exact O p hp q hq) fun p hp => Heap.lt_size (N p hp).1) hz
/-- the last of a list in the ledger: to the things that change -/
theorem led_move {h₀ h : Heap} {L : Addr} {Y n : Led} {D : Addr} {o : Obj} (N : News h₀ L h (Y ++ ((D, o) :: n))) (O : Off Y ((D, o) :: n)) (hD : ∀ p ∈ Y ++ n, p.1 < D) : News h₀ L h (((D, o) :: Y) ++ n) ∧ Off ((D, o) :: Y) n :=
  ⟨fun p hp => N p (by
      rcases List.mem_append.mp hp with hp | hp
      · rcases List.mem_cons.mp hp with rfl | hp
        · exact List.mem_append_right _ (.head _)
        · exact List.mem_append_left _ hp
      · exact List.mem_append_right _ (.tail _ hp)),
    fun p hp q hq => by
      rcases List.mem_cons.mp hp with rfl | hp
      · exact Nat.ne_of_gt (hD q (List.mem_append_right _ hq))
      · exact O p hp q (.tail _ hq)⟩
theorem tupS {w : World} {S : Store} {h₀ h : Heap} {L : Addr} {m : Str → Option Value} {a : Addr} {vs : List Value} (G : Gr w S h₀) (F : Fr h₀ L h m) (hx : S a (tupO vs)) : IsTup h a vs.toArray := ⟨_, F.keep _ _ (G.s _ _ hx), rfl, _, rfl⟩
theorem tupK {w : World} {S : Store} {h₀ h : Heap} {L : Addr} {m : Str → Option Value} {news : Led} {a : Addr} {vs : List Value} (G : Gr w S h₀) (F : Fr h₀ L h m) (N : News h₀ L h news) (hx : Kn S news a (tupO vs)) : IsTup h a vs.toArray :=
  ⟨_, Kn.get G F N _ _ hx, rfl, _, rfl⟩

theorem room {w : World} {prog : Program} {A : Around} {s : Shared} {h₀ : Heap} {mean : ExcName → Option Value} {mg mb : Str → Option Value} {env : Env} {l : List Env} (T : Top view LO mean mg mb h₀) (hk : ∀ b o, h₀.get? b = some o → s.heap.get? b = some o)
    (hd : A.depth + 100 < recursionLimit) (hfr : A.frames = some (env :: l)) (ht : prog.given.tree = none) (hgen : env.scope.isGenerator = false) (hco : env.scope.isCoroutine = false) (hb : env.builtins = builtinsNs) (hg : env.globals = mainGlobals) : PylongRoom (model prog w) A s :=
  PylongRoom.of (T.nolimit.keeps hk) hd (SeerAt.of ((T.seer (by decide +kernel)).keeps hk) ht hfr hgen hco hb hg)

theorem rnum {n d : Int} (hd : 0 < d) : (Rat.divInt n d).num = n.fdiv (Int.gcd n d : Nat) := by
  rw [Rat.num_divInt, Int.sign_eq_one_of_pos hd, Int.one_mul, Int.gcd_comm d n, Int.fdiv_eq_ediv_of_nonneg _ (Int.natCast_nonneg _)]
theorem rden {n d : Int} (hd : 0 < d) : ((Rat.divInt n d).den : Int) = d.fdiv (Int.gcd n d : Nat) := by
  rw [Rat.den_divInt, if_neg (Int.ne_of_gt hd), Int.gcd_comm d n, Int.fdiv_eq_ediv_of_nonneg _ (Int.natCast_nonneg _)]
  obtain ⟨k, rfl⟩ := Int.eq_ofNat_of_zero_le (Int.le_of_lt hd)
  rfl
theorem rden_pos (q : Rat) : (0 : Int) < (q.den : Int) := Int.natCast_pos.mpr q.den_pos

open PySem.Builtin.Int in
theorem sz_divInt {n d : Int} {B : Nat} (h0 : 0 < d) (hn : intBits n ≤ B) (hd : intBits d ≤ B) : Sz (Rat.divInt n d) B :=
  ⟨by rw [rnum h0]; exact intBits_fdiv_le hn, by rw [rden h0]; exact intBits_fdiv_le hd⟩
theorem add_divInt (p q : Rat) : p + q = Rat.divInt (p.num * q.den + q.num * p.den) (p.den * q.den) := by
  have hp := rden_pos p; have hq := rden_pos q
  rw [← Rat.divInt_add_divInt _ _ (by exact om_162 _ hp) (by exact om_162 _ hq), Rat.num_divInt_den, Rat.num_divInt_den]
theorem mul_divInt (p q : Rat) : p * q = Rat.divInt (p.num * q.num) (p.den * q.den) := by
  rw [← Rat.divInt_mul_divInt, Rat.num_divInt_den, Rat.num_divInt_den]
theorem div_divInt (p q : Rat) : p / q = Rat.divInt (p.num * q.den) (p.den * q.num) := by
  rw [Rat.div_def, ← Rat.divInt_mul_divInt, Rat.num_divInt_den, ← Rat.inv_divInt, Rat.num_divInt_den]
open PySem.Builtin.Int in
theorem sz_add {p q : Rat} {B C : Nat} (hp : Sz p B) (hq : Sz q C) : Sz (p + q) (B + C + 1) := by
  rw [add_divInt]
  refine sz_divInt (Int.mul_pos (rden_pos p) (rden_pos q)) ?_ ?_
  · have h1 := intBits_mul_le hp.1 hq.2
    have h2 := intBits_mul_le hq.1 hp.2
    have := intBits_add_le h1 h2
    rw [Nat.add_comm C B, Nat.max_self] at this
    exact this
  · exact Nat.le_succ_of_le (intBits_mul_le hp.2 hq.2)
theorem sz_neg {q : Rat} {C : Nat} (hq : Sz q C) : Sz (-q) C := ⟨by rw [Rat.neg_num]; exact intBits_neg_le hq.1, by rw [Rat.neg_den]; exact hq.2⟩
theorem sz_sub {p q : Rat} {B C : Nat} (hp : Sz p B) (hq : Sz q C) : Sz (p - q) (B + C + 1) := by
  rw [Rat.sub_eq_add_neg]; exact sz_add hp (sz_neg hq)
theorem sz_mul {p q : Rat} {B C : Nat} (hp : Sz p B) (hq : Sz q C) : Sz (p * q) (B + C) := by
  rw [mul_divInt]
  exact sz_divInt (Int.mul_pos (rden_pos p) (rden_pos q)) (intBits_mul_le hp.1 hq.1) (intBits_mul_le hp.2 hq.2)
theorem num_pos {q : Rat} (h : 0 < q) : 0 < q.num := by
  have h1 := Rat.num_nonneg.mpr (Rat.le_of_lt h)
  have h2 : q.num ≠ 0 := fun e => by rw [Rat.num_eq_zero] at e; exact Rat.ne_of_lt h e.symm
  exact Int.lt_iff_le_and_ne.mpr ⟨h1, Ne.symm h2⟩
theorem sz_div {p q : Rat} {B C : Nat} (hp : Sz p B) (hq : Sz q C) (h0 : 0 < q) : Sz (p / q) (B + C) := by
  rw [div_divInt]
  exact sz_divInt (Int.mul_pos (rden_pos p) (num_pos h0)) (intBits_mul_le hp.1 hq.2) (intBits_mul_le hp.2 hq.1)
open PySem.Builtin.Int in
theorem sz_ok {p q : Rat} {B C : Nat} (hp : Sz p B) (hq : Sz q C) (h : B + C ≤ 134217728) : IntMulOk p.num q.num ∧ IntMulOk p.num q.den ∧ IntMulOk p.den q.num ∧ IntMulOk p.den q.den ∧ IntMulOk q.num p.den :=
  ⟨IntMulOk.of_le hp.1 hq.1 h, IntMulOk.of_le hp.1 hq.2 h, IntMulOk.of_le hp.2 hq.1 h, IntMulOk.of_le hp.2 hq.2 h, IntMulOk.of_le hq.1 hp.2 (by exact om_163 _ _ h)⟩
theorem Off.nilR {X : Led} : Off X [] := fun _ _ _ hq => nomatch hq
theorem Off.consR {X n : Led} {a : Addr} {o : Obj} (h : Off X n) (h' : ∀ p ∈ X, p.1 ≠ a) : Off X ((a, o) :: n) := fun p hp q hq => by
  rcases List.mem_cons.mp hq with rfl | hq
  · exact h' p hp
  · exact h p hp q hq
theorem Off.lt {X n : Led} {a : Addr} (h : ∀ p ∈ X ++ n, p.1 < a) : ∀ p ∈ X, p.1 ≠ a := fun p hp => Nat.ne_of_lt (h p (List.mem_append_left _ hp))
/-- a loop's source stays known -/
noncomputable def Src (h₀ : Heap) (lps news : Led) : Prop := ∀ p ∈ lps, h₀.get? p.1 = some p.2 ∨ p ∈ news
theorem Src.nil {h₀ : Heap} {news : Led} : Src h₀ [] news := fun _ hp => nomatch hp
theorem Src.sub {h₀ : Heap} {lps n n' : Led} (h : Src h₀ lps n) (hs : ∀ p ∈ n, p ∈ n') : Src h₀ lps n' := fun p hp => (h p hp).imp id (hs p)
theorem Src.appR {h₀ : Heap} {lps n n' : Led} (h : Src h₀ lps n) : Src h₀ lps (n ++ n') := h.sub fun _ => List.mem_append_left _

section
variable {prog : Program} {w : World} {A : Around} {E : Value → Shared → Prop} {s : Shared} {env : Env} {h₀ : Heap} {L : Addr}

/-- what a turn of a for leaves -/
noncomputable def FEnd (h₀ : Heap) (L : Addr) (s : Shared) (X lps : Led) (J : (Str → Option Value) → Led → Prop) (s₂ : Shared) : Prop :=
  ∃ h' tk m' news', s₂ = { s with heap := h', toks := tk } ∧ Fr h₀ L h' m' ∧ News h₀ L h' (X ++ news') ∧ Off X news' ∧ Src h₀ lps news' ∧ J m' news'
noncomputable def FPost (h₀ : Heap) (L : Addr) (s : Shared) (X lps : Led) (J : (Str → Option Value) → Led → Prop) (Q : Flow → Shared → Prop) (f : Flow) (s₂ : Shared) : Prop :=
  match f with
  | .ret v => Q (.ret v) s₂
  | .brk => Q .next s₂
  | _ => FEnd h₀ L s X lps J s₂

inductive FWInv (h₀ : Heap) (L : Addr) (s : Shared) (I : Addr) (lps : Led) (St : Nat → Heap → Prop) (J : Nat → (Str → Option Value) → Led → Prop) (n k : Nat) (s' : Shared) : Prop
  | mk (h' : Heap) (tk : Nat) (m' : Str → Option Value) (news' : Led) (i : Nat) (h1_ : s' = { s with heap := h', toks := tk }) (h2_ : St i h') (h3_ : Fr h₀ L h' m') (h4_ : News h₀ L h' news') (h5_ : ∀ p ∈ news', p.1 ≠ I) (h6_ : Src h₀ lps news') (h7_ : J i m' news') (h8_ : i ≤ n) (h9_ : k = n + 1 - i) : FWInv h₀ L s I lps St J n k s'
theorem for_walk {target : Expr} {body : List Stmt} {Q : Flow → Shared → Prop} {I : Addr} {n : Nat} {P : Nat → Value → Prop} {St : Nat → Heap → Prop} {m : Str → Option Value} {news lps : Led}
    (W : Walks prog w A I (I :: lps.map (·.1)) [I] n P St) (hI : h₀.get? I = none) (hIL : I ≠ L) (hnI : ∀ p ∈ news, p.1 ≠ I) (hlive : ∀ i h, St i h → ∃ o, h.get? I = some o)
    (hst : St 0 s.heap) (F : Fr h₀ L s.heap m) (N : News h₀ L s.heap news) (src : Src h₀ lps news)
    (J : Nat → (Str → Option Value) → Led → Prop) (h0 : J 0 m news)
    (turn : ∀ i v m₁ news₁ X h tk, i < n → P i v → J i m₁ news₁ → Src h₀ lps news₁ → Off X news₁ → Fr h₀ L h m₁ → News h₀ L h (X ++ news₁) →
      wpAny (model prog w) A (assign target env v) (fun _ s₂ => wpAny (model prog w) A (execs body env) (FPost h₀ L s X lps (J (i + 1)) Q) (fun _ _ => False) s₂) (fun _ _ => False) { s with heap := h, toks := tk })
    (done : ∀ m₁ news₁ h tk, J n m₁ news₁ → Fr h₀ L h m₁ → News h₀ L h news₁ → Q .next { s with heap := h, toks := tk })
    (ht : ∀ v, letOwnedTupleGo target (.ref I) v = pure () := by intro _; rfl) :
    codeAny (model prog w) A (.forLoop target (.ref I) body [] env) (fun r s' => match r with | .ok f => Q f s' | .error e => cameBackBy (model prog w) A env E e s') s := by
  refine codeAny_forLoop (ht := ht)
    (FWInv h₀ L s I lps St J n) ?_ (n + 1)
    ⟨s.heap, s.toks, m, news, 0, rfl, hst, F, N, hnI, src, h0, Nat.zero_le _, rfl⟩
  rintro k s' ⟨h', tk, m', news', i, rfl, hst', F', N', hn', src', hJ, hi, rfl⟩
  have old : ∀ b o, h₀.get? b = some o → b ≠ I := fun b o e hb => by rw [hb, hI] at e; cases e
  have next : ∀ h₁ : Heap, (∀ b o, b ∉ [I] → h'.get? b = some o → h₁.get? b = some o) → Fr h₀ L h₁ m' ∧ News h₀ L h₁ news' := fun h₁ hk₁ =>
    have hk : ∀ b o, b ≠ I → h'.get? b = some o → h₁.get? b = some o := fun b o hb e => hk₁ b o (by simpa using hb) e
    ⟨⟨F'.ns.at' fun o e => hk _ o (Ne.symm hIL) e, fun b o e => hk b o (old b o e) (F'.keep b o e), F'.above⟩, fun p hp => ⟨hk _ _ (hn' p hp) (N' p hp).1, (N' p hp).2⟩⟩
  by_cases hlt : i < n
  · refine W.item i _ _ _ hlt hst' fun v h₁ tk₁ hP hst₁ hk₁ => ?_
    obtain ⟨F₁, N₁⟩ := next h₁ hk₁
    obtain ⟨it, hit⟩ := hlive _ _ hst₁
    have hoff : Off [(I, it)] news' := fun p hp q hq => by rw [List.mem_singleton.mp hp]; exact Ne.symm (hn' q hq)
    have NX : News h₀ L h₁ ([(I, it)] ++ news') := fun p hp => by
      rcases List.mem_append.mp hp with hp | hp
      · rw [List.mem_singleton.mp hp]; exact ⟨hit, hIL, hI⟩
      · exact N₁ p hp
    refine wpAny_mono (turn i v m' news' [(I, it)] h₁ tk₁ hlt hP hJ src' hoff F₁ NX) (fun _ s₂ h₂ => wpAny_mono h₂ (fun f s₃ h₃ => ?_) fun _ _ x => x.elim) fun _ _ x => x.elim
    have fin : FEnd h₀ L s [(I, it)] lps (J (i + 1)) s₃ → ∃ m, m < n + 1 - i ∧ FWInv h₀ L s I lps St J n m s₃ := by
      rintro ⟨h₄, tk₄, m₄, news₄, rfl, F₄, N₄, o₄, s₄, j₄⟩
      refine ⟨n + 1 - (i + 1), by exact om_117 _ _ hlt, h₄, tk₄, m₄, news₄, i + 1, rfl, ?_, F₄, fun p hp => N₄ p (List.mem_append_right _ hp), fun p hp => Ne.symm (o₄ _ (List.Mem.head _) p hp), s₄, j₄, hlt, rfl⟩
      refine W.frame _ _ _ hst₁ fun b hb o e => ?_
      rcases List.mem_cons.mp hb with rfl | hb
      · rw [hit] at e; cases e
        exact (N₄ (b, it) (List.mem_append_left _ (List.Mem.head _))).1
      · obtain ⟨p, hp, rfl⟩ := List.mem_map.mp hb
        have e1 : h₁.get? p.1 = some p.2 := (src' p hp).elim (F₁.keep _ _) fun q => (N₁ p q).1
        rw [e1] at e; cases e
        exact (s₄ p hp).elim (F₄.keep _ _) fun q => (N₄ p (List.mem_append_right _ q)).1
    cases f with
    | ret v => exact h₃
    | brk => exact h₃
    | next => exact fin h₃
    | cont => exact fin h₃
  · have hin : i = n := by exact om_118 _ _ hi hlt
    subst hin
    refine W.done _ _ _ hst' fun h₁ tk₁ hk₁ => wpAny_execs_nil ?_
    obtain ⟨F₁, N₁⟩ := next h₁ hk₁
    exact done m' news' h₁ tk₁ hJ F₁ N₁

theorem for_range {target : Expr} {body : List Stmt} {Q : Flow → Shared → Prop} {r : Addr} {a b c : Int} {t₀ u₀ v₀ : Tok} {m : Str → Option Value} {news : Led} (n : Nat)
    (J : Nat → (Str → Option Value) → Led → Prop) (hr : IsRange s.heap r a b c t₀ u₀ v₀) (hh : A.handled = none) (hsmall : Builtin.Range.small a b c = true) (hn : Builtin.Range.rangeSize a b c = (n : Int))
    (F : Fr h₀ L s.heap m) (N : News h₀ L s.heap news) (h0 : J 0 m news)
    (turn : ∀ (i : Nat) t m₁ news₁ X h tk, i < n → J i m₁ news₁ → Off X news₁ → Fr h₀ L h m₁ → News h₀ L h (X ++ news₁) →
      wpAny (model prog w) A (assign target env (.int (a + (i : Int) * c) t)) (fun _ s₂ => wpAny (model prog w) A (execs body env) (FPost h₀ L s X [] (J (i + 1)) Q) (fun _ _ => False) s₂) (fun _ _ => False) { s with heap := h, toks := tk })
    (done : ∀ m₁ news₁ h tk, J n m₁ news₁ → Fr h₀ L h m₁ → News h₀ L h news₁ → Q .next { s with heap := h, toks := tk })
    (ht : ∀ I v, letOwnedTupleGo target (.ref I) v = pure () := by intro _ _; rfl) :
    wpAny (model prog w) A (pyIter (.ref r)) (fun it s₂ => codeAny (model prog w) A (.forLoop target it body [] env) (fun r s' => match r with | .ok f => Q f s' | .error e => cameBackBy (model prog w) A env E e s') s₂) E s := by
  refine wpAny_pyIter_range hr hsmall ?_
  have N' : News h₀ L (s.heap.push { cls := .type "range_iterator", data := .fields #[rawInt a, rawInt (Builtin.Range.rangeSize a b c), rawInt c] }) news := fun p hp => ⟨Heap.get?_push_of_some _ (N p hp).1, (N p hp).2⟩
  refine for_walk (lps := []) (Walks.range hh s.heap.objs.size a c n) (next_is_new F) (Nat.ne_of_gt F.ns.lt) (fun p hp e => ?_) (fun i h st => ⟨_, st⟩) ?_ (F.push _) N' Src.nil J h0 ?_ ?_ (ht _)
  · exact absurd (Heap.lt_size (N p hp).1) (by rw [e]; exact Nat.lt_irrefl _)
  · rw [hn]; simpa using Heap.get?_push_size _ rfl
  · rintro i v m₁ news₁ X h tk hi ⟨t, rfl⟩ hJ _ ho F₁ N₁
    exact turn i t m₁ news₁ X h tk hi hJ ho F₁ N₁
  · intro m₁ news₁ h tk hJ F₁ N₁
    exact done m₁ news₁ h tk hJ F₁ N₁

theorem for_list {target : Expr} {body : List Stmt} {Q : Flow → Shared → Prop} {ax : Addr} {vs : List Value} {k : Nat} {m : Str → Option Value} {news : Led}
    (J : Nat → (Str → Option Value) → Led → Prop) (src : h₀.get? ax = some (lisO vs k) ∨ (ax, lisO vs k) ∈ news) (hh : A.handled = none)
    (F : Fr h₀ L s.heap m) (N : News h₀ L s.heap news) (h0 : J 0 m news)
    (turn : ∀ (i : Nat) v m₁ news₁ X h tk, vs[i]? = some v → J i m₁ news₁ → Src h₀ [(ax, lisO vs k)] news₁ → Off X news₁ → Fr h₀ L h m₁ → News h₀ L h (X ++ news₁) →
      wpAny (model prog w) A (assign target env v) (fun _ s₂ => wpAny (model prog w) A (execs body env) (FPost h₀ L s X [(ax, lisO vs k)] (J (i + 1)) Q) (fun _ _ => False) s₂) (fun _ _ => False) { s with heap := h, toks := tk })
    (done : ∀ m₁ news₁ h tk, J vs.length m₁ news₁ → Fr h₀ L h m₁ → News h₀ L h news₁ → Q .next { s with heap := h, toks := tk })
    (ht : ∀ I v, letOwnedTupleGo target (.ref I) v = pure () := by intro _ _; rfl) :
    wpAny (model prog w) A (pyIter (.ref ax)) (fun it s₂ => codeAny (model prog w) A (.forLoop target it body [] env) (fun r s' => match r with | .ok f => Q f s' | .error e => cameBackBy (model prog w) A env E e s') s₂) E s := by
  have hax : s.heap.get? ax = some (lisO vs k) := src.elim (F.keep _ _) fun h => (N _ h).1
  have hl : s.heap.IsList ax vs.toArray := ⟨_, hax, rfl, k, rfl⟩
  have hlt : ax < s.heap.objs.size := Heap.lt_size hax
  refine wpAny_pyIter_list hl ?_
  have N' : News h₀ L (s.heap.push { cls := .type "list_iterator", data := .fields #[.ref ax, .int 0 0] }) news := fun p hp => ⟨Heap.get?_push_of_some _ (N p hp).1, (N p hp).2⟩
  have W := Walks.list (prog := prog) (w := w) hh s.heap.objs.size ax (Nat.ne_of_lt hlt) vs.toArray
  rw [show vs.toArray.size = vs.length by simp] at W
  refine for_walk (lps := [(ax, lisO vs k)]) W (next_is_new F) (Nat.ne_of_gt F.ns.lt) (fun p hp e => ?_) (fun i h st => ?_) ?_ (F.push _) N' ?_ J h0 ?_ ?_ (ht _)
  · exact absurd (Heap.lt_size (N p hp).1) (by rw [e]; exact Nat.lt_irrefl _)
  · obtain ⟨o, ho, _⟩ := st.1; exact ⟨o, ho⟩
  · exact ⟨⟨_, Heap.get?_push_size _ rfl, rfl, rfl⟩, hl.at fun o e => Heap.get?_push_of_some _ e⟩
  · intro p hp; rw [List.mem_singleton.mp hp]; exact src
  · intro i v m₁ news₁ X h tk hi hP hJ hs ho F₁ N₁
    exact turn i v m₁ news₁ X h tk (by simpa using hP) hJ hs ho F₁ N₁
  · intro m₁ news₁ h tk hJ F₁ N₁
    exact done m₁ news₁ h tk hJ F₁ N₁
end
/-- an object that stands for a block's names -/
noncomputable def NsO (o : Obj) (m : Str → Option Value) : Prop := ∃ es ep, o.data = .dict es ep ∧ StrKeys es ∧ ∀ name, nsFind es name = m name
theorem NsO.ns {h : Heap} {C : Addr} {o : Obj} {m : Str → Option Value} (h1 : h.get? C = some o) (h2 : NsO o m) : h.Ns C m := let ⟨es, ep, r⟩ := h2; ⟨o, es, ep, h1, r⟩
theorem NsO.of {h : Heap} {C : Addr} {m : Str → Option Value} (x : h.Ns C m) : ∃ o, h.get? C = some o ∧ NsO o m := let ⟨o, es, ep, h1, r⟩ := x; ⟨o, h1, es, ep, r⟩

/-- what a turn of a comprehension leaves -/
noncomputable def CEnd (h₀ : Heap) (L : Addr) (s : Shared) (m : Str → Option Value) (X lps : Led) (J : Led → Prop) (s₂ : Shared) : Prop :=
  ∃ h' tk news', s₂ = { s with heap := h', toks := tk } ∧ Fr h₀ L h' m ∧ News h₀ L h' (X ++ news') ∧ Off X news' ∧ Src h₀ lps news' ∧ J news'

noncomputable def testsOf (ifs : List Expr) (env : Env) : Sem Bool := forIn ifs true fun c r => if r = true then do let ok ← isTrue c env (eval c env); pure (ForInStep.yield ok) else pure (ForInStep.yield r)

section
variable {prog : Program} {w : World} {A : Around} {E : Value → Shared → Prop} {s : Shared} {env : Env} {h₀ : Heap} {L : Addr}

noncomputable abbrev CompTurn (prog : Program) (w : World) (A : Around) (h₀ : Heap) (L : Addr) (s : Shared) (env : Env) (m : Str → Option Value) (lps : Led) (x : Str) (ifs : List Expr) (elt : Expr) (scope : Scope) (cl : List (Str × Addr)) (J : Nat → List Value → Led → Prop) (i : Nat) (v : Value) : Prop :=
  ∀ (ys : List Value) (news₁ X : Led) (C : Addr) (oC : Obj) (m₂ : Str → Option Value) (h : Heap) (tk : Nat), J i ys news₁ → Src h₀ lps news₁ → Off X news₁ → (C, oC) ∈ X → NsO oC m₂ → m₂ x = some v → Fr h₀ L h m → News h₀ L h (X ++ news₁) →
    wpAny (model prog w) A (testsOf ifs (compEnvC scope cl C env)) (fun ok s₃ => if ok = true then wpAny (model prog w) A (eval elt (compEnvC scope cl C env)) (fun y s₄ => CEnd h₀ L s m X lps (J (i + 1) (ys ++ [y])) s₄) (fun _ _ => False) s₃ else CEnd h₀ L s m X lps (J (i + 1) ys) s₃) (fun _ _ => False) { s with heap := h, toks := tk }

inductive CLInv (h₀ : Heap) (L : Addr) (s : Shared) (m : Str → Option Value) (lps : Led) (I D C : Addr) (St : Nat → Heap → Prop) (J : Nat → List Value → Led → Prop) (n k : Nat) (s' : Shared) : Prop
  | mk (h' : Heap) (tk : Nat) (m' : Str → Option Value) (ys : List Value) (news' : Led) (i : Nat) (h1_ : s' = { s with heap := h', toks := tk }) (h2_ : St i h') (h3_ : Fr h₀ L h' m) (h4_ : News h₀ L h' news') (h5_ : ∀ p ∈ news', p.1 ≠ I) (h6_ : ∀ p ∈ news', p.1 ≠ D) (h7_ : ∀ p ∈ news', p.1 ≠ C) (h8_ : Src h₀ lps news') (h9_ : h'.PlainList D ys.toArray) (h10_ : h'.Ns C m') (h11_ : J i ys news') (h12_ : ys.length ≤ i) (h13_ : i ≤ n) (h14_ : k = n + 1 - i) : CLInv h₀ L s m lps I D C St J n k s'
theorem comp_loop {elt iter : Expr} {x : Str} {px : Pos} {ifs : List Expr} {scope : Scope} {cl : List (Str × Addr)} {pos : Pos} {I D C : Addr} {n : Nat} {P : Nat → Value → Prop} {St : Nat → Heap → Prop} {m : Str → Option Value} {news lps : Led} {R : Result → Shared → Prop}
    (W : Walks prog w A I (I :: lps.map (·.1)) [I] n P St) (hsz : n ≤ sizeLine) (hI : h₀.get? I = none) (hIL : I ≠ L) (hnI : ∀ p ∈ news, p.1 ≠ I) (hlive : ∀ i h, St i h → ∃ o, h.get? I = some o)
    (hD : h₀.get? D = none) (hDL : D ≠ L) (hnD : ∀ p ∈ news, p.1 ≠ D) (hC : h₀.get? C = none) (hCL : C ≠ L) (hnC : ∀ p ∈ news, p.1 ≠ C) (hDI : D ≠ I) (hCI : C ≠ I) (hDC : D ≠ C)
    (hx : scope.names.lookup x = some .local) (hkind : scope.kind = .function)
    (hst : St 0 s.heap) (F : Fr h₀ L s.heap m) (N : News h₀ L s.heap news) (src : Src h₀ lps news) (hacc : s.heap.PlainList D #[]) {m₀ : Str → Option Value} (hns : s.heap.Ns C m₀)
    (J : Nat → List Value → Led → Prop) (h0 : J 0 [] news) (turn : ∀ i v, i < n → P i v → CompTurn prog w A h₀ L s env m lps x ifs elt scope cl J i v)
    (fin : ∀ ys news' k h tk m', J n ys news' → Fr h₀ L h m → News h₀ L h ((D, lisO ys k) :: news') → (∀ p ∈ news', p.1 ≠ D) → (∀ p ∈ news', p.1 ≠ C) → h.Ns C m' → R (.ok .next) { s with heap := h, toks := tk }) :
    codeAny (model prog w) A (.compLoop (.ListComp elt [⟨.Name x px, iter, ifs, 0⟩] scope pos) 0 (.ref I) (.ref D) (compEnvC scope cl C env)) R s := by
  refine codeAny_compLoop_tests
    (CLInv h₀ L s m lps I D C St J n) ?_ (n + 1)
    ⟨s.heap, s.toks, m₀, [], news, 0, rfl, hst, F, N, hnI, hnD, hnC, src, hacc, hns, h0, Nat.zero_le _, Nat.zero_le _, rfl⟩
  rintro k s' ⟨h', tk, m', ys, news', i, rfl, hst', F', N', hn', hd', hc', src', acc', ns', hJ, hys, hi, rfl⟩
  have old : ∀ b o, h₀.get? b = some o → b ≠ I := fun b o e hb => by rw [hb, hI] at e; cases e
  have next : ∀ h₁ : Heap, (∀ b o, b ∉ [I] → h'.get? b = some o → h₁.get? b = some o) → Fr h₀ L h₁ m ∧ News h₀ L h₁ news' ∧ h₁.PlainList D ys.toArray ∧ h₁.Ns C m' := fun h₁ hk₁ =>
    have hk : ∀ b o, b ≠ I → h'.get? b = some o → h₁.get? b = some o := fun b o hb e => hk₁ b o (by simpa using hb) e
    ⟨⟨F'.ns.at' fun o e => hk _ o (Ne.symm hIL) e, fun b o e => hk b o (old b o e) (F'.keep b o e), F'.above⟩, fun p hp => ⟨hk _ _ (hn' p hp) (N' p hp).1, (N' p hp).2⟩, acc'.at fun o e => hk _ o hDI e, ns'.at' fun o e => hk _ o hCI e⟩
  by_cases hlt : i < n
  · refine W.item i _ _ _ hlt hst' fun v h₁ tk₁ hP hst₁ hk₁ => ?_
    obtain ⟨F₁, N₁, acc₁, ns₁⟩ := next h₁ hk₁
    have hfC : C ∉ I :: lps.map (·.1) := by
      intro hm
      rcases List.mem_cons.mp hm with e | hm
      · exact hCI e
      · obtain ⟨p, hp, e⟩ := List.mem_map.mp hm
        rcases src' p hp with q | q
        · rw [e, hC] at q; cases q
        · exact hc' p q e
    refine wpAny_assign_Name (wpAny_storeName_local (lookup_relabel_local hx) ns₁ (fun h₂ hn₂ hs₂ => ?_) (by simp [compEnvC, relabel, hkind]))
    have hcL : (compEnvC scope cl C env).locals = C := rfl
    rw [hcL] at hn₂ hs₂
    have F₂ : Fr h₀ L h₂ m := ⟨F₁.ns.sameBut hs₂ (Ne.symm hCL), fun b o e => (hs₂.2 b (fun q => by rw [q, hC] at e; cases e)).trans (F₁.keep b o e), F₁.above⟩
    have N₂ : News h₀ L h₂ news' := fun p hp => ⟨(hs₂.2 _ (hc' p hp)).trans (N₁ p hp).1, (N₁ p hp).2⟩
    have acc₂ : h₂.PlainList D ys.toArray := acc₁.at fun o e => (hs₂.2 _ hDC).trans e
    have hst₂ : St (i + 1) h₂ := W.frame _ _ _ hst₁ fun b hb o e => (hs₂.2 b fun q => hfC (q ▸ hb)).trans e
    obtain ⟨it, hit⟩ := hlive _ _ hst₂
    obtain ⟨oC, hoC, nsC⟩ := NsO.of hn₂
    obtain ⟨kD, hoD⟩ := acc₂
    have hoff : Off [(I, it), (C, oC), (D, lisO ys kD)] news' := fun p hp q hq => by
      rcases List.mem_cons.mp hp with rfl | hp
      · exact Ne.symm (hn' q hq)
      rcases List.mem_cons.mp hp with rfl | hp
      · exact Ne.symm (hc' q hq)
      rcases List.mem_cons.mp hp with rfl | hp
      · exact Ne.symm (hd' q hq)
      · cases hp
    have NX : News h₀ L h₂ ([(I, it), (C, oC), (D, lisO ys kD)] ++ news') := fun p hp => by
      rcases List.mem_append.mp hp with hp | hp
      · rcases List.mem_cons.mp hp with rfl | hp
        · exact ⟨hit, hIL, hI⟩
        rcases List.mem_cons.mp hp with rfl | hp
        · exact ⟨hoC, hCL, hC⟩
        rcases List.mem_cons.mp hp with rfl | hp
        · exact ⟨hoD, hDL, hD⟩
        · cases hp
      · exact N₂ p hp
    have frame : ∀ (h₄ : Heap) (news₄ : Led), Fr h₀ L h₄ m → News h₀ L h₄ ([(I, it), (C, oC), (D, lisO ys kD)] ++ news₄) → Src h₀ lps news₄ → St (i + 1) h₄ := fun h₄ news₄ F₄ N₄ s₄ =>
      W.frame _ _ _ hst₂ fun b hb o e => by
        rcases List.mem_cons.mp hb with rfl | hb
        · rw [hit] at e; cases e
          exact (N₄ (b, it) (List.mem_append_left _ (List.Mem.head _))).1
        · obtain ⟨p, hp, rfl⟩ := List.mem_map.mp hb
          have e1 : h₂.get? p.1 = some p.2 := (src' p hp).elim (F₂.keep _ _) fun q => (N₂ p q).1
          rw [e1] at e; cases e
          exact (s₄ p hp).elim (F₄.keep _ _) fun q => (N₄ p (List.mem_append_right _ q)).1
    refine wpAny_mono (turn i v hlt hP ys news' _ C oC _ h₂ (tk₁ + 1) hJ src' hoff (.tail _ (.head _)) nsC (by simp) F₂ NX) (fun ok s₃ h₃ => ?_) fun _ _ x => x.elim
    cases ok with
    | false =>
      simp only [Bool.false_eq_true, if_false] at h₃ ⊢
      obtain ⟨h₄, tk₄, news₄, rfl, F₄, N₄, o₄, s₄, j₄⟩ := h₃
      exact ⟨n + 1 - (i + 1), by exact om_117 _ _ hlt, h₄, tk₄, _, ys, news₄, i + 1, rfl, frame h₄ news₄ F₄ N₄ s₄, F₄, fun p hp => N₄ p (List.mem_append_right _ hp), fun p hp => Ne.symm (o₄ _ (.head _) p hp), fun p hp => Ne.symm (o₄ _ (.tail _ (.tail _ (.head _))) p hp), fun p hp => Ne.symm (o₄ _ (.tail _ (.head _)) p hp), s₄,
        ⟨kD, (N₄ (D, lisO ys kD) (List.mem_append_left _ (.tail _ (.tail _ (.head _))))).1⟩, nsC.ns (N₄ (C, oC) (List.mem_append_left _ (.tail _ (.head _)))).1, j₄, Nat.le_succ_of_le hys, hlt, rfl⟩
    | true =>
      simp only [if_true] at h₃ ⊢
      refine wpAny_mono h₃ (fun y s₄ h₄ => ?_) fun _ _ x => x.elim
      obtain ⟨h₄, tk₄, news₄, rfl, F₄, N₄, o₄, s₄, j₄⟩ := h₄
      have hDm := (N₄ (D, lisO ys kD) (List.mem_append_left _ (.tail _ (.tail _ (.head _))))).1
      refine wpAny_list_append_plain (hsz := by simp only [List.size_toArray]; exact om_129 _ _ _ hsz hys hlt) ⟨kD, hDm⟩ fun h₅ hl₅ hs₅ => ?_
      have hkD : ∀ p ∈ news₄, p.1 ≠ D := fun p hp => Ne.symm (o₄ _ (.tail _ (.tail _ (.head _))) p hp)
      have F₅ : Fr h₀ L h₅ m := ⟨F₄.ns.sameBut hs₅ (Ne.symm hDL), fun b o e => (hs₅.2 b (fun q => by rw [q, hD] at e; cases e)).trans (F₄.keep b o e), F₄.above⟩
      have st₄ := frame h₄ news₄ F₄ N₄ s₄
      have hfD : D ∉ I :: lps.map (·.1) := by
        intro hm
        rcases List.mem_cons.mp hm with e | hm
        · exact hDI e
        · obtain ⟨p, hp, e⟩ := List.mem_map.mp hm
          rcases s₄ p hp with q | q
          · rw [e, hD] at q; cases q
          · exact hkD p q e
      refine ⟨n + 1 - (i + 1), by exact om_117 _ _ hlt, h₅, tk₄, _, ys ++ [y], news₄, i + 1, rfl, W.frame _ _ _ st₄ fun b hb o e => (hs₅.2 b fun q => hfD (q ▸ hb)).trans e, F₅, fun p hp => ⟨(hs₅.2 _ (hkD p hp)).trans (N₄ p (List.mem_append_right _ hp)).1, (N₄ p (List.mem_append_right _ hp)).2⟩,
        fun p hp => Ne.symm (o₄ _ (.head _) p hp), hkD, fun p hp => Ne.symm (o₄ _ (.tail _ (.head _)) p hp), s₄, ?_, (nsC.ns (N₄ (C, oC) (List.mem_append_left _ (.tail _ (.head _)))).1).sameBut hs₅ (Ne.symm hDC), j₄, by simp; exact om_130 _ _ hys, hlt, rfl⟩
      have e9 : (ys ++ [y]).toArray = ys.toArray.push y := by simp
      rw [e9]; exact hl₅
  · have hin : i = n := by exact om_118 _ _ hi hlt
    subst hin
    refine W.done _ _ _ hst' fun h₁ tk₁ hk₁ => ?_
    obtain ⟨F₁, N₁, ⟨kD, acc₁⟩, ns₁⟩ := next h₁ hk₁
    refine fin ys news' kD h₁ tk₁ m' hJ F₁ (fun p hp => ?_) hd' hc' ns₁
    rcases List.mem_cons.mp hp with rfl | hp
    · exact ⟨acc₁, hDL, hD⟩
    · exact N₁ p hp

/-- the block of a comprehension, its source drawn -/
noncomputable def CompAt (prog : Program) (w : World) (A : Around) (E : Value → Shared → Prop) (env : Env) (e : Expr) (scope : Scope) (cl : List (Str × Addr)) (use : Option (Value → Sem Unit)) (Q : Value → Shared → Prop) (it : Value) (s₂ : Shared) : Prop :=
  wpAny (model prog w) A (newList []) (fun acc s₃ => wpAny (model prog w) A (newFunctionEnv scope env.globals cl [] env.qual none .none (some env)) (fun cenv s₄ =>
    codeAny (model prog w) A (.compStart e 0 it acc { cenv with scope := relabel scope env }) (compPost (model prog w) A E use Q acc cenv.locals) s₄) E s₃) E s₂

theorem comp_block {elt iter : Expr} {x : Str} {px : Pos} {ifs : List Expr} {scope : Scope} {cl : List (Str × Addr)} {pos : Pos} {I : Addr} {n : Nat} {P : Nat → Value → Prop} {St : Nat → Heap → Prop} {m : Str → Option Value} {news lps : Led} {use : Option (Value → Sem Unit)} {Q : Value → Shared → Prop}
    (W : Walks prog w A I (I :: lps.map (·.1)) [I] n P St) (hsz : n ≤ sizeLine) (hI : h₀.get? I = none) (hIL : I ≠ L) (hnI : ∀ p ∈ news, p.1 ≠ I) (hlive : ∀ i h, St i h → ∃ o, h.get? I = some o)
    (hst : St 0 s.heap) (F : Fr h₀ L s.heap m) (N : News h₀ L s.heap news) (src : Src h₀ lps news)
    (hcell : ∀ y ∈ scope.names, y.2 ≠ .cell) (hkind : scope.kind = .function) (hx : scope.names.lookup x = some .local)
    (J : Nat → List Value → Led → Prop) (h0 : J 0 [] news) (turn : ∀ i v, i < n → P i v → CompTurn prog w A h₀ L s env m lps x ifs elt scope cl J i v)
    (fin : ∀ D C ys news' k h tk m', J n ys news' → Fr h₀ L h m → News h₀ L h ((D, lisO ys k) :: news') → (∀ p ∈ news', p.1 ≠ D) → (∀ p ∈ news', p.1 ≠ C) → D ≠ C → C ≠ L → h₀.get? C = none → h.Ns C m' → compPost (model prog w) A E use Q (.ref D) C (.ok .next) { s with heap := h, toks := tk }) :
    CompAt prog w A E env (.ListComp elt [⟨.Name x px, iter, ifs, 0⟩] scope pos) scope cl use Q (.ref I) s := by
  unfold CompAt
  obtain ⟨oI, hoI⟩ := hlive _ _ hst
  have hIlt := Heap.lt_size hoI
  refine wpAny_newObj_type (wpAny_newFunctionEnv hcell (by intro y hy; simp at hy) (fun h₁ hns₁ hsb₁ => ?_) hkind)
  dsimp only at hns₁ hsb₁ ⊢
  generalize hH2 : s.heap.push { cls := .type "list", dict := none, data := .seq ([] : List Value).toArray } = H2 at hns₁ hsb₁ ⊢
  have hC : H2.objs.size = s.heap.objs.size + 1 := by rw [← hH2, Heap.size_push]
  have hDC : s.heap.objs.size ≠ H2.objs.size := by rw [hC]; exact Nat.ne_of_lt (Nat.lt_succ_self _)
  have below : ∀ b, b < s.heap.objs.size → b ≠ H2.objs.size ∧ b ≠ s.heap.objs.size := fun b hb => ⟨by rw [hC]; exact Nat.ne_of_lt (Nat.lt_succ_of_lt hb), Nat.ne_of_lt hb⟩
  have old : ∀ b o, s.heap.get? b = some o → h₁.get? b = some o := fun b o e => hsb₁.extBut b o (below b (Heap.lt_size e)).1 (Heap.get?_push_of_some _ (hH2 ▸ Heap.get?_push_of_some _ e))
  have hacc : h₁.PlainList s.heap.objs.size #[] := ⟨_, hsb₁.extBut _ _ hDC (Heap.get?_push_of_some _ (hH2 ▸ Heap.get?_push_size _ rfl))⟩
  have hst₁ : St 0 h₁ := W.frame _ _ _ hst fun b hb o e => old b o e
  have F₁ : Fr h₀ L h₁ m := F.keeps old
  have N₁ : News h₀ L h₁ news := fun p hp => ⟨old _ _ (N p hp).1, (N p hp).2⟩
  have newD : h₀.get? s.heap.objs.size = none := next_is_new F
  have newC : h₀.get? H2.objs.size = none := Heap.get?_none_of_le (by rw [hC]; exact Nat.le_succ_of_le (Nat.le_of_lt (Nat.lt_of_le_of_lt F.above F.ns.lt)))
  have ltn : ∀ p ∈ news, p.1 < s.heap.objs.size := fun p hp => Heap.lt_size (N p hp).1
  have loop : ∀ s₃ : Shared, s₃ = { s with heap := h₁, toks := s.toks + ([] : List (Str × Value)).length } →
      codeAny (model prog w) A (.compLoop (.ListComp elt [⟨.Name x px, iter, ifs, 0⟩] scope pos) 0 (.ref I) (.ref s.heap.objs.size) (compEnvC scope cl H2.objs.size env))
        (compPost (model prog w) A E use Q (.ref s.heap.objs.size) H2.objs.size) s₃ := by
    rintro s₃ rfl
    refine comp_loop (W := W) hsz hI hIL hnI hlive newD (Nat.ne_of_gt F.ns.lt) (fun p hp => Nat.ne_of_lt (ltn p hp)) newC (by rw [hC]; exact Nat.ne_of_gt (Nat.lt_succ_of_lt F.ns.lt)) (fun p hp => (below _ (ltn p hp)).1) (Nat.ne_of_gt hIlt) (by rw [hC]; exact Nat.ne_of_gt (Nat.lt_succ_of_lt hIlt)) hDC hx hkind hst₁ F₁ N₁ src hacc hns₁ J h0 ?_ ?_
    · intro i v hi hP ys news₁ X C oC m₂ h tk hJ hS hO hm hns hv FX NX
      exact turn i v hi hP ys news₁ X C oC m₂ h tk hJ hS hO hm hns hv FX NX
    · intro ys news' k h tk m' hJ F' N' o1 o2 hn
      exact fin _ _ ys news' k h tk m' hJ F' N' o1 o2 hDC (by rw [hC]; exact Nat.ne_of_gt (Nat.lt_succ_of_lt F.ns.lt)) newC hn
  exact codeAny_compStart_list (loop _ rfl) (W.self 0 _ _ _ hst₁ (loop _ rfl))

/-- what stands behind a comprehension -/
noncomputable abbrev CompDone (h₀ : Heap) (L : Addr) (s : Shared) (m : Str → Option Value) (J : List Value → Led → Prop) (Q : Value → Shared → Prop) : Prop :=
  ∀ (D : Addr) (ys : List Value) (news' : Led) (k : Nat) (h : Heap) (tk : Nat), J ys news' → Fr h₀ L h m → News h₀ L h ((D, lisO ys k) :: news') → (∀ p ∈ news', p.1 ≠ D) → Q (.ref D) { s with heap := h, toks := tk }
noncomputable abbrev CompDoneA (h₀ : Heap) (L : Addr) (s : Shared) (m : Str → Option Value) (y : Str) (J : List Value → Led → Prop) (Q : Flow → Shared → Prop) : Prop :=
  ∀ (D : Addr) (ys : List Value) (news' : Led) (k : Nat) (h : Heap) (tk : Nat), J ys news' → Fr h₀ L h (fun z => if z = y then some (.ref D) else m z) → News h₀ L h ((D, lisO ys k) :: news') → (∀ p ∈ news', p.1 ≠ D) → Q .next { s with heap := h, toks := tk }

theorem fin_eval {m : Str → Option Value} {J : List Value → Led → Prop} {Q : Value → Shared → Prop} (done : CompDone h₀ L s m J Q) :
    ∀ D C ys news' k h tk m', J ys news' → Fr h₀ L h m → News h₀ L h ((D, lisO ys k) :: news') → (∀ p ∈ news', p.1 ≠ D) → (∀ p ∈ news', p.1 ≠ C) → D ≠ C → C ≠ L → h₀.get? C = none → h.Ns C m' → compPost (model prog w) A E none Q (.ref D) C (.ok .next) { s with heap := h, toks := tk } := by
  intro D C ys news' k h tk m' hJ F N o1 o2 hDC hCL hC hn
  refine ⟨m', hn, fun h' hs => done D ys news' k h' tk hJ ⟨F.ns.sameBut hs (Ne.symm hCL), fun b o e => (hs.2 b (fun q => by rw [q, hC] at e; cases e)).trans (F.keep b o e), F.above⟩ (fun p hp => ?_) o1⟩
  rcases List.mem_cons.mp hp with rfl | hp'
  · exact ⟨(hs.2 _ hDC).trans (N _ hp).1, (N _ hp).2⟩
  · exact ⟨(hs.2 _ (o2 p hp')).trans (N _ hp).1, (N _ hp).2⟩

theorem fin_assign {m : Str → Option Value} {J : List Value → Led → Prop} {y : Str} {py : Pos} {Q : Flow → Shared → Prop} (hL : env.locals = L) (hy : env.kindOf y = some .local) (hp : (env.scope.kind == .class || (env.scope.kind == .module && env.locals != env.globals)) = false)
    (done : CompDoneA h₀ L s m y J Q) :
    ∀ D C ys news' k h tk m', J ys news' → Fr h₀ L h m → News h₀ L h ((D, lisO ys k) :: news') → (∀ p ∈ news', p.1 ≠ D) → (∀ p ∈ news', p.1 ≠ C) → D ≠ C → C ≠ L → h₀.get? C = none → h.Ns C m' → compPost (model prog w) A E (some (assign (.Name y py) env)) (fun _ s' => Q .next s') (.ref D) C (.ok .next) { s with heap := h, toks := tk } := by
  subst hL
  intro D C ys news' k h tk m' hJ F N o1 o2 hDC hCL hC hn
  show wpAny _ A (assign (.Name y py) env (.ref D)) _ _ _
  refine wpAny_assign_Name (wpAny_storeName_local hy F.ns (fun h₂ hn₂ hs₂ => ?_) hp)
  have F₂ := F.set hn₂ hs₂
  have N₂ := N.set hs₂
  refine ⟨m', hn.sameBut hs₂ hCL, fun h' hs => done D ys news' k h' _ hJ ⟨F₂.ns.sameBut hs (Ne.symm hCL), fun b o e => (hs.2 b (fun q => by rw [q, hC] at e; cases e)).trans (F₂.keep b o e), F₂.above⟩ (fun p hp => ?_) o1⟩
  rcases List.mem_cons.mp hp with rfl | hp'
  · exact ⟨(hs.2 _ hDC).trans (N₂ _ hp).1, (N₂ _ hp).2⟩
  · exact ⟨(hs.2 _ (o2 p hp')).trans (N₂ _ hp).1, (N₂ _ hp).2⟩

theorem comp_range {elt iter : Expr} {x : Str} {px : Pos} {ifs : List Expr} {scope : Scope} {cl : List (Str × Addr)} {pos : Pos} {r : Addr} {a b c : Int} {t₀ u₀ v₀ : Tok} {m : Str → Option Value} {news : Led} {use : Option (Value → Sem Unit)} {Q : Value → Shared → Prop} (n : Nat)
    (J : Nat → List Value → Led → Prop) (hr : IsRange s.heap r a b c t₀ u₀ v₀) (hh : A.handled = none) (hsmall : Builtin.Range.small a b c = true) (hn : Builtin.Range.rangeSize a b c = (n : Int)) (hsz : n ≤ sizeLine)
    (F : Fr h₀ L s.heap m) (N : News h₀ L s.heap news) (h0 : J 0 [] news)
    (hcell : ∀ y ∈ scope.names, y.2 ≠ .cell) (hkind : scope.kind = .function) (hx : scope.names.lookup x = some .local)
    (turn : ∀ (i : Nat) t, i < n → CompTurn prog w A h₀ L s env m [] x ifs elt scope cl J i (.int (a + (i : Int) * c) t))
    (fin : ∀ D C ys news' k h tk m', J n ys news' → Fr h₀ L h m → News h₀ L h ((D, lisO ys k) :: news') → (∀ p ∈ news', p.1 ≠ D) → (∀ p ∈ news', p.1 ≠ C) → D ≠ C → C ≠ L → h₀.get? C = none → h.Ns C m' → compPost (model prog w) A E use Q (.ref D) C (.ok .next) { s with heap := h, toks := tk }) :
    wpAny (model prog w) A (pyIter (.ref r)) (CompAt prog w A E env (.ListComp elt [⟨.Name x px, iter, ifs, 0⟩] scope pos) scope cl use Q) E s := by
  refine wpAny_pyIter_range hr hsmall ?_
  have N' : News h₀ L (s.heap.push { cls := .type "range_iterator", data := .fields #[rawInt a, rawInt (Builtin.Range.rangeSize a b c), rawInt c] }) news := fun p hp => ⟨Heap.get?_push_of_some _ (N p hp).1, (N p hp).2⟩
  refine comp_block (lps := []) (W := Walks.range hh s.heap.objs.size a c n) hsz (next_is_new F) (Nat.ne_of_gt F.ns.lt) (fun p hp e => ?_) (fun i h st => ⟨_, st⟩) ?_ (F.push _) N' Src.nil hcell hkind hx J h0 ?_ ?_
  · exact absurd (Heap.lt_size (N p hp).1) (by rw [e]; exact Nat.lt_irrefl _)
  · rw [hn]; simpa using Heap.get?_push_size _ rfl
  · rintro i v hi ⟨t, rfl⟩
    exact turn i t hi
  · exact fin

theorem comp_list {elt iter : Expr} {x : Str} {px : Pos} {ifs : List Expr} {scope : Scope} {cl : List (Str × Addr)} {pos : Pos} {ax : Addr} {vs : List Value} {k₀ : Nat} {m : Str → Option Value} {news : Led} {use : Option (Value → Sem Unit)} {Q : Value → Shared → Prop}
    (J : Nat → List Value → Led → Prop) (src : h₀.get? ax = some (lisO vs k₀) ∨ (ax, lisO vs k₀) ∈ news) (hh : A.handled = none) (hsz : vs.length ≤ sizeLine)
    (F : Fr h₀ L s.heap m) (N : News h₀ L s.heap news) (h0 : J 0 [] news)
    (hcell : ∀ y ∈ scope.names, y.2 ≠ .cell) (hkind : scope.kind = .function) (hx : scope.names.lookup x = some .local)
    (turn : ∀ (i : Nat) v, vs[i]? = some v → CompTurn prog w A h₀ L s env m [(ax, lisO vs k₀)] x ifs elt scope cl J i v)
    (fin : ∀ D C ys news' k h tk m', J vs.length ys news' → Fr h₀ L h m → News h₀ L h ((D, lisO ys k) :: news') → (∀ p ∈ news', p.1 ≠ D) → (∀ p ∈ news', p.1 ≠ C) → D ≠ C → C ≠ L → h₀.get? C = none → h.Ns C m' → compPost (model prog w) A E use Q (.ref D) C (.ok .next) { s with heap := h, toks := tk }) :
    wpAny (model prog w) A (pyIter (.ref ax)) (CompAt prog w A E env (.ListComp elt [⟨.Name x px, iter, ifs, 0⟩] scope pos) scope cl use Q) E s := by
  have hax : s.heap.get? ax = some (lisO vs k₀) := src.elim (F.keep _ _) fun h => (N _ h).1
  have hl : s.heap.IsList ax vs.toArray := ⟨_, hax, rfl, k₀, rfl⟩
  have hlt : ax < s.heap.objs.size := Heap.lt_size hax
  refine wpAny_pyIter_list hl ?_
  have N' : News h₀ L (s.heap.push { cls := .type "list_iterator", data := .fields #[.ref ax, .int 0 0] }) news := fun p hp => ⟨Heap.get?_push_of_some _ (N p hp).1, (N p hp).2⟩
  have W := Walks.list (prog := prog) (w := w) hh s.heap.objs.size ax (Nat.ne_of_lt hlt) vs.toArray
  rw [show vs.toArray.size = vs.length by simp] at W
  refine comp_block (lps := [(ax, lisO vs k₀)]) (W := W) hsz (next_is_new F) (Nat.ne_of_gt F.ns.lt) (fun p hp e => ?_) (fun i h st => ?_) ?_ (F.push _) N' ?_ hcell hkind hx J h0 ?_ ?_
  · exact absurd (Heap.lt_size (N p hp).1) (by rw [e]; exact Nat.lt_irrefl _)
  · obtain ⟨o, ho, _⟩ := st.1; exact ⟨o, ho⟩
  · exact ⟨⟨_, Heap.get?_push_size _ rfl, rfl, rfl⟩, hl.at fun o e => Heap.get?_push_of_some _ e⟩
  · intro p hp; rw [List.mem_singleton.mp hp]; exact src
  · intro i v hi hP
    exact turn i v (by simpa using hP)
  · exact fin

theorem eval_comp {elt iter : Expr} {x : Str} {px : Pos} {ifs : List Expr} {scope : Scope} {cl : List (Str × Addr)} {pos : Pos} {Q : Value → Shared → Prop}
    (hclos : closureFor scope env = pure cl) (hkind : scope.kind = .function) (hnames : ∀ y ∈ scope.names, y.2 = .local → scope.names.lookup y.1 = some .local)
    (h : wpAny (model prog w) A (eval iter env) (fun xv s₁ => wpAny (model prog w) A (pyIter xv) (CompAt prog w A E env (.ListComp elt [⟨.Name x px, iter, ifs, 0⟩] scope pos) scope cl none Q) E s₁) E s)
    (hs : ∀ x, foldedSetIterable iter env x = pure x := by intro _; rfl) :
    wpAny (model prog w) A (eval (.ListComp elt [⟨.Name x px, iter, ifs, 0⟩] scope pos) env) Q E s := by
  rw [eval_ListComp]
  exact wpAny_comprehension_free (use := none) rfl hs hclos hkind hnames h

theorem assign_comp {elt iter : Expr} {x y : Str} {px py : Pos} {ifs : List Expr} {scope : Scope} {cl : List (Str × Addr)} {pos spos : Pos} {Q : Flow → Shared → Prop}
    (hsw : swapsWith (.ListComp elt [⟨.Name x px, iter, ifs, 0⟩] scope pos) (some (.Name y py)) spos.line env = pure true)
    (hclos : closureFor scope env = pure cl) (hkind : scope.kind = .function) (hnames : ∀ y ∈ scope.names, y.2 = .local → scope.names.lookup y.1 = some .local)
    (h : wpAny (model prog w) A (eval iter env) (fun xv s₁ => wpAny (model prog w) A (pyIter xv) (CompAt prog w A E env (.ListComp elt [⟨.Name x px, iter, ifs, 0⟩] scope pos) scope cl (some (assign (.Name y py) env)) (fun _ s' => Q .next s')) E s₁) E s)
    (hs : ∀ x, foldedSetIterable iter env x = pure x := by intro _; rfl) :
    wpAny (model prog w) A (exec (.Assign [.Name y py] (.ListComp elt [⟨.Name x px, iter, ifs, 0⟩] scope pos) spos) env) Q E s := by
  rw [exec_Assign_Name_used _ _ _ _ hsw]
  refine wpAny_bind (wpAny_standAt (wpAny_bind ?_))
  show wpAny _ A (do let _ ← comprehension (.ListComp elt [⟨.Name x px, iter, ifs, 0⟩] scope pos) scope env _ (newList []) false (eval iter env) (some (assign (.Name y py) env))) _ _ s
  exact wpAny_bind (wpAny_mono (wpAny_comprehension_free (use := some (assign (.Name y py) env)) (Q := fun _ s' => Q .next s') rfl hs hclos hkind hnames h) (fun _ s' hq => wpAny_pure (wpAny_pure hq)) fun _ _ e => e)

/-- names within a comprehension -/
theorem cn_local {M : Model} {scope : Scope} {cl : List (Str × Addr)} {C : Addr} {oC : Obj} {m₂ : Str → Option Value} {news : Led} {y : Str} {pos : Pos} {v : Value} {Q : Value → Shared → Prop} (N : News h₀ L s.heap news) (hm : (C, oC) ∈ news) (hns : NsO oC m₂) (hv : m₂ y = some v) (h : Q v s)
    (hk : (compEnvC scope cl C env).scope.kind = .function) (hl : (compEnvC scope cl C env).kindOf y = some .local) (hd : (y == ("__debug__" : Str)) = false) : wpAny M A (eval (.Name y pos) (compEnvC scope cl C env)) Q E s :=
  wpAny_Name (wpAny_loadName_local hk hl (hns.ns (N _ hm).1) hv h) hd
theorem cn_cell {M : Model} {scope : Scope} {cl : List (Str × Addr)} {C c : Addr} {o : Obj} {news : Led} {y : Str} {pos : Pos} {v : Value} {Q : Value → Shared → Prop} (N : News h₀ L s.heap news) (hc : cl.lookup y = some c) (hm : (c, o) ∈ news) (hd : o.data = .cell (some v)) (h : Q v s)
    (hk : (compEnvC scope cl C env).scope.kind = .function) (hl : (compEnvC scope cl C env).kindOf y = some .cell) (hdb : (y == ("__debug__" : Str)) = false) : wpAny M A (eval (.Name y pos) (compEnvC scope cl C env)) Q E s :=
  wpAny_Name (wpAny_loadName_cell hk hl hc ⟨o, (N _ hm).1, hd⟩ h) hdb
end
noncomputable def RatsS (S : Store) : List Value → List Rat → Prop
  | [], [] => True
  | v :: vs, q :: qs => RatS S v q ∧ RatsS S vs qs
  | _, _ => False
theorem RatsS.mono {S S' : Store} (hs : ∀ a o, S a o → S' a o) : ∀ {vs : List Value} {qs : List Rat}, RatsS S vs qs → RatsS S' vs qs
  | [], [], _ => trivial
  | _ :: _, _ :: _, h => ⟨h.1.mono hs, RatsS.mono hs h.2⟩
  | [], _ :: _, h => h.elim
  | _ :: _, [], h => h.elim
theorem RatsS.length {S : Store} : ∀ {vs : List Value} {qs : List Rat}, RatsS S vs qs → vs.length = qs.length
  | [], [], _ => rfl
  | _ :: _, _ :: _, h => by simp [RatsS.length h.2]
  | [], _ :: _, h => h.elim
  | _ :: _, [], h => h.elim
theorem RatsS.get {S : Store} : ∀ {vs : List Value} {qs : List Rat} (i : Nat), RatsS S vs qs → (hi : i < qs.length) → ∃ v, vs[i]? = some v ∧ RatS S v qs[i]
  | v :: vs, q :: qs, 0, h, _ => ⟨v, rfl, h.1⟩
  | v :: vs, q :: qs, i + 1, h, hi => by
    obtain ⟨v', h1, h2⟩ := RatsS.get i h.2 (by simpa using hi)
    exact ⟨v', by simpa using h1, by simpa using h2⟩
  | [], [], _, _, hi => by simp at hi
  | [], _ :: _, _, h, _ => h.elim
  | _ :: _, [], _, h, _ => h.elim
theorem RatsS.snoc {S : Store} {v : Value} {q : Rat} : ∀ {vs : List Value} {qs : List Rat}, RatsS S vs qs → RatS S v q → RatsS S (vs ++ [v]) (qs ++ [q])
  | [], [], _, h => ⟨h, trivial⟩
  | _ :: _, _ :: _, h, h' => ⟨h.1, RatsS.snoc h.2 h'⟩
  | [], _ :: _, h, _ => h.elim
  | _ :: _, [], h, _ => h.elim
/-- the value is a list of numbers -/
inductive RatL (S : Store) (v : Value) (qs : List Rat) : Prop
  | mk (a k vs : _) (h1_ : v = .ref a) (h2_ : S a (lisO vs k)) (h3_ : RatsS S vs qs) : RatL S v qs
theorem RatL.mono {S S' : Store} (hs : ∀ a o, S a o → S' a o) {v : Value} {qs : List Rat} (h : RatL S v qs) : RatL S' v qs :=
  by obtain ⟨a, k, vs, e, x, y⟩ := h; exact ⟨a, k, vs, e, hs _ _ x, y.mono hs⟩
theorem RatL.l {S : Store} {v : Value} {q : List Rat} {n : Led} (h : RatL S v q) : RatL (Kn S n) v q := h.mono fun _ _ => Kn.l
theorem RatL.app {S : Store} {v : Value} {q : List Rat} {n n' : Led} (h : RatL (Kn S n) v q) : RatL (Kn S (n ++ n')) v q := h.mono fun _ _ e => e.imp id fun e => List.mem_append_left _ e
theorem RatL.cons {S : Store} {v : Value} {q : List Rat} {p : Addr × Obj} {n : Led} (h : RatL (Kn S n) v q) : RatL (Kn S (p :: n)) v q := h.mono fun _ _ e => e.imp id fun e => List.mem_cons_of_mem _ e
theorem Kn.appR {S : Store} {n n' : Led} : ∀ a o, Kn S n a o → Kn S (n ++ n') a o := fun _ _ e => e.imp id fun e => List.mem_append_left _ e
theorem Kn.sub {S : Store} {n n' : Led} (h : ∀ p ∈ n, p ∈ n') : ∀ a o, Kn S n a o → Kn S n' a o := fun _ _ e => e.imp id fun e => h _ e

noncomputable def dotR : List Rat → List Rat → Rat
  | a :: as, b :: bs => a * b + dotR as bs
  | _, _ => 0
theorem dotR_take : ∀ (us vs : List Rat) (i : Nat) (h : i < us.length) (h' : i < vs.length), dotR (us.take (i + 1)) (vs.take (i + 1)) = dotR (us.take i) (vs.take i) + us[i] * vs[i]
  | a :: as, b :: bs, 0, _, _ => by simp only [List.take_succ_cons, List.take_zero, dotR, List.getElem_cons_zero]; grind
  | a :: as, b :: bs, i + 1, h, h' => by
    have := dotR_take as bs i (by simpa using h) (by simpa using h')
    simp only [List.take_succ_cons, dotR, this, List.getElem_cons_succ]
    grind
theorem sz_zero : Sz 0 1 := ⟨by decide, by decide⟩
theorem sz_dot {B C : Nat} : ∀ (us vs : List Rat), (∀ q ∈ us, Sz q B) → (∀ q ∈ vs, Sz q C) → Sz (dotR us vs) (us.length * (B + C + 1) + 1)
  | [], _, _, _ => sz_zero.le (by simp)
  | _ :: _, [], _, _ => sz_zero.le (by simp)
  | a :: as, b :: bs, h, h' => by
    have h1 := sz_mul (h a (.head _)) (h' b (.head _))
    have h2 := sz_dot as bs (fun q hq => h q (.tail _ hq)) fun q hq => h' q (.tail _ hq)
    refine (sz_add h1 h2).le ?_
    simp only [List.length_cons, Nat.add_mul, Nat.one_mul]
    exact om_164 _ _ _
theorem sz_take {B : Nat} {us : List Rat} (h : ∀ q ∈ us, Sz q B) (i : Nat) : ∀ q ∈ us.take i, Sz q B := fun q hq => h q (List.mem_of_mem_take hq)

theorem getS {w : World} {S : Store} {h₀ h : Heap} {L : Addr} {m : Str → Option Value} {a : Addr} {o : Obj} (G : Gr w S h₀) (F : Fr h₀ L h m) (hx : S a o) : h.get? a = some o := F.keep _ _ (G.s _ _ hx)
theorem itemL {prog : Program} {w : World} {A : Around} {E : Value → Shared → Prop} {s : Shared} {value slice : Expr} {a : Addr} {vs : List Value} {kk : Nat} {i : Int} {t : Tok} {v : Value} {Q : Value → Shared → Prop}
    (hl : s.heap.get? a = some (lisO vs kk)) (h0 : 0 ≤ i) (h1 : i < 2 ^ 63) (hv : vs[i.toNat]? = some v) (h : Q v s)
    (hs : subscripted slice false (.ref a) (.int i t) = operate [.ref a, .int i t] (getItem (.ref a) (.int i t)) := by with_unfolding_all rfl) :
    wpAny (model prog w) A (subscriptTail value slice (.ref a) (.int i t)) Q E s :=
  have l : s.heap.IsList a vs.toArray := ⟨_, hl, rfl, kk, rfl⟩
  tail_any l.typeIs slot_list_getitem.lookup (wpAny_getItem_list l h0 h1 (by simpa using hv) h) hs
theorem lenL {prog : Program} {w : World} {A : Around} {E : Value → Shared → Prop} {s : Shared} {a : Addr} {vs : List Value} {kk : Nat} {Q : Value → Shared → Prop} (hl : s.heap.get? a = some (lisO vs kk)) (hn : vs.length ≤ 1048576)
    (h : Q (.int (vs.length : Nat) (s.toks + 1)) { s with toks := s.toks + 1 + 1 }) : wpAny (model prog w) A (call (.builtin "len") [.ref a]) Q E s := by
  have l : s.heap.IsList a vs.toArray := ⟨_, hl, rfl, kk, rfl⟩
  have e : vs.toArray.size = vs.length := by simp
  refine Calls.call_len_list l (by exact om_165 _ _ hn e) ?_
  rw [e]; exact h
theorem size_up {n : Nat} : Builtin.Range.rangeSize 0 (n : Int) 1 = (n : Int) := by
  unfold Builtin.Range.rangeSize
  simp
  omega
theorem small_up {n : Nat} (h : n ≤ 1048576) : Builtin.Range.small 0 (n : Int) 1 = true := by
  unfold Builtin.Range.small Builtin.Range.rangeFitsLong
  rw [size_up]
  simp
  exact om_166 _ h
section
variable {prog : Program} {w : World} {A : Around} {s : Shared} {K : Frag} {R : Result → Shared → Prop} {name qual : Str} {params : Arguments} {body : List Stmt} {scope : Scope} {dV kV doc pm cdv ct oc : Value} {an od : Option Addr}
  {osl : Array (Option Value)} {f : Addr} {args : Args} {binds : List (Str × Value)} {p : Program} {loose : List Str} {mean : ExcName → Option Value} {mg mb : Str → Option Value}
noncomputable abbrev cellLed (cs : List (Str × Addr)) (co : Str → Obj) : Led := cs.map fun q => (q.2, co q.1)
/-- into a def that has cells -/
theorem enterPC (X : K.In s.heap) (T : Top p loose mean mg mb s.heap) (ho : K.lookup f = some ⟨oc, od, .func (fnOf name qual params body scope dV kV doc pm an cdv ct), osl⟩) (hcd : codeIn K cdv qual = true)
    (hroom : A.depth < recursionLimit) (hbind : BindsTo s (fnOf name qual params body scope dV kV doc pm an cdv ct) args binds)
    (hkind : (binds.all fun y => scope.names.lookup y.1 == some .local || scope.names.lookup y.1 == some .cell) = true) (hnd : ((cellsFrom 0 scope.names []).map (·.1)).Nodup)
    (h : ∀ h₁ tk co, Fr s.heap s.heap.objs.size h₁ (bindL (envOfC qual scope s.heap.objs.size f cdv).kindOf binds fun _ => none) → News s.heap s.heap.objs.size h₁ (cellLed (cellsFrom (s.heap.objs.size + 1) scope.names []) co) →
      (∀ q ∈ cellsFrom (s.heap.objs.size + 1) scope.names [], (co q.1).data = .cell (bindC (envOfC qual scope s.heap.objs.size f cdv).kindOf binds (fun _ => none) q.1)) →
      wpAny (model prog w) (A.deeper (envOfC qual scope s.heap.objs.size f cdv)) (execs body (envOfC qual scope s.heap.objs.size f cdv))
        (fun fl s' => R (.ok (.ret (match fl with | .ret v => v | _ => .none))) s') (fun _ _ => False) { s with heap := h₁, toks := tk })
    (hco : scope.isCoroutine = false) (hgen : scope.isGenerator = false) (hk : scope.kind = .function) : codeAny (model prog w) A (.call (.ref f) args) R s := by
  refine codeAny_call_function hroom (X _ _ ho) rfl hco hgen rfl (codeRec_of X hcd) (hbind _ _ _ _ ?_)
  refine wpAny_newFunctionEnv_cells hk (kindsX hkind _) fun env' he s' x => ?_
  subst he
  refine ⟨T.nolimit.keeps x.toInCall.keep, codeAny_func ?_⟩
  obtain ⟨h₁, tk, rfl, _⟩ := x.done
  have nd : ∀ n c, (n, c) ∈ cellsFrom (s.heap.objs.size + 1) scope.names [] → (cellsFrom (s.heap.objs.size + 1) scope.names []).lookup n = some c := fun n c hm =>
    lookup_of_mem_nodup (cellsFrom_names scope.names 0 (s.heap.objs.size + 1) [] [] rfl ▸ hnd) hm
  let co : Str → Obj := fun n => match (cellsFrom (s.heap.objs.size + 1) scope.names []).lookup n with
    | some c => (h₁.get? c).getD default
    | none => default
  have hco' : ∀ n c, (n, c) ∈ cellsFrom (s.heap.objs.size + 1) scope.names [] → h₁.get? c = some (co n) ∧ (co n).data = .cell (bindC (envOfC qual scope s.heap.objs.size f cdv).kindOf binds (fun _ => none) n) := fun n c hm => by
    obtain ⟨o, ho, hd⟩ := x.cell n c (nd n c hm)
    have e : co n = o := by show (match (cellsFrom (s.heap.objs.size + 1) scope.names []).lookup n with | some c => (h₁.get? c).getD default | none => default) = o; rw [nd n c hm]; dsimp only; rw [show h₁.get? c = some o from ho]; rfl
    rw [e]; exact ⟨ho, hd⟩
  refine wpAny_mono (h h₁ tk co ⟨x.toInCall.ns, x.toInCall.keep, Nat.le_refl _⟩ (fun q hq => ?_) fun q hq => (hco' q.1 q.2 hq).2) (fun _ _ x => x) fun _ _ x => x.elim
  obtain ⟨y, hy, rfl⟩ := List.mem_map.mp hq
  have lt := x.above y.1 y.2 hy
  exact ⟨(hco' y.1 y.2 hy).1, Nat.ne_of_gt lt, Heap.get?_none_of_le (Nat.le_of_lt lt)⟩
end

section
variable {M : Model} {A : Around} {E : Value → Shared → Prop} {s : Shared} {h₀ : Heap} {L a : Addr} {m : Str → Option Value} {cn : Str} {cs : Scope} {ccd : Value} {Q : Unit → Shared → Prop} {Y n : Led}
/-- a cell's name stored -/
theorem cell_st {cl : List (Str × Addr)} {x : Str} {v : Value} {c : Addr} {o : Obj} {v₀ : Option Value} {pre post : Led} (F : Fr h₀ L s.heap m) (N : News h₀ L s.heap ((pre ++ (c, o) :: post) ++ n)) (O : Off (pre ++ (c, o) :: post) n)
    (hc : cl.lookup x = some c) (hd : o.data = .cell v₀) (h1 : ∀ p ∈ pre, p.1 ≠ c) (h2 : ∀ p ∈ post, p.1 ≠ c)
    (h : ∀ h' o', Fr h₀ L h' m → News h₀ L h' ((pre ++ (c, o') :: post) ++ n) → Off (pre ++ (c, o') :: post) n → o'.data = .cell (some v) → Q () { s with heap := h' })
    (hk : cs.kind = .function) (hx : (envX cn cs L a ccd cl).kindOf x = some .cell) : wpAny M A (storeName (envX cn cs L a ccd cl) x v) Q E s := by
  have hm : (c, o) ∈ (pre ++ (c, o) :: post) ++ n := List.mem_append_left _ (List.mem_append_right _ (.head _))
  have hmem := N _ hm
  refine wpAny_storeName_cell hk hx hc ⟨o, hmem.1, hd⟩ fun h' hv hs => ?_
  obtain ⟨o', ho', hd'⟩ := hv
  refine h h' o' ⟨F.ns.sameBut hs (Ne.symm hmem.2.1), fun b ob e => (hs.2 b (fun q => by rw [q, hmem.2.2] at e; cases e)).trans (F.keep b ob e), F.above⟩ (fun p hp => ?_) (fun p hp q hq => ?_) hd'
  · have same : p ∈ (pre ++ (c, o) :: post) ++ n → p.1 ≠ c → h'.get? p.1 = some p.2 ∧ p.1 ≠ L ∧ h₀.get? p.1 = none := fun hp hne => ⟨(hs.2 _ hne).trans (N p hp).1, (N p hp).2⟩
    rcases List.mem_append.mp hp with hp | hp
    · rcases List.mem_append.mp hp with hp | hp
      · exact same (List.mem_append_left _ (List.mem_append_left _ hp)) (h1 p hp)
      · rcases List.mem_cons.mp hp with rfl | hp
        · exact ⟨ho', hmem.2⟩
        · exact same (List.mem_append_left _ (List.mem_append_right _ (.tail _ hp))) (h2 p hp)
    · exact same (List.mem_append_right _ hp) (Ne.symm (O (c, o) (List.mem_append_right _ (.head _)) p hp))
  · rcases List.mem_append.mp hp with hp | hp
    · exact O p (List.mem_append_left _ hp) q hq
    · rcases List.mem_cons.mp hp with rfl | hp
      · exact O (c, o) (List.mem_append_right _ (.head _)) q hq
      · exact O p (List.mem_append_right _ (.tail _ hp)) q hq
end
theorem Off.appL {X Y n : Led} (h : Off X n) (h' : Off Y n) : Off (X ++ Y) n := fun p hp q hq => (List.mem_append.mp hp).elim (fun hp => h p hp q hq) fun hp => h' p hp q hq
theorem Off.l {X Y n : Led} (h : Off (X ++ Y) n) : Off X n := fun p hp => h p (List.mem_append_left _ hp)
theorem Off.r {X Y n : Led} (h : Off (X ++ Y) n) : Off Y n := fun p hp => h p (List.mem_append_right _ hp)
theorem Off.ll {X Y n : Led} (h : Off X (Y ++ n)) : Off X Y := fun p hp q hq => h p hp q (List.mem_append_left _ hq)
theorem Off.rr {X Y n : Led} (h : Off X (Y ++ n)) : Off X n := fun p hp q hq => h p hp q (List.mem_append_right _ hq)
theorem Off.mk {X Y n : Led} (h : Off X Y) (h' : Off X n) : Off X (Y ++ n) := fun p hp q hq => (List.mem_append.mp hq).elim (h p hp q) (h' p hp q)
theorem led_in {h₀ h : Heap} {L : Addr} {X Y n : Led} (N : News h₀ L h (X ++ (Y ++ n))) : News h₀ L h ((X ++ Y) ++ n) := by rw [List.append_assoc]; exact N
theorem led_out {h₀ h : Heap} {L : Addr} {X Y n : Led} (N : News h₀ L h ((X ++ Y) ++ n)) : News h₀ L h (X ++ (Y ++ n)) := by rw [List.append_assoc] at N; exact N
theorem tests_nil {prog : Program} {w : World} {A : Around} {E : Value → Shared → Prop} {s : Shared} {env : Env} {P P' : Shared → Prop} (h : P s) : wpAny (model prog w) A (testsOf [] env) (fun ok s₃ => if ok = true then P s₃ else P' s₃) E s :=
  wpAny_tests_nil (by simpa using h)

noncomputable def lessR : List Rat → Rat → List Rat → List Rat
  | a :: as, q, b :: bs => (a - q * b) :: lessR as q bs
  | _, _, _ => []
theorem lessR_length : ∀ (us : List Rat) (q : Rat) (vs : List Rat), us.length = vs.length → (lessR us q vs).length = us.length
  | [], _, [], _ => rfl
  | _ :: _, _, _ :: _, h => by simp [lessR, lessR_length _ _ _ (by simpa using h)]
  | [], _, _ :: _, h => by simp at h
  | _ :: _, _, [], h => by simp at h
theorem lessR_get : ∀ (us : List Rat) (q : Rat) (vs : List Rat) (i : Nat) (h : i < us.length) (h' : i < vs.length), (lessR us q vs).take (i + 1) = (lessR us q vs).take i ++ [us[i] - q * vs[i]]
  | a :: as, q, b :: bs, 0, _, _ => by simp [lessR]
  | a :: as, q, b :: bs, i + 1, h, h' => by
    have := lessR_get as q bs i (by simpa using h) (by simpa using h')
    simp only [lessR, List.take_succ_cons, this, List.cons_append, List.getElem_cons_succ]
theorem lessR_zero : ∀ (us vs : List Rat), us.length = vs.length → lessR us 0 vs = us
  | [], [], _ => rfl
  | a :: as, b :: bs, h => by
    have := lessR_zero as bs (by simpa using h)
    simp only [lessR, this]
    congr 1
    grind
  | [], _ :: _, h => by simp at h
  | _ :: _, [], h => by simp at h
theorem sz_less {B C D : Nat} : ∀ {us vs : List Rat} {q : Rat}, (∀ x ∈ us, Sz x B) → Sz q D → (∀ x ∈ vs, Sz x C) → ∀ x ∈ lessR us q vs, Sz x (B + (D + C) + 1)
  | a :: as, b :: bs, q, h1, h2, h3, x, hx => by
    rcases List.mem_cons.mp hx with rfl | hx
    · exact sz_sub (h1 a (.head _)) (sz_mul h2 (h3 b (.head _)))
    · exact sz_less (fun y hy => h1 y (.tail _ hy)) h2 (fun y hy => h3 y (.tail _ hy)) x hx
  | [], [], _, _, _, _, _, hx => nomatch hx
  | [], _ :: _, _, _, _, _, _, hx => nomatch hx
  | _ :: _, [], _, _, _, _, _, hx => nomatch hx
section
variable {prog : Program} {w : World} {A : Around} {s : Shared} {K : Frag} {R : Result → Shared → Prop} {name qual : Str} {params : Arguments} {body : List Stmt} {scope : Scope} {dV kV doc pm cdv ct oc : Value} {an od : Option Addr}
  {osl : Array (Option Value)} {fI C : Addr} {rest : List Value} {binds : List (Str × Value)} {p : Program} {loose : List Str} {mean : ExcName → Option Value} {mg mb : Str → Option Value}
/-- a new object of the text's own, its __init__ entered: all that stood is its base -/
theorem newP (X : K.In s.heap) (T : Top p loose mean mg mb s.heap) (hm : makesIn K C = true) (hi : findIn K (.ref C) "__init__" = some (some (.ref fI))) (hf : isFn K (.ref fI) = true)
    (ho : K.lookup fI = some ⟨oc, od, .func (fnOf name qual params body scope dV kV doc pm an cdv ct), osl⟩) (hcd : codeIn K cdv qual = true) (hroom : A.depth + 1 < recursionLimit)
    (hbind : ∀ s' : Shared, K.In s'.heap → BindsTo s' (fnOf name qual params body scope dV kV doc pm an cdv ct) ⟨.ref (s.heap.objs.size + 1) :: rest, []⟩ binds) (hloc : ∀ y ∈ binds, scope.names.lookup y.1 = some .local)
    (h : ∀ h₁ tk₁, Fr s.heap (s.heap.objs.size + 1 + 1) h₁ (upd (fun _ => none) (binds.reverse.map fun p => (p.1, some p.2))) → News s.heap (s.heap.objs.size + 1 + 1) h₁ ([(s.heap.objs.size + 1, instObj C s.heap.objs.size), (s.heap.objs.size, dictOf [] 0)] ++ []) →
      wpAny (model prog w) ((A.under (.builtin "type.__call__" ⟨.ref C :: rest, []⟩)).deeper (envOf qual scope (s.heap.objs.size + 1 + 1) fI cdv)) (execs body (envOf qual scope (s.heap.objs.size + 1 + 1) fI cdv))
        (fun fl s' => (match fl with | .ret v => v | _ => .none) = .none ∧ R (.ok (.ret (.ref (s.heap.objs.size + 1)))) s') (fun _ _ => False) { s with heap := h₁, toks := tk₁ })
    (hcell : ∀ x ∈ scope.names, x.2 ≠ .cell) (hco : scope.isCoroutine = false) (hgen : scope.isGenerator = false) (hk : scope.kind = .function) : codeAny (model prog w) A (.call (.ref C) ⟨rest, []⟩) R s := by
  obtain ⟨hh, g, d, t, os⟩ := s
  have keep : ∀ b o, hh.get? b = some o → ((hh.push emptyDict).push (instObj C hh.objs.size)).get? b = some o := fun b o e => Heap.get?_push_of_some _ (Heap.get?_push_of_some _ e)
  refine make_core (makes_of X hm) (looks_findIn X hi) (fun self => bind_fn X self (beq_iff_eq.mp hf)) (.inl rfl) ?_
  refine codeAny_call_def (fd := fnOf name qual params body scope dV kV doc pm an cdv ct) (body := body) (binds := binds) hroom ((X.keeps keep) _ _ ho) rfl (T.nolimit.keeps keep) (codeRec_of (X.keeps keep) hcd) rfl (hbind _ (X.keeps keep)) hcell hloc (fun h₁ hns hk₁ => ?_) hco hgen hk
  have sz : ((hh.push emptyDict).push (instObj C hh.objs.size)).objs.size = hh.objs.size + 1 + 1 := by rw [Heap.size_push, Heap.size_push]
  dsimp only at hns hk₁ ⊢
  rw [sz] at hns ⊢
  have gx : ((hh.push emptyDict).push (instObj C hh.objs.size)).get? (hh.objs.size + 1) = some (instObj C hh.objs.size) := by
    have : ((hh.push emptyDict).push (instObj C hh.objs.size)).get? (hh.push emptyDict).objs.size = some (instObj C hh.objs.size) := Heap.get?_push_size _ rfl
    rwa [Heap.size_push] at this
  have gd : ((hh.push emptyDict).push (instObj C hh.objs.size)).get? hh.objs.size = some emptyDict := Heap.get?_push_of_some _ (Heap.get?_push_size _ rfl)
  refine wpAny_mono (h h₁ _ ⟨lookup_upd _ ▸ hns, fun b o e => hk₁ b o (keep b o e), Nat.le_succ_of_le (Nat.le_succ _)⟩ fun q hq => ?_) (fun fl s' hl => ?_) fun _ _ x => x.elim
  · rcases List.mem_cons.mp hq with rfl | hq
    · exact ⟨hk₁ _ _ gx, Nat.ne_of_lt (Nat.lt_succ_self _), Heap.get?_none_of_le (Nat.le_succ _)⟩
    · rcases List.mem_cons.mp hq with rfl | hq
      · exact ⟨hk₁ _ _ gd, Nat.ne_of_lt (Nat.lt_succ_of_lt (Nat.lt_succ_self _)), Heap.get?_none_of_le (Nat.le_refl _)⟩
      · cases hq
  · exact hl
end
theorem lis_copy {prog : Program} {w : World} {A : Around} {E : Value → Shared → Prop} {s : Shared} {h₀ : Heap} {L : Addr} {m : Str → Option Value} {Y n : Led} {a : Addr} {vs : List Value} {kk : Nat} {Q : Value → Shared → Prop} (F : Fr h₀ L s.heap m) (N : News h₀ L s.heap (Y ++ n)) (O : Off Y n) (hl : s.heap.get? a = some (lisO vs kk))
    (h : ∀ D c h', Fr h₀ L h' m → News h₀ L h' (Y ++ ((D, lisO vs c) :: n)) → Off Y ((D, lisO vs c) :: n) → (∀ p ∈ Y ++ n, p.1 < D) → Q (.ref D) { s with heap := h' }) (hz : vs.length ≤ sizeLine) : wpAny (model prog w) A (call (.type "list") [.ref a]) Q E s :=
  list_copyK F N ⟨_, hl, rfl, kk, rfl⟩ (fun D c h' F' N' lt => h D c h' F' (fun p hp => N' p (by
      rcases List.mem_append.mp hp with hp | hp
      · exact .tail _ (List.mem_append_left _ hp)
      · rcases List.mem_cons.mp hp with rfl | hp
        · exact .head _
        · exact .tail _ (List.mem_append_right _ hp)))
    (fun p hp q hq => by
      rcases List.mem_cons.mp hq with rfl | hq
      · exact Nat.ne_of_lt (lt p (List.mem_append_left _ hp))
      · exact O p hp q hq) lt) (by simpa using hz)
noncomputable abbrev de (w : World) (n : Str) (t : Tok) (v : Value) : DictEntry := ⟨PyData.keyHash w.params n, .str n t, v⟩
/-- a Vector's own dict -/
noncomputable abbrev vecD (w : World) (t1 t2 t3 t4 t5 : Tok) (kv iv av sv lv : Value) : Obj := dictOf [de w "kind" t1 kv, de w "items" t2 iv, de w "attrs" t3 av, de w "shared" t4 sv, de w "loose" t5 lv] 5
noncomputable abbrev nulD (w : World) (t1 t2 t3 : Tok) : Obj := dictOf [de w "kind" t1 (.str "NULL" t2), de w "attrs" t3 .none] 2
/-- the value is a Vector -/
inductive VecS (w : World) (S : Store) (v kv iv av sv lv : Value) : Prop
  | mk (x dx t1 t2 t3 t4 t5 : _) (h1_ : v = .ref x) (h2_ : S x (instObj 222 dx)) (h3_ : S dx (vecD w t1 t2 t3 t4 t5 kv iv av sv lv)) : VecS w S v kv iv av sv lv
theorem VecS.mono {w : World} {S S' : Store} (hs : ∀ a o, S a o → S' a o) {v kv iv av sv lv : Value} (h : VecS w S v kv iv av sv lv) : VecS w S' v kv iv av sv lv :=
  by obtain ⟨x, dx, t1, t2, t3, t4, t5, e, a, b⟩ := h; exact ⟨x, dx, t1, t2, t3, t4, t5, e, hs _ _ a, hs _ _ b⟩
/-- a Fit's own dict -/
noncomputable abbrev fitD (w : World) (t1 t2 t3 t4 t5 t6 t7 t8 t9 t10 t11 : Tok) (pv bv nv sv st co fi re wt rk df : Value) : Obj := dictOf [de w "pivots" t1 pv, de w "bases" t2 bv, de w "norms" t3 nv, de w "shares" t4 sv, de w "steps" t5 st, de w "coefficients" t6 co, de w "fitted" t7 fi, de w "residuals" t8 re, de w "weights" t9 wt, de w "rank" t10 rk, de w "df" t11 df] 11
theorem upd_appL {d : Addr} {o o' : Obj} {Y Y' n : Led} (U : Upd d o o' Y Y') (h : ∀ p ∈ n, p.1 ≠ d) : Upd d o o' (Y ++ n) (Y' ++ n) := by
  induction U with
  | head h1 => exact .head fun p hp => (List.mem_append.mp hp).elim (h1 p) (h p)
  | tail h1 _ ih => exact .tail h1 ih
theorem upd_appR {d : Addr} {o o' : Obj} {X Y Y' : Led} (h : ∀ p ∈ X, p.1 ≠ d) (U : Upd d o o' Y Y') : Upd d o o' (X ++ Y) (X ++ Y') := by
  induction X with
  | nil => exact U
  | cons p r ih => exact .tail (h p (.head _)) (ih fun q hq => h q (.tail _ hq))
theorem upd_mem {d : Addr} {o o' : Obj} {Y Y' : Led} (U : Upd d o o' Y Y') : (d, o) ∈ Y := by
  induction U with
  | head _ => exact .head _
  | tail _ _ ih => exact .tail _ ih
theorem upd_was {d : Addr} {o o' : Obj} {Y Y' : Led} (U : Upd d o o' Y Y') : ∀ p ∈ Y', ∃ q ∈ Y, p.1 = q.1 := by
  induction U with
  | head _ => intro p hp; rcases List.mem_cons.mp hp with rfl | hp; exact ⟨_, .head _, rfl⟩; exact ⟨p, .tail _ hp, rfl⟩
  | tail _ _ ih =>
    intro p hp
    rcases List.mem_cons.mp hp with rfl | hp
    · exact ⟨_, .head _, rfl⟩
    · obtain ⟨q, hq, e⟩ := ih p hp; exact ⟨q, .tail _ hq, e⟩
theorem upd_off {d : Addr} {o o' : Obj} {Y Y' n : Led} (U : Upd d o o' Y Y') (O : Off Y n) : Off Y' n := fun p hp q hq =>
  let ⟨r, hr, e⟩ := upd_was U p hp; e ▸ O r hr q hq
theorem upd_offR {d : Addr} {o o' : Obj} {X Y Y' : Led} (U : Upd d o o' Y Y') (O : Off X Y) : Off X Y' := fun p hp q hq =>
  let ⟨r, hr, e⟩ := upd_was U q hq; e ▸ O p hp r hr
theorem upd_ne {d : Addr} {o o' : Obj} {Y Y' n : Led} (U : Upd d o o' Y Y') (O : Off Y n) : ∀ p ∈ n, p.1 ≠ d := fun p hp => Ne.symm (O _ (upd_mem U) p hp)
/-- nothing of `X` stands at these addresses -/
noncomputable def OffA (X : Led) (as : List Addr) : Prop := ∀ p ∈ X, ∀ a ∈ as, p.1 ≠ a
theorem OffA.nil {as : List Addr} : OffA [] as := fun _ h => nomatch h
theorem offA_of {X Y : Led} (h : Off X Y) : OffA X (Y.map (·.1)) := fun p hp a ha => let ⟨q, hq, e⟩ := List.mem_map.mp ha; e ▸ h p hp q hq
theorem of_offA {X Y : Led} (h : OffA X (Y.map (·.1))) : Off X Y := fun p hp q hq => h p hp _ (List.mem_map.mpr ⟨q, hq, rfl⟩)
theorem OffA.app {X X' : Led} {as : List Addr} (h : OffA X as) (h' : OffA X' as) : OffA (X ++ X') as := fun p hp => (List.mem_append.mp hp).elim (h p) (h' p)
/-- what stands ahead of a thing that changes -/
theorem upd_in {d : Addr} {o o' : Obj} {X Y Y' : Led} (U : Upd d o o' Y Y') (O : OffA X (Y.map (·.1))) : Upd d o o' (X ++ Y) (X ++ Y') := upd_appR (fun p hp => of_offA O p hp _ (upd_mem U)) U
theorem turn_in {h₀ h : Heap} {L : Addr} {X' X Y n : Led} (N : News h₀ L h (X' ++ ((X ++ Y) ++ n))) (o : Off X' ((X ++ Y) ++ n)) (O : Off (X ++ Y) n) {as : List Addr} (OA : OffA X as) (e : Y.map (·.1) = as := by rfl) :
    News h₀ L h (((X' ++ X) ++ Y) ++ n) ∧ Off ((X' ++ X) ++ Y) n ∧ OffA (X' ++ X) as ∧ Off X' X := by
  subst e
  refine ⟨by simpa only [List.append_assoc] using N, ?_, (offA_of o.ll.rr).app OA, o.ll.ll⟩
  rw [List.append_assoc]
  exact o.rr.appL O
theorem turn_out {h₀ h : Heap} {L : Addr} {X' X Y n : Led} (N : News h₀ L h (((X' ++ X) ++ Y) ++ n)) (O : Off ((X' ++ X) ++ Y) n) {as : List Addr} (OA : OffA (X' ++ X) as) (o : Off X' X) (e : Y.map (·.1) = as := by rfl) :
    News h₀ L h (X' ++ ((X ++ Y) ++ n)) ∧ Off X' ((X ++ Y) ++ n) ∧ Off (X ++ Y) n := by
  subst e
  refine ⟨by simpa only [List.append_assoc] using N, (o.mk (of_offA fun p hp => OA p (List.mem_append_left _ hp))).mk fun p hp => O p (List.mem_append_left _ (List.mem_append_left _ hp)), ?_⟩
  rw [List.append_assoc] at O
  exact O.r
theorem inst_S {w : World} {S : Store} {h₀ h : Heap} {L x C dx : Addr} {m : Str → Option Value} {od : Obj} {sl : Array (Option Value)} (G : Gr w S h₀) (F : Fr h₀ L h m) (h1 : S x (⟨.ref C, some dx, .plain, sl⟩ : Obj)) (h2 : S dx od) :
    InstAt h x ⟨.ref C, some dx, .plain, sl⟩ C (some od) := ⟨F.keep _ _ (G.s _ _ h1), rfl, rfl, F.keep _ _ (G.s _ _ h2)⟩
theorem listMeth {prog : Program} {w : World} {A : Around} {E : Value → Shared → Prop} {s : Shared} {D : Addr} {vs : List Value} {kk : Nat} {name : Str} {id : String} {pl : Sem Bool} {Q : Value × List Value → Shared → Prop} (hl : s.heap.get? D = some (lisO vs kk)) (slot : Slot "list" name id) (hty : typeOf (.builtin id) = pure (.type "method_descriptor"))
    (h : Q (.builtin id, [.ref D]) s) : wpAny (model prog w) A (getMethod (.ref D) name pl) Q E s :=
  getMethod_builtin ⟨_, hl, rfl⟩ PySem.F.plainAttrs_list slot hty (fun a e => by cases e; exact ⟨_, hl, rfl⟩) h
theorem tupN {w : World} {S : Store} {h₀ h : Heap} {L : Addr} {m : Str → Option Value} {Y n : Led} {a : Addr} {vs : List Value} (G : Gr w S h₀) (F : Fr h₀ L h m) (N : News h₀ L h (Y ++ n)) (hx : Kn S n a (tupO vs)) : IsTup h a vs.toArray :=
  tupK G F (fun p hp => N p (List.mem_append_right _ hp)) hx
theorem getN {w : World} {S : Store} {h₀ h : Heap} {L : Addr} {m : Str → Option Value} {Y n : Led} {a : Addr} {o : Obj} (G : Gr w S h₀) (F : Fr h₀ L h m) (N : News h₀ L h (Y ++ n)) (hx : Kn S n a o) : h.get? a = some o :=
  Kn.get G F (fun p hp => N p (List.mem_append_right _ hp)) _ _ hx
theorem inst_N {w : World} {S : Store} {h₀ h : Heap} {L x C dx : Addr} {m : Str → Option Value} {Y n : Led} {od : Obj} {sl : Array (Option Value)} (G : Gr w S h₀) (F : Fr h₀ L h m) (N : News h₀ L h (Y ++ n)) (h1 : Kn S n x (⟨.ref C, some dx, .plain, sl⟩ : Obj)) (h2 : Kn S n dx od) :
    InstAt h x ⟨.ref C, some dx, .plain, sl⟩ C (some od) := ⟨getN G F N h1, rfl, rfl, getN G F N h2⟩
theorem Kn.app1 {S : Store} {n n' : Led} {a : Addr} {o : Obj} (h : Kn S n a o) : Kn S (n ++ n') a o := h.imp id fun e => List.mem_append_left _ e
theorem Kn.cons1 {S : Store} {n : Led} {p : Addr × Obj} {a : Addr} {o : Obj} (h : Kn S n a o) : Kn S (p :: n) a o := h.imp id fun e => List.mem_cons_of_mem _ e

section
variable {prog : Program} {w : World} {A : Around} {E : Value → Shared → Prop} {s : Shared} {h₀ : Heap} {L D : Addr} {m : Str → Option Value} {Y Y' n : Led}
theorem append_Y {vs : List Value} {kk : Nat} {x : Value} {Q : Value → Shared → Prop} (F : Fr h₀ L s.heap m) (N : News h₀ L s.heap (Y ++ n)) (O : Off Y n) (U : Upd D (lisO vs kk) (lisO (vs ++ [x]) (kk + 1)) Y Y')
    (h : ∀ h', Fr h₀ L h' m → News h₀ L h' (Y' ++ n) → Off Y' n → Q .none { s with heap := h' }) (hsz : vs.length ≤ sizeLine) : wpAny (model prog w) A (call (.builtin "list.append") [.ref D, x]) Q E s := by
  have e : vs.toArray.push x = (vs ++ [x]).toArray := by simp
  refine append_K (its := vs.toArray) (n := kk) F N (news' := Y' ++ n) ?_ (fun h' F' N' => h h' F' N' (upd_off U O)) (by simpa using hsz)
  rw [e]
  exact upd_appL U (upd_ne U O)
theorem set_Y {K : Frag} {x C dx : Addr} {ox : Obj} {es es' : List DictEntry} {k k' : Nat} {name : Str} {v : Value} {Q : Unit → Shared → Prop} (F : Fr h₀ L s.heap m) (X₀ : K.In h₀) (N : News h₀ L s.heap (Y ++ n)) (O : Off Y n) (I : InstAt s.heap x ox C (some (dictOf es k))) (hd : ox.dict = some dx)
    (hs : findIn K (.ref C) "__setattr__" = some (some (.builtin "object.__setattr__"))) (hp : plainOver K C = true) (ht : takerIn K C name = some none) (hh : hasDictIn K C = true) (hl : (getL name es).isSome = true)
    (e : (putL name (PyData.keyHash w.params name) (.str name (s.toks + 1)) v es, putN name es k) = (es', k')) (U : Upd dx (dictOf es k) (dictOf es' k') Y Y') (hz : es'.length ≤ 1000)
    (h : ∀ h', Fr h₀ L h' m → News h₀ L h' (Y' ++ n) → Off Y' n → Q () { s with heap := h', toks := s.toks + 2 }) :
    wpAny (model prog w) A (setAttr (.ref x) name v) Q E s :=
  set_dict F X₀ N I hd hs hp ht hh hl e (upd_appL U (upd_ne U O)) hz fun h' F' N' => h h' F' N' (upd_off U O)
theorem setItem_Y {vs : List Value} {kk : Nat} {i : Int} {t : Tok} {v : Value} {Q : Unit → Shared → Prop} (F : Fr h₀ L s.heap m) (N : News h₀ L s.heap (Y ++ n)) (O : Off Y n) (U : Upd D (lisO vs kk) (lisO (vs.set i.toNat v) kk) Y Y')
    (h0 : 0 ≤ i) (h1 : i < vs.length) (hfit : i < 2 ^ 63) (h : ∀ h', Fr h₀ L h' m → News h₀ L h' (Y' ++ n) → Off Y' n → Q () { s with heap := h' }) :
    wpAny (model prog w) A (setItem (.ref D) (.int i t) v) Q E s := by
  have U' := upd_appL U (upd_ne U O)
  have O' := upd_off U O
  obtain ⟨pre, post, e1, e2, a, b⟩ := U'.split
  rw [e1] at N
  rw [e2] at h
  have z := N (D, lisO vs kk) (List.mem_append.mpr (.inr (.head _)))
  refine ki_setAt z.1 h0 hfit (by simpa using h1) (h _ (F.change (Heap.SameBut.update ..) z.2.1 z.2.2) (ki_turn _ N a b ?_ ?_) O')
  · show vs.toArray.setIfInBounds i.toNat v = (vs.set i.toNat v).toArray
    apply Array.toList_inj.mp
    simp
  · simp
end

/-- two lists, part by part -/
noncomputable def L2 {α : Type} (R : Value → α → Prop) : List Value → List α → Prop
  | [], [] => True
  | v :: vs, q :: qs => R v q ∧ L2 R vs qs
  | _, _ => False
section
variable {α : Type} {R R' : Value → α → Prop}
theorem L2.mono (h : ∀ v a, R v a → R' v a) : ∀ {vs : List Value} {qs : List α}, L2 R vs qs → L2 R' vs qs
  | [], [], _ => trivial
  | _ :: _, _ :: _, x => ⟨h _ _ x.1, L2.mono h x.2⟩
  | [], _ :: _, x => x.elim
  | _ :: _, [], x => x.elim
theorem L2.length : ∀ {vs : List Value} {qs : List α}, L2 R vs qs → vs.length = qs.length
  | [], [], _ => rfl
  | _ :: _, _ :: _, h => by simp [L2.length h.2]
  | [], _ :: _, h => h.elim
  | _ :: _, [], h => h.elim
theorem L2.get : ∀ {vs : List Value} {qs : List α} (i : Nat), L2 R vs qs → (hi : i < qs.length) → ∃ v, vs[i]? = some v ∧ R v qs[i]
  | v :: vs, q :: qs, 0, h, _ => ⟨v, rfl, h.1⟩
  | v :: vs, q :: qs, i + 1, h, hi => by
    obtain ⟨v', h1, h2⟩ := L2.get i h.2 (by simpa using hi)
    exact ⟨v', by simpa using h1, by simpa using h2⟩
  | [], [], _, _, hi => by simp at hi
  | [], _ :: _, _, h, _ => h.elim
  | _ :: _, [], _, h, _ => h.elim
theorem L2.snoc {v : Value} {q : α} : ∀ {vs : List Value} {qs : List α}, L2 R vs qs → R v q → L2 R (vs ++ [v]) (qs ++ [q])
  | [], [], _, h => ⟨h, trivial⟩
  | _ :: _, _ :: _, h, h' => ⟨h.1, L2.snoc h.2 h'⟩
  | [], _ :: _, h, _ => h.elim
  | _ :: _, [], h, _ => h.elim
theorem L2.set {v : Value} {q : α} : ∀ {vs : List Value} {qs : List α} (i : Nat), L2 R vs qs → R v q → L2 R (vs.set i v) (qs.set i q)
  | [], [], _, h, _ => h
  | _ :: _, _ :: _, 0, h, h' => ⟨h', h.2⟩
  | _ :: _, _ :: _, i + 1, h, h' => ⟨h.1, L2.set i h.2 h'⟩
  | [], _ :: _, _, h, _ => h.elim
  | _ :: _, [], _, h, _ => h.elim
theorem L2.app : ∀ {vs vs' : List Value} {qs qs' : List α}, L2 R vs qs → L2 R vs' qs' → L2 R (vs ++ vs') (qs ++ qs')
  | [], _, [], _, _, h => h
  | _ :: _, _, _ :: _, _, h, h' => ⟨h.1, L2.app h.2 h'⟩
  | [], _, _ :: _, _, h, _ => h.elim
  | _ :: _, _, [], _, h, _ => h.elim
end
theorem rats_L2 {S : Store} : ∀ {vs : List Value} {qs : List Rat}, RatsS S vs qs ↔ L2 (RatS S) vs qs
  | [], [] => Iff.rfl
  | _ :: _, _ :: _ => and_congr Iff.rfl rats_L2
  | [], _ :: _ => Iff.rfl
  | _ :: _, [] => Iff.rfl
noncomputable abbrev IntV (v : Value) (n : Int) : Prop := ∃ t, v = .int n t
noncomputable abbrev RatLs (S : Store) : List Value → List (List Rat) → Prop := L2 (RatL S)
theorem RatLs.mono {S S' : Store} (hs : ∀ a o, S a o → S' a o) {vs : List Value} {qs : List (List Rat)} (h : RatLs S vs qs) : RatLs S' vs qs := L2.mono (fun _ _ => RatL.mono hs) h
theorem RatLs.l {S : Store} {vs : List Value} {qs : List (List Rat)} {n : Led} (h : RatLs S vs qs) : RatLs (Kn S n) vs qs := h.mono fun _ _ => Kn.l
theorem RatLs.app {S : Store} {vs : List Value} {qs : List (List Rat)} {n n' : Led} (h : RatLs (Kn S n) vs qs) : RatLs (Kn S (n ++ n')) vs qs := h.mono fun _ _ e => e.imp id fun e => List.mem_append_left _ e
theorem RatLs.cons {S : Store} {vs : List Value} {qs : List (List Rat)} {p : Addr × Obj} {n : Led} (h : RatLs (Kn S n) vs qs) : RatLs (Kn S (p :: n)) vs qs := h.mono fun _ _ e => e.imp id fun e => List.mem_cons_of_mem _ e
theorem RatsS.l {S : Store} {vs : List Value} {qs : List Rat} {n : Led} (h : RatsS S vs qs) : RatsS (Kn S n) vs qs := h.mono fun _ _ => Kn.l
theorem RatsS.app {S : Store} {vs : List Value} {qs : List Rat} {n n' : Led} (h : RatsS (Kn S n) vs qs) : RatsS (Kn S (n ++ n')) vs qs := h.mono fun _ _ e => e.imp id fun e => List.mem_append_left _ e
theorem RatsS.cons {S : Store} {vs : List Value} {qs : List Rat} {p : Addr × Obj} {n : Led} (h : RatsS (Kn S n) vs qs) : RatsS (Kn S (p :: n)) vs qs := h.mono fun _ _ e => e.imp id fun e => List.mem_cons_of_mem _ e
theorem RatsS.set {S : Store} {v : Value} {q : Rat} {vs : List Value} {qs : List Rat} (i : Nat) (h : RatsS S vs qs) (h' : RatS S v q) : RatsS S (vs.set i v) (qs.set i q) := rats_L2.mpr (L2.set i (rats_L2.mp h) h')
theorem led_in2 {h₀ h : Heap} {L : Addr} {Z Y n : Led} {D : Addr} {o : Obj} (N : News h₀ L h ((Z ++ Y) ++ ((D, o) :: n))) (O : Off (Z ++ Y) ((D, o) :: n)) (hD : ∀ p ∈ (Z ++ Y) ++ n, p.1 < D) {as : List Addr} (A : OffA Z as) :
    News h₀ L h ((Z ++ ((D, o) :: Y)) ++ n) ∧ Off (Z ++ ((D, o) :: Y)) n ∧ OffA Z (D :: as) := by
  obtain ⟨N', O'⟩ := led_move N O hD
  have sub : ∀ p ∈ Z ++ ((D, o) :: Y), p ∈ (D, o) :: (Z ++ Y) := fun p hp => by
    rcases List.mem_append.mp hp with hp | hp
    · exact .tail _ (List.mem_append_left _ hp)
    · rcases List.mem_cons.mp hp with rfl | hp
      · exact .head _
      · exact .tail _ (List.mem_append_right _ hp)
  refine ⟨fun p hp => N' p ((List.mem_append.mp hp).elim (fun hp => List.mem_append_left _ (sub p hp)) (List.mem_append_right _)), fun p hp => O' p (sub p hp), fun p hp a ha => ?_⟩
  rcases List.mem_cons.mp ha with rfl | ha
  · exact Nat.ne_of_lt (hD p (List.mem_append_left _ (List.mem_append_left _ hp)))
  · exact A p hp a ha
/-- back to what stays -/
theorem led_back {h₀ h : Heap} {L : Addr} {Z Y n : Led} {D : Addr} {o : Obj} (N : News h₀ L h ((Z ++ ((D, o) :: Y)) ++ n)) (O : Off (Z ++ ((D, o) :: Y)) n) {as : List Addr} (A : OffA Z (D :: as)) (hD : ∀ a ∈ as, a ≠ D) (e : Y.map (·.1) = as := by rfl) :
    News h₀ L h ((Z ++ Y) ++ ((D, o) :: n)) ∧ Off (Z ++ Y) ((D, o) :: n) ∧ OffA Z as := by
  subst e
  refine ⟨fun p hp => N p ?_, fun p hp q hq => ?_, fun p hp a ha => A p hp a (.tail _ ha)⟩
  · rcases List.mem_append.mp hp with hp | hp
    · rcases List.mem_append.mp hp with hp | hp
      · exact List.mem_append_left _ (List.mem_append_left _ hp)
      · exact List.mem_append_left _ (List.mem_append_right _ (.tail _ hp))
    · rcases List.mem_cons.mp hp with rfl | hp
      · exact List.mem_append_left _ (List.mem_append_right _ (.head _))
      · exact List.mem_append_right _ hp
  · rcases List.mem_cons.mp hq with rfl | hq
    · rcases List.mem_append.mp hp with hp | hp
      · exact A p hp _ (.head _)
      · exact hD _ (List.mem_map.mpr ⟨p, hp, rfl⟩)
    · rcases List.mem_append.mp hp with hp | hp
      · exact O p (List.mem_append_left _ hp) q hq
      · exact O p (List.mem_append_right _ (.tail _ hp)) q hq
noncomputable abbrev NatV (v : Value) (n : Nat) : Prop := ∃ t, v = .int (n : Int) t
noncomputable def cB : Nat → Nat
  | 0 => 3
  | j + 1 => 22 * cB j + 13
noncomputable def inStep (st : List Rat × List Rat) (bn : List Rat × Rat) : List Rat × List Rat := (lessR st.1 (dotR st.1 bn.1 / bn.2) bn.1, st.2 ++ [dotR st.1 bn.1 / bn.2])
structure OSt where
  piv : List Nat
  bas : List (List Rat)
  nrm : List Rat
  shr : List (List Rat)
noncomputable def inR (o : OSt) (col : List Rat) (j : Nat) : List Rat × List Rat := ((o.bas.zip o.nrm).take j).foldl inStep (col, [])
noncomputable def outStep (o : OSt) (i : Nat) (col : List Rat) : OSt :=
  if dotR (inR o col o.bas.length).1 (inR o col o.bas.length).1 = 0 then o
  else ⟨o.piv ++ [i], o.bas ++ [(inR o col o.bas.length).1], o.nrm ++ [dotR (inR o col o.bas.length).1 (inR o col o.bas.length).1], o.shr ++ [(inR o col o.bas.length).2]⟩
noncomputable def orthR (cols : List (List Rat)) : Nat → OSt
  | 0 => ⟨[], [], [], []⟩
  | i + 1 => outStep (orthR cols i) i (cols.getD i [])

theorem inR_zero (o : OSt) (col : List Rat) : inR o col 0 = (col, []) := by simp [inR]
theorem inR_succ (o : OSt) (col : List Rat) (j : Nat) (h : j < o.bas.length) (h' : j < o.nrm.length) : inR o col (j + 1) = inStep (inR o col j) (o.bas[j], o.nrm[j]) := by
  unfold inR
  have hz : j < (o.bas.zip o.nrm).length := by rw [List.length_zip]; exact Nat.lt_min.mpr ⟨h, h'⟩
  rw [List.take_add_one, List.getElem?_eq_getElem hz]
  simp

theorem dotR_nonneg : ∀ u : List Rat, 0 ≤ dotR u u
  | [] => Rat.le_refl
  | a :: as => by
    have h := dotR_nonneg as
    have h2 : 0 ≤ a * a := by
      rcases Rat.le_total (a := 0) (b := a) with h | h
      · exact Rat.mul_nonneg h h
      · have := Rat.mul_nonneg (a := -a) (b := -a) (by grind) (by grind)
        grind
    exact Rat.add_nonneg h2 h

structure OOk (rows i : Nat) (o : OSt) : Prop where
  l1 : o.nrm.length = o.bas.length
  l2 : o.piv.length = o.bas.length
  l3 : o.shr.length = o.bas.length
  le : o.bas.length ≤ i
  rws : ∀ b ∈ o.bas, b.length = rows
  pos : ∀ q ∈ o.nrm, 0 < q
  szB : ∀ (j : Nat) (b : List Rat), o.bas[j]? = some b → ∀ q ∈ b, Sz q (cB j)
  szN : ∀ (j : Nat) (q : Rat), o.nrm[j]? = some q → Sz q (10 * cB j + 6)
  szS : ∀ (j : Nat) (s : List Rat), o.shr[j]? = some s → s.length = j ∧ ∀ (l : Nat) (f : Rat), s[l]? = some f → Sz f (20 * cB l + 12)
  plt : ∀ p ∈ o.piv, p < i

theorem in_ok {rows i : Nat} {o : OSt} {col : List Rat} (h : OOk rows i o) (h5 : rows ≤ 5) (hc : col.length = rows) (hs : ∀ q ∈ col, Sz q 3) : ∀ j, j ≤ o.bas.length →
    (inR o col j).1.length = rows ∧ (∀ q ∈ (inR o col j).1, Sz q (cB j)) ∧ (inR o col j).2.length = j ∧ ∀ l f, (inR o col j).2[l]? = some f → Sz f (20 * cB l + 12)
  | 0, _ => by rw [inR_zero]; exact ⟨hc, hs, rfl, fun l f e => by simp at e⟩
  | j + 1, hj => by
    obtain ⟨a1, a2, a3, a4⟩ := in_ok h h5 hc hs j (by exact om_89 _ _ hj)
    have hb : j < o.bas.length := by exact om_90 _ _ hj
    have hn : j < o.nrm.length := by rw [h.l1]; exact om_77 _ _ hb
    rw [inR_succ o col j hb hn]
    have rb := h.rws o.bas[j] (List.getElem_mem _)
    have sb := h.szB j o.bas[j] (List.getElem?_eq_getElem hb)
    have sn := h.szN j o.nrm[j] (List.getElem?_eq_getElem hn)
    have pn := h.pos o.nrm[j] (List.getElem_mem _)
    have sd := (sz_dot (inR o col j).1 o.bas[j] a2 sb).le (show _ ≤ 10 * cB j + 6 by
      have := Nat.mul_le_mul_right (cB j + cB j + 1) (show (inR o col j).1.length ≤ 5 by exact om_26 _ _ h5 a1)
      exact om_210 _ _ this)
    have sf := (sz_div sd sn pn).le (show _ ≤ 20 * cB j + 12 by exact om_91 _)
    refine ⟨by unfold inStep; rw [lessR_length _ _ _ (by rw [a1, rb])]; exact a1, ?_, by unfold inStep; simp [a3], ?_⟩
    · intro q hq
      exact (sz_less a2 sf sb q hq).le (by show _ ≤ 22 * cB j + 13; exact om_92 _)
    · intro l f e
      unfold inStep at e
      dsimp only at e
      rw [List.getElem?_append] at e
      split at e
      · exact a4 l f e
      · rename_i hl
        have : l = j := by
          by_cases hlj : l - (inR o col j).2.length = 0
          · exact om_93 _ _ _ a3 hl hlj
          · rw [List.getElem?_eq_none (by simp; exact om_94 _ _ hlj)] at e; cases e
        subst this
        rw [a3, Nat.sub_self] at e
        simp at e
        rw [← e]; exact sf

theorem out_ok {rows i : Nat} {o : OSt} {col : List Rat} (h : OOk rows i o) (h5 : rows ≤ 5) (hc : col.length = rows) (hs : ∀ q ∈ col, Sz q 3) : OOk rows (i + 1) (outStep o i col) := by
  unfold outStep
  obtain ⟨a1, a2, a3, a4⟩ := in_ok h h5 hc hs o.bas.length (Nat.le_refl _)
  split
  · exact ⟨h.l1, h.l2, h.l3, Nat.le_succ_of_le h.le, h.rws, h.pos, h.szB, h.szN, h.szS, fun p hp => Nat.lt_succ_of_lt (h.plt p hp)⟩
  · rename_i hne
    have snoc : ∀ {α : Type} (l : List α) (x y : α) (j : Nat), (l ++ [x])[j]? = some y → l[j]? = some y ∨ (j = l.length ∧ y = x) := fun l x y j e => by
      rw [List.getElem?_append] at e
      split at e
      · exact .inl e
      · by_cases hz : j - l.length = 0
        · rw [hz] at e; simp at e; exact .inr ⟨by exact om_95 _ _ (by assumption) hz, e.symm⟩
        · rw [List.getElem?_eq_none (by simp; exact om_94 _ _ hz)] at e; cases e
    refine ⟨by simp [h.l1], by simp [h.l2], by simp [h.l3], by simp; have := h.le; omega, ?_, ?_, ?_, ?_, ?_, ?_⟩
    · intro b hb
      rcases List.mem_append.mp hb with hb | hb
      · exact h.rws b hb
      · rw [List.mem_singleton.mp hb]; exact a1
    · intro q hq
      rcases List.mem_append.mp hq with hq | hq
      · exact h.pos q hq
      · rw [List.mem_singleton.mp hq]
        exact Rat.lt_of_le_of_ne (dotR_nonneg _) fun e => hne e.symm
    · intro j b e
      rcases snoc _ _ _ _ e with e | ⟨rfl, rfl⟩
      · exact h.szB j b e
      · exact a2
    · intro j q e
      rcases snoc _ _ _ _ e with e | ⟨rfl, rfl⟩
      · exact h.szN j q e
      · rw [h.l1]
        refine (sz_dot _ _ a2 a2).le ?_
        have := Nat.mul_le_mul_right (cB o.bas.length + cB o.bas.length + 1) (show (inR o col o.bas.length).1.length ≤ 5 by exact om_26 _ _ h5 a1)
        exact om_210 _ _ this
    · intro j s e
      rcases snoc _ _ _ _ e with e | ⟨rfl, rfl⟩
      · exact h.szS j s e
      · rw [h.l3]; exact ⟨a3, a4⟩
    · intro p hp
      rcases List.mem_append.mp hp with hp | hp
      · exact Nat.lt_succ_of_lt (h.plt p hp)
      · rw [List.mem_singleton.mp hp]; exact Nat.lt_succ_self _

theorem orth_ok {rows : Nat} {cols : List (List Rat)} (h5 : rows ≤ 5) (hc : ∀ c ∈ cols, c.length = rows) (hs : ∀ c ∈ cols, ∀ q ∈ c, Sz q 3) : ∀ i, i ≤ cols.length → OOk rows i (orthR cols i)
  | 0, _ => ⟨rfl, rfl, rfl, Nat.le_refl _, (fun _ h => nomatch h), (fun _ h => nomatch h), (fun j b e => by simp [orthR] at e), (fun j b e => by simp [orthR] at e), (fun j b e => by simp [orthR] at e), fun _ h => nomatch h⟩
  | i + 1, hi => by
    have hm : cols.getD i [] ∈ cols := by rw [List.getD_eq_getElem?_getD, List.getElem?_eq_getElem (by exact om_90 _ _ hi)]; exact List.getElem_mem _
    exact out_ok (orth_ok h5 hc hs i (by exact om_89 _ _ hi)) h5 (hc _ hm) (hs _ hm)
theorem cB_le : ∀ j, j ≤ 2 → cB j ≤ 1751
  | 0, _ => by decide
  | 1, _ => by decide
  | 2, _ => by decide
  | j + 3, h => by exact om_96 _ _ h
/-- what orthogonal gives back -/
inductive FitPost (w : World) (S : Store) (o : OSt) (tl : Led) (r : Value) : Prop
  | mk (x dx st t1 t2 t3 t4 t5 t6 t7 t8 t9 t10 t11 pv bv nv sv cov fiv rev u1 u2 ka kb kc kd pvs bvs nvs svs n' : _) (h1_ : r = .ref x) (h2_ : tl = [(dx, fitD w t1 t2 t3 t4 t5 t6 t7 t8 t9 t10 t11 (.ref pv) (.ref bv) (.ref nv) (.ref sv) (.ref st) cov fiv rev .none (.int (o.bas.length : Nat) u1) (.int 0 u2)), (st, lisO [] 0)] ++ n') (h3_ : OffA n' [dx, st]) (h4_ : dx ≠ st) (h5_ : (x, instObj 389 dx) ∈ n') (h6_ : (pv, lisO pvs ka) ∈ n') (h7_ : (bv, lisO bvs kb) ∈ n') (h8_ : (nv, lisO nvs kc) ∈ n') (h9_ : (sv, lisO svs kd) ∈ n') (h10_ : L2 NatV pvs o.piv) (h11_ : RatLs (Kn S n') bvs o.bas) (h12_ : RatsS (Kn S n') nvs o.nrm) (h13_ : RatLs (Kn S n') svs o.shr) : FitPost w S o tl r
inductive OrthJ (S : Store) (cols : List (List Rat)) (ca x dx st p b n h : Addr) (D : Obj) (i : Nat) (m₁ : Str → Option Value) (n₁ : Led) : Prop
  | mk (nv fv tv sv bsv plv n' pvs bvs nvs svs ka kb kc kd : _) (h1_ : n₁ = ([] ++ [(dx, D), (st, lisO [] 0), (p, lisO pvs ka), (b, lisO bvs kb), (n, lisO nvs kc), (h, lisO svs kd)]) ++ n') (h2_ : Off ([] ++ [(dx, D), (st, lisO [] 0), (p, lisO pvs ka), (b, lisO bvs kb), (n, lisO nvs kc), (h, lisO svs kd)]) n') (h3_ : m₁ = upd (fun _ => none) [("norm", nv), ("factor", fv), ("turn", tv), ("share", sv), ("base", bsv), ("place", plv), ("found", some (.ref x)), ("weights", some .none), ("columns", some (.ref ca))]) (h4_ : (x, instObj 389 dx) ∈ n') (h5_ : L2 NatV pvs (orthR cols i).piv) (h6_ : RatLs (Kn S n') bvs (orthR cols i).bas) (h7_ : RatsS (Kn S n') nvs (orthR cols i).nrm) (h8_ : RatLs (Kn S n') svs (orthR cols i).shr) : OrthJ S cols ca x dx st p b n h D i m₁ n₁
inductive OrthI (S : Store) (Z Y n0 : Led) (ca x sh : Addr) (nv plv : Option Value) (o : OSt) (col : List Rat) (j : Nat) (m₁ : Str → Option Value) (n₁ : Led) : Prop
  | mk (fv tv bv' n'' ss ks : _) (h1_ : n₁ = (Z ++ ((sh, lisO ss ks) :: Y)) ++ n'') (h2_ : Off (Z ++ ((sh, lisO ss ks) :: Y)) n'') (h3_ : m₁ = upd (fun _ => none) [("norm", nv), ("factor", fv), ("turn", tv), ("share", some (.ref sh)), ("base", some bv'), ("place", plv), ("found", some (.ref x)), ("weights", some .none), ("columns", some (.ref ca))]) (h4_ : (∀ q ∈ n0, q ∈ n'')) (h5_ : RatL (Kn S n'') bv' (inR o col j).1) (h6_ : RatsS (Kn S n'') ss (inR o col j).2) : OrthI S Z Y n0 ca x sh nv plv o col j m₁ n₁
noncomputable def backIn (shr : List (List Rat)) (k : Nat) (vals : List Rat) : Nat → List Rat
  | 0 => vals
  | j + 1 => (backIn shr k vals j).set k ((backIn shr k vals j).getD k 0 - (shr.getD (k + 1 + j) []).getD k 0 * (backIn shr k vals j).getD (k + 1 + j) 0)
noncomputable def backOut (shr : List (List Rat)) (r : Nat) (vals : List Rat) : Nat → List Rat
  | 0 => vals
  | i + 1 => backIn shr (r - 1 - i) (backOut shr r vals i) i
theorem backIn_length (shr : List (List Rat)) (k : Nat) (vals : List Rat) : ∀ j, (backIn shr k vals j).length = vals.length
  | 0 => rfl
  | j + 1 => by rw [backIn, List.length_set, backIn_length shr k vals j]
theorem backOut_length (shr : List (List Rat)) (r : Nat) (vals : List Rat) : ∀ i, (backOut shr r vals i).length = vals.length
  | 0 => rfl
  | i + 1 => by rw [backOut, backIn_length, backOut_length shr r vals i]
noncomputable def vB (V C : Nat) : Nat → Nat
  | 0 => V
  | n + 1 => 2 * vB V C n + C + 1
theorem vB_mono {V C : Nat} {a : Nat} : ∀ {b}, a ≤ b → vB V C a ≤ vB V C b
  | 0, h => by rw [Nat.le_zero.mp h]; exact Nat.le_refl _
  | b + 1, h => by
    rcases Nat.lt_or_ge a (b + 1) with h' | h'
    · have := vB_mono (V := V) (C := C) (Nat.le_of_lt_succ h')
      show _ ≤ 2 * vB V C b + C + 1
      exact om_97 _ _ _ this
    · rw [Nat.le_antisymm h h']; exact Nat.le_refl _
theorem all_set {P : Rat → Prop} {v : Rat} : ∀ {l : List Rat} {k : Nat}, (∀ q ∈ l, P q) → P v → ∀ q ∈ l.set k v, P q
  | [], _, _, _, _, h => by simp at h
  | a :: l, 0, h, hv, q, hq => by
    rcases List.mem_cons.mp hq with rfl | hq
    · exact hv
    · exact h q (.tail _ hq)
  | a :: l, k + 1, h, hv, q, hq => by
    rcases List.mem_cons.mp hq with rfl | hq
    · exact h _ (.head _)
    · exact all_set (fun q hq => h q (.tail _ hq)) hv q hq
theorem getD_mem {l : List Rat} {k : Nat} (h : k < l.length) : l.getD k 0 ∈ l := by
  rw [List.getD_eq_getElem?_getD, List.getElem?_eq_getElem h]; exact List.getElem_mem _
theorem getD_get {α : Type} {l : List α} {k : Nat} {d : α} (h : k < l.length) : l.getD k d = l[k] := by
  rw [List.getD_eq_getElem?_getD, List.getElem?_eq_getElem h]; rfl
theorem backIn_sz {shr : List (List Rat)} {k r V C n : Nat} {vals : List Rat} (hl : vals.length = r) (hs : ∀ (l : Nat), k < l → l < r → Sz ((shr.getD l []).getD k 0) C) (hv : ∀ q ∈ vals, Sz q (vB V C n)) :
    ∀ j, k + 1 + j ≤ r → ∀ q ∈ backIn shr k vals j, Sz q (vB V C (n + j))
  | 0, _ => hv
  | j + 1, hj => by
    have ih := backIn_sz hl hs hv j (by exact om_98 _ _ _ hj)
    have hle := backIn_length shr k vals j
    refine all_set (fun q hq => (ih q hq).le (vB_mono (by exact om_99 _ _))) ?_
    refine (sz_sub (ih _ (getD_mem (by exact om_100 _ _ _ _ _ hl hj hle))) (sz_mul (hs (k + 1 + j) (by exact om_101 _ _) (by exact om_102 _ _ _ hj)) (ih _ (getD_mem (by exact om_103 _ _ _ _ _ hl hj hle))))).le ?_
    show _ ≤ 2 * vB V C (n + j) + C + 1
    exact om_104 _ _
noncomputable def tri : Nat → Nat
  | 0 => 0
  | i + 1 => tri i + i
theorem backOut_sz {shr : List (List Rat)} {r V C : Nat} {vals : List Rat} (hl : vals.length = r) (hs : ∀ (k l : Nat), k < l → l < r → Sz ((shr.getD l []).getD k 0) C) (hv : ∀ q ∈ vals, Sz q V) :
    ∀ i, i ≤ r → ∀ q ∈ backOut shr r vals i, Sz q (vB V C (tri i))
  | 0, _ => hv
  | i + 1, hi => backIn_sz (by rw [backOut_length]; exact hl) (fun l h h' => hs _ l h h') (backOut_sz hl hs hv i (by exact om_89 _ _ hi)) i (by exact om_105 _ _ hi)
theorem size_from {a b : Int} (h : a ≤ b) : Builtin.Range.rangeSize a b 1 = b - a := by
  unfold Builtin.Range.rangeSize
  simp
  omega
theorem small_from {a b : Int} (h : a ≤ b) (ha : 0 ≤ a) (hb : b ≤ 1048576) : Builtin.Range.small a b 1 = true := by
  unfold Builtin.Range.small Builtin.Range.rangeFitsLong
  rw [size_from h]
  simp
  exact om_167 _ _ h ha hb
theorem size_down {n : Nat} : Builtin.Range.rangeSize ((n : Int) - 1) (-1) (-1) = (n : Int) := by
  unfold Builtin.Range.rangeSize
  simp
  omega
theorem small_down {n : Nat} (h : n ≤ 1048576) : Builtin.Range.small ((n : Int) - 1) (-1) (-1) = true := by
  unfold Builtin.Range.small Builtin.Range.rangeFitsLong
  rw [size_down]
  simp
  exact om_168 _ h
inductive BackPost (S : Store) (vals : List Rat) (tl : Led) (r : Value) : Prop
  | mk (D kk vs tl' : _) (h1_ : r = .ref D) (h2_ : tl = (D, lisO vs kk) :: tl') (h3_ : RatsS (Kn S tl') vs vals) : BackPost S vals tl r
inductive BackJ (S : Store) (shr : List (List Rat)) (r : Nat) (steps : List Rat) (x vl : Addr) (i : Nat) (m₁ : Str → Option Value) (n₁ : Led) : Prop
  | mk (lv kv n' vvs kk : _) (h1_ : n₁ = ([] ++ [(vl, lisO vvs kk)]) ++ n') (h2_ : Off ([] ++ [(vl, lisO vvs kk)]) n') (h3_ : m₁ = upd (fun _ => none) [("later", lv), ("k", kv), ("values", some (.ref vl)), ("fitted", some (.ref x))]) (h4_ : RatsS (Kn S n') vvs (backOut shr r steps i)) : BackJ S shr r steps x vl i m₁ n₁
inductive BackI (S : Store) (Z : Led) (shr : List (List Rat)) (K0 : Nat) (vals : List Rat) (x vl : Addr) (kv : Option Value) (j : Nat) (m₁ : Str → Option Value) (n₁ : Led) : Prop
  | mk (lv n' vvs kk : _) (h1_ : n₁ = (Z ++ [(vl, lisO vvs kk)]) ++ n') (h2_ : Off (Z ++ [(vl, lisO vvs kk)]) n') (h3_ : m₁ = upd (fun _ => none) [("later", lv), ("k", kv), ("values", some (.ref vl)), ("fitted", some (.ref x))]) (h4_ : RatsS (Kn S n') vvs (backIn shr K0 vals j)) : BackI S Z shr K0 vals x vl kv j m₁ n₁
section
variable {prog : Program} {w : World} {A : Around} {E : Value → Shared → Prop} {s : Shared} {env : Env} {h₀ : Heap} {L : Addr}
theorem for_rangeV {target : Expr} {body : List Stmt} {Q : Flow → Shared → Prop} {r : Addr} {a b c : Int} {t₀ u₀ v₀ : Tok} {m : Str → Option Value} {news : Led} (n : Nat) (val : Nat → Int)
    (J : Nat → (Str → Option Value) → Led → Prop) (hr : IsRange s.heap r a b c t₀ u₀ v₀) (hh : A.handled = none) (hsmall : Builtin.Range.small a b c = true) (hn : Builtin.Range.rangeSize a b c = (n : Int))
    (F : Fr h₀ L s.heap m) (N : News h₀ L s.heap news) (h0 : J 0 m news) (hv : ∀ i : Nat, i < n → a + (i : Int) * c = val i)
    (turn : ∀ (i : Nat) t m₁ news₁ X h tk, i < n → J i m₁ news₁ → Off X news₁ → Fr h₀ L h m₁ → News h₀ L h (X ++ news₁) →
      wpAny (model prog w) A (assign target env (.int (val i) t)) (fun _ s₂ => wpAny (model prog w) A (execs body env) (FPost h₀ L s X [] (J (i + 1)) Q) (fun _ _ => False) s₂) (fun _ _ => False) { s with heap := h, toks := tk })
    (done : ∀ m₁ news₁ h tk, J n m₁ news₁ → Fr h₀ L h m₁ → News h₀ L h news₁ → Q .next { s with heap := h, toks := tk })
    (ht : ∀ I v, letOwnedTupleGo target (.ref I) v = pure () := by intro _ _; rfl) :
    wpAny (model prog w) A (pyIter (.ref r)) (fun it s₂ => codeAny (model prog w) A (.forLoop target it body [] env) (fun r s' => match r with | .ok f => Q f s' | .error e => cameBackBy (model prog w) A env E e s') s₂) E s :=
  for_range n J hr hh hsmall hn F N h0 (fun i t m₁ news₁ X h tk hi hJ ho F' N' => by rw [hv i hi]; exact turn i t m₁ news₁ X h tk hi hJ ho F' N') done ht
end
theorem updF_appL {d : Addr} {o : Obj} {Y n : Led} {g : Obj → Led} (U : UpdF d o Y g) (h : ∀ p ∈ n, p.1 ≠ d) : UpdF d o (Y ++ n) (fun o' => g o' ++ n) := by
  induction U with
  | head h1 => exact .head fun p hp => (List.mem_append.mp hp).elim (h1 p) (h p)
  | tail h1 _ ih => exact .tail h1 ih
theorem updF_mem {d : Addr} {o : Obj} {Y : Led} {g : Obj → Led} (U : UpdF d o Y g) : (d, o) ∈ Y := by
  induction U with
  | head _ => exact .head _
  | tail _ _ ih => exact .tail _ ih
theorem updF_appR {d : Addr} {o : Obj} {X Y : Led} {g : Obj → Led} (h : ∀ p ∈ X, p.1 ≠ d) (U : UpdF d o Y g) : UpdF d o (X ++ Y) (fun o' => X ++ g o') := by
  induction X with
  | nil => exact U
  | cons p r ih => exact .tail (h p (.head _)) (ih fun q hq => h q (.tail _ hq))
theorem updF_was {d : Addr} {o o' : Obj} {Y : Led} {g : Obj → Led} (U : UpdF d o Y g) : ∀ p ∈ g o', ∃ q ∈ Y, p.1 = q.1 := by
  induction U with
  | head _ => intro p hp; rcases List.mem_cons.mp hp with rfl | hp; exact ⟨_, .head _, rfl⟩; exact ⟨p, .tail _ hp, rfl⟩
  | tail _ _ ih =>
    intro p hp
    rcases List.mem_cons.mp hp with rfl | hp
    · exact ⟨_, .head _, rfl⟩
    · obtain ⟨q, hq, e⟩ := ih p hp; exact ⟨q, .tail _ hq, e⟩
theorem updF_in {d : Addr} {o : Obj} {X Y : Led} {g : Obj → Led} (U : UpdF d o Y g) (O : OffA X (Y.map (·.1))) : UpdF d o (X ++ Y) (fun o' => X ++ g o') := updF_appR (fun p hp => of_offA O p hp _ (updF_mem U)) U
section
variable {M : Model} {A : Around} {E : Value → Shared → Prop} {s : Shared} {h₀ : Heap} {L a : Addr} {m : Str → Option Value} {cn : Str} {cs : Scope} {ccd : Value} {cl : List (Str × Addr)}
  {x : Str} {v : Value} {Q : Unit → Shared → Prop} {Y n : Led} {g : Obj → Led} {c : Addr} {o : Obj} {v₀ : Option Value}
theorem cellY (F : Fr h₀ L s.heap m) (N : News h₀ L s.heap (Y ++ n)) (O : Off Y n) (hc : cl.lookup x = some c) (U : UpdF c o Y g) (hd : o.data = .cell v₀)
    (h : ∀ h' o', Fr h₀ L h' m → News h₀ L h' (g o' ++ n) → Off (g o') n → o'.data = .cell (some v) → Q () { s with heap := h' })
    (hk : cs.kind = .function) (hx : (envX cn cs L a ccd cl).kindOf x = some .cell) : wpAny M A (storeName (envX cn cs L a ccd cl) x v) Q E s :=
  storeX_C F N hc (updF_appL U fun p hp => Ne.symm (O _ (updF_mem U) p hp)) hd (fun h' o' F' N' d' => h h' o' F' N' (fun p hp q hq => by obtain ⟨r, hr, e⟩ := updF_was U p hp; rw [e]; exact O r hr q hq) d') hk hx
theorem localY (F : Fr h₀ L s.heap m) (N : News h₀ L s.heap (Y ++ n))
    (h : ∀ h', Fr h₀ L h' (fun y => if y = x then some v else m y) → News h₀ L h' (Y ++ n) → Q () { s with heap := h', toks := s.toks + 1 })
    (hk : cs.kind = .function) (hx : (envX cn cs L a ccd cl).kindOf x = some .local) : wpAny M A (storeName (envX cn cs L a ccd cl) x v) Q E s := storeX_L F N h hk hx
end
section
variable {w : World} {c : Nat} {f : Addr} {vs : List Value} {S : Store} {A : Around} {s : Shared} {Q E : Value → Shared → Prop} {h₀ : Heap} {L : Addr} {m : Str → Option Value} {news : Led}
/-- a call that reads what changes -/
theorem PureT.useY {Y : Led} {Post : Led → Value → Prop} (C : PureT w c f vs (Kn S (Y ++ news)) Post) (G : Gr w S h₀) (F : Fr h₀ L s.heap m) (N : News h₀ L s.heap (Y ++ news)) (O : Off Y news) (hh : A.handled = none) {A₀ : Around} {base : Heap} {outer : List Env} {env : Env} (B : Below A₀ base outer h₀) (hfr : A.frames = some (env :: outer)) (hf : env.frame = some L) (hke : env.scope.kind = .function) (hd : A.depth + c + 100 < recursionLimit)
    (k : ∀ r tl h' tk', Fr h₀ L h' m → News h₀ L h' (Y ++ (news ++ tl)) → Off Y (news ++ tl) → Off (Y ++ news) tl → Post tl r → Q r { s with heap := h', toks := tk' }) :
    wpAny (model PySem.Challenge.rw_pq1326_01.prog w) A (call (.ref f) vs) Q E s :=
  PureT.use (Y := []) C G F N (fun _ h => nomatch h) hh B hfr hf hke hd fun r tl h' tk' F' N' O' o' hp => k r tl h' tk' F' (by simpa only [List.nil_append, List.append_assoc] using N') (O.mk (Off.l o')) o' hp
end
theorem lis_not_tup (vs : List Value) (k : Nat) (us : List Value) : lisO vs k ≠ tupO us := fun e => by
  have := congrArg Obj.cls e
  simp at this
theorem dict_not_tup (es : List DictEntry) (k : Nat) (us : List Value) : dictOf es k ≠ tupO us := fun e => by
  have := congrArg Obj.cls e
  simp at this
theorem cell_not_tup {o : Obj} {v : Option Value} (h : o.data = .cell v) (us : List Value) : o ≠ tupO us := fun e => by
  have := congrArg Obj.data e
  rw [h] at this
  simp at this
theorem RatS.strip {S : Store} {Y n tl : Led} {v : Value} {q : Rat} (hY : ∀ p ∈ Y, ∀ us, p.2 ≠ tupO us) (h : RatS (Kn (Kn S (Y ++ n)) tl) v q) : RatS (Kn S (n ++ tl)) v q := by
  obtain ⟨a, t1, t2, e, hx⟩ := h
  refine ⟨a, t1, t2, e, ?_⟩
  rcases hx with (hx | hx) | hx
  · exact .inl hx
  · rcases List.mem_append.mp hx with hx | hx
    · exact absurd rfl (hY _ hx _)
    · exact .inr (List.mem_append_left _ hx)
  · exact .inr (List.mem_append_right _ hx)
theorem RatsS.strip {S : Store} {Y n tl : Led} (hY : ∀ p ∈ Y, ∀ us, p.2 ≠ tupO us) {vs : List Value} {qs : List Rat} (h : RatsS (Kn (Kn S (Y ++ n)) tl) vs qs) : RatsS (Kn S (n ++ tl)) vs qs :=
  rats_L2.mpr (L2.mono (fun _ _ => RatS.strip hY) (rats_L2.mp h))
noncomputable def subR : List Rat → List Rat → List Rat
  | a :: as, b :: bs => (a - b) :: subR as bs
  | _, _ => []
theorem subR_length : ∀ (us vs : List Rat), us.length = vs.length → (subR us vs).length = us.length
  | [], [], _ => rfl
  | _ :: _, _ :: _, h => by simp [subR, subR_length _ _ (by simpa using h)]
  | [], _ :: _, h => by simp at h
  | _ :: _, [], h => by simp at h
theorem subR_get : ∀ (us vs : List Rat) (i : Nat) (h : i < us.length) (h' : i < vs.length), (subR us vs).take (i + 1) = (subR us vs).take i ++ [us[i] - vs[i]]
  | a :: as, b :: bs, 0, _, _ => by simp [subR]
  | a :: as, b :: bs, i + 1, h, h' => by
    have := subR_get as bs i (by simpa using h) (by simpa using h')
    simp only [subR, List.take_succ_cons, this, List.cons_append, List.getElem_cons_succ]
noncomputable def placeR (piv : List Nat) (vals : List Rat) (w : Nat) : Nat → List (Option Rat)
  | 0 => List.replicate w none
  | i + 1 => (placeR piv vals w i).set (piv.getD i 0) (some (vals.getD i 0))
theorem placeR_length (piv : List Nat) (vals : List Rat) (w : Nat) : ∀ i, (placeR piv vals w i).length = w
  | 0 => by simp [placeR]
  | i + 1 => by rw [placeR, List.length_set, placeR_length piv vals w i]
/-- the fit, in plain words -/
noncomputable def fO (cols : List (List Rat)) : OSt := orthR cols cols.length
noncomputable def fRank (cols : List (List Rat)) : Nat := (fO cols).bas.length
noncomputable def fRest (cols : List (List Rat)) (y : List Rat) : List Rat := (inR (fO cols) y (fRank cols)).1
noncomputable def fVals (cols : List (List Rat)) (y : List Rat) : List Rat := backOut (fO cols).shr (fRank cols) (inR (fO cols) y (fRank cols)).2 (fRank cols)
noncomputable def fCoef (cols : List (List Rat)) (y : List Rat) : List (Option Rat) := placeR (fO cols).piv (fVals cols y) cols.length (fRank cols)
noncomputable def OptV (S : Store) (v : Value) : Option Rat → Prop
  | none => v = .none
  | some q => RatS S v q
theorem OptV.mono {S S' : Store} (hs : ∀ a o, S a o → S' a o) {v : Value} : ∀ {c : Option Rat}, OptV S v c → OptV S' v c
  | none, h => h
  | some _, h => RatS.mono h hs
noncomputable abbrev OptsS (S : Store) : List Value → List (Option Rat) → Prop := L2 (OptV S)
theorem OptsS.mono {S S' : Store} (hs : ∀ a o, S a o → S' a o) {vs : List Value} {cs : List (Option Rat)} (h : OptsS S vs cs) : OptsS S' vs cs := L2.mono (fun _ _ => OptV.mono hs) h
theorem OptsS.none (S : Store) : ∀ n, OptsS S (List.replicate n .none) (List.replicate n none)
  | 0 => trivial
  | n + 1 => ⟨rfl, OptsS.none S n⟩
/-- what fit gives back -/
inductive FitOut (w : World) (cols : List (List Rat)) (y : List Rat) (S : Store) (r : Value) : Prop
  | mk (x dx t1 t2 t3 t4 t5 t6 t7 t8 t9 t10 t11 pv bv nv sv stv cl fiv rev wtv u1 u2 kc cvals : _) (h1_ : r = .ref x) (h2_ : S x (instObj 389 dx)) (h3_ : S dx (fitD w t1 t2 t3 t4 t5 t6 t7 t8 t9 t10 t11 pv bv nv sv stv (.ref cl) fiv rev wtv (.int (fRank cols : Nat) u1) (.int ((y.length : Int) - (fRank cols : Nat)) u2))) (h4_ : S cl (lisO cvals kc)) (h5_ : OptsS S cvals (fCoef cols y)) (h6_ : RatL S fiv (subR y (fRest cols y))) (h7_ : RatL S rev (fRest cols y)) : FitOut w cols y S r
inductive FitJ1 (Y : Led) (ca : Addr) (m₁ : Str → Option Value) (n₁ : Led) : Prop
  | mk (cv n' : _) (h1_ : n₁ = Y ++ n') (h2_ : Off Y n') (h3_ : m₁ = upd (fun _ => none) [("column", cv), ("weights", some .none), ("columns", some (.ref ca))]) : FitJ1 Y ca m₁ n₁
theorem led_join {h₀ h : Heap} {L : Addr} {Y n M n2 : Led} (N : News h₀ L h (Y ++ (n ++ (M ++ n2)))) (O : Off Y (n ++ (M ++ n2))) (o : Off (Y ++ n) (M ++ n2)) (om : Off M n2) : News h₀ L h ((M ++ Y) ++ (n ++ n2)) ∧ Off (M ++ Y) (n ++ n2) := by
  refine ⟨fun p hp => N p ?_, fun p hp q hq => ?_⟩
  · simp only [List.mem_append] at hp ⊢
    rcases hp with (hp | hp) | hp | hp
    · exact .inr (.inr (.inl hp))
    · exact .inl hp
    · exact .inr (.inl hp)
    · exact .inr (.inr (.inr hp))
  · rcases List.mem_append.mp hp with hp | hp
    · rcases List.mem_append.mp hq with hq | hq
      · exact Ne.symm (o q (List.mem_append_right _ hq) p (List.mem_append_left _ hp))
      · exact om p hp q hq
    · rcases List.mem_append.mp hq with hq | hq
      · exact O p hp q (List.mem_append_left _ hq)
      · exact O p hp q (List.mem_append_right _ (List.mem_append_right _ hq))
inductive FitJ2 (S : Store) (ca x dx st cr cy : Addr) (D oy : Obj) (o : OSt) (ys : List Rat) (cv : Option Value) (n0 : Led) (i : Nat) (m₁ : Str → Option Value) (n₁ : Led) : Prop
  | mk (kv sv orr restv svs ks n' : _) (h1_ : n₁ = ([] ++ [(dx, D), (st, lisO svs ks), (cr, orr), (cy, oy)]) ++ n') (h2_ : Off ([] ++ [(dx, D), (st, lisO svs ks), (cr, orr), (cy, oy)]) n') (h3_ : m₁ = upd (fun _ => none) [("step", sv), ("k", kv), ("found", some (.ref x)), ("column", cv), ("weights", some .none), ("columns", some (.ref ca))]) (h4_ : (∀ q ∈ n0, q ∈ n')) (h5_ : orr.data = .cell (some restv)) (h6_ : RatL (Kn S n') restv (inR o ys i).1) (h7_ : RatsS (Kn S n') svs (inR o ys i).2) : FitJ2 S ca x dx st cr cy D oy o ys cv n0 i m₁ n₁
theorem mulNone {prog : Program} {w : World} {A : Around} {E : Value → Shared → Prop} {s : Shared} {h₀ : Heap} {L : Addr} {m : Str → Option Value} {Y n : Led} {l : Addr} {kk c : Nat} {u : Tok} {Q : Value → Shared → Prop} (F : Fr h₀ L s.heap m) (N : News h₀ L s.heap (Y ++ n)) (O : Off Y n) (hl : s.heap.get? l = some (lisO [.none] kk)) (hc : c ≤ 64)
    (h : ∀ D h', Fr h₀ L h' m → News h₀ L h' (Y ++ ((D, lisO (List.replicate c .none) 0) :: n)) → Off Y ((D, lisO (List.replicate c .none) 0) :: n) → (∀ p ∈ Y ++ n, p.1 < D) → Q (.ref D) { s with heap := h' }) :
    wpAny (model prog w) A (binaryOp .Mult (.ref l) (.int (c : Int) u)) Q E s :=
  KMa.mul (vs := [.none]) (ws := List.replicate c .none) F N ⟨_, hl, rfl, kk, rfl⟩ (by exact om_133 _) (by exact om_134 _ hc) (by simp; exact om_135 _ hc) (by simp) fun D h' F' N' lt => h D h' F' (fun p hp => N' p (by
      rcases List.mem_append.mp hp with hp | hp
      · exact .tail _ (List.mem_append_left _ hp)
      · rcases List.mem_cons.mp hp with rfl | hp
        · exact .head _
        · exact .tail _ (List.mem_append_right _ hp)))
    (fun p hp q hq => by
      rcases List.mem_cons.mp hq with rfl | hq
      · exact Nat.ne_of_lt (lt p (List.mem_append_left _ hp))
      · exact O p hp q hq) lt
theorem sz_of_idx {l : List Rat} (h : ∀ (i : Nat) (f : Rat), l[i]? = some f → Sz f (20 * cB i + 12)) (hl : l.length ≤ 3) : ∀ q ∈ l, Sz q 35032 := fun q hq => by
  obtain ⟨i, hi, e⟩ := List.getElem_of_mem hq
  have := cB_le i (by exact om_169 _ _ hl hi)
  exact (h i q (by rw [List.getElem?_eq_getElem hi, e])).le (by exact om_170 _ this)
theorem shr_len {rows i : Nat} {o : OSt} (ok : OOk rows i o) : ∀ l, l < o.bas.length → (o.shr.getD l []).length = l := fun l hl => by
  have h : l < o.shr.length := by rw [ok.l3]; exact hl
  rw [getD_get h]
  exact (ok.szS l _ (List.getElem?_eq_getElem h)).1
theorem shr_sz {rows i : Nat} {o : OSt} (ok : OOk rows i o) (h3 : o.bas.length ≤ 3) : ∀ (k l : Nat), k < l → l < o.bas.length → Sz ((o.shr.getD l []).getD k 0) 35032 := fun k l hk hl => by
  have h : l < o.shr.length := by rw [ok.l3]; exact hl
  have hs := ok.szS l _ (List.getElem?_eq_getElem h)
  rw [getD_get h]
  exact sz_of_idx hs.2 (by rw [hs.1]; exact om_171 _ _ h3 hl) _ (getD_mem (by rw [hs.1]; exact hk))
inductive FitJ3 (S : Store) (ca x cl vD : Addr) (Y n : Led) (cv stv : Option Value) (piv : List Nat) (vals : List Rat) (wd : Nat) (i : Nat) (m₁ : Str → Option Value) (n₁ : Led) : Prop
  | mk (kv cvals : _) (h1_ : n₁ = ([] ++ ((cl, lisO cvals 0) :: Y)) ++ n) (h2_ : Off ([] ++ ((cl, lisO cvals 0) :: Y)) n) (h3_ : m₁ = upd (fun _ => none) [("values", some (.ref vD)), ("step", stv), ("k", kv), ("found", some (.ref x)), ("column", cv), ("weights", some .none), ("columns", some (.ref ca))]) (h4_ : OptsS (Kn S n) cvals (placeR piv vals wd i)) : FitJ3 S ca x cl vD Y n cv stv piv vals wd i m₁ n₁
theorem OptsS.set {S : Store} {v : Value} {q : Rat} {vs : List Value} {cs : List (Option Rat)} (i : Nat) (h : OptsS S vs cs) (h' : RatS S v q) : OptsS S (vs.set i v) (cs.set i (some q)) := L2.set i h h'
theorem vals_sz {V : Nat} {rows i : Nat} {o : OSt} {ys : List Rat} (ok : OOk rows i o) (h3 : o.bas.length ≤ 3) (h : ∀ q ∈ (inR o ys o.bas.length).2, Sz q 35032) (hl : (inR o ys o.bas.length).2.length = o.bas.length) : ∀ q ∈ backOut o.shr o.bas.length (inR o ys o.bas.length).2 o.bas.length, Sz q 8000000 := fun q hq => by
  have := backOut_sz hl (shr_sz ok h3) h o.bas.length (Nat.le_refl _) q hq
  refine this.le ?_
  have ht : tri o.bas.length ≤ 3 := by
    have : o.bas.length = 0 ∨ o.bas.length = 1 ∨ o.bas.length = 2 ∨ o.bas.length = 3 := by exact om_109 _ h3
    rcases this with e | e | e | e <;> rw [e] <;> decide
  refine Nat.le_trans (vB_mono ht) ?_
  show 2 * (2 * (2 * 35032 + 35032 + 1) + 35032 + 1) + 35032 + 1 ≤ _
  exact om_172
theorem cB_le3 : ∀ j, j ≤ 3 → cB j ≤ 38535
  | 0, _ => by decide
  | 1, _ => by decide
  | 2, _ => by decide
  | 3, _ => by decide
  | j + 4, h => by exact om_173 _ _ h
inductive FitJ4 (S : Store) (Y n0 : Led) (rl : List Rat) (i : Nat) (ys : List Value) (n₁ : Led) : Prop
  | mk (n : _) (h1_ : n₁ = Y ++ n) (h2_ : Off Y n) (h3_ : (∀ q ∈ n0, q ∈ n)) (h4_ : RatsS (Kn S n) ys (rl.take i)) : FitJ4 S Y n0 rl i ys n₁
/-- a call that changes the things of `X`: `c` levels of frames below it -/
noncomputable def MutT (w : World) (c : Nat) (f : Addr) (vs : List Value) (S : Store) (X : Led) (Post : Led → Led → Value → Prop) : Prop :=
  ∀ (dp un : Nat) (fr : List Env) (gd : Option (List Code)) (base g : Heap) (s : Shared) (Q E : Value → Shared → Prop), dp + c + 100 < recursionLimit → Gr w S g → Below { handled := none, depth := dp, frames := some fr, guards := gd, units := un } base fr g →
    (∀ b o, g.get? b = some o → s.heap.get? b = some o) → g.objs.size ≤ s.heap.objs.size → (∀ p ∈ X, s.heap.get? p.1 = some p.2 ∧ g.get? p.1 = none) →
    (∀ r X' tl h' tk', (∀ b o, g.get? b = some o → h'.get? b = some o) → (∀ p ∈ X' ++ tl, h'.get? p.1 = some p.2 ∧ g.get? p.1 = none) → Off X' tl → X'.map (·.1) = X.map (·.1) → Post X' tl r → Q r { s with heap := h', toks := tk' }) →
    wpAny (model PySem.Challenge.rw_pq1326_01.prog w) { handled := none, depth := dp, frames := some fr, guards := gd, units := un } (call (.ref f) vs) Q E s

section
variable {w : World} {c : Nat} {f : Addr} {vs : List Value} {S : Store} {A : Around} {s : Shared} {Q E : Value → Shared → Prop} {h₀ : Heap} {L : Addr} {m : Str → Option Value} {news : Led}
theorem MutT.use {Z X : Led} {Post : Led → Led → Value → Prop} (C : MutT w c f vs (Kn S (Z ++ news)) X Post) (G : Gr w S h₀) (F : Fr h₀ L s.heap m) (N : News h₀ L s.heap ((Z ++ X) ++ news)) (O : Off (Z ++ X) news) (OA : OffA Z (X.map (·.1))) (hh : A.handled = none) {A₀ : Around} {base : Heap} {outer : List Env} {env : Env} (B : Below A₀ base outer h₀) (hfr : A.frames = some (env :: outer)) (hf : env.frame = some L) (hke : env.scope.kind = .function) (hd : A.depth + c + 100 < recursionLimit)
    (k : ∀ r X' tl h' tk', Fr h₀ L h' m → News h₀ L h' ((Z ++ X') ++ (news ++ tl)) → Off (Z ++ X') (news ++ tl) → Off (Z ++ news) tl → X'.map (·.1) = X.map (·.1) → Post X' tl r → Q r { s with heap := h', toks := tk' }) :
    wpAny (model PySem.Challenge.rw_pq1326_01.prog w) A (call (.ref f) vs) Q E s := by
  obtain ⟨_, dp, _, gd, un⟩ := A
  subst hh
  subst hfr
  have NX : News h₀ L s.heap X := fun p hp => N p (List.mem_append_left _ (List.mem_append_right _ hp))
  obtain ⟨FG, BG, st, -⟩ := groundX (A := { handled := none, depth := dp, frames := some (env :: outer), guards := gd, units := un }) (R := fun _ _ => True) B F NX rfl hf hke
  have OX : Off X news := fun p hp => O p (List.mem_append_right _ hp)
  have OZ : Off Z news := fun p hp => O p (List.mem_append_left _ hp)
  have OZX : Off Z X := of_offA OA
  have nX : ∀ p ∈ Z ++ news, p.1 ∉ X.map (·.1) := fun p hp hm => by
    obtain ⟨q, hq, e⟩ := List.mem_map.mp hm
    rcases List.mem_append.mp hp with hp | hp
    · exact OZX p hp q hq e.symm
    · exact OX q hq p hp e
  have mem1 : ∀ p ∈ Z ++ news, p ∈ (Z ++ X) ++ news := fun p hp => by
    rcases List.mem_append.mp hp with hp | hp
    · exact List.mem_append_left _ (List.mem_append_left _ hp)
    · exact List.mem_append_right _ hp
  have gZ : ∀ p ∈ Z ++ news, (hideAll s.heap (X.map (·.1))).get? p.1 = some p.2 := fun p hp => hideAll_get _ (N p (mem1 p hp)).1 (nX p hp)
  have GG : Gr w (Kn S (Z ++ news)) (hideAll s.heap (X.map (·.1))) := (G.keeps st).sub (fun _ _ => Kn.l) fun a o e => e.elim (fun e => st _ _ (G.s _ _ e)) fun e => gZ _ e
  refine C dp un (env :: outer) gd base _ s Q E hd GG ⟨rfl, BG.stays, BG.frames⟩ (fun b o e => of_hideAll _ e) (Nat.le_of_eq (hideAll_size _ _)) (fun p hp => ⟨(NX p hp).1, hideAll_none _ (List.mem_map_of_mem hp)⟩) fun r X' tl h' tk' hk ht o' ea hp => ?_
  obtain ⟨oL, es, ep, hL, hLd, hLk, hLf⟩ := FG.ns
  have F' : Fr h₀ L h' m := ⟨⟨oL, es, ep, hk _ _ hL, hLd, hLk, hLf⟩, fun b o e => hk _ _ (st _ _ e), F.above⟩
  have nL : ∀ p ∈ X' ++ tl, p.1 ≠ L ∧ h₀.get? p.1 = none := fun p hp => by
    refine ⟨fun e => ?_, ?_⟩
    · have := (ht p hp).2; rw [e, hL] at this; cases this
    · cases q : h₀.get? p.1 with
      | none => rfl
      | some o => have := (ht p hp).2; rw [st _ _ q] at this; cases this
  have oT : Off (Z ++ news) tl := fun p hp q hq e => by
    have h1 := gZ p hp
    have h2 := (ht q (List.mem_append_right _ hq)).2
    rw [← e, h1] at h2; cases h2
  have adr : ∀ p ∈ X', ∃ q ∈ X, p.1 = q.1 := fun p hp => by
    have : p.1 ∈ X.map (·.1) := ea ▸ List.mem_map_of_mem hp
    obtain ⟨q, hq, e⟩ := List.mem_map.mp this
    exact ⟨q, hq, e.symm⟩
  refine k r X' tl h' tk' F' (fun p hp => ?_) (fun p hp q hq => ?_) oT ea hp
  · rcases List.mem_append.mp hp with hp | hp
    · rcases List.mem_append.mp hp with hp | hp
      · have hz := List.mem_append_left news hp
        exact ⟨hk _ _ (gZ p hz), (N p (mem1 p hz)).2⟩
      · exact ⟨(ht p (List.mem_append_left _ hp)).1, nL p (List.mem_append_left _ hp)⟩
    · rcases List.mem_append.mp hp with hp | hp
      · have hz := List.mem_append_right Z hp
        exact ⟨hk _ _ (gZ p hz), (N p (mem1 p hz)).2⟩
      · exact ⟨(ht p (List.mem_append_right _ hp)).1, nL p (List.mem_append_right _ hp)⟩
  · rcases List.mem_append.mp hp with hp | hp
    · rcases List.mem_append.mp hq with hq | hq
      · exact OZ p hp q hq
      · exact oT p (List.mem_append_left _ hp) q hq
    · rcases List.mem_append.mp hq with hq | hq
      · obtain ⟨x, hx, e⟩ := adr p hp
        rw [e]; exact OX x hx q hq
      · exact o' p hp q hq
end

section
variable {prog : Program} {w : World} {A : Around} {g : Heap} {s : Shared} {K : Frag} {R : Result → Shared → Prop} {name qual : Str} {params : Arguments} {body : List Stmt} {scope : Scope} {dV kV doc pm cdv ct oc : Value} {an od : Option Addr}
  {osl : Array (Option Value)} {f : Addr} {args : Args} {binds : List (Str × Value)} {p : Program} {loose : List Str} {mean : ExcName → Option Value} {mg mb : Str → Option Value}
/-- into a def that changes things: the base is what stays -/
theorem enterM {X₀ : Led} (X : K.In g) (T : Top p loose mean mg mb g) (hg : ∀ b o, g.get? b = some o → s.heap.get? b = some o) (hz : g.objs.size ≤ s.heap.objs.size) (hX : ∀ p ∈ X₀, s.heap.get? p.1 = some p.2 ∧ g.get? p.1 = none)
    (ho : K.lookup f = some ⟨oc, od, .func (fnOf name qual params body scope dV kV doc pm an cdv ct), osl⟩) (hcd : codeIn K cdv qual = true)
    (hroom : A.depth < recursionLimit) (hbind : BindsTo s (fnOf name qual params body scope dV kV doc pm an cdv ct) args binds) (hloc : ∀ y ∈ binds, scope.names.lookup y.1 = some .local)
    (h : ∀ h₁, Fr g s.heap.objs.size h₁ (upd (fun _ => none) (binds.reverse.map fun p => (p.1, some p.2))) → News g s.heap.objs.size h₁ (X₀ ++ []) →
      wpAny (model prog w) (A.deeper (envOf qual scope s.heap.objs.size f cdv)) (execs body (envOf qual scope s.heap.objs.size f cdv))
        (fun fl s' => R (.ok (.ret (match fl with | .ret v => v | _ => .none))) s') (fun _ _ => False) { s with heap := h₁, toks := s.toks + binds.length })
    (hcell : ∀ x ∈ scope.names, x.2 ≠ .cell) (hco : scope.isCoroutine = false) (hgen : scope.isGenerator = false) (hk : scope.kind = .function) : codeAny (model prog w) A (.call (.ref f) args) R s := by
  refine codeAny_call_def (fd := fnOf name qual params body scope dV kV doc pm an cdv ct) (body := body) (binds := binds) hroom (hg _ _ (X _ _ ho)) rfl (T.nolimit.keeps hg) (codeRec_of (X.keeps hg) hcd) rfl hbind hcell hloc (fun h₁ hns hk₁ => ?_) hco hgen hk
  exact wpAny_mono (h h₁ ⟨lookup_upd _ ▸ hns, fun b o e => hk₁ b o (hg b o e), hz⟩ fun p hp => by
      rw [List.append_nil] at hp
      exact ⟨hk₁ _ _ (hX p hp).1, Nat.ne_of_lt (Heap.lt_size (hX p hp).1), (hX p hp).2⟩) (fun _ _ x => x) fun _ _ x => x.elim
/-- into a def that has cells -/
theorem enterMC {X₀ : Led} (X : K.In g) (T : Top p loose mean mg mb g) (hg : ∀ b o, g.get? b = some o → s.heap.get? b = some o) (hz : g.objs.size ≤ s.heap.objs.size) (hX : ∀ p ∈ X₀, s.heap.get? p.1 = some p.2 ∧ g.get? p.1 = none) (ho : K.lookup f = some ⟨oc, od, .func (fnOf name qual params body scope dV kV doc pm an cdv ct), osl⟩) (hcd : codeIn K cdv qual = true)
    (hroom : A.depth < recursionLimit) (hbind : BindsTo s (fnOf name qual params body scope dV kV doc pm an cdv ct) args binds)
    (hkind : (binds.all fun y => scope.names.lookup y.1 == some .local || scope.names.lookup y.1 == some .cell) = true) (hnd : ((cellsFrom 0 scope.names []).map (·.1)).Nodup)
    (h : ∀ h₁ tk co, Fr g s.heap.objs.size h₁ (bindL (envOfC qual scope s.heap.objs.size f cdv).kindOf binds fun _ => none) → News g s.heap.objs.size h₁ ((cellLed (cellsFrom (s.heap.objs.size + 1) scope.names []) co ++ X₀) ++ []) → (∀ q ∈ cellLed (cellsFrom (s.heap.objs.size + 1) scope.names []) co, s.heap.objs.size < q.1) →
      (∀ q ∈ cellsFrom (s.heap.objs.size + 1) scope.names [], (co q.1).data = .cell (bindC (envOfC qual scope s.heap.objs.size f cdv).kindOf binds (fun _ => none) q.1)) →
      wpAny (model prog w) (A.deeper (envOfC qual scope s.heap.objs.size f cdv)) (execs body (envOfC qual scope s.heap.objs.size f cdv))
        (fun fl s' => R (.ok (.ret (match fl with | .ret v => v | _ => .none))) s') (fun _ _ => False) { s with heap := h₁, toks := tk })
    (hco : scope.isCoroutine = false) (hgen : scope.isGenerator = false) (hk : scope.kind = .function) : codeAny (model prog w) A (.call (.ref f) args) R s := by
  refine codeAny_call_function hroom (hg _ _ (X _ _ ho)) rfl hco hgen rfl (codeRec_of (X.keeps hg) hcd) (hbind _ _ _ _ ?_)
  refine wpAny_newFunctionEnv_cells hk (kindsX hkind _) fun env' he s' x => ?_
  subst he
  refine ⟨(T.nolimit.keeps hg).keeps x.toInCall.keep, codeAny_func ?_⟩
  obtain ⟨h₁, tk, rfl, _⟩ := x.done
  have nd : ∀ n c, (n, c) ∈ cellsFrom (s.heap.objs.size + 1) scope.names [] → (cellsFrom (s.heap.objs.size + 1) scope.names []).lookup n = some c := fun n c hm =>
    lookup_of_mem_nodup (cellsFrom_names scope.names 0 (s.heap.objs.size + 1) [] [] rfl ▸ hnd) hm
  let co : Str → Obj := fun n => match (cellsFrom (s.heap.objs.size + 1) scope.names []).lookup n with
    | some c => (h₁.get? c).getD default
    | none => default
  have hco' : ∀ n c, (n, c) ∈ cellsFrom (s.heap.objs.size + 1) scope.names [] → h₁.get? c = some (co n) ∧ (co n).data = .cell (bindC (envOfC qual scope s.heap.objs.size f cdv).kindOf binds (fun _ => none) n) := fun n c hm => by
    obtain ⟨o, ho, hd⟩ := x.cell n c (nd n c hm)
    have e : co n = o := by show (match (cellsFrom (s.heap.objs.size + 1) scope.names []).lookup n with | some c => (h₁.get? c).getD default | none => default) = o; rw [nd n c hm]; dsimp only; rw [show h₁.get? c = some o from ho]; rfl
    rw [e]; exact ⟨ho, hd⟩
  have above : ∀ q ∈ cellLed (cellsFrom (s.heap.objs.size + 1) scope.names []) co, s.heap.objs.size < q.1 := fun q hq => by
    obtain ⟨y, hy, rfl⟩ := List.mem_map.mp hq
    exact x.above y.1 y.2 hy
  refine wpAny_mono (h h₁ tk co ⟨x.toInCall.ns, fun b o e => x.toInCall.keep b o (hg b o e), hz⟩ (fun q hq => ?_) above fun q hq => (hco' q.1 q.2 hq).2) (fun _ _ x => x) fun _ _ x => x.elim
  rw [List.append_nil] at hq
  rcases List.mem_append.mp hq with hq | hq
  · have lt := above q hq
    obtain ⟨y, hy, rfl⟩ := List.mem_map.mp hq
    refine ⟨(hco' y.1 y.2 hy).1, Nat.ne_of_gt lt, Heap.get?_none_of_le (Nat.le_trans hz (Nat.le_of_lt lt))⟩
  · exact ⟨x.toInCall.keep _ _ (hX q hq).1, Nat.ne_of_lt (Heap.lt_size (hX q hq).1), (hX q hq).2⟩
end
theorem led_push {h₀ h : Heap} {L : Addr} {Y n : Led} {D : Addr} {o : Obj} (N : News h₀ L h ((D, o) :: (Y ++ n))) (O : Off Y n) (hD : ∀ p ∈ Y ++ n, p.1 ≠ D) : News h₀ L h (Y ++ ((D, o) :: n)) ∧ Off Y ((D, o) :: n) :=
  ⟨fun p hp => N p (by
      rcases List.mem_append.mp hp with hp | hp
      · exact .tail _ (List.mem_append_left _ hp)
      · rcases List.mem_cons.mp hp with rfl | hp
        · exact .head _
        · exact .tail _ (List.mem_append_right _ hp)),
    O.consR fun p hp => hD p (List.mem_append_left _ hp)⟩
/-- an item of a vector -/
noncomputable def ItemS (S : Store) (kind : Str) (v : Value) (q : Rat) : Prop := (kind = Str.ofString "double" ∧ RatS S v q) ∨ (kind ≠ Str.ofString "double" ∧ ∃ n t, v = .int n t ∧ q = (n : Rat))
theorem ItemS.mono {S S' : Store} (hs : ∀ a o, S a o → S' a o) {kind : Str} {v : Value} {q : Rat} (h : ItemS S kind v q) : ItemS S' kind v q := h.imp (fun ⟨a, b⟩ => ⟨a, b.mono hs⟩) id
noncomputable abbrev strK (w : World) : KeyKind PySem.Challenge.rw_pq1326_01.prog w Str := PySem.strKind PySem.Challenge.rw_pq1326_01.prog w
/-- what an object's attributes tell under a name -/
noncomputable def AttrV (w : World) (S : Store) (av : Value) (name : Str) (r : Value) : Prop :=
  (av = .none ∧ r = .none) ∨ ∃ ad o kvs, av = .ref ad ∧ S ad o ∧ o.IsDictOf (strK w) kvs ∧ (valueAt kvs name).getD .none = r ∧ (ad == sysModules) = false
theorem AttrV.mono {w : World} {S S' : Store} (hs : ∀ a o, S a o → S' a o) {av : Value} {name : Str} {r : Value} (h : AttrV w S av name r) : AttrV w S' av name r :=
  h.imp id fun h => by obtain ⟨ad, o, kvs, a, b, c⟩ := h; exact ⟨ad, o, kvs, a, hs _ _ b, c⟩
section
variable {w : World} {A : Around} {E : Value → Shared → Prop} {s : Shared} {D : Addr} {o : Obj} {kvs : List (Str × Value)}
theorem dictMeth {pl : Sem Bool} {Q : Value × List Value → Shared → Prop} (hl : s.heap.get? D = some o) (hd : o.IsDictOf (strK w) kvs)
    (h : Q (.builtin "dict.get", [.ref D]) s) : wpAny (model PySem.Challenge.rw_pq1326_01.prog w) A (getMethod (.ref D) "get" pl) Q E s :=
  have hm := Heap.dictOf_iff.mpr ⟨o, hl, hd⟩
  getMethod_builtin hm.typeIs PySem.F.plainAttrs_dict PySem.F.slot_dict_get PySem.F.type_dict_get hm.mapOf.noDict h
theorem dictGet {name : Str} {t : Tok} {r : Value} {Q : Value → Shared → Prop} (hl : s.heap.get? D = some o) (hd : o.IsDictOf (strK w) kvs) (lo : (D == sysModules) = false)
    (hr : (valueAt kvs name).getD .none = r) (h : Q r { s with toks := s.toks + 1 }) : wpAny (model PySem.Challenge.rw_pq1326_01.prog w) A (call (.builtin "dict.get") [.ref D, .str name t]) Q E s :=
  have hm := Heap.dictOf_iff.mpr ⟨o, hl, hd⟩
  call_meetsIn PySem.F.slot_dict_get hm.typeIs PySem.F.entry_dict_get (PySem.F.args_dict_get_2 _ _) (meets_dict_get (strK w) D (strKind_is _ w name t) lo) ⟨_, hm.mapOf, by rw [hr]; exact h⟩
/-- a subscript of a dict -/
theorem dictItem {value slice : Expr} {name : Str} {t : Tok} {r : Value} {Q : Value → Shared → Prop} (hl : s.heap.get? D = some o) (hd : o.IsDictOf (strK w) kvs)
    (hr : valueAt kvs name = some r) (h : Q r { s with toks := s.toks + 1 })
    (hs : subscripted slice false (.ref D) (.str name t) = operate [.ref D, .str name t] (getItem (.ref D) (.str name t)) := by with_unfolding_all rfl) :
    wpAny (model PySem.Challenge.rw_pq1326_01.prog w) A (subscriptTail value slice (.ref D) (.str name t)) Q E s :=
  have hm := Heap.dictOf_iff.mpr ⟨o, hl, hd⟩
  tail_any hm.typeIs slot_dict_getitem.lookup (wpAny_getItem_of (strKind_is _ w name t) hm.mapOf hr h) hs
end
section
variable {w : World} {A : Around} {E : Value → Shared → Prop} {s : Shared} {env : Env} {h₀ : Heap} {L d : Addr} {m : Str → Option Value} {Y n : Led} {o : Obj} {Q : Value → Shared → Prop}
/-- a dict written down: its values walked, then it is filled -/
theorem dictY {keys : List (Option PySem.Expr)} {values : List PySem.Expr} {pos : Pos} (F : Fr h₀ L s.heap m) (N : News h₀ L s.heap (Y ++ n)) (O : Off Y n) (hbig : h₀.NoLimit)
    (hall : keys.all (·.isSome) = true) (hl : keys.length = values.length) (h0 : keys ≠ []) (hlen : keys.length ≤ 15)
    (h : ∀ (d : Addr) h' o, Fr h₀ L h' m → News h₀ L h' (((d, o) :: Y) ++ n) → Off ((d, o) :: Y) n → (∀ p ∈ Y, p.1 ≠ d) → (d == sysModules) = false → o.IsDictOf (strK w) [] →
      wpAny (model PySem.Challenge.rw_pq1326_01.prog w) A (evalPairs (pairTrees keys values env pos)) (fun vs s₁ => KdnMade PySem.Challenge.rw_pq1326_01.prog w (strK w) d Q vs s₁) E { s with heap := h' }) :
    wpAny (model PySem.Challenge.rw_pq1326_01.prog w) A (eval (.Dict keys values pos) env) Q E s :=
  kdn_eval F N hbig hall hl h0 hlen fun d h' o F' N' lt lo hd => h d h' o F' N' (fun p hp q hq => by
      rcases List.mem_cons.mp hp with rfl | hp
      · exact Nat.ne_of_gt (lt q (List.mem_append_right _ hq))
      · exact O p hp q hq) (fun p hp => Nat.ne_of_lt (lt p (List.mem_append_left _ hp))) lo hd
theorem dictMadeY {vs : List (Value × Value)} (F : Fr h₀ L s.heap m) (N : News h₀ L s.heap (((d, o) :: Y) ++ n)) (O : Off ((d, o) :: Y) n) (hne : ∀ p ∈ Y, p.1 ≠ d) (hd : o.IsDictOf (strK w) []) (hk : allStrKeys vs = true) (hn : ((strPairs vs).map (·.1)).Nodup)
    (h : ∀ h' o', Fr h₀ L h' m → News h₀ L h' (Y ++ ((d, o') :: n)) → Off Y ((d, o') :: n) → (∀ p ∈ Y ++ n, p.1 ≠ d) → o'.IsDictOf (strK w) (strPairs vs) → Q (.ref d) { s with heap := h', toks := s.toks + vs.length }) : KdnMade PySem.Challenge.rw_pq1326_01.prog w (strK w) d Q vs s := by
  have hall : ∀ p ∈ Y ++ n, p.1 ≠ d := fun p hp => (List.mem_append.mp hp).elim (hne p) fun hp => Ne.symm (O (d, o) (.head _) p hp)
  refine kdn_made_str F N (UpdF.head hall) hd hk hn fun h' o' F' N' hd' => ?_
  exact h h' o' F' (fun p hp => N' p (by
      rcases List.mem_append.mp hp with hp | hp
      · exact .tail _ (List.mem_append_left _ hp)
      · rcases List.mem_cons.mp hp with rfl | hp
        · exact .head _
        · exact .tail _ (List.mem_append_right _ hp)))
    (fun p hp q hq => by
      rcases List.mem_cons.mp hq with rfl | hq
      · exact hne p hp
      · exact O p (.tail _ hp) q hq) hall hd'
end
/-- a new Vector: its dict apart -/
noncomputable def VecN (w : World) (tl : Led) (r : Value) (x dx : Addr) (kv iv av : Value) (n' : Led) : Prop :=
  r = .ref x ∧ (∃ t1 t2 t3 t4 t5, tl = (dx, vecD w t1 t2 t3 t4 t5 kv iv av (.bool false) (.bool false)) :: n') ∧ OffA n' [dx] ∧ (x, instObj 222 dx) ∈ n'
theorem inst_M {w : World} {S : Store} {h₀ h : Heap} {L x C dx : Addr} {m : Str → Option Value} {Y n : Led} {od : Obj} {sl : Array (Option Value)} (G : Gr w S h₀) (F : Fr h₀ L h m) (N : News h₀ L h (Y ++ n)) (h1 : Kn S n x (⟨.ref C, some dx, .plain, sl⟩ : Obj)) (h2 : (dx, od) ∈ Y ++ n) :
    InstAt h x ⟨.ref C, some dx, .plain, sl⟩ C (some od) := ⟨getN G F N h1, rfl, rfl, (N _ h2).1⟩
/-- a new Vector's ledger, its dict ahead -/
theorem vec_led {w : World} {h₀ h : Heap} {L D x dx : Addr} {l od ox : Obj} {Y : Led} (N : News h₀ L h (Y ++ ([(D, l)] ++ [(x, ox), (dx, od)]))) : ∀ p ∈ ((dx, od) :: [(x, ox), (D, l)] : Led), h.get? p.1 = some p.2 ∧ h₀.get? p.1 = none := fun p hp => by
  have : p ∈ Y ++ ([(D, l)] ++ [(x, ox), (dx, od)]) := by
    refine List.mem_append_right _ ?_
    rcases List.mem_cons.mp hp with rfl | hp
    · exact .tail _ (.tail _ (.head _))
    · rcases List.mem_cons.mp hp with rfl | hp
      · exact .tail _ (.head _)
      · rw [List.mem_singleton.mp hp]; exact .head _
  exact ⟨(N p this).1, (N p this).2.2⟩
theorem vec_off {D x dx : Addr} {l od ox : Obj} {Y : Led} (hlt : dx < x) (o' : Off (Y ++ [(D, l)]) [(x, ox), (dx, od)]) : OffA [(x, ox), (D, l)] [dx] := fun p hp b hb => by
  rw [List.mem_singleton.mp hb]
  rcases List.mem_cons.mp hp with rfl | hp
  · exact Nat.ne_of_gt hlt
  · rw [List.mem_singleton.mp hp]
    exact fun e => o' (D, l) (List.mem_append_right _ (.head _)) (dx, od) (.tail _ (.head _)) e
theorem strOf_at (k : Str) : ∀ {vs : List Value} {ys : List Str}, StrsAre vs ys → ∀ (j : Nat) (h1 : j < vs.length) (h2 : j < ys.length), PyProof.Rows.isStrOf k vs[j] = (ys[j] == k)
  | _, _, h => by
    induction h with
    | nil => intro j h1; exact absurd h1 (Nat.not_lt_zero _)
    | cons n t r ih =>
      intro j h1 h2
      cases j with
      | zero => rfl
      | succ j => exact ih j (Nat.lt_of_succ_lt_succ h1) (Nat.lt_of_succ_lt_succ h2)
theorem idx_before {k : Str} : ∀ {ys : List Str} {j : Nat}, j < ys.idxOf k → ∀ (h2 : j < ys.length), (ys[j] == k) = false
  | n :: r, 0, h, _ => by
    by_cases e : n = k
    · subst e; simp at h
    · simpa using e
  | n :: r, j + 1, h, h2 => by
    by_cases e : n = k
    · subst e; simp at h
    · have hb : (n == k) = false := by simpa using e
      have h' : j < r.idxOf k := by
        rw [List.idxOf_cons, hb] at h
        exact Nat.lt_of_succ_lt_succ h
      exact idx_before h' (Nat.lt_of_succ_lt_succ h2)
theorem strs_length : ∀ {vs : List Value} {ys : List Str}, StrsAre vs ys → vs.length = ys.length
  | _, _, h => by
    induction h with
    | nil => rfl
    | cons n t r ih => exact congrArg Nat.succ ih
theorem indexStrs {prog : Program} {w : World} {A : Around} {E : Value → Shared → Prop} {s : Shared} {l : Addr} {vs : List Value} {kk : Nat} {ys : List Str} {k : Str} {t : Tok} {j : Nat} {Q : Value → Shared → Prop} (hl : s.heap.get? l = some (lisO vs kk)) (hi : StrsAre vs ys)
    (hj : ys.idxOf k = j) (hlt : j < ys.length) (hz : ys.length ≤ 64) (h : Q (.int (j : Nat) s.toks) { s with toks := s.toks + 1 }) :
    wpAny (model prog w) A (call (.builtin "list.index") [.ref l, .str k t]) Q E s := by
  have hlen := strs_length hi
  have hit : ys[j] = k := by subst hj; exact List.getElem_idxOf hlt
  refine call_meets PySem.F.slot_list_index ⟨_, hl, rfl⟩ PySem.F.entry_list_index (PySem.F.args_list_index_2 _ _)
    (PySem.SeqAt.list_indexAt l vs.toArray kk none #[] (.str k t) (PyProof.Rows.isStrOf k) j (by simpa [hlen] using hlt) (by exact om_174 _ _ hlt hz) ?_ ?_) ⟨hl, fun y hy => (PyProof.Rows.eq_isStrOf k t hi y (by simpa using hy)).at _ _, h⟩
  · show PyProof.Rows.isStrOf k vs[j] = true
    rw [strOf_at k hi _ (by exact om_175 _ _ _ hlt hlen) hlt, hit]
    exact beq_self_eq_true _
  · intro i his hlt'
    show PyProof.Rows.isStrOf k vs[i] = false
    rw [strOf_at k hi i (by simpa using his) (by exact om_176 _ _ _ hlt hlt')]
    exact idx_before (by rw [hj]; exact hlt') _
theorem notInStrs {prog : Program} {w : World} {A : Around} {E : Value → Shared → Prop} {s : Shared} {l : Addr} {vs : List Value} {kk : Nat} {ys : List Str} {k : Str} {t : Tok} {b : Bool} {Q : Value → Shared → Prop} (hl : s.heap.get? l = some (lisO vs kk)) (hi : StrsAre vs ys) (hb : ys.any (· == k) = b)
    (h : Q (.bool (!b)) s) : wpAny (model prog w) A (compareOp .NotIn (.str k t) (.ref l)) Q E s :=
  notin_list_strs ⟨_, hl, rfl, kk, rfl⟩ hi (by rw [hb]; exact h)
theorem VecS.l {w : World} {S : Store} {v kv iv av sv lv : Value} {n : Led} (h : VecS w S v kv iv av sv lv) : VecS w (Kn S n) v kv iv av sv lv := h.mono fun _ _ => Kn.l
theorem VecS.app {w : World} {S : Store} {v kv iv av sv lv : Value} {n n' : Led} (h : VecS w (Kn S n) v kv iv av sv lv) : VecS w (Kn S (n ++ n')) v kv iv av sv lv := h.mono Kn.appR
theorem VecS.cons {w : World} {S : Store} {v kv iv av sv lv : Value} {n : Led} {p : Addr × Obj} (h : VecS w (Kn S n) v kv iv av sv lv) : VecS w (Kn S (p :: n)) v kv iv av sv lv := h.mono (Kn.sub fun _ hq => .tail _ hq)
theorem AttrV.l {w : World} {S : Store} {av : Value} {name : Str} {r : Value} {n : Led} (h : AttrV w S av name r) : AttrV w (Kn S n) av name r := h.mono fun _ _ => Kn.l
theorem AttrV.app {w : World} {S : Store} {av : Value} {name : Str} {r : Value} {n n' : Led} (h : AttrV w (Kn S n) av name r) : AttrV w (Kn S (n ++ n')) av name r := h.mono Kn.appR
theorem AttrV.cons {w : World} {S : Store} {av : Value} {name : Str} {r : Value} {n : Led} {p : Addr × Obj} (h : AttrV w (Kn S n) av name r) : AttrV w (Kn S (p :: n)) av name r := h.mono (Kn.sub fun _ hq => .tail _ hq)
theorem ItemS.l {S : Store} {k : Str} {v : Value} {q : Rat} {n : Led} (h : ItemS S k v q) : ItemS (Kn S n) k v q := h.mono fun _ _ => Kn.l
/-- the list of a thing's names, and what it holds -/
noncomputable def DimJ (nvs : List Value) (i : Nat) (ys : List Value) (n₁ : Led) : Prop := match i with
  | 0 => ys = []
  | 1 => ys = [.none]
  | _ => ∃ D c, ys = [.none, .ref D] ∧ (D, lisO nvs c) ∈ n₁
theorem DimJ.sub {nvs : List Value} {i : Nat} {ys : List Value} {n n' : Led} (hs : ∀ p ∈ n, p ∈ n') (h : DimJ nvs i ys n) : DimJ nvs i ys n' := by
  match i with
  | 0 => exact h
  | 1 => exact h
  | i + 2 => obtain ⟨D, c, a, b⟩ := h; exact ⟨D, c, a, hs _ b⟩
theorem Off.nilL (n : Led) : Off [] n := fun _ h => nomatch h
noncomputable def WantP (w : World) (yn : List Str) (ivs : List Value) (name : Str) (S' : Store) (r : Value) : Prop :=
  (yn.any (· == name) = true → ivs[yn.idxOf name]? = some r) ∧ (yn.any (· == name) = false → ∃ x dx t1 t2 t3, r = .ref x ∧ S' x (instObj 193 dx) ∧ S' dx (nulD w t1 t2 t3))
theorem WantP.mono {w : World} {S S' : Store} (hs : ∀ a o, S a o → S' a o) {yn : List Str} {ivs : List Value} {name : Str} {r : Value} (h : WantP w yn ivs name S r) : WantP w yn ivs name S' r :=
  ⟨h.1, fun e => by obtain ⟨x, dx, t1, t2, t3, a, b, c⟩ := h.2 e; exact ⟨x, dx, t1, t2, t3, a, hs _ _ b, hs _ _ c⟩⟩
inductive NamedP (w : World) (S : Store) (v : Value) (yn : List Str) (ivs : List Value) : Prop
  | mk (kt : Tok) (ii ni : Addr) (av sv lv nv nk na ns nl : Value) (ki kn : Nat) (nvs : List Value) (h1_ : VecS w S v (.str "list" kt) (.ref ii) av sv lv) (h2_ : AttrV w S av "dim" .none) (h3_ : AttrV w S av "names" nv) (h4_ : VecS w S nv nk (.ref ni) na ns nl) (h5_ : S ni (lisO nvs kn)) (h6_ : S ii (lisO ivs ki)) (h7_ : StrsAre nvs yn) : NamedP w S v yn ivs
/-- a list with names -/
structure NamedS (w : World) (S : Store) (v : Value) (yn : List Str) (ivs : List Value) : Prop where
  p : NamedP w S v yn ivs
  z : yn.length ≤ 64
  l : ivs.length = yn.length
  r : ∀ u ∈ ivs, ∃ a, u = .ref a
theorem NamedS.mono {w : World} {S S' : Store} (hs : ∀ a o, S a o → S' a o) {v : Value} {yn : List Str} {ivs : List Value} (h : NamedS w S v yn ivs) : NamedS w S' v yn ivs :=
  ⟨by obtain ⟨kt, ii, ni, av, sv, lv, nv, nk, na, ns, nl, ki, kn, nvs, a, b, c, d, e, f, g⟩ := h.p; exact ⟨kt, ii, ni, av, sv, lv, nv, nk, na, ns, nl, ki, kn, nvs, a.mono hs, b.mono hs, c.mono hs, d.mono hs, hs _ _ e, hs _ _ f, g⟩, h.z, h.l, h.r⟩
theorem NamedS.l' {w : World} {S : Store} {v : Value} {yn : List Str} {ivs : List Value} {n : Led} (h : NamedS w S v yn ivs) : NamedS w (Kn S n) v yn ivs := h.mono fun _ _ => Kn.l
theorem any_idx {k : Str} : ∀ {ys : List Str}, ys.any (· == k) = true → ys.idxOf k < ys.length := fun h => by
  rw [List.idxOf_lt_length_iff]
  obtain ⟨y, hy, e⟩ := List.any_eq_true.mp h
  rw [← beq_iff_eq.mp e]; exact hy
theorem PureT.mono {w : World} {c : Nat} {f : Addr} {vs : List Value} {S : Store} {P P' : Led → Value → Prop} (C : PureT w c f vs S P) (h : ∀ tl r, P tl r → P' tl r) : PureT w c f vs S P' :=
  fun dp un fr gd base s Q E a b c' k => C dp un fr gd base s Q E a b c' fun r tl h' tk' x y z => k r tl h' tk' x y (h _ _ z)
theorem Pure.mono {w : World} {c : Nat} {f : Addr} {vs : List Value} {S : Store} {P P' : Store → Value → Prop} (C : Pure w c f vs S P) (h : ∀ S' r, P S' r → P' S' r) : Pure w c f vs S P' :=
  PureT.mono C fun _ _ => h _ _
theorem off_one {n : Led} {d : Addr} {o : Obj} (h : OffA n [d]) : Off [(d, o)] n := fun p hp q hq => by
  rw [List.mem_singleton.mp hp]; exact Ne.symm (h q hq d (.head _))
/-- a vector with names, new -/
inductive NamedN (w : World) (tl : Led) (r : Value) (kind : Str) (vs nvs : List Value) : Prop
  | mk (x dx D ad cx cdx cD od c c2 kt t1 t2 t3 t4 t5 u1 u2 u3 u4 u5 ut n' : _) (h1_ : r = .ref x) (h2_ : tl = (dx, vecD w t1 t2 t3 t4 t5 (.str kind kt) (.ref D) (.ref ad) (.bool false) (.bool false)) :: n') (h3_ : OffA n' [dx]) (h4_ : (x, instObj 222 dx) ∈ n') (h5_ : (D, lisO vs c) ∈ n') (h6_ : (ad, od) ∈ n') (h7_ : od.IsDictOf (strK w) [(Str.ofString "names", .ref cx)]) (h8_ : (ad == sysModules) = false) (h9_ : (cx, instObj 222 cdx) ∈ n') (h10_ : (cdx, vecD w u1 u2 u3 u4 u5 (.str "character" ut) (.ref cD) .none (.bool false) (.bool false)) ∈ n') (h11_ : (cD, lisO nvs c2) ∈ n') : NamedN w tl r kind vs nvs
noncomputable abbrev ItemsS (S : Store) (kind : Str) : List Value → List Rat → Prop := L2 (ItemS S kind)
theorem L2.app1 {α : Type} {R : Value → α → Prop} {vs : List Value} {qs : List α} (h : L2 R vs qs) (i : Nat) (hi : i < qs.length) {v : Value} (hv : vs[i]? = some v) : R v qs[i] := by
  obtain ⟨v', a, b⟩ := h.get i hi
  rw [hv] at a; cases a; exact b
theorem take_succ' {α : Type} (l : List α) (i : Nat) (h : i < l.length) : l.take (i + 1) = l.take i ++ [l[i]] := by
  rw [List.take_add_one, List.getElem?_eq_getElem h]; rfl
/-- a comprehension that makes a number of each item -/
inductive AsJ (S : Store) (Y : Led) (qs : List Rat) (i : Nat) (ys : List Value) (n₁ : Led) : Prop
  | mk (n : _) (h1_ : n₁ = Y ++ n) (h2_ : Off Y n) (h3_ : RatsS (Kn S n) ys (qs.take i)) : AsJ S Y qs i ys n₁
theorem offA_one {n : Led} {d : Addr} {o : Obj} (h : Off [(d, o)] n) : OffA n [d] := fun p hp b hb => by
  rw [List.mem_singleton.mp hb]; exact Ne.symm (h (d, o) (.head _) p hp)
noncomputable def strOf1 : Value → Str
  | .str x _ => x
  | _ => Str.ofString ""
noncomputable def isStr1 : Value → Bool
  | .str _ _ => true
  | _ => false
theorem strsAre_of : ∀ {vs : List Value}, vs.all isStr1 = true → StrsAre vs (vs.map strOf1)
  | [], _ => .nil
  | v :: vs, h => by
    have h : isStr1 v = true ∧ vs.all isStr1 = true := (Bool.and_eq_true _ _).mp h
    cases v with
    | str x t => exact .cons x t (strsAre_of h.2)
    | _ => exact Bool.noConfusion h.1
theorem notInTup {prog : Program} {w : World} {A : Around} {E : Value → Shared → Prop} {s : Shared} {l : Addr} {vs : List Value} {k : Str} {t : Tok} {b : Bool} {Q : Value → Shared → Prop} (hl : s.heap.get? l = some (tupO vs)) (hi' : vs.all isStr1 = true) (hb : (vs.map strOf1).any (· == k) = b)
    (h : Q (.bool (!b)) s) : wpAny (model prog w) A (compareOp .NotIn (.str k t) (.ref l)) Q E s :=
  have hi := strsAre_of hi'
  PySem.SeqAt.notIn_tupleAt (PyProof.Rows.isStrOf k) ⟨_, hl, rfl, _, rfl⟩ (fun y hy => (PyProof.Rows.eq_isStrOf k t hi y (by simpa using hy)).at _ _) (by rw [← Array.any_toList, show vs.toArray.toList = vs from rfl, PyProof.Rows.any_isStrOf k hi, hb]; exact h)
inductive DimnV (w : World) (S : Store) (av : Value) (nvs : List Value) : Prop
  | mk (dv kv2 av2 sv2 lv2 nv na ns nl il nu ndx ni ki kn n1 n2 n3 kt : _) (h1_ : AttrV w S av "dimnames" dv) (h2_ : VecS w S dv kv2 (.ref il) av2 sv2 lv2) (h3_ : S il (lisO [.ref nu, nv] ki)) (h4_ : S nu (instObj 193 ndx)) (h5_ : S ndx (nulD w n1 n2 n3)) (h6_ : VecS w S nv (.str "character" kt) (.ref ni) na ns nl) (h7_ : S ni (lisO nvs kn)) (h8_ : nvs.length ≤ 64) : DimnV w S av nvs
/-- the names of a matrix' columns, if it has any -/
noncomputable def DimnS (w : World) (S : Store) (av : Value) : Option (List Value) → Prop
  | none => AttrV w S av "dimnames" .none
  | some nvs => DimnV w S av nvs
noncomputable def HeadV (S : Store) (v : Value) : Option (List Value) → Prop
  | none => v = .none
  | some nvs => ∃ D c, v = .ref D ∧ S D (lisO nvs c)
theorem DimnS.mono {w : World} {S S' : Store} (hs : ∀ a o, S a o → S' a o) {av : Value} : ∀ {hn : Option (List Value)}, DimnS w S av hn → DimnS w S' av hn
  | none, h => AttrV.mono hs h
  | some _, h => by
    obtain ⟨dv, kv2, av2, sv2, lv2, nv, na, ns, nl, il, nu, ndx, ni, ki, kn, n1, n2, n3, kt, a, b, c, d, e, f, g, i⟩ := (h : DimnV w S av _)
    exact (⟨dv, kv2, av2, sv2, lv2, nv, na, ns, nl, il, nu, ndx, ni, ki, kn, n1, n2, n3, kt, a.mono hs, b.mono hs, hs _ _ c, hs _ _ d, hs _ _ e, f.mono hs, hs _ _ g, i⟩ : DimnV w S' av _)
/-- a comprehension that cuts a list into columns -/
inductive ColJ (S : Store) (Y n0 : Led) (cols : List (List Rat)) (i : Nat) (ys : List Value) (n₁ : Led) : Prop
  | mk (n : _) (h1_ : n₁ = Y ++ n) (h2_ : Off Y n) (h3_ : (∀ q ∈ n0, q ∈ n)) (h4_ : RatLs (Kn S n) ys (cols.take i)) : ColJ S Y n0 cols i ys n₁
theorem mulOk_small {a : Nat} {b : Int} (ha : a ≤ 65) : IntMulOk (a : Int) b := IntMulOk.of_left (intBits_cast_le (Nat.le_trans ha (by decide)))
theorem mulOk_small1 {a : Nat} {b : Int} (ha : a ≤ 64) : IntMulOk ((a : Int) + 1) b := mulOk_small (a := a + 1) (b := b) (by exact om_177 _ ha : a + 1 ≤ 65) |> fun h => h
theorem fin_assign2 {prog : Program} {w : World} {A : Around} {E : Value → Shared → Prop} {s : Shared} {env : Env} {h₀ : Heap} {L : Addr} {m : Str → Option Value} {J : List Value → Led → Prop} {y : Str} {py : Pos} {Q : Shared → Prop} (hL : env.locals = L) (hy : env.kindOf y = some .local) (hp : (env.scope.kind == .class || (env.scope.kind == .module && env.locals != env.globals)) = false)
    (done : ∀ (D : Addr) (ys : List Value) (news' : Led) (k : Nat) (h : Heap) (tk : Nat), J ys news' → Fr h₀ L h (fun z => if z = y then some (.ref D) else m z) → News h₀ L h ((D, lisO ys k) :: news') → (∀ p ∈ news', p.1 ≠ D) → Q { s with heap := h, toks := tk }) :
    ∀ D C ys news' k h tk m', J ys news' → Fr h₀ L h m → News h₀ L h ((D, lisO ys k) :: news') → (∀ p ∈ news', p.1 ≠ D) → (∀ p ∈ news', p.1 ≠ C) → D ≠ C → C ≠ L → h₀.get? C = none → h.Ns C m' → compPost (model prog w) A E (some (assign (.Name y py) env)) (fun _ s' => Q s') (.ref D) C (.ok .next) { s with heap := h, toks := tk } :=
  fin_assign (Q := fun _ s' => Q s') hL hy hp done
theorem sliceY {prog : Program} {w : World} {A : Around} {E : Value → Shared → Prop} {s : Shared} {h₀ : Heap} {L l : Addr} {m : Str → Option Value} {Y n : Led} {value slice : PySem.Expr} {vs zs : List Value} {kk : Nat} {vl vu : Value} {lo hi : Option Int} {Q : Value → Shared → Prop} (F : Fr h₀ L s.heap m) (N : News h₀ L s.heap (Y ++ n)) (O : Off Y n) (hl : s.heap.get? l = some (lisO vs kk)) (pl : IsPart vl lo) (pu : IsPart vu hi) (e : slicePick vs.toArray lo hi none = zs.toArray)
    (h : ∀ D h', Fr h₀ L h' m → News h₀ L h' (Y ++ ((D, lisO zs 0) :: n)) → Off Y ((D, lisO zs 0) :: n) → (∀ p ∈ Y ++ n, p.1 < D) → Q (.ref D) { s with heap := h' })
    (hs : subscripted slice false (.ref l) (.ref s.heap.objs.size) = operate [.ref s.heap.objs.size, .ref l] (getItem (.ref l) (.ref s.heap.objs.size))) (ht : ∀ r, letTemporaryGo value (.ref l) r = pure ()) (hz : vs.length ≤ sizeLine) :
    wpAny (model prog w) A (subscriptTail value slice (.ref l) (.ref s.heap.objs.size)) Q E { s with heap := s.heap.push { cls := .type "slice", data := .fields #[vl, vu, .none] } } := by
  refine kmk_slice F N ⟨_, hl, rfl, kk, rfl⟩ pl pu (fun D h' F' N' lt => ?_) hs ht (by simpa using hz)
  rw [e] at N'
  refine h D h' F' (fun p hp => N' p ?_) (O.consR fun p hp => Nat.ne_of_lt (lt p (List.mem_append_left _ hp))) lt
  rcases List.mem_append.mp hp with hp | hp
  · exact .tail _ (List.mem_append_left _ hp)
  · rcases List.mem_cons.mp hp with rfl | hp
    · exact .head _
    · exact .tail _ (List.mem_append_right _ hp)
theorem slice_col {ys : List Value} {i tall : Nat} (h : i * tall + tall ≤ ys.length) : slicePick ys.toArray (some ((i : Int) * (tall : Int))) (some (((i : Int) + 1) * (tall : Int))) none = ((ys.drop (i * tall)).take tall).toArray := by
  have e1 : ((i : Int) * (tall : Int)) = ((i * tall : Nat) : Int) := by simp
  have e2 : (((i : Int) + 1) * (tall : Int)) = ((i * tall + tall : Nat) : Int) := by
    rw [Int.add_mul, Int.one_mul]; simp
  rw [e1, e2, slicePick_run ys.toArray (i * tall) (i * tall + tall) (by simpa using h) (by exact om_119 _ _)]
  simp
theorem flat_len {tall : Nat} : ∀ {cols : List (List Rat)}, (∀ c ∈ cols, c.length = tall) → cols.flatten.length = cols.length * tall
  | [], _ => by simp
  | c :: cs, h => by
    have h1 := h c (.head _)
    have h2 := flat_len (cols := cs) fun c hc => h c (.tail _ hc)
    simp only [List.flatten_cons, List.length_append, List.length_cons, h1, h2, Nat.add_mul, Nat.one_mul]
    exact Nat.add_comm _ _
theorem flat_col {tall : Nat} : ∀ {cols : List (List Rat)} (i : Nat), (∀ c ∈ cols, c.length = tall) → (hi : i < cols.length) → (cols.flatten.drop (i * tall)).take tall = cols[i]
  | c :: cs, 0, h, _ => by
    have h1 := h c (.head _)
    simp only [List.flatten_cons, Nat.zero_mul, List.drop_zero, List.getElem_cons_zero]
    rw [← h1, List.take_left]
  | c :: cs, i + 1, h, hi => by
    have h1 := h c (.head _)
    have h2 := flat_col (cols := cs) i (fun c hc => h c (.tail _ hc)) (by simpa using hi)
    have e : (i + 1) * tall = c.length + i * tall := by rw [Nat.add_mul, Nat.one_mul, h1]; exact om_178 _ _
    simp only [List.flatten_cons, List.getElem_cons_succ]
    rw [e, List.drop_length_add_append]
    exact h2
theorem RatsS.drop {S : Store} : ∀ {vs : List Value} {qs : List Rat} (a : Nat), RatsS S vs qs → RatsS S (vs.drop a) (qs.drop a)
  | _, _, 0, h => h
  | [], [], _ + 1, _ => trivial
  | _ :: _, _ :: _, a + 1, h => RatsS.drop a h.2
  | [], _ :: _, _, h => h.elim
  | _ :: _, [], _, h => h.elim
theorem RatsS.take {S : Store} : ∀ {vs : List Value} {qs : List Rat} (a : Nat), RatsS S vs qs → RatsS S (vs.take a) (qs.take a)
  | _, _, 0, _ => trivial
  | [], [], _ + 1, _ => trivial
  | _ :: _, _ :: _, a + 1, h => ⟨h.1, RatsS.take a h.2⟩
  | [], _ :: _, _, h => h.elim
  | _ :: _, [], _, h => h.elim
theorem mul_lt_cols {i wide tall : Nat} (h : i < wide) : i * tall + tall ≤ wide * tall := by
  have := Nat.mul_le_mul_right tall (show i + 1 ≤ wide from h)
  rw [Nat.add_mul, Nat.one_mul] at this
  exact this
structure VD where
  x : Addr
  dx : Addr
  t1 : Tok
  t2 : Tok
  t3 : Tok
  t4 : Tok
  t5 : Tok
  kv : Value
  iv : Value
  av : Value
noncomputable def VD.o (w : World) (b : Bool) (d : VD) : Addr × Obj := (d.dx, vecD w d.t1 d.t2 d.t3 d.t4 d.t5 d.kv d.iv d.av (.bool b) (.bool false))
noncomputable def shL (w : World) (vds : List VD) (i : Nat) : Led := (vds.take i).map (VD.o w true) ++ (vds.drop i).map (VD.o w false)
inductive ShJ (w : World) (n0 : Led) (vds : List VD) (i : Nat) (ys : List Value) (n₁ : Led) : Prop
  | mk (n : _) (h1_ : n₁ = shL w vds i ++ n) (h2_ : Off (shL w vds i) n) (h3_ : (∀ q ∈ n0, q ∈ n)) (h4_ : ys = (vds.take i).map (fun d => Value.ref d.x)) : ShJ w n0 vds i ys n₁
theorem perm_in {Z T R n : Led} {p q : Addr × Obj} (h : q ∈ ((Z ++ (T ++ R)) ++ [p]) ++ n) : q ∈ Z ++ ((T ++ p :: R) ++ n) := by
  simp only [List.mem_append, List.mem_cons, List.not_mem_nil, or_false] at h ⊢
  grind
theorem perm_out {Z T R n : Led} {p q : Addr × Obj} (h : q ∈ Z ++ ((T ++ p :: R) ++ n)) : q ∈ ((Z ++ (T ++ R)) ++ [p]) ++ n := by
  simp only [List.mem_append, List.mem_cons, List.not_mem_nil, or_false] at h ⊢
  grind
theorem perm_off {Z T R n : Led} {p : Addr × Obj} (o : Off Z ((T ++ p :: R) ++ n)) (O : Off (T ++ p :: R) n) (hT : ∀ q ∈ T, q.1 ≠ p.1) (hR : ∀ q ∈ R, q.1 ≠ p.1) : Off ((Z ++ (T ++ R)) ++ [p]) n ∧ OffA (Z ++ (T ++ R)) [p.1] := by
  refine ⟨fun a ha b hb => ?_, fun a ha b hb => ?_⟩
  · rcases List.mem_append.mp ha with ha | ha
    · rcases List.mem_append.mp ha with ha | ha
      · exact o a ha b (List.mem_append_right _ hb)
      · refine O a ?_ b hb
        rcases List.mem_append.mp ha with ha | ha
        · exact List.mem_append_left _ ha
        · exact List.mem_append_right _ (.tail _ ha)
    · rw [List.mem_singleton.mp ha]; exact O p (List.mem_append_right _ (.head _)) b hb
  · rw [List.mem_singleton.mp hb]
    rcases List.mem_append.mp ha with ha | ha
    · exact o a ha p (List.mem_append_left _ (List.mem_append_right _ (.head _)))
    · rcases List.mem_append.mp ha with ha | ha
      · exact hT a ha
      · exact hR a ha
theorem perm_back {Z T R n : Led} {p p' : Addr × Obj} (e : p'.1 = p.1) (o : Off Z ((T ++ p :: R) ++ n)) (O' : Off ((Z ++ (T ++ R)) ++ [p']) n) : Off Z ((T ++ p' :: R) ++ n) ∧ Off (T ++ p' :: R) n := by
  have h1 : Off (T ++ p' :: R) n := fun a ha b hb => O' a (by
    rcases List.mem_append.mp ha with ha | ha
    · exact List.mem_append_left _ (List.mem_append_right _ (List.mem_append_left _ ha))
    · rcases List.mem_cons.mp ha with rfl | ha
      · exact List.mem_append_right _ (.head _)
      · exact List.mem_append_left _ (List.mem_append_right _ (List.mem_append_right _ ha))) b hb
  refine ⟨fun a ha b hb => ?_, h1⟩
  rcases List.mem_append.mp hb with hb | hb
  · rcases List.mem_append.mp hb with hb | hb
    · exact o a ha b (List.mem_append_left _ (List.mem_append_left _ hb))
    · rcases List.mem_cons.mp hb with rfl | hb
      · rw [e]; exact o a ha p (List.mem_append_left _ (List.mem_append_right _ (.head _)))
      · exact o a ha b (List.mem_append_left _ (List.mem_append_right _ (.tail _ hb)))
  · exact o a ha b (List.mem_append_right _ hb)
theorem shL_at {w : World} {vds : List VD} {i : Nat} (h : i < vds.length) : shL w vds i = (vds.take i).map (VD.o w true) ++ (vds[i].o w false :: (vds.drop (i + 1)).map (VD.o w false)) := by
  unfold shL; rw [List.drop_eq_getElem_cons h]; rfl
theorem shL_next {w : World} {vds : List VD} {i : Nat} (h : i < vds.length) : shL w vds (i + 1) = (vds.take i).map (VD.o w true) ++ (vds[i].o w true :: (vds.drop (i + 1)).map (VD.o w false)) := by
  unfold shL; rw [take_succ' _ _ h, List.map_append, List.append_assoc]; rfl
theorem shL_adr {w : World} {vds : List VD} (i : Nat) : (shL w vds i).map (·.1) = vds.map (·.dx) := by
  unfold shL
  rw [List.map_append, List.map_map, List.map_map]
  have : ∀ b : Bool, ((fun x : Addr × Obj => x.1) ∘ VD.o w b) = fun d => d.dx := fun b => rfl
  rw [this, this, ← List.map_append, List.take_append_drop]
theorem vd_ne {vds : List VD} (hnd : (vds.map (·.dx)).Nodup) {i : Nat} (h : i < vds.length) {w : World} {b : Bool} : (∀ q ∈ (vds.take i).map (VD.o w b), q.1 ≠ vds[i].dx) ∧ (∀ q ∈ (vds.drop (i + 1)).map (VD.o w b), q.1 ≠ vds[i].dx) := by
  have e : vds.map (·.dx) = (vds.take i).map (·.dx) ++ vds[i].dx :: (vds.drop (i + 1)).map (·.dx) := by
    rw [← List.map_cons, ← List.drop_eq_getElem_cons h, ← List.map_append, List.take_append_drop]
  rw [e] at hnd
  obtain ⟨_, h2, h3⟩ := List.nodup_append.mp hnd
  obtain ⟨h4, _⟩ := List.nodup_cons.mp h2
  refine ⟨fun q hq => ?_, fun q hq e => ?_⟩
  · obtain ⟨d, hd, rfl⟩ := List.mem_map.mp hq
    exact h3 d.dx (List.mem_map_of_mem hd) _ (.head _)
  · obtain ⟨d, hd, rfl⟩ := List.mem_map.mp hq
    exact h4 (e ▸ List.mem_map_of_mem (f := fun d : VD => d.dx) hd)
/-- the names of a list -/
inductive NamesN (w : World) (n' : Led) (ad : Addr) (nvs : List Value) : Prop
  | mk (cx cdx cD od c2 u1 u2 u3 u4 u5 ut : _) (h1_ : (ad, od) ∈ n') (h2_ : od.IsDictOf (strK w) [(Str.ofString "names", .ref cx)]) (h3_ : (ad == sysModules) = false) (h4_ : (cx, instObj 222 cdx) ∈ n') (h5_ : (cdx, vecD w u1 u2 u3 u4 u5 (.str "character" ut) (.ref cD) .none (.bool false) (.bool false)) ∈ n') (h6_ : (cD, lisO nvs c2) ∈ n') : NamesN w n' ad nvs
theorem NamesN.sub {w : World} {n n' : Led} {ad : Addr} {nvs : List Value} (hs : ∀ p ∈ n, p ∈ n') (h : NamesN w n ad nvs) : NamesN w n' ad nvs :=
  by obtain ⟨cx, cdx, cD, od, c2, u1, u2, u3, u4, u5, ut, a, b, c, d, e, f⟩ := h; exact ⟨cx, cdx, cD, od, c2, u1, u2, u3, u4, u5, ut, hs _ a, b, c, hs _ d, hs _ e, hs _ f⟩
/-- a new Vector's dict: to what changes -/
theorem vec_thaw {h₀ h : Heap} {L x dx : Addr} {ox od : Obj} {Y n : Led} (N : News h₀ L h (Y ++ (n ++ [(x, ox), (dx, od)]))) (O : Off Y (n ++ [(x, ox), (dx, od)])) (o : Off (Y ++ n) [(x, ox), (dx, od)]) (hlt : dx < x) :
    News h₀ L h ((Y ++ [(dx, od)]) ++ (n ++ [(x, ox)])) ∧ Off (Y ++ [(dx, od)]) (n ++ [(x, ox)]) ∧ OffA Y [dx] := by
  refine ⟨fun p hp => N p ?_, fun p hp q hq => ?_, fun p hp a ha => ?_⟩
  · simp only [List.mem_append, List.mem_cons, List.not_mem_nil, or_false] at hp ⊢
    grind
  · rcases List.mem_append.mp hp with hp | hp
    · refine O p hp q ?_
      rcases List.mem_append.mp hq with hq | hq
      · exact List.mem_append_left _ hq
      · rw [List.mem_singleton.mp hq]; exact List.mem_append_right _ (.head _)
    · rw [List.mem_singleton.mp hp]
      rcases List.mem_append.mp hq with hq | hq
      · exact Ne.symm (o q (List.mem_append_right _ hq) (dx, od) (.tail _ (.head _)))
      · rw [List.mem_singleton.mp hq]; exact Nat.ne_of_lt hlt
  · rw [List.mem_singleton.mp ha]; exact O p hp (dx, od) (List.mem_append_right _ (.tail _ (.head _)))
/-- the thing that matches names, but what it changes -/
structure MatS (w : World) (S : Store) (m md fl tl ul pl : Addr) (tags fvs : List Value) (a1 a2 a3 a4 : Tok) (kf kt : Nat) : Prop where
  i : S m (instObj 134 md)
  d : S md (dictOf [de w "formals" a1 (.ref fl), de w "tags" a2 (.ref tl), de w "used" a3 (.ref ul), de w "places" a4 (.ref pl)] 4)
  f : S fl (lisO fvs kf)
  t : S tl (lisO tags kt)
theorem MatS.mono {w : World} {S S' : Store} (hs : ∀ a o, S a o → S' a o) {m md fl tl ul pl : Addr} {tags fvs : List Value} {a1 a2 a3 a4 : Tok} {kf kt : Nat} (h : MatS w S m md fl tl ul pl tags fvs a1 a2 a3 a4 kf kt) : MatS w S' m md fl tl ul pl tags fvs a1 a2 a3 a4 kf kt :=
  ⟨hs _ _ h.i, hs _ _ h.d, hs _ _ h.f, hs _ _ h.t⟩
noncomputable abbrev xyN (f1 f2 f3 : Tok) : List Value := [.str "x" f1, .str "y" f2, .str "..." f3]
section
variable {w : World} {A : Around} {E : Value → Shared → Prop} {s : Shared} {h₀ : Heap} {L d : Addr} {m : Str → Option Value} {Y n : Led} {o : Obj} {kvs : List (Str × Value)} {x : Str} {t : Tok}
theorem inDict {Q : Value → Shared → Prop} (hl : s.heap.get? d = some o) (hd : o.IsDictOf (strK w) kvs) (lo : (d == sysModules) = false) (b : Bool) (hb : (valueAt kvs x).isSome = b) (h : Q (.bool b) { s with toks := s.toks + 1 }) :
    wpAny (model PySem.Challenge.rw_pq1326_01.prog w) A (compareOp .In (.str x t) (.ref d)) Q E s := wpAny_in_of (strKind_is _ w x t) lo (Heap.dictOf_iff.mpr ⟨o, hl, hd⟩).mapOf (by rw [hb]; exact h)
theorem notInDict {Q : Value → Shared → Prop} (hl : s.heap.get? d = some o) (hd : o.IsDictOf (strK w) kvs) (lo : (d == sysModules) = false) (b : Bool) (hb : (valueAt kvs x).isSome = b) (h : Q (.bool (!b)) { s with toks := s.toks + 1 }) :
    wpAny (model PySem.Challenge.rw_pq1326_01.prog w) A (compareOp .NotIn (.str x t) (.ref d)) Q E s := wpAny_notIn_of (strKind_is _ w x t) lo (Heap.dictOf_iff.mpr ⟨o, hl, hd⟩).mapOf (by rw [hb]; exact h)
theorem setDict {v : Value} {g : Obj → Led} {Q : Unit → Shared → Prop} (F : Fr h₀ L s.heap m) (N : News h₀ L s.heap (Y ++ n)) (O : Off Y n) (U : UpdF d o Y g) (hd : o.IsDictOf (strK w) kvs) (hz : kvs.length ≤ sizeLine)
    (h : ∀ h' o', Fr h₀ L h' m → News h₀ L h' (g o' ++ n) → Off (g o') n → o'.IsDictOf (strK w) (stored kvs x v) → Q () { s with heap := h', toks := s.toks + 1 }) : wpAny (model PySem.Challenge.rw_pq1326_01.prog w) A (setItem (.ref d) (.str x t) v) Q E s :=
  kda_set F N (updF_appL U fun p hp => Ne.symm (O _ (updF_mem U) p hp)) hd (strKind_is _ w x t) hz fun h' o' F' N' hd' => h h' o' F' N' (fun p hp q hq => by obtain ⟨r, hr, e⟩ := updF_was U p hp; rw [e]; exact O r hr q hq) hd'
end
noncomputable def OnlyM (v1 v2 v3 : Option Value) (self : Addr) (m₁ : Str → Option Value) : Prop := m₁ = upd (fun _ => none) [("tag", v3), ("place", v1), ("name", v2), ("self", some (.ref self))]
theorem tests_one {prog : Program} {w : World} {A : Around} {E : Value → Shared → Prop} {s : Shared} {env : Env} {c : PySem.Expr} {Q : Bool → Shared → Prop} (h : wpAny (model prog w) A (isTrue c env (eval c env)) Q E s) : wpAny (model prog w) A (testsOf [c] env) Q E s := wpAny_tests_one h
/-- what matching has changed -/
noncomputable def MSt (w : World) (ul pl : Addr) (z0 z1 : Tok) (ku : Nat) (po : Obj) (b : Bool) (X : Led) : Prop := match b with
  | false => X = [(ul, lisO [.int 0 z0, .int 0 z1] ku), (pl, po)]
  | true => ∃ t1 t2 po', X = [(ul, lisO [.int 0 z0, .int 2 t1] ku), (pl, po')] ∧ po'.IsDictOf (strK w) [(Str.ofString "y", .int 1 t2)]
inductive ExJ (w : World) (ul pl : Addr) (z0 z1 : Tok) (ku : Nat) (po : Obj) (self : Addr) (b : Nat → Bool) (i : Nat) (m₁ : Str → Option Value) (n₁ : Led) : Prop
  | mk (pv nv X n' : _) (h1_ : n₁ = ([] ++ X) ++ n') (h2_ : Off ([] ++ X) n') (h3_ : m₁ = upd (fun _ => none) [("place", pv), ("name", nv), ("self", some (.ref self))]) (h4_ : MSt w ul pl z0 z1 ku po (b i) X) : ExJ w ul pl z0 z1 ku po self b i m₁ n₁
inductive ExI (w : World) (ul pl : Addr) (z0 z1 : Tok) (ku : Nat) (po : Obj) (self : Addr) (Z n0 : Led) (nv : Value) (b : Nat → Bool) (j : Nat) (m₁ : Str → Option Value) (n₁ : Led) : Prop
  | mk (pv X n' : _) (h1_ : n₁ = (Z ++ X) ++ n') (h2_ : Off (Z ++ X) n') (h3_ : m₁ = upd (fun _ => none) [("place", pv), ("name", some nv), ("self", some (.ref self))]) (h4_ : (∀ q ∈ n0, q ∈ n')) (h5_ : MSt w ul pl z0 z1 ku po (b j) X) : ExI w ul pl z0 z1 ku po self Z n0 nv b j m₁ n₁
inductive PosX (w : World) (ul pl : Addr) (ku : Nat) (a b : Int) (X : Led) (P : (List (Str × Value)) → Prop) : Prop
  | mk (z0 z1 po kvs : _) (h1_ : X = [(ul, lisO [.int a z0, .int b z1] ku), (pl, po)]) (h2_ : po.IsDictOf (strK w) kvs) (h3_ : P kvs) : PosX w ul pl ku a b X P
noncomputable def PosN (w : World) (ul pl : Addr) (ku i : Nat) (X : Led) : Prop := match i with
  | 0 => PosX w ul pl ku 0 0 X fun kvs => kvs = []
  | 1 => PosX w ul pl ku 2 0 X fun kvs => ∃ t, kvs = [(Str.ofString "x", .int 0 t)]
  | _ => PosX w ul pl ku 2 2 X fun kvs => ∃ t t', kvs = [(Str.ofString "x", .int 0 t), (Str.ofString "y", .int 1 t')]
noncomputable def PosY (w : World) (ul pl : Addr) (ku i : Nat) (X : Led) : Prop := match i with
  | 0 => PosX w ul pl ku 0 2 X fun kvs => ∃ t, kvs = [(Str.ofString "y", .int 1 t)]
  | _ => PosX w ul pl ku 2 2 X fun kvs => ∃ t t', kvs = [(Str.ofString "y", .int 1 t), (Str.ofString "x", .int 0 t')]
inductive PoJ (P : Nat → Led → Prop) (self : Addr) (pf : Nat → Int) (i : Nat) (m₁ : Str → Option Value) (n₁ : Led) : Prop
  | mk (pt nv X n' : _) (h1_ : n₁ = ([] ++ X) ++ n') (h2_ : Off ([] ++ X) n') (h3_ : m₁ = upd (fun _ => none) [("name", nv), ("place", some (.int (pf i) pt)), ("self", some (.ref self))]) (h4_ : P i X) : PoJ P self pf i m₁ n₁
/-- a while that goes on as long as a place is not free -/
inductive WhJ (Z X n0 : Led) (self : Addr) (nv : Value) (p0 : Nat) (k : Nat) (m₁ : Str → Option Value) (n₁ : Led) : Prop
  | mk (p : Nat) (pt : Tok) (n' : Led) (h1_ : p + k = p0) (h2_ : n₁ = (Z ++ X) ++ n') (h3_ : Off (Z ++ X) n') (h4_ : m₁ = upd (fun _ => none) [("name", some nv), ("place", some (.int (p : Nat) pt)), ("self", some (.ref self))]) (h5_ : (∀ q ∈ n0, q ∈ n')) : WhJ Z X n0 self nv p0 k m₁ n₁
theorem mulInts {prog : Program} {w : World} {A : Around} {E : Value → Shared → Prop} {s : Shared} {h₀ : Heap} {L : Addr} {m : Str → Option Value} {Y n : Led} {l : Addr} {v : Value} {kk c : Nat} {u : Tok} {Q : Value → Shared → Prop} (F : Fr h₀ L s.heap m) (N : News h₀ L s.heap (Y ++ n)) (O : Off Y n) (hl : s.heap.get? l = some (lisO [v] kk)) (hc : c ≤ 64)
    (h : ∀ D h', Fr h₀ L h' m → News h₀ L h' (Y ++ ((D, lisO (List.replicate c v) 0) :: n)) → Off Y ((D, lisO (List.replicate c v) 0) :: n) → (∀ p ∈ Y ++ n, p.1 < D) → Q (.ref D) { s with heap := h' }) :
    wpAny (model prog w) A (binaryOp .Mult (.ref l) (.int (c : Int) u)) Q E s :=
  KMa.mul (vs := [v]) (ws := List.replicate c v) F N ⟨_, hl, rfl, kk, rfl⟩ (by exact om_133 _) (by exact om_134 _ hc) (by simp; exact om_135 _ hc) (by simp) fun D h' F' N' lt => h D h' F' (fun p hp => N' p (by
      rcases List.mem_append.mp hp with hp | hp
      · exact .tail _ (List.mem_append_left _ hp)
      · rcases List.mem_cons.mp hp with rfl | hp
        · exact .head _
        · exact .tail _ (List.mem_append_right _ hp)))
    (fun p hp q hq => by
      rcases List.mem_cons.mp hq with rfl | hq
      · exact Nat.ne_of_lt (lt p (List.mem_append_left _ hp))
      · exact O p hp q hq) lt
theorem mulTwo {prog : Program} {w : World} {A : Around} {E : Value → Shared → Prop} {s : Shared} {h₀ : Heap} {L : Addr} {m : Str → Option Value} {Y n : Led} {l : Addr} {v : Value} {kk c : Nat} {u : Tok} {Q : Value → Shared → Prop} (F : Fr h₀ L s.heap m) (N : News h₀ L s.heap (Y ++ n)) (O : Off Y n) (hl : s.heap.get? l = some (lisO [v] kk)) (hc : c = 2)
    (h : ∀ D h', Fr h₀ L h' m → News h₀ L h' (Y ++ ((D, lisO [v, v] 0) :: n)) → Off Y ((D, lisO [v, v] 0) :: n) → (∀ p ∈ Y ++ n, p.1 < D) → Q (.ref D) { s with heap := h' }) :
    wpAny (model prog w) A (binaryOp .Mult (.ref l) (.int (c : Int) u)) Q E s := by
  subst hc
  exact mulInts F N O hl (by decide) h
theorem dictE {w : World} {A : Around} {E : Value → Shared → Prop} {s : Shared} {env : Env} {h₀ : Heap} {L : Addr} {m : Str → Option Value} {Y n : Led} {pos : Pos} {Q : Value → Shared → Prop} (F : Fr h₀ L s.heap m) (N : News h₀ L s.heap (Y ++ n)) (O : Off Y n) (hbig : h₀.NoLimit)
    (h : ∀ d h' o, Fr h₀ L h' m → News h₀ L h' (Y ++ ((d, o) :: n)) → Off Y ((d, o) :: n) → (∀ p ∈ Y ++ n, p.1 < d) → (d == sysModules) = false → o.IsDictOf (strK w) [] → Q (.ref d) { s with heap := h' }) :
    wpAny (model PySem.Challenge.rw_pq1326_01.prog w) A (eval (.Dict [] [] pos) env) Q E s :=
  newDict_K F N hbig fun d h' o F' N' lt lo hs _ _ _ => h d h' o F' (fun p hp => N' p (by
      rcases List.mem_append.mp hp with hp | hp
      · exact .tail _ (List.mem_append_left _ hp)
      · rcases List.mem_cons.mp hp with rfl | hp
        · exact .head _
        · exact .tail _ (List.mem_append_right _ hp)))
    (O.consR fun p hp => Nat.ne_of_lt (lt p (List.mem_append_left _ hp))) lt lo hs
theorem mat_led {h₀ h : Heap} {L pl ul l0 x dx : Addr} {po uo o0 ox od : Obj} (N : News h₀ L h ([(x, ox), (dx, od)] ++ [(pl, po), (ul, uo), (l0, o0)])) : ∀ p ∈ ([(ul, uo), (pl, po)] ++ [(x, ox), (dx, od)] : Led), h.get? p.1 = some p.2 ∧ h₀.get? p.1 = none := fun p hp => by
  have : p ∈ ([(x, ox), (dx, od)] ++ [(pl, po), (ul, uo), (l0, o0)] : Led) := by
    simp only [List.mem_append, List.mem_cons, List.not_mem_nil, or_false] at hp ⊢
    grind
  exact ⟨(N p this).1, (N p this).2.2⟩
theorem mat_off {pl ul l0 x dx : Addr} {po uo o0 ox od : Obj} (O : Off [(x, ox), (dx, od)] [(pl, po), (ul, uo), (l0, o0)]) : OffA [(x, ox), (dx, od)] [ul, pl] := fun p hp a ha => by
  rcases List.mem_cons.mp ha with rfl | ha
  · exact O p hp (a, uo) (.tail _ (.head _))
  · rw [List.mem_singleton.mp ha]; exact O p hp (pl, po) (.head _)
theorem mat_ne {pl ul l0 x dx : Addr} {uo o0 ox od : Obj} (ld : ∀ p ∈ ([(x, ox), (dx, od)] ++ [(ul, uo), (l0, o0)] : Led), p.1 < pl) : ul ≠ pl := Nat.ne_of_lt (ld (ul, uo) (List.mem_append_right _ (.head _)))
noncomputable def TagJ (tags : List Value) (i : Nat) (ys : List Value) (_ : Led) : Prop := ys = tags.take i
/-- the arguments of a call, matched -/
inductive MatchP (w : World) (S' : Store) (r : Value) : Prop
  | mk (T pl po R c kvs t1 t2 : _) (h1_ : r = .ref T) (h2_ : S' T (tupO [.ref pl, .ref R])) (h3_ : S' pl po) (h4_ : po.IsDictOf (strK w) kvs) (h5_ : (pl == sysModules) = false) (h6_ : valueAt kvs "x" = some (.int 0 t1)) (h7_ : valueAt kvs "y" = some (.int 1 t2)) (h8_ : S' R (lisO [] c)) : MatchP w S' r
theorem led_joinN {h₀ h : Heap} {L : Addr} {n M n2 : Led} (N : News h₀ L h ([] ++ (n ++ (M ++ n2)))) (o : Off ([] ++ n) (M ++ n2)) {as : List Addr} (om : OffA n2 as) (e : M.map (·.1) = as) : News h₀ L h (([] ++ M) ++ (n ++ n2)) ∧ Off ([] ++ M) (n ++ n2) := by
  subst e
  obtain ⟨a, b⟩ := led_join (Y := []) N (fun _ h => nomatch h) o (fun p hp q hq => Ne.symm (of_offA om q hq p hp))
  rw [List.append_nil] at a b
  exact ⟨a, b⟩
theorem MatS.nil0 {w : World} {S : Store} {n : Led} {m md fl tl ul pl : Addr} {tags fvs : List Value} {a1 a2 a3 a4 : Tok} {kf kt : Nat} (h : MatS w (Kn S n) m md fl tl ul pl tags fvs a1 a2 a3 a4 kf kt) : MatS w (Kn S ([] ++ n)) m md fl tl ul pl tags fvs a1 a2 a3 a4 kf kt := h
theorem MatS.y {w : World} {S : Store} {Y n : Led} {m md fl tl ul pl : Addr} {tags fvs : List Value} {a1 a2 a3 a4 : Tok} {kf kt : Nat} (h : MatS w (Kn S n) m md fl tl ul pl tags fvs a1 a2 a3 a4 kf kt) : MatS w (Kn S (Y ++ n)) m md fl tl ul pl tags fvs a1 a2 a3 a4 kf kt := h.mono (Kn.sub fun q hq => List.mem_append_right _ hq)
theorem tupAt {h : Heap} {a : Addr} {vs : List Value} (e : h.get? a = some (tupO vs)) : IsTup h a vs.toArray := ⟨_, e, rfl, _, rfl⟩
theorem lisAt {h : Heap} {a : Addr} {vs : List Value} {k : Nat} (e : h.get? a = some (lisO vs k)) : h.IsList a vs.toArray := ⟨_, e, rfl, k, rfl⟩
noncomputable def TakJ (S : Store) (D2 c1 fl pl R : Addr) (oa : Obj) (n0 : Led) (xv yv : Value) (i : Nat) (m₁ : Str → Option Value) (n₁ : Led) : Prop :=
  ∃ nv vs kk n', n₁ = ([] ++ [(D2, lisO vs kk), (c1, oa)]) ++ n' ∧ Off ([] ++ [(D2, lisO vs kk), (c1, oa)]) n' ∧ m₁ = upd (fun _ => none) [("name", nv), ("values", some (.ref D2)), ("rest", some (.ref R)), ("places", some (.ref pl)), ("show", some .none), ("formals", some (.ref fl))] ∧ (∀ q ∈ n0, q ∈ n') ∧
    match i with
    | 0 => vs = []
    | 1 => vs = [xv]
    | 2 => vs = [xv, yv]
    | _ => ∃ E c, vs = [xv, yv, .ref E] ∧ (E, lisO [] c) ∈ n'
/-- a new vector's dict goes to what changes -/
theorem led_vec {h₀ h : Heap} {L d : Addr} {o : Obj} {Y n n2 : Led} (N : News h₀ L h (Y ++ (n ++ ((d, o) :: n2)))) (O : Off Y (n ++ ((d, o) :: n2))) (o' : Off (Y ++ n) ((d, o) :: n2)) (oA : OffA n2 [d]) (nd : (Y.map (·.1)).Nodup) :
    News h₀ L h (((d, o) :: Y) ++ (n ++ n2)) ∧ Off ((d, o) :: Y) (n ++ n2) ∧ ((((d, o) :: Y : Led)).map (·.1)).Nodup := by
  obtain ⟨a, b⟩ := led_join (M := [(d, o)]) N O o' (off_one oA)
  refine ⟨a, b, List.nodup_cons.mpr ⟨fun hm => ?_, nd⟩⟩
  obtain ⟨p, hp, e⟩ := List.mem_map.mp hm
  exact o' p (List.mem_append_left _ hp) (d, o) (.head _) e
noncomputable abbrev names5 : List Str := [Str.ofString "coefficients", Str.ofString "residuals", Str.ofString "fitted.values", Str.ofString "rank", Str.ofString "df.residual"]
noncomputable abbrev xNames : List Str := [Str.ofString "x1", Str.ofString "x2", Str.ofString "x3"]
/-- the names that the coefficients bear -/
noncomputable def HeadN (wide : Nat) (nms : List Str) : Option (List Value) → Prop
  | none => nms = xNames.take wide
  | some nvs => StrsAre nvs nms
inductive NumV (w : World) (S : Store) (a : Addr) (k : Int) : Prop
  | mk (kt il sv lv t ki : _) (h1_ : VecS w S (.ref a) (.str "integer" kt) (.ref il) .none sv lv) (h2_ : S il (lisO [.int k t] ki)) : NumV w S a k
inductive RatV (w : World) (S : Store) (a : Addr) (qs : List Rat) : Prop
  | mk (kt il sv lv vs ki : _) (h1_ : VecS w S (.ref a) (.str "double" kt) (.ref il) .none sv lv) (h2_ : S il (lisO vs ki)) (h3_ : RatsS S vs qs) : RatV w S a qs
inductive CoefV (w : World) (S : Store) (a : Addr) (cs : List (Option Rat)) (nms : List Str) : Prop
  | mk (kt il ad sv lv vs ki od cx nk na ns nl cD nvs kn : _) (h1_ : VecS w S (.ref a) (.str "double" kt) (.ref il) (.ref ad) sv lv) (h2_ : S il (lisO vs ki)) (h3_ : OptsS S vs cs) (h4_ : S ad od) (h5_ : od.IsDictOf (strK w) [(Str.ofString "names", .ref cx)]) (h6_ : VecS w S (.ref cx) nk (.ref cD) na ns nl) (h7_ : S cD (lisO nvs kn)) (h8_ : StrsAre nvs nms) : CoefV w S a cs nms
/-- what b_lm_fit tells -/
inductive ToldP (w : World) (S : Store) (r : Value) (cols : List (List Rat)) (ys : List Rat) (nms : List Str) : Prop
  | mk (c1 c2 c3 c4 c5 : _) (h1_ : NamedS w S r names5 [.ref c1, .ref c2, .ref c3, .ref c4, .ref c5]) (h2_ : CoefV w S c1 (fCoef cols ys) nms) (h3_ : RatV w S c2 (fRest cols ys)) (h4_ : RatV w S c3 (subR ys (fRest cols ys))) (h5_ : NumV w S c4 (fRank cols : Nat)) (h6_ : NumV w S c5 ((ys.length : Int) - (fRank cols : Nat))) : ToldP w S r cols ys nms
inductive NamJ (Y n0 : Led) (i : Nat) (ys : List Value) (n₁ : Led) : Prop
  | mk (n : _) (h1_ : n₁ = Y ++ n) (h2_ : Off Y n) (h3_ : (∀ q ∈ n0, q ∈ n)) (h4_ : StrsAre ys (xNames.take i)) : NamJ Y n0 i ys n₁
theorem StrsAre.snoc1 {v : Str} {t : Tok} : ∀ {vs : List Value} {ys : List Str}, StrsAre vs ys → StrsAre (vs ++ [.str v t]) (ys ++ [v])
  | _, _, .nil => .cons v t .nil
  | _, _, .cons x u h => .cons x u (StrsAre.snoc1 h)
theorem xName_at {i : Nat} (h : i < 3) : Str.ofString "x" ++ Str.ofString (toString ((i : Int) + 1)) = xNames[i] := by
  have hi3 : i = 0 ∨ i = 1 ∨ i = 2 := by exact om_136 _ h
  rcases hi3 with rfl | rfl | rfl
  · show _ = Str.ofString "x1"; decide +kernel
  · show _ = Str.ofString "x2"; decide +kernel
  · show _ = Str.ofString "x3"; decide +kernel
theorem perm5 {a b c d e q : Addr × Obj} {n : Led} (h : q ∈ ([] ++ [a, b, c, d, e] : Led) ++ n) : q ∈ ([e, d, c, b, a] : Led) ++ n := by
  simp only [List.mem_append, List.mem_cons, List.not_mem_nil, or_false, false_or] at h ⊢
  grind
theorem off5 {a b c d e : Addr × Obj} {n : Led} (h : Off [e, d, c, b, a] n) : Off ([] ++ [a, b, c, d, e]) n := fun p hp => h p (by
  simp only [List.mem_append, List.mem_cons, List.not_mem_nil, or_false, false_or] at hp ⊢
  grind)
theorem nd5 {a b c d e : Addr} (h : [e, d, c, b, a].Nodup) : [a, b, c, d, e].Nodup := by
  simp only [List.nodup_cons, List.mem_cons, List.not_mem_nil, or_false, not_or] at h ⊢
  grind
theorem sh5 {w : World} (v1 v2 v3 v4 v5 : VD) : shL w [v1, v2, v3, v4, v5] 0 = [v1.o w false, v2.o w false, v3.o w false, v4.o w false, v5.o w false] := rfl
theorem sh5' {w : World} (v1 v2 v3 v4 v5 : VD) : shL w [v1, v2, v3, v4, v5] 5 = [v1.o w true, v2.o w true, v3.o w true, v4.o w true, v5.o w true] := rfl
theorem fRest_len {cols : List (List Rat)} {ys : List Rat} {tall : Nat} (h5 : tall ≤ 5) (hc : ∀ c ∈ cols, c.length = tall) (hs : ∀ c ∈ cols, ∀ q ∈ c, Sz q 3) (hy : ys.length = tall) (hys : ∀ q ∈ ys, Sz q 3) : (fRest cols ys).length = tall :=
  (in_ok (orth_ok h5 hc hs cols.length (Nat.le_refl _)) h5 hy hys _ (Nat.le_refl _)).1
theorem named_mk {w : World} {S : Store} {n' : Led} {v dv DD adL : Addr} {cc : Nat} {kt t1 t2 t3 t4 t5 : Tok} {sv lv : Value} {ivs nvs : List Value} {yn : List Str} (h1 : (v, instObj 222 dv) ∈ n') (h2 : (dv, vecD w t1 t2 t3 t4 t5 (.str "list" kt) (.ref DD) (.ref adL) sv lv) ∈ n') (h3 : (DD, lisO ivs cc) ∈ n') (h4 : NamesN w n' adL nvs)
    (hst : StrsAre nvs yn) (z : yn.length ≤ 64) (l : ivs.length = yn.length) (r : ∀ u ∈ ivs, ∃ a, u = .ref a) : NamedS w (Kn S n') (.ref v) yn ivs := by
  obtain ⟨cx, cdx, cD, od, c2, u1, u2, u3, u4, u5, ut, a, b, c, d, e, f⟩ := h4
  exact ⟨⟨kt, DD, cD, .ref adL, sv, lv, .ref cx, .str "character" ut, .none, .bool false, .bool false, cc, c2, nvs, ⟨v, dv, t1, t2, t3, t4, t5, rfl, Kn.r h1, Kn.r h2⟩, .inr ⟨adL, od, _, rfl, Kn.r a, b, rfl, c⟩, .inr ⟨adL, od, _, rfl, Kn.r a, b, rfl, c⟩,
    ⟨cx, cdx, u1, u2, u3, u4, u5, rfl, Kn.r d, Kn.r e⟩, Kn.r f, Kn.r h3, hst⟩, z, l, r⟩
theorem vecS_mk {w : World} {S : Store} {n' : Led} {x dx : Addr} {t1 t2 t3 t4 t5 : Tok} {kv iv av sv lv : Value} (h1 : (x, instObj 222 dx) ∈ n') (h2 : (dx, vecD w t1 t2 t3 t4 t5 kv iv av sv lv) ∈ n') : VecS w (Kn S n') (.ref x) kv iv av sv lv :=
  ⟨x, dx, t1, t2, t3, t4, t5, rfl, Kn.r h1, Kn.r h2⟩
theorem vds_all {w : World} {h₀ h : Heap} {L : Addr} {n : Led} (v1 v2 v3 v4 v5 : VD) (N : News h₀ L h ([v5.o w false, v4.o w false, v3.o w false, v2.o w false, v1.o w false] ++ n)) (O : Off [v5.o w false, v4.o w false, v3.o w false, v2.o w false, v1.o w false] n) (nd : [v5.dx, v4.dx, v3.dx, v2.dx, v1.dx].Nodup)
    (h1 : (v1.x, instObj 222 v1.dx) ∈ n) (h2 : (v2.x, instObj 222 v2.dx) ∈ n) (h3 : (v3.x, instObj 222 v3.dx) ∈ n) (h4 : (v4.x, instObj 222 v4.dx) ∈ n) (h5 : (v5.x, instObj 222 v5.dx) ∈ n) :
    ∃ VDS : List VD, News h₀ L h (([] ++ shL w VDS 0) ++ n) ∧ Off ([] ++ shL w VDS 0) n ∧ OffA [] ((shL w VDS 0).map (·.1)) ∧ (VDS.map (·.dx)).Nodup ∧ (VDS.map fun d => Value.ref d.x) = [.ref v1.x, .ref v2.x, .ref v3.x, .ref v4.x, .ref v5.x] ∧ VDS.length ≤ 64 ∧
      shL w VDS VDS.length = [v1.o w true, v2.o w true, v3.o w true, v4.o w true, v5.o w true] ∧ ∀ d ∈ VDS, (d.x, instObj 222 d.dx) ∈ n := by
  refine ⟨[v1, v2, v3, v4, v5], ?_, ?_, OffA.nil, nd5 nd, rfl, by simp, rfl, ?_⟩
  · rw [sh5]; exact fun q hq => N q (perm5 hq)
  · rw [sh5]; exact off5 O
  · intro d hd
    simp only [List.mem_cons, List.not_mem_nil, or_false] at hd
    rcases hd with rfl | rfl | rfl | rfl | rfl
    · exact h1
    · exact h2
    · exact h3
    · exact h4
    · exact h5
/-- pairs of numbers -/
inductive PairS (S : Store) (v : Value) (pq : Rat × Rat) : Prop
  | mk (a u1 u2 : _) (h1_ : v = .ref a) (h2_ : S a (tupO [u1, u2])) (h3_ : RatS S u1 pq.1) (h4_ : RatS S u2 pq.2) : PairS S v pq
theorem PairS.mono {S S' : Store} (hs : ∀ a o, S a o → S' a o) {v : Value} {pq : Rat × Rat} (h : PairS S v pq) : PairS S' v pq :=
  by obtain ⟨a, u1, u2, e, b, c, d⟩ := h; exact ⟨a, u1, u2, e, hs _ _ b, c.mono hs, d.mono hs⟩
noncomputable def sumP : List (Rat × Rat) → Rat
  | [] => 0
  | (p, q) :: r => p * q + sumP r
theorem sumP_snoc : ∀ (l : List (Rat × Rat)) (p q : Rat), sumP (l ++ [(p, q)]) = sumP l + p * q
  | [], p, q => by simp [sumP]; grind
  | (a, b) :: l, p, q => by
    have ih := sumP_snoc l p q
    simp only [List.cons_append, sumP, ih]; grind
open PySem.Builtin.Int in
/-- what the sum stands at -/
structure SumAt (B : Nat) (i : Nat) (ps : List (Rat × Rat)) (n d : Int) : Prop where
  pos : 0 < d
  eq : (n : Rat) = (d : Rat) * sumP (ps.take i)
  dB : intBits d ≤ i * B + 1
  nB : intBits n ≤ i * (B + 1) + 1
theorem num_eq (q : Rat) : (q.num : Rat) = q * (q.den : Rat) := by
  have h1 : ((q.den : Nat) : Rat) ≠ 0 := by
    have := q.den_nz
    intro h; exact this (by exact_mod_cast h)
  have h2 : (q.num : Rat) / ((q.den : Nat) : Rat) = q := by
    rw [show ((q.den : Nat) : Rat) = ((q.den : Int) : Rat) from rfl, ← Rat.divInt_eq_div, Rat.num_divInt_den]
  calc (q.num : Rat) = (q.num : Rat) / (q.den : Rat) * (q.den : Rat) := (Rat.div_mul_cancel h1).symm
    _ = q * (q.den : Rat) := by rw [h2]
open PySem.Builtin.Int in
theorem sum_step {B i : Nat} {ps : List (Rat × Rat)} {n d : Int} (h : SumAt B i ps n d) (hi : i < ps.length) {Bp Bq : Nat} (hp : Sz ps[i].1 Bp) (hq : Sz ps[i].2 Bq) (hB : Bp + Bq ≤ B) :
    SumAt B (i + 1) ps (n * (ps[i].1.den : Int) * (ps[i].2.den : Int) + ps[i].1.num * ps[i].2.num * d) (d * (ps[i].1.den : Int) * (ps[i].2.den : Int)) := by
  have h1 := rden_pos ps[i].1
  have h2 := rden_pos ps[i].2
  refine ⟨Int.mul_pos (Int.mul_pos h.pos h1) h2, ?_, ?_, ?_⟩
  · have e1 := num_eq ps[i].1
    have e2 := num_eq ps[i].2
    have e3 := h.eq
    rw [take_succ' _ _ hi, show ps[i] = (ps[i].1, ps[i].2) from rfl, sumP_snoc]
    simp only [Rat.intCast_add, Rat.intCast_mul, Rat.intCast_natCast]
    rw [e1, e2, e3]
    grind
  · have a := intBits_mul_le h.dB hp.2
    have b := intBits_mul_le a hq.2
    have : (i + 1) * B + 1 = i * B + B + 1 := by rw [Nat.add_mul, Nat.one_mul]
    exact Nat.le_trans b (Nat.le_trans (om_206 _ _ _ _ hB) (Nat.le_of_eq this.symm))
  · have a := intBits_mul_le (intBits_mul_le h.nB hp.2) hq.2
    have b := intBits_mul_le (intBits_mul_le hp.1 hq.1) h.dB
    have c := intBits_add_le a b
    have e1 : (i + 1) * (B + 1) + 1 = i * (B + 1) + (B + 1) + 1 := by rw [Nat.add_mul, Nat.one_mul]
    have e2 : i * (B + 1) = i * B + i := by rw [Nat.mul_add, Nat.mul_one]
    exact Nat.le_trans c (Nat.le_trans (Nat.succ_le_succ (Nat.max_le.mpr ⟨om_207 _ _ _ _ hB, om_209 _ _ _ _ _ _ hB e2⟩)) (Nat.le_of_eq e1.symm))
open PySem.Builtin.Int in
theorem sum_mul {B i : Nat} {ps : List (Rat × Rat)} {n d : Int} (h : SumAt B i ps n d) (hi : i < 5) {p q : Rat} {Bp Bq : Nat} (hp : Sz p Bp) (hq : Sz q Bq) (hB : Bp + Bq ≤ B) (hz : B ≤ 8000100) :
    IntMulOk n (p.den : Int) ∧ IntMulOk (n * (p.den : Int)) (q.den : Int) ∧ IntMulOk p.num q.num ∧ IntMulOk (p.num * q.num) d ∧ IntMulOk d (p.den : Int) ∧ IntMulOk (d * (p.den : Int)) (q.den : Int) := by
  have hb : i * B ≤ 4 * 8000100 := Nat.mul_le_mul (by exact om_179 _ hi) hz
  have hb1 : i * (B + 1) ≤ 4 * 8000101 := Nat.mul_le_mul (by exact om_179 _ hi) (by exact om_180 _ hz)
  have a := intBits_mul_le h.nB hp.2
  have b := intBits_mul_le hp.1 hq.1
  have c := intBits_mul_le h.dB hp.2
  exact ⟨IntMulOk.of_le h.nB hp.2 (by exact om_181 _ _ _ _ hB hz hb1), IntMulOk.of_le a hq.2 (by exact om_182 _ _ _ _ hB hz hb1), IntMulOk.of_le hp.1 hq.1 (by exact om_183 _ _ _ hB hz), IntMulOk.of_le b h.dB (by exact om_184 _ _ _ _ hB hz hb), IntMulOk.of_le h.dB hp.2 (by exact om_185 _ _ _ _ hB hz hb), IntMulOk.of_le c hq.2 (by exact om_186 _ _ _ _ hB hz hb)⟩
theorem sum_zero {B : Nat} {ps : List (Rat × Rat)} : SumAt B 0 ps 0 1 := ⟨by decide, by simp [sumP], by simp; decide, by simp; decide⟩
inductive SumJ (a : Addr) (B : Nat) (ps : List (Rat × Rat)) (i : Nat) (m₁ : Str → Option Value) (u0 : Led) : Prop
  | mk (ov otv n d tn td : _) (h1_ : m₁ = upd (fun _ => none) [("other", otv), ("one", ov), ("d", some (.int d td)), ("n", some (.int n tn)), ("pairs", some (.ref a))]) (h2_ : SumAt B i ps n d) : SumJ a B ps i m₁ u0
section
variable {prog : Program} {w : World} {A : Around} {E : Value → Shared → Prop} {s : Shared} {env : Env} {h₀ : Heap} {L : Addr}
theorem for_walkT {target : Expr} {body : List Stmt} {Q : Flow → Shared → Prop} {I : Addr} {n : Nat} {P : Nat → Value → Prop} {St : Nat → Heap → Prop} {m : Str → Option Value} {news lps : Led}
    (W : Walks prog w A I (I :: lps.map (·.1)) [I] n P St) (hI : h₀.get? I = none) (hIL : I ≠ L) (hnI : ∀ p ∈ news, p.1 ≠ I) (hlive : ∀ i h, St i h → ∃ o, h.get? I = some o)
    (hst : St 0 s.heap) (F : Fr h₀ L s.heap m) (N : News h₀ L s.heap news) (src : Src h₀ lps news)
    (J : Nat → (Str → Option Value) → Led → Prop) (h0 : J 0 m news)
    (turn : ∀ i v m₁ news₁ X h tk, i < n → P i v → J i m₁ news₁ → Src h₀ lps news₁ → Off X news₁ → Fr h₀ L h m₁ → News h₀ L h (X ++ news₁) →
      wpAny (model prog w) A (assign target env v) (fun _ s₂ => wpAny (model prog w) A (execs body env) (FPost h₀ L s X lps (J (i + 1)) Q) (fun _ _ => False) s₂) (fun _ _ => False) { s with heap := h, toks := tk })
    (done : ∀ m₁ news₁ h tk, J n m₁ news₁ → Fr h₀ L h m₁ → News h₀ L h news₁ → Q .next { s with heap := h, toks := tk })
    (hgo : ∀ i v (s' : Shared) (Q' : Unit → Shared → Prop) (E' : Value → Shared → Prop), i < n → P i v → St (i + 1) s'.heap → Q' () s' → wpAny (model prog w) A (letOwnedTupleGo target (.ref I) v) Q' E' s') :
    codeAny (model prog w) A (.forLoop target (.ref I) body [] env) (fun r s' => match r with | .ok f => Q f s' | .error e => cameBackBy (model prog w) A env E e s') s := by
  refine codeAny_forLoop_any
    (FWInv h₀ L s I lps St J n) ?_ (n + 1)
    ⟨s.heap, s.toks, m, news, 0, rfl, hst, F, N, hnI, src, h0, Nat.zero_le _, rfl⟩
  rintro k s' ⟨h', tk, m', news', i, rfl, hst', F', N', hn', src', hJ, hi, rfl⟩
  have old : ∀ b o, h₀.get? b = some o → b ≠ I := fun b o e hb => by rw [hb, hI] at e; cases e
  have next : ∀ h₁ : Heap, (∀ b o, b ∉ [I] → h'.get? b = some o → h₁.get? b = some o) → Fr h₀ L h₁ m' ∧ News h₀ L h₁ news' := fun h₁ hk₁ =>
    have hk : ∀ b o, b ≠ I → h'.get? b = some o → h₁.get? b = some o := fun b o hb e => hk₁ b o (by simpa using hb) e
    ⟨⟨F'.ns.at' fun o e => hk _ o (Ne.symm hIL) e, fun b o e => hk b o (old b o e) (F'.keep b o e), F'.above⟩, fun p hp => ⟨hk _ _ (hn' p hp) (N' p hp).1, (N' p hp).2⟩⟩
  by_cases hlt : i < n
  · refine W.item i _ _ _ hlt hst' fun v h₁ tk₁ hP hst₁ hk₁ => ?_
    refine hgo i v _ _ _ hlt hP hst₁ ?_
    obtain ⟨F₁, N₁⟩ := next h₁ hk₁
    obtain ⟨it, hit⟩ := hlive _ _ hst₁
    have hoff : Off [(I, it)] news' := fun p hp q hq => by rw [List.mem_singleton.mp hp]; exact Ne.symm (hn' q hq)
    have NX : News h₀ L h₁ ([(I, it)] ++ news') := fun p hp => by
      rcases List.mem_append.mp hp with hp | hp
      · rw [List.mem_singleton.mp hp]; exact ⟨hit, hIL, hI⟩
      · exact N₁ p hp
    refine wpAny_mono (turn i v m' news' [(I, it)] h₁ tk₁ hlt hP hJ src' hoff F₁ NX) (fun _ s₂ h₂ => wpAny_mono h₂ (fun f s₃ h₃ => ?_) fun _ _ x => x.elim) fun _ _ x => x.elim
    have fin : FEnd h₀ L s [(I, it)] lps (J (i + 1)) s₃ → ∃ m, m < n + 1 - i ∧ FWInv h₀ L s I lps St J n m s₃ := by
      rintro ⟨h₄, tk₄, m₄, news₄, rfl, F₄, N₄, o₄, s₄, j₄⟩
      refine ⟨n + 1 - (i + 1), by exact om_117 _ _ hlt, h₄, tk₄, m₄, news₄, i + 1, rfl, ?_, F₄, fun p hp => N₄ p (List.mem_append_right _ hp), fun p hp => Ne.symm (o₄ _ (List.Mem.head _) p hp), s₄, j₄, hlt, rfl⟩
      refine W.frame _ _ _ hst₁ fun b hb o e => ?_
      rcases List.mem_cons.mp hb with rfl | hb
      · rw [hit] at e; cases e
        exact (N₄ (b, it) (List.mem_append_left _ (List.Mem.head _))).1
      · obtain ⟨p, hp, rfl⟩ := List.mem_map.mp hb
        have e1 : h₁.get? p.1 = some p.2 := (src' p hp).elim (F₁.keep _ _) fun q => (N₁ p q).1
        rw [e1] at e; cases e
        exact (s₄ p hp).elim (F₄.keep _ _) fun q => (N₄ p (List.mem_append_right _ q)).1
    cases f with
    | ret v => exact h₃
    | brk => exact h₃
    | next => exact fin h₃
    | cont => exact fin h₃
  · have hin : i = n := by exact om_118 _ _ hi hlt
    subst hin
    refine W.done _ _ _ hst' fun h₁ tk₁ hk₁ => wpAny_execs_nil ?_
    obtain ⟨F₁, N₁⟩ := next h₁ hk₁
    exact done m' news' h₁ tk₁ hJ F₁ N₁

theorem for_listT {elts : List Expr} {x1} {tpos : Pos} {body : List Stmt} {Q : Flow → Shared → Prop} {ax : Addr} {vs : List Value} {k : Nat} {m : Str → Option Value} {news : Led}
    (J : Nat → (Str → Option Value) → Led → Prop) (src : h₀.get? ax = some (lisO vs k) ∨ (ax, lisO vs k) ∈ news) (hh : A.handled = none)
    (F : Fr h₀ L s.heap m) (N : News h₀ L s.heap news) (h0 : J 0 m news)
    (turn : ∀ (i : Nat) v m₁ news₁ X h tk, vs[i]? = some v → J i m₁ news₁ → Src h₀ [(ax, lisO vs k)] news₁ → Off X news₁ → Fr h₀ L h m₁ → News h₀ L h (X ++ news₁) →
      wpAny (model prog w) A (assign (.Tuple elts x1 tpos) env v) (fun _ s₂ => wpAny (model prog w) A (execs body env) (FPost h₀ L s X [(ax, lisO vs k)] (J (i + 1)) Q) (fun _ _ => False) s₂) (fun _ _ => False) { s with heap := h, toks := tk })
    (done : ∀ m₁ news₁ h tk, J vs.length m₁ news₁ → Fr h₀ L h m₁ → News h₀ L h news₁ → Q .next { s with heap := h, toks := tk })
    (hrf : ∀ v ∈ vs, ∃ a, v = .ref a) :
    wpAny (model prog w) A (pyIter (.ref ax)) (fun it s₂ => codeAny (model prog w) A (.forLoop (.Tuple elts x1 tpos) it body [] env) (fun r s' => match r with | .ok f => Q f s' | .error e => cameBackBy (model prog w) A env E e s') s₂) E s := by
  have hax : s.heap.get? ax = some (lisO vs k) := src.elim (F.keep _ _) fun h => (N _ h).1
  have hl : s.heap.IsList ax vs.toArray := ⟨_, hax, rfl, k, rfl⟩
  have hlt : ax < s.heap.objs.size := Heap.lt_size hax
  refine wpAny_pyIter_list hl ?_
  have N' : News h₀ L (s.heap.push { cls := .type "list_iterator", data := .fields #[.ref ax, .int 0 0] }) news := fun p hp => ⟨Heap.get?_push_of_some _ (N p hp).1, (N p hp).2⟩
  have W := Walks.list (prog := prog) (w := w) hh s.heap.objs.size ax (Nat.ne_of_lt hlt) vs.toArray
  rw [show vs.toArray.size = vs.length by simp] at W
  refine for_walkT (lps := [(ax, lisO vs k)]) W (next_is_new F) (Nat.ne_of_gt F.ns.lt) (fun p hp e => ?_) (fun i h st => ?_) ?_ (F.push _) N' ?_ J h0 ?_ ?_ ?_
  · exact absurd (Heap.lt_size (N p hp).1) (by rw [e]; exact Nat.lt_irrefl _)
  · obtain ⟨o, ho, _⟩ := st.1; exact ⟨o, ho⟩
  · exact ⟨⟨_, Heap.get?_push_size _ rfl, rfl, rfl⟩, hl.at fun o e => Heap.get?_push_of_some _ e⟩
  · intro p hp; rw [List.mem_singleton.mp hp]; exact src
  · intro i v m₁ news₁ X h tk hi hP hJ hs ho F₁ N₁
    exact turn i v m₁ news₁ X h tk (by simpa using hP) hJ hs ho F₁ N₁
  · intro m₁ news₁ h tk hJ F₁ N₁
    exact done m₁ news₁ h tk hJ F₁ N₁
  · intro i v s' Q' E' hi hP st hQ
    obtain ⟨a, rfl⟩ := hrf v (List.mem_of_getElem? (by simpa using hP))
    exact wpAny_letOwnedTupleGo_listiter st.1 hQ
end
/-- the same, where room for comparisons is wanted -/
noncomputable def MutU (w : World) (c : Nat) (f : Addr) (vs : List Value) (S : Store) (X : Led) (Post : Led → Led → Value → Prop) : Prop :=
  ∀ (dp un : Nat) (fr : List Env) (gd : Option (List Code)) (base g : Heap) (s : Shared) (Q E : Value → Shared → Prop), dp + c + 100 < recursionLimit → un + 200 < cLine → Gr w S g → Below { handled := none, depth := dp, frames := some fr, guards := gd, units := un } base fr g →
    (∀ b o, g.get? b = some o → s.heap.get? b = some o) → g.objs.size ≤ s.heap.objs.size → (∀ p ∈ X, s.heap.get? p.1 = some p.2 ∧ g.get? p.1 = none) →
    (∀ r X' tl h' tk', (∀ b o, g.get? b = some o → h'.get? b = some o) → (∀ p ∈ X' ++ tl, h'.get? p.1 = some p.2 ∧ g.get? p.1 = none) → Off X' tl → X'.map (·.1) = X.map (·.1) → Post X' tl r → Q r { s with heap := h', toks := tk' }) →
    wpAny (model PySem.Challenge.rw_pq1326_01.prog w) { handled := none, depth := dp, frames := some fr, guards := gd, units := un } (call (.ref f) vs) Q E s

section
variable {w : World} {c : Nat} {f : Addr} {vs : List Value} {S : Store} {A : Around} {s : Shared} {Q E : Value → Shared → Prop} {h₀ : Heap} {L : Addr} {m : Str → Option Value} {news : Led}
theorem MutU.use {Z X : Led} {Post : Led → Led → Value → Prop} (C : MutU w c f vs (Kn S (Z ++ news)) X Post) (G : Gr w S h₀) (F : Fr h₀ L s.heap m) (N : News h₀ L s.heap ((Z ++ X) ++ news)) (O : Off (Z ++ X) news) (OA : OffA Z (X.map (·.1))) (hh : A.handled = none) {A₀ : Around} {base : Heap} {outer : List Env} {env : Env} (B : Below A₀ base outer h₀) (hfr : A.frames = some (env :: outer)) (hf : env.frame = some L) (hke : env.scope.kind = .function) (hd : A.depth + c + 100 < recursionLimit) (hun : A.units + 200 < cLine)
    (k : ∀ r X' tl h' tk', Fr h₀ L h' m → News h₀ L h' ((Z ++ X') ++ (news ++ tl)) → Off (Z ++ X') (news ++ tl) → Off (Z ++ news) tl → X'.map (·.1) = X.map (·.1) → Post X' tl r → Q r { s with heap := h', toks := tk' }) :
    wpAny (model PySem.Challenge.rw_pq1326_01.prog w) A (call (.ref f) vs) Q E s := by
  obtain ⟨_, dp, _, gd, un⟩ := A
  subst hh
  subst hfr
  have NX : News h₀ L s.heap X := fun p hp => N p (List.mem_append_left _ (List.mem_append_right _ hp))
  obtain ⟨FG, BG, st, -⟩ := groundX (A := { handled := none, depth := dp, frames := some (env :: outer), guards := gd, units := un }) (R := fun _ _ => True) B F NX rfl hf hke
  have OX : Off X news := fun p hp => O p (List.mem_append_right _ hp)
  have OZ : Off Z news := fun p hp => O p (List.mem_append_left _ hp)
  have OZX : Off Z X := of_offA OA
  have nX : ∀ p ∈ Z ++ news, p.1 ∉ X.map (·.1) := fun p hp hm => by
    obtain ⟨q, hq, e⟩ := List.mem_map.mp hm
    rcases List.mem_append.mp hp with hp | hp
    · exact OZX p hp q hq e.symm
    · exact OX q hq p hp e
  have mem1 : ∀ p ∈ Z ++ news, p ∈ (Z ++ X) ++ news := fun p hp => by
    rcases List.mem_append.mp hp with hp | hp
    · exact List.mem_append_left _ (List.mem_append_left _ hp)
    · exact List.mem_append_right _ hp
  have gZ : ∀ p ∈ Z ++ news, (hideAll s.heap (X.map (·.1))).get? p.1 = some p.2 := fun p hp => hideAll_get _ (N p (mem1 p hp)).1 (nX p hp)
  have GG : Gr w (Kn S (Z ++ news)) (hideAll s.heap (X.map (·.1))) := (G.keeps st).sub (fun _ _ => Kn.l) fun a o e => e.elim (fun e => st _ _ (G.s _ _ e)) fun e => gZ _ e
  refine C dp un (env :: outer) gd base _ s Q E hd hun GG ⟨rfl, BG.stays, BG.frames⟩ (fun b o e => of_hideAll _ e) (Nat.le_of_eq (hideAll_size _ _)) (fun p hp => ⟨(NX p hp).1, hideAll_none _ (List.mem_map_of_mem hp)⟩) fun r X' tl h' tk' hk ht o' ea hp => ?_
  obtain ⟨oL, es, ep, hL, hLd, hLk, hLf⟩ := FG.ns
  have F' : Fr h₀ L h' m := ⟨⟨oL, es, ep, hk _ _ hL, hLd, hLk, hLf⟩, fun b o e => hk _ _ (st _ _ e), F.above⟩
  have nL : ∀ p ∈ X' ++ tl, p.1 ≠ L ∧ h₀.get? p.1 = none := fun p hp => by
    refine ⟨fun e => ?_, ?_⟩
    · have := (ht p hp).2; rw [e, hL] at this; cases this
    · cases q : h₀.get? p.1 with
      | none => rfl
      | some o => have := (ht p hp).2; rw [st _ _ q] at this; cases this
  have oT : Off (Z ++ news) tl := fun p hp q hq e => by
    have h1 := gZ p hp
    have h2 := (ht q (List.mem_append_right _ hq)).2
    rw [← e, h1] at h2; cases h2
  have adr : ∀ p ∈ X', ∃ q ∈ X, p.1 = q.1 := fun p hp => by
    have : p.1 ∈ X.map (·.1) := ea ▸ List.mem_map_of_mem hp
    obtain ⟨q, hq, e⟩ := List.mem_map.mp this
    exact ⟨q, hq, e.symm⟩
  refine k r X' tl h' tk' F' (fun p hp => ?_) (fun p hp q hq => ?_) oT ea hp
  · rcases List.mem_append.mp hp with hp | hp
    · rcases List.mem_append.mp hp with hp | hp
      · have hz := List.mem_append_left news hp
        exact ⟨hk _ _ (gZ p hz), (N p (mem1 p hz)).2⟩
      · exact ⟨(ht p (List.mem_append_left _ hp)).1, nL p (List.mem_append_left _ hp)⟩
    · rcases List.mem_append.mp hp with hp | hp
      · have hz := List.mem_append_right Z hp
        exact ⟨hk _ _ (gZ p hz), (N p (mem1 p hz)).2⟩
      · exact ⟨(ht p (List.mem_append_right _ hp)).1, nL p (List.mem_append_right _ hp)⟩
  · rcases List.mem_append.mp hp with hp | hp
    · rcases List.mem_append.mp hq with hq | hq
      · exact OZ p hp q hq
      · exact oT p (List.mem_append_left _ hp) q hq
    · rcases List.mem_append.mp hq with hq | hq
      · obtain ⟨x, hx, e⟩ := adr p hp
        rw [e]; exact OX x hx q hq
      · exact o' p hp q hq
end
open PySem.Builtin.Int in
/-- the source of the draws -/
inductive SrcAt (src inn : Addr) (X : Led) : Prop
  | mk (s1 s2 : Int) (t1 t2 : Tok) (ks ki : Nat) (ivs : List Value) (ns : List Int) (h1_ : X = [(src, lisO [.ref inn, .int s1 t1, .int s2 t2] ks), (inn, lisO ivs ki)]) (h2_ : 0 ≤ s1) (h3_ : intBits s1 ≤ 1048600) (h4_ : 0 ≤ s2) (h5_ : s2 < 2147483648) (h6_ : IntsAre ivs ns) (h7_ : (∀ n ∈ ns, intBits n ≤ 1048576)) (h8_ : ns.length ≤ 64) : SrcAt src inn X
theorem popY {prog : Program} {w : World} {A : Around} {E : Value → Shared → Prop} {s : Shared} {h₀ : Heap} {L D : Addr} {m : Str → Option Value} {Y Y' n : Led} {v : Value} {vs : List Value} {kk : Nat} {u : Tok} {Q : Value → Shared → Prop} (F : Fr h₀ L s.heap m) (N : News h₀ L s.heap (Y ++ n)) (O : Off Y n) (U : Upd D (lisO (v :: vs) kk) (lisO vs (kk + 1)) Y Y') (hz : vs.length ≤ 64)
    (h : ∀ h', Fr h₀ L h' m → News h₀ L h' (Y' ++ n) → Off Y' n → Q v { s with heap := h' }) : wpAny (model prog w) A (call (.builtin "list.pop") [.ref D, .int 0 u]) Q E s :=
  kl_popAt (k := 0) (p := []) (q := vs) (y := v) F N (by decide) (by simp [seqIndex?]) rfl (upd_appL U (upd_ne U O)) (Nat.le_trans (by simp; omega : _ ≤ 65) (by decide)) fun h' F' N' => h h' F' N' (upd_off U O)
theorem neNil {prog : Program} {w : World} {A : Around} {E : Value → Shared → Prop} {s : Shared} {a b : Addr} {vs : List Value} {ns : List Int} {ka kb : Nat} {Q : Value → Shared → Prop} (ha : s.heap.get? a = some (lisO vs ka)) (hb : s.heap.get? b = some (lisO [] kb)) (hi : IntsAre vs ns) (hu : A.units + 64 < cLine) (h : Q (.bool (!decide (ns = []))) s) :
    wpAny (model prog w) A (compareOp .NotEq (.ref a) (.ref b)) Q E s := ke_ne_ints (lisAt ha) (lisAt hb) hi .nil hu h
/-- the law's statements -/
noncomputable def lawDef : Option PySem.Stmt := PySem.Challenge.pw_pq1326_01.main.body.getLast?
noncomputable def lawBody : List PySem.Stmt := match lawDef with
  | some (.FunctionDef _ _ body _ _ _ _ _ _ _) => body
  | _ => []
/-- the law's store: all that stands at its start -/
noncomputable def AllS (h : Heap) : Store := fun a o => h.get? a = some o
theorem allG {w : World} {h : Heap} {mean : ExcName → Option Value} {mg mb : Str → Option Value} (X : (k0.heap_1 w.params).In h) (T : Top view LO mean mg mb h) : Gr w (AllS h) h := ⟨fun a o e => X a o e, fun _ _ e => e, ⟨mean, mg, mb, T⟩⟩
theorem loose_eq : looseW view [Str.ofString "match_names", Str.ofString "take", Str.ofString "list_of", Str.ofString "fit", Str.ofString "first_argument"] = LO := by decide +kernel
section
variable {w : World} {c : Nat} {f : Addr} {vs : List Value} {S : Store} {A : Around} {s : Shared} {Q E : Value → Shared → Prop} {h₀ : Heap} {L : Addr} {m : Str → Option Value} {news : Led}
theorem mid_mem {P X Y n : Led} {q : Addr × Obj} : q ∈ ((P ++ X) ++ Y) ++ n ↔ q ∈ ((P ++ Y) ++ X) ++ n := by
  simp only [List.mem_append]
  constructor
  · rintro ((( h | h) | h) | h)
    · exact .inl (.inl (.inl h))
    · exact .inl (.inr h)
    · exact .inl (.inl (.inr h))
    · exact .inr h
  · rintro ((( h | h) | h) | h)
    · exact .inl (.inl (.inl h))
    · exact .inl (.inr h)
    · exact .inl (.inl (.inr h))
    · exact .inr h
/-- the things that a call changes stand in the midst -/
theorem MutU.useM {P X Y : Led} {Post : Led → Led → Value → Prop} (C : MutU w c f vs (Kn S ((P ++ Y) ++ news)) X Post) (G : Gr w S h₀) (F : Fr h₀ L s.heap m) (N : News h₀ L s.heap (((P ++ X) ++ Y) ++ news)) (O : Off ((P ++ X) ++ Y) news) {as : List Addr} (OA : OffA (P ++ X) as) (eY : Y.map (·.1) = as) (OP : Off P X) (hh : A.handled = none) {A₀ : Around} {base : Heap} {outer : List Env} {env : Env} (B : Below A₀ base outer h₀) (hfr : A.frames = some (env :: outer)) (hf : env.frame = some L) (hke : env.scope.kind = .function) (hd : A.depth + c + 100 < recursionLimit) (hun : A.units + 200 < cLine)
    (k : ∀ r X' tl h' tk', Fr h₀ L h' m → News h₀ L h' (((P ++ X') ++ Y) ++ (news ++ tl)) → Off ((P ++ X') ++ Y) (news ++ tl) → OffA (P ++ X') as → Off P X' → Off ((P ++ Y) ++ news) tl → Post X' tl r → Q r { s with heap := h', toks := tk' }) :
    wpAny (model PySem.Challenge.rw_pq1326_01.prog w) A (call (.ref f) vs) Q E s := by
  subst eY
  have OX : OffA (P ++ Y) (X.map (·.1)) := fun p hp a ha => by
    obtain ⟨x, hx, rfl⟩ := List.mem_map.mp ha
    rcases List.mem_append.mp hp with hp | hp
    · exact OP p hp x hx
    · exact Ne.symm (OA x (List.mem_append_right _ hx) p.1 (List.mem_map_of_mem hp))
  refine MutU.use (Z := P ++ Y) (X := X) C G F (fun q hq => N q (mid_mem.mpr hq)) (fun q hq => O q (by
    have := mid_mem (P := P) (X := X) (Y := Y) (n := []) (q := q)
    simpa using this.mpr (by simpa using hq))) OX hh B hfr hf hke hd hun fun r X' tl h' tk' F' N' O' o' ea hp => ?_
  have adr : ∀ p ∈ X', ∃ x ∈ X, x.1 = p.1 := fun p hp => by
    have : p.1 ∈ X.map (·.1) := ea ▸ List.mem_map_of_mem hp
    obtain ⟨x, hx, e⟩ := List.mem_map.mp this
    exact ⟨x, hx, e⟩
  refine k r X' tl h' tk' F' (fun q hq => N' q (mid_mem.mp hq)) (fun q hq => O' q (by
    have := mid_mem (P := P) (X := X') (Y := Y) (n := []) (q := q)
    simpa using this.mp (by simpa using hq))) (fun p hp a ha => ?_) (fun p hp q hq => ?_) o' hp
  · rcases List.mem_append.mp hp with hp | hp
    · exact OA p (List.mem_append_left _ hp) a ha
    · obtain ⟨x, hx, e⟩ := adr p hp
      rw [← e]; exact OA x (List.mem_append_right _ hx) a ha
  · obtain ⟨x, hx, e⟩ := adr q hq
    rw [← e]; exact OP p hp x hx
end
theorem src_take {h₀ h : Heap} {L l d1 d2 d3 : Addr} {o o1 o2 o3 : Obj} {Y : Led} (N : News h₀ L h ((l, o) :: (d1, o1) :: (d2, o2) :: (d3, o3) :: (Y ++ []))) : News h₀ L h ((([] ++ [(l, o), (d2, o2)]) ++ Y) ++ []) := fun q hq => N q (by
  simp only [List.mem_append, List.mem_cons, List.not_mem_nil, or_false, false_or] at hq ⊢
  grind)
theorem offA_cells {h₀ h : Heap} {L : Addr} {X Y n : Led} (N : News h₀ L h ((X ++ Y) ++ n)) (hX : ∀ p ∈ X, ∃ vs k, p.2 = lisO vs k) (hY : ∀ p ∈ Y, ∃ v, p.2.data = .cell v) : OffA X (Y.map (·.1)) := fun p hp a ha e => by
  obtain ⟨q, hq, rfl⟩ := List.mem_map.mp ha
  have h1 := (N p (List.mem_append_left _ (List.mem_append_left _ hp))).1
  have h2 := (N q (List.mem_append_left _ (List.mem_append_right _ hq))).1
  rw [e, h2] at h1
  obtain ⟨vs, k, e1⟩ := hX p hp
  obtain ⟨v, e2⟩ := hY q hq
  have := Option.some.inj h1
  rw [this, e1] at e2
  cases e2
theorem src_gen {h₀ h : Heap} {L l d : Addr} {X Y : Led} {as : List Addr} (N : News h₀ L h ((([] ++ X) ++ Y) ++ [])) (A : OffA ([] ++ X) as) (hS : SrcAt l d X) : ∃ X0, News h₀ L h ((([] ++ X0) ++ Y) ++ []) ∧ OffA ([] ++ X0) as ∧ SrcAt l d X0 := ⟨X, N, A, hS⟩
theorem itemStr3 {prog : Program} {w : World} {A : Around} {E : Value → Shared → Prop} {s : Shared} {value slice : Expr} {a : Addr} {x y z : Str} {t1 t2 t3 : Tok} {kk k : Nat} {t : Tok} {Q : Value → Shared → Prop} (hl : s.heap.get? a = some (lisO [.str x t1, .str y t2, .str z t3] kk)) (hk : k < 3)
    (h : ∀ kd tk, (kd = x ∨ kd = y ∨ kd = z) → Q (.str kd tk) s) (hs : subscripted slice false (.ref a) (.int (k : Nat) t) = operate [.ref a, .int (k : Nat) t] (getItem (.ref a) (.int (k : Nat) t)) := by with_unfolding_all rfl) :
    wpAny (model prog w) A (subscriptTail value slice (.ref a) (.int (k : Nat) t)) Q E s := by
  have h3 : k = 0 ∨ k = 1 ∨ k = 2 := by exact om_136 _ hk
  rcases h3 with rfl | rfl | rfl
  · exact itemL hl (by decide) (by decide) rfl (h x t1 (.inl rfl)) hs
  · exact itemL hl (by decide) (by decide) rfl (h y t2 (.inr (.inl rfl))) hs
  · exact itemL hl (by decide) (by decide) rfl (h z t3 (.inr (.inr rfl))) hs
/-- a linear reading of vectors -/
noncomputable def LinF (rows : Nat) (φ : List Rat → Rat) : Prop := ∀ u q v, u.length = rows → v.length = rows → φ (lessR u q v) = φ u - q * φ v
theorem dotR_less : ∀ (u : List Rat) (q : Rat) (v x : List Rat), u.length = v.length → v.length = x.length → dotR (lessR u q v) x = dotR u x - q * dotR v x
  | [], _, [], [], _, _ => by simp [lessR, dotR]; grind
  | a :: u, q, b :: v, c :: x, h1, h2 => by
    have ih := dotR_less u q v x (by simpa using h1) (by simpa using h2)
    simp only [lessR, dotR, ih]; grind
  | [], _, _ :: _, _, h, _ => by simp at h
  | _ :: _, _, [], _, h, _ => by simp at h
  | _, _, [], _ :: _, _, h => by simp at h
  | _, _, _ :: _, [], _, h => by simp at h
theorem dotR_comm : ∀ (u v : List Rat), dotR u v = dotR v u
  | [], [] => rfl
  | [], _ :: _ => rfl
  | _ :: _, [] => rfl
  | a :: u, b :: v => by simp only [dotR, dotR_comm u v]; grind
theorem lin_dot {rows : Nat} {x : List Rat} (hx : x.length = rows) : LinF rows (dotR x) := fun u q v hu hv => by
  rw [dotR_comm x, dotR_less u q v x (by exact om_33 _ _ _ hu hv) (by exact om_106 _ _ _ hx hv), dotR_comm u, dotR_comm v]
theorem getD_less : ∀ (u : List Rat) (q : Rat) (v : List Rat) (r : Nat), u.length = v.length → (lessR u q v).getD r 0 = u.getD r 0 - q * v.getD r 0
  | [], _, [], r, _ => by simp [lessR]; grind
  | a :: u, q, b :: v, 0, _ => by simp [lessR]
  | a :: u, q, b :: v, r + 1, h => by simpa [lessR] using getD_less u q v r (by simpa using h)
  | [], _, _ :: _, _, h => by simp at h
  | _ :: _, _, [], _, h => by simp at h
theorem lin_get {rows : Nat} (r : Nat) : LinF rows (fun l => l.getD r 0) := fun u q v hu hv => getD_less u q v r (by exact om_33 _ _ _ hu hv)
theorem dotR_snoc : ∀ (s l : List Rat) (f x : Rat), s.length = l.length → dotR (s ++ [f]) (l ++ [x]) = dotR s l + f * x
  | [], [], f, x, _ => by simp [dotR]; grind
  | a :: s, b :: l, f, x, h => by
    have ih := dotR_snoc s l f x (by simpa using h)
    simp only [List.cons_append, dotR, ih]; grind
  | [], _ :: _, _, _, h => by simp at h
  | _ :: _, [], _, _, h => by simp at h
theorem dotR_zero : ∀ (s l : List Rat), (∀ x ∈ l, x = 0) → dotR s l = 0
  | [], _, _ => by simp [dotR]
  | _ :: _, [], _ => by simp [dotR]
  | a :: s, b :: l, h => by
    have ih := dotR_zero s l fun x hx => h x (.tail _ hx)
    have hb := h b (.head _)
    simp only [dotR, ih, hb]; grind
theorem sq_zero {a : Rat} (h : a * a = 0) : a = 0 := by grind
theorem sq_nonneg (a : Rat) : 0 ≤ a * a := by
  rcases Rat.le_total (a := 0) (b := a) with h | h
  · exact Rat.mul_nonneg h h
  · have := Rat.mul_nonneg (a := -a) (b := -a) (by grind) (by grind)
    grind
theorem dotR_self_zero : ∀ (u : List Rat), dotR u u = 0 → ∀ x ∈ u, x = 0
  | [], _, x, hx => nomatch hx
  | a :: u, h, x, hx => by
    simp only [dotR] at h
    have h1 := dotR_nonneg u
    have h2 := sq_nonneg a
    have h3 : a * a = 0 := by grind
    have h4 : dotR u u = 0 := by grind
    rcases List.mem_cons.mp hx with rfl | hx
    · exact sq_zero h3
    · exact dotR_self_zero u h4 x hx
section
variable {rows i : Nat} {o : OSt} {col : List Rat}
theorem in_lin {φ : List Rat → Rat} (hφ : LinF rows φ) (ok : OOk rows i o) (h5 : rows ≤ 5) (hc : col.length = rows) (hs : ∀ q ∈ col, Sz q 3) : ∀ j, j ≤ o.bas.length → φ col = φ (inR o col j).1 + dotR (inR o col j).2 ((o.bas.take j).map φ)
  | 0, _ => by rw [inR_zero]; simp [dotR]; grind
  | j + 1, hj => by
    have ih := in_lin hφ ok h5 hc hs j (by exact om_89 _ _ hj)
    obtain ⟨a1, a2, a3, a4⟩ := in_ok ok h5 hc hs j (by exact om_89 _ _ hj)
    have hb : j < o.bas.length := by exact om_90 _ _ hj
    have hn : j < o.nrm.length := by rw [ok.l1]; exact om_77 _ _ hb
    rw [inR_succ o col j hb hn, take_succ' _ _ hb, List.map_append]
    unfold inStep
    dsimp only
    rw [hφ _ _ _ a1 (ok.rws _ (List.getElem_mem _)), List.map_cons, List.map_nil, dotR_snoc _ _ _ _ (by rw [a3, List.length_map, List.length_take, Nat.min_eq_left (Nat.le_of_lt hb)]), ih]
    grind
structure Orth (o : OSt) : Prop where
  z : ∀ s t (hs : s < o.bas.length) (ht : t < o.bas.length), s ≠ t → dotR o.bas[s] o.bas[t] = 0
  n : ∀ t (ht : t < o.bas.length) (hn : t < o.nrm.length), o.nrm[t] = dotR o.bas[t] o.bas[t]
theorem in_orth (ok : OOk rows i o) (orth : Orth o) (h5 : rows ≤ 5) (hc : col.length = rows) (hs : ∀ q ∈ col, Sz q 3) : ∀ j, j ≤ o.bas.length → ∀ t (ht : t < o.bas.length), t < j → dotR (inR o col j).1 o.bas[t] = 0
  | 0, _, t, _, h => absurd h (Nat.not_lt_zero _)
  | j + 1, hj, t, ht, htj => by
    obtain ⟨a1, a2, a3, a4⟩ := in_ok ok h5 hc hs j (by exact om_89 _ _ hj)
    have hb : j < o.bas.length := by exact om_90 _ _ hj
    have hn : j < o.nrm.length := by rw [ok.l1]; exact om_77 _ _ hb
    have rt := ok.rws o.bas[t] (List.getElem_mem _)
    have rj := ok.rws o.bas[j] (List.getElem_mem _)
    rw [inR_succ o col j hb hn]
    unfold inStep
    dsimp only
    rw [dotR_less _ _ _ _ (by exact om_33 _ _ _ a1 rj) (by exact om_106 _ _ _ rt rj)]
    by_cases e : t = j
    · subst e
      have hp := ok.pos o.nrm[t] (List.getElem_mem _)
      rw [orth.n t hb hn] at hp ⊢
      have : dotR o.bas[t] o.bas[t] ≠ 0 := fun h0 => by rw [h0] at hp; exact absurd hp (by decide)
      rw [Rat.div_mul_cancel this]
      grind
    · rw [in_orth ok orth h5 hc hs j (by exact om_23 _ _ hb) t ht (by exact om_107 _ _ htj e), orth.z j t hb ht (fun h => e h.symm)]
      grind
end
theorem get_snoc {α : Type} (l : List α) (x : α) (j : Nat) (h : j < (l ++ [x]).length) : (j < l.length ∧ ∃ h', (l ++ [x])[j] = l[j]'h') ∨ (j = l.length ∧ (l ++ [x])[j] = x) := by
  by_cases hj : j < l.length
  · exact .inl ⟨hj, hj, by rw [List.getElem_append_left hj]⟩
  · have : j = l.length := by simp at h; exact om_108 _ _ hj h
    subst this
    exact .inr ⟨rfl, by simp⟩
theorem getD_app {α : Type} {l l' : List α} {k : Nat} {d : α} (h : k < l.length) : (l ++ l').getD k d = l.getD k d := by
  rw [List.getD_eq_getElem?_getD, List.getD_eq_getElem?_getD, List.getElem?_append_left h]
structure Dec (rows : Nat) (cols : List (List Rat)) (i : Nat) (o : OSt) : Prop where
  piv : ∀ k (hk : k < o.bas.length) (φ : List Rat → Rat), LinF rows φ → φ (cols.getD (o.piv.getD k 0) []) = φ o.bas[k] + dotR (o.shr.getD k []) ((o.bas.take k).map φ)
  non : ∀ c, c < i → ∀ x : List Rat, x.length = rows → (∀ b ∈ o.bas, dotR x b = 0) → dotR x (cols.getD c []) = 0
  inc : o.piv.Pairwise (· < ·)
theorem out_orth {rows i : Nat} {o : OSt} {col : List Rat} (ok : OOk rows i o) (orth : Orth o) (h5 : rows ≤ 5) (hc : col.length = rows) (hs : ∀ q ∈ col, Sz q 3) : Orth (outStep o i col) := by
  unfold outStep
  split
  · exact orth
  · have ho := in_orth ok orth h5 hc hs o.bas.length (Nat.le_refl _)
    refine ⟨fun s t hs' ht' hne => ?_, fun t ht' hn' => ?_⟩
    · dsimp only at hs' ht' ⊢
      rcases get_snoc _ _ _ hs' with ⟨h1, h1', e1⟩ | ⟨h1, e1⟩ <;> rcases get_snoc _ _ _ ht' with ⟨h2, h2', e2⟩ | ⟨h2, e2⟩ <;> rw [e1, e2]
      · exact orth.z s t h1 h2 hne
      · rw [dotR_comm]; exact ho s h1 h1
      · exact ho t h2 h2
      · exact absurd (h1.trans h2.symm) hne
    · dsimp only at ht' hn' ⊢
      rcases get_snoc _ _ _ ht' with ⟨h2, h2', e2⟩ | ⟨h2, e2⟩ <;> rcases get_snoc _ _ _ hn' with ⟨h3, h3', e3⟩ | ⟨h3, e3⟩ <;> rw [e2, e3]
      · exact orth.n t h2 h3
      · have := ok.l1; omega
      · have := ok.l1; omega
theorem out_dec {rows i : Nat} {cols : List (List Rat)} {o : OSt} (ok : OOk rows i o) (dec : Dec rows cols i o) (h5 : rows ≤ 5) (hc : (cols.getD i []).length = rows) (hs : ∀ q ∈ cols.getD i [], Sz q 3) : Dec rows cols (i + 1) (outStep o i (cols.getD i [])) := by
  have key : ∀ φ : List Rat → Rat, LinF rows φ → φ (cols.getD i []) = φ (inR o (cols.getD i []) o.bas.length).1 + dotR (inR o (cols.getD i []) o.bas.length).2 (o.bas.map φ) := fun φ hφ => by
    have := in_lin hφ ok h5 hc hs o.bas.length (Nat.le_refl _)
    rwa [List.take_length] at this
  unfold outStep
  split
  · rename_i h0
    refine ⟨dec.piv, fun c hc' x hx hb => ?_, dec.inc⟩
    by_cases e : c = i
    · subst e
      rw [key _ (lin_dot hx), dotR_zero x _ (dotR_self_zero _ h0), dotR_zero _ _ (fun y hy => by obtain ⟨b, hb', rfl⟩ := List.mem_map.mp hy; exact hb b hb')]
      grind
    · exact dec.non c (by exact om_107 _ _ hc' e) x hx hb
  · rename_i h0
    have l2 := ok.l2
    have l3 := ok.l3
    refine ⟨fun k hk φ hφ => ?_, fun c hc' x hx hb => ?_, ?_⟩
    · dsimp only at hk ⊢
      rcases get_snoc _ _ _ hk with ⟨h1, h1', e1⟩ | ⟨h1, e1⟩
      · rw [e1, getD_app (by exact om_24 _ _ _ l2 h1'), getD_app (by exact om_24 _ _ _ l3 h1'), List.take_append_of_le_length (by exact om_23 _ _ h1')]
        exact dec.piv k h1 φ hφ
      · rw [e1]
        subst h1
        rw [List.take_left]
        have e2 : (o.piv ++ [i]).getD o.bas.length 0 = i := by rw [← l2]; simp [List.getD_eq_getElem?_getD]
        have e3 : (o.shr ++ [(inR o (cols.getD i []) o.bas.length).2]).getD o.bas.length [] = (inR o (cols.getD i []) o.bas.length).2 := by
          have : ∀ (l : List (List Rat)) (x : List Rat), (l ++ [x]).getD l.length [] = x := fun l x => by simp [List.getD_eq_getElem?_getD]
          rw [← l3]; exact this _ _
        rw [e2, e3]
        exact key φ hφ
    · have hb' : ∀ b ∈ o.bas, dotR x b = 0 := fun b hbm => hb b (List.mem_append_left _ hbm)
      by_cases e : c = i
      · subst e
        rw [key _ (lin_dot hx), hb _ (List.mem_append_right _ (.head _)), dotR_zero _ _ (fun y hy => by obtain ⟨b, hbm, rfl⟩ := List.mem_map.mp hy; exact hb' b hbm)]
        grind
      · exact dec.non c (by exact om_107 _ _ hc' e) x hx hb'
    · dsimp only
      rw [List.pairwise_append]
      exact ⟨dec.inc, List.pairwise_singleton _ _, fun a ha b hb => by rw [List.mem_singleton.mp hb]; exact ok.plt a ha⟩
theorem orth_all {rows : Nat} {cols : List (List Rat)} (h5 : rows ≤ 5) (hc : ∀ c ∈ cols, c.length = rows) (hs : ∀ c ∈ cols, ∀ q ∈ c, Sz q 3) : ∀ i, i ≤ cols.length → Orth (orthR cols i) ∧ Dec rows cols i (orthR cols i)
  | 0, _ => ⟨⟨fun s _ h => absurd h (Nat.not_lt_zero _), fun s h => absurd h (Nat.not_lt_zero _)⟩, ⟨fun k h => absurd h (Nat.not_lt_zero _), fun c h => absurd h (Nat.not_lt_zero _), List.Pairwise.nil⟩⟩
  | i + 1, hi => by
    obtain ⟨a, b⟩ := orth_all h5 hc hs i (by exact om_89 _ _ hi)
    have hm : cols.getD i [] ∈ cols := by rw [List.getD_eq_getElem?_getD, List.getElem?_eq_getElem (by exact om_90 _ _ hi)]; exact List.getElem_mem _
    have ok := orth_ok h5 hc hs i (by exact om_89 _ _ hi)
    exact ⟨out_orth ok a h5 (hc _ hm) (hs _ hm), out_dec ok b h5 (hc _ hm) (hs _ hm)⟩
/-- what is left stands across every column -/
theorem rest_across {rows : Nat} {cols : List (List Rat)} {y : List Rat} (h5 : rows ≤ 5) (hc : ∀ c ∈ cols, c.length = rows) (hs : ∀ c ∈ cols, ∀ q ∈ c, Sz q 3) (hy : y.length = rows) (hys : ∀ q ∈ y, Sz q 3) : ∀ c ∈ cols, dotR (fRest cols y) c = 0 := fun c hcm => by
  obtain ⟨k, hk, rfl⟩ := List.getElem_of_mem hcm
  have ok := orth_ok h5 hc hs cols.length (Nat.le_refl _)
  obtain ⟨a, b⟩ := orth_all h5 hc hs cols.length (Nat.le_refl _)
  have e : cols[k] = cols.getD k [] := by rw [List.getD_eq_getElem?_getD, List.getElem?_eq_getElem hk]; rfl
  rw [e]
  refine b.non k hk _ (fRest_len h5 hc hs hy hys) fun bb hb => ?_
  obtain ⟨t, ht, rfl⟩ := List.getElem_of_mem hb
  exact in_orth ok a h5 hy hys _ (Nat.le_refl _) t ht ht
theorem len0 {α : Type} {l : List α} (h : l.length = 0) : l = [] := List.length_eq_zero_iff.mp h
theorem len1 {α : Type} : ∀ {l : List α}, l.length = 1 → ∃ a, l = [a]
  | [a], _ => ⟨a, rfl⟩
theorem len2 {α : Type} : ∀ {l : List α}, l.length = 2 → ∃ a b, l = [a, b]
  | [a, b], _ => ⟨a, b, rfl⟩
theorem len3 {α : Type} : ∀ {l : List α}, l.length = 3 → ∃ a b c, l = [a, b, c]
  | l, h => by
    obtain ⟨a, t, rfl⟩ := List.exists_cons_of_length_eq_add_one h
    obtain ⟨b, u, rfl⟩ := List.exists_cons_of_length_eq_add_one (Nat.succ.inj h)
    obtain ⟨c, v, rfl⟩ := List.exists_cons_of_length_eq_add_one (Nat.succ.inj (Nat.succ.inj h))
    exact ⟨a, b, c, by rw [List.eq_nil_of_length_eq_zero (Nat.succ.inj (Nat.succ.inj (Nat.succ.inj h)))]⟩
theorem back_id {r : Nat} {shr : List (List Rat)} {steps bv pv : List Rat} (h3 : r ≤ 3) (hst : steps.length = r) (hb : bv.length = r) (hp : pv.length = r) (hl : ∀ k, k < r → (shr.getD k []).length = k) (he : ∀ k (h : k < r), pv[k] = bv[k] + dotR (shr.getD k []) (bv.take k)) :
    dotR (backOut shr r steps r) pv = dotR steps bv := by
  have hr : r = 0 ∨ r = 1 ∨ r = 2 ∨ r = 3 := by exact om_109 _ h3
  rcases hr with rfl | rfl | rfl | rfl
  · rw [len0 hst, len0 hb, len0 hp]; rfl
  · obtain ⟨x, rfl⟩ := len1 hst
    obtain ⟨p, rfl⟩ := len1 hb
    obtain ⟨u, rfl⟩ := len1 hp
    have e0 := he 0 (by exact om_110)
    simp [dotR] at e0
    simp only [backOut, backIn, dotR]
    grind
  · obtain ⟨x, y, rfl⟩ := len2 hst
    obtain ⟨p, q, rfl⟩ := len2 hb
    obtain ⟨u, v, rfl⟩ := len2 hp
    obtain ⟨a, ha⟩ := len1 (hl 1 (by exact om_111))
    have e0 := he 0 (by exact om_112)
    have e1 := he 1 (by exact om_111)
    have h0 := len0 (hl 0 (by exact om_112))
    simp only [ha, h0, List.getElem_cons_zero, List.getElem_cons_succ, List.take_succ_cons, List.take_zero, dotR] at e0 e1
    simp only [backOut, backIn, ha, List.set_cons_zero, List.set_cons_succ, List.getD_cons_zero, List.getD_cons_succ, dotR, Nat.sub_self, Nat.sub_zero, Nat.reduceSub, Nat.reduceAdd]
    grind
  · obtain ⟨x, y, z, rfl⟩ := len3 hst
    obtain ⟨p, q, s, rfl⟩ := len3 hb
    obtain ⟨u, v, w, rfl⟩ := len3 hp
    obtain ⟨a, ha⟩ := len1 (hl 1 (by exact om_113))
    obtain ⟨b, c, hbc⟩ := len2 (hl 2 (by exact om_114))
    have e0 := he 0 (by exact om_115)
    have e1 := he 1 (by exact om_113)
    have e2 := he 2 (by exact om_114)
    have h0 := len0 (hl 0 (by exact om_115))
    simp only [ha, h0, hbc, List.getElem_cons_zero, List.getElem_cons_succ, List.take_succ_cons, List.take_zero, dotR] at e0 e1 e2
    simp only [backOut, backIn, ha, hbc, List.set_cons_zero, List.set_cons_succ, List.getD_cons_zero, List.getD_cons_succ, dotR, Nat.sub_self, Nat.sub_zero, Nat.reduceSub, Nat.reduceAdd]
    grind
noncomputable def sumC : List (Option Rat) → List Rat → Rat
  | some v :: cs, x :: xs => v * x + sumC cs xs
  | none :: cs, _ :: xs => sumC cs xs
  | _, _ => 0
theorem sumC_set {v : Rat} : ∀ {cs : List (Option Rat)} {xs : List Rat} {p : Nat}, cs.length = xs.length → p < cs.length → cs.getD p none = none → sumC (cs.set p (some v)) xs = sumC cs xs + v * xs.getD p 0
  | none :: cs, x :: xs, 0, _, _, _ => by simp [sumC]; grind
  | some u :: cs, x :: xs, 0, _, _, h => by simp at h
  | none :: cs, x :: xs, p + 1, h1, h2, h3 => by
    have ih := sumC_set (v := v) (cs := cs) (xs := xs) (p := p) (by simpa using h1) (by simpa using h2) (by simpa using h3)
    simpa [sumC] using ih
  | some u :: cs, x :: xs, p + 1, h1, h2, h3 => by
    have ih := sumC_set (v := v) (cs := cs) (xs := xs) (p := p) (by simpa using h1) (by simpa using h2) (by simpa using h3)
    simp only [List.set_cons_succ, sumC, ih, List.getD_cons_succ]; grind
  | [], _, _, _, h, _ => by simp at h
  | _ :: _, [], _, h, _, _ => by simp at h
theorem sumC_none : ∀ (w : Nat) (xs : List Rat), sumC (List.replicate w none) xs = 0
  | 0, _ => by simp [sumC]
  | w + 1, [] => by simp [List.replicate, sumC]
  | w + 1, _ :: xs => by simpa [List.replicate, sumC] using sumC_none w xs
theorem getD_set {α : Type} {l : List α} {p q : Nat} {v d : α} (h : p ≠ q) : (l.set p v).getD q d = l.getD q d := by
  rw [List.getD_eq_getElem?_getD, List.getD_eq_getElem?_getD, List.getElem?_set_ne h]
section
variable {piv : List Nat} {vals : List Rat} {w : Nat}
theorem place_none (hinc : piv.Pairwise (· < ·)) : ∀ i, i ≤ piv.length → ∀ p, p ∉ piv.take i → (placeR piv vals w i).getD p none = none
  | 0, _, p, _ => by
    show (List.replicate w none).getD p none = none
    rw [List.getD_eq_getElem?_getD, List.getElem?_replicate]; split <;> rfl
  | i + 1, hi, p, hp => by
    have hi' : i < piv.length := hi
    rw [take_succ' _ _ hi'] at hp
    have h1 : p ∉ piv.take i := fun h => hp (List.mem_append_left _ h)
    have h2 : piv[i] ≠ p := fun h => hp (List.mem_append_right _ (by rw [h]; exact .head _))
    rw [placeR, getD_get hi', getD_set h2]
    exact place_none hinc i (by exact om_23 _ _ hi') p h1
theorem not_before (hinc : piv.Pairwise (· < ·)) {i : Nat} (hi : i < piv.length) : piv[i] ∉ piv.take i := fun h => by
  obtain ⟨j, hj, e⟩ := List.getElem_of_mem h
  rw [List.length_take] at hj
  rw [List.getElem_take] at e
  have := (List.pairwise_iff_getElem.mp hinc) j i (Nat.lt_of_lt_of_le hj (Nat.min_le_right _ _)) hi (Nat.lt_of_lt_of_le hj (Nat.min_le_left _ _))
  exact absurd e (Nat.ne_of_lt this)
theorem place_sum (hinc : piv.Pairwise (· < ·)) (hlt : ∀ p ∈ piv, p < w) (hv : vals.length = piv.length) {xs : List Rat} (hx : xs.length = w) : ∀ i, i ≤ piv.length → sumC (placeR piv vals w i) xs = dotR (vals.take i) ((piv.map fun p => xs.getD p 0).take i)
  | 0, _ => by simpa [placeR, dotR] using sumC_none w xs
  | i + 1, hi => by
    have hi' : i < piv.length := hi
    have ih := place_sum hinc hlt hv hx i (by exact om_23 _ _ hi')
    have lp := placeR_length piv vals w i
    rw [placeR, getD_get hi', sumC_set (by exact om_106 _ _ _ hx lp) (by rw [lp]; exact hlt _ (List.getElem_mem _)) (place_none hinc i (by exact om_23 _ _ hi') _ (not_before hinc hi')), ih,
      take_succ' vals i (by exact om_24 _ _ _ hv hi'), take_succ' (piv.map _) i (by simpa using hi'), dotR_snoc _ _ _ _ (by rw [List.length_take, List.length_take, List.length_map, hv])]
    rw [getD_get (by exact om_24 _ _ _ hv hi' : i < vals.length), List.getElem_map]
theorem place_count (hinc : piv.Pairwise (· < ·)) (hlt : ∀ p ∈ piv, p < w) : ∀ i, i ≤ piv.length → (placeR piv vals w i).countP (·.isSome) = i
  | 0, _ => by
    show (List.replicate w none).countP _ = 0
    rw [List.countP_eq_zero]; intro a ha; rw [(List.mem_replicate.mp ha).2]; simp
  | i + 1, hi => by
    have hi' : i < piv.length := hi
    have ih := place_count hinc hlt i (by exact om_23 _ _ hi')
    have lp := placeR_length piv vals w i
    have hp := hlt _ (List.getElem_mem hi')
    have hn := place_none (vals := vals) (w := w) hinc i (by exact om_23 _ _ hi') _ (not_before hinc hi')
    rw [getD_get (by exact om_24 _ _ _ lp hp)] at hn
    rw [placeR, getD_get hi', List.countP_set (by exact om_24 _ _ _ lp hp), ih, hn]
    simp
end
section
variable {rows : Nat} {cols : List (List Rat)} {y : List Rat}
theorem rank_le (h5 : rows ≤ 5) (hc : ∀ c ∈ cols, c.length = rows) (hs : ∀ c ∈ cols, ∀ q ∈ c, Sz q 3) : fRank cols ≤ cols.length := (orth_ok h5 hc hs cols.length (Nat.le_refl _)).le
theorem subR_getD : ∀ (u v : List Rat) (r : Nat), u.length = v.length → (subR u v).getD r 0 = u.getD r 0 - v.getD r 0
  | [], [], r, _ => by simp [subR]; grind
  | a :: u, b :: v, 0, _ => by simp [subR]
  | a :: u, b :: v, r + 1, h => by simpa [subR] using subR_getD u v r (by simpa using h)
  | [], _ :: _, _, h => by simp at h
  | _ :: _, [], _, h => by simp at h
theorem fit_sum (h5 : rows ≤ 5) (h3 : cols.length ≤ 3) (hc : ∀ c ∈ cols, c.length = rows) (hs : ∀ c ∈ cols, ∀ q ∈ c, Sz q 3) (hy : y.length = rows) (hys : ∀ q ∈ y, Sz q 3) (r : Nat) :
    sumC (fCoef cols y) (cols.map fun c => c.getD r 0) = (subR y (fRest cols y)).getD r 0 := by
  have ok := orth_ok h5 hc hs cols.length (Nat.le_refl _)
  obtain ⟨orth, dec⟩ := orth_all h5 hc hs cols.length (Nat.le_refl _)
  have hr := fRest_len h5 hc hs hy hys
  obtain ⟨a1, a2, a3, a4⟩ := in_ok ok h5 hy hys (fO cols).bas.length (Nat.le_refl _)
  have l2 : (fO cols).piv.length = fRank cols := ok.l2
  have l3 : (fO cols).shr.length = fRank cols := ok.l3
  have hle := rank_le h5 hc hs
  have hv : (fVals cols y).length = fRank cols := by unfold fVals; rw [backOut_length]; exact a3
  have hps := place_sum (vals := fVals cols y) dec.inc ok.plt (by rw [hv]; exact l2.symm) (xs := cols.map fun c => c.getD r 0) (by simp) (fRank cols) (Nat.le_of_eq l2.symm)
  rw [List.take_of_length_le (by exact om_39 _ _ hv), List.take_of_length_le (by simp; exact Nat.le_of_eq l2)] at hps
  have e1 : sumC (fCoef cols y) (cols.map fun c => c.getD r 0) = dotR (fVals cols y) ((fO cols).piv.map fun p => (cols.map fun c => c.getD r 0).getD p 0) := hps
  rw [e1]
  have lin := in_lin (lin_get r) ok h5 hy hys (fO cols).bas.length (Nat.le_refl _)
  have lin' : y.getD r 0 = (fRest cols y).getD r 0 + dotR (inR (fO cols) y (fO cols).bas.length).2 ((fO cols).bas.map fun l => l.getD r 0) := by
    have h := lin
    rw [show (orthR cols cols.length) = fO cols from rfl, List.take_length] at h
    exact h
  have hb := back_id (r := fRank cols) (shr := (fO cols).shr) (steps := (inR (fO cols) y (fRank cols)).2) (bv := (fO cols).bas.map fun l => l.getD r 0) (pv := (fO cols).piv.map fun p => (cols.map fun c => c.getD r 0).getD p 0) (by exact om_28 _ _ h3 hle) a3 (by simp [fRank]) (by simpa using l2)
    (shr_len ok) (fun k hk => by
      have hk' : k < (fO cols).piv.length := by exact om_24 _ _ _ l2 hk
      have hd := dec.piv k hk _ (lin_get (rows := rows) r)
      have hp := ok.plt _ (List.getElem_mem hk')
      rw [List.getElem_map, List.getElem_map, ← List.map_take]
      have e2 : (cols.map fun c => c.getD r 0).getD ((fO cols).piv[k]) 0 = (cols.getD ((fO cols).piv.getD k 0) []).getD r 0 := by
        rw [getD_get hk', getD_get (by simpa using hp), getD_get hp, List.getElem_map]
      rw [e2]
      exact hd)
  have hb' : dotR (fVals cols y) ((fO cols).piv.map fun p => (cols.map fun c => c.getD r 0).getD p 0) = dotR (inR (fO cols) y (fRank cols)).2 ((fO cols).bas.map fun l => l.getD r 0) := hb
  rw [hb', subR_getD _ _ _ (by exact om_33 _ _ _ hy hr), lin']
  show _ = (_ + dotR (inR (fO cols) y (fRank cols)).2 _) - _
  grind
theorem fit_parts (h5 : rows ≤ 5) (hc : ∀ c ∈ cols, c.length = rows) (hs : ∀ c ∈ cols, ∀ q ∈ c, Sz q 3) (hy : y.length = rows) (hys : ∀ q ∈ y, Sz q 3) (r : Nat) : (subR y (fRest cols y)).getD r 0 + (fRest cols y).getD r 0 = y.getD r 0 := by
  rw [subR_getD _ _ _ (by rw [fRest_len h5 hc hs hy hys]; exact hy)]; grind
theorem fit_count (h5 : rows ≤ 5) (hc : ∀ c ∈ cols, c.length = rows) (hs : ∀ c ∈ cols, ∀ q ∈ c, Sz q 3) : (fCoef cols y).countP (·.isSome) = fRank cols := by
  have ok := orth_ok h5 hc hs cols.length (Nat.le_refl _)
  obtain ⟨orth, dec⟩ := orth_all h5 hc hs cols.length (Nat.le_refl _)
  exact place_count dec.inc ok.plt _ (Nat.le_of_eq ok.l2.symm)
theorem less_double : ∀ (c : List Rat), lessR (c.map fun x => 2 * x) 2 c = List.replicate c.length 0
  | [] => rfl
  | a :: c => by simp only [List.map_cons, lessR, less_double c, List.length_cons, List.replicate_succ]; congr 1; grind
theorem dot_double : ∀ (c d : List Rat), dotR (c.map fun x => 2 * x) d = 2 * dotR c d
  | [], _ => by simp [dotR]
  | _ :: _, [] => by simp [dotR]
  | a :: c, b :: d => by simp only [List.map_cons, dotR, dot_double c d]; grind
theorem dot_zeros : ∀ n, dotR (List.replicate n 0) (List.replicate n 0) = 0
  | 0 => rfl
  | n + 1 => by simp only [List.replicate_succ, dotR, dot_zeros n]; grind
theorem piv_later : ∀ i, 2 ≤ i → 1 ∉ (orthR cols 2).piv → 1 ∉ (orthR cols i).piv
  | 0, h, _ => absurd h (by decide)
  | 1, h, _ => absurd h (by decide)
  | i + 2, _, h => by
    by_cases e : i = 0
    · subst e; exact h
    · have ih := piv_later (i + 1) (by exact om_116 _ e) h
      show 1 ∉ (outStep (orthR cols (i + 1)) (i + 1) (cols.getD (i + 1) [])).piv
      unfold outStep
      split
      · exact ih
      · intro hm
        rcases List.mem_append.mp hm with hm | hm
        · exact ih hm
        · have := List.mem_singleton.mp hm; omega
theorem fit_double {c : List Rat} {cs : List (List Rat)} (h5 : rows ≤ 5) (e : cols = c :: (c.map fun x => 2 * x) :: cs) (hc : ∀ c ∈ cols, c.length = rows) (hs : ∀ c ∈ cols, ∀ q ∈ c, Sz q 3) : (fCoef cols y).getD 1 none = none := by
  have ok := orth_ok h5 hc hs cols.length (Nat.le_refl _)
  obtain ⟨orth, dec⟩ := orth_all h5 hc hs cols.length (Nat.le_refl _)
  refine place_none dec.inc _ (Nat.le_of_eq ok.l2.symm) 1 fun hm => ?_
  have hm' : 1 ∈ (orthR cols cols.length).piv := List.mem_of_mem_take hm
  refine piv_later cols.length (by rw [e]; simp) ?_ hm'
  have e0 : inR ⟨[], [], [], []⟩ c 0 = (c, []) := inR_zero _ _
  have s1 : orthR cols 1 = outStep ⟨[], [], [], []⟩ 0 c := by show outStep _ _ _ = _; rw [e]; rfl
  have s2 : orthR cols 2 = outStep (orthR cols 1) 1 (c.map fun x => 2 * x) := by show outStep _ _ _ = _; rw [e]; rfl
  by_cases h0 : dotR c c = 0
  · have o1 : orthR cols 1 = ⟨[], [], [], []⟩ := by
      rw [s1]; unfold outStep; rw [if_pos (by show dotR (inR _ c 0).1 (inR _ c 0).1 = 0; rw [e0]; exact h0)]
    have o2 : orthR cols 2 = ⟨[], [], [], []⟩ := by
      rw [s2, o1]; unfold outStep
      rw [if_pos]
      show dotR (inR _ _ 0).1 (inR _ _ 0).1 = 0
      rw [inR_zero]
      show dotR (c.map fun x => 2 * x) (c.map fun x => 2 * x) = 0
      rw [dot_double, dotR_comm, dot_double, h0]; grind
    rw [o2]; exact List.not_mem_nil
  · have o1 : orthR cols 1 = ⟨[0], [c], [dotR c c], [[]]⟩ := by
      rw [s1]; unfold outStep; rw [if_neg (by show ¬ dotR (inR _ c 0).1 (inR _ c 0).1 = 0; rw [e0]; exact h0)]
      show OSt.mk _ [(inR _ c 0).1] [dotR (inR _ c 0).1 (inR _ c 0).1] [(inR _ c 0).2] = _
      rw [e0]; rfl
    have i1 : inR (⟨[0], [c], [dotR c c], [[]]⟩ : OSt) (c.map fun x => 2 * x) 1 = (List.replicate c.length 0, [2]) := by
      rw [inR_succ _ _ 0 (by simp) (by simp), inR_zero]
      unfold inStep
      dsimp only [List.getElem_cons_zero]
      have : dotR (c.map fun x => 2 * x) c / dotR c c = 2 := by
        rw [dot_double, Rat.mul_div_cancel h0]
      rw [this, less_double]; rfl
    have o2 : orthR cols 2 = ⟨[0], [c], [dotR c c], [[]]⟩ := by
      rw [s2, o1]; unfold outStep
      rw [if_pos]
      show dotR (inR _ _ 1).1 (inR _ _ 1).1 = 0
      rw [i1]; exact dot_zeros _
    rw [o2]; simp
end
/-- the law's frame -/
noncomputable def lawScope : Scope := match lawDef with
  | some (.FunctionDef _ _ _ _ _ _ sc _ _ _) => sc
  | _ => { kind := .function, names := [], isGenerator := false, isCoroutine := false, more := [] }
noncomputable abbrev lawEnv (L : Addr) : Env := envOfC (Str.ofString "law") lawScope L 521 (Value.ref 520)
noncomputable abbrev lawA (L : Addr) : Around := callerA.deeper (lawEnv L)
noncomputable abbrev lawCells (L : Addr) : List (Str × Addr) := cellsFrom (L + 1) lawScope.names []
theorem lawCells_eq (L : Addr) : lawCells L = [(Str.ofString "words", L + 1 + 1 + 1 + 1 + 1 + 1 + 1 + 1 + 1 + 1), (Str.ofString "lost", L + 1 + 1 + 1 + 1 + 1 + 1 + 1 + 1 + 1), (Str.ofString "row", L + 1 + 1 + 1 + 1 + 1 + 1 + 1 + 1), (Str.ofString "exact", L + 1 + 1 + 1 + 1 + 1 + 1 + 1), (Str.ofString "residuals", L + 1 + 1 + 1 + 1 + 1 + 1), (Str.ofString "coefficients", L + 1 + 1 + 1 + 1 + 1), (Str.ofString "told", L + 1 + 1 + 1 + 1), (Str.ofString "column", L + 1 + 1 + 1), (Str.ofString "kind", L + 1 + 1), (Str.ofString "source", L + 1)] := rfl
theorem pairwise_lt {l : List (Str × Addr)} (h : l.Pairwise fun x y => y.2 < x.2) : l.Pairwise fun x y => x.2 ≠ y.2 := h.imp fun e => Nat.ne_of_gt e
theorem lawCells_apart (L : Addr) : (lawCells L).Pairwise fun x y => x.2 ≠ y.2 := by
  refine pairwise_lt ?_
  rw [lawCells_eq]
  simp only [List.pairwise_cons, List.mem_cons, List.not_mem_nil, or_false, forall_eq_or_imp, forall_eq, List.Pairwise.nil, and_true]
  repeat' constructor
  all_goals (first | (intro y hy; cases hy) | (show (_ : Nat) < _; omega) | skip)
theorem lawCells_names (L : Addr) : ((lawCells L).map (·.1)).Nodup := by rw [lawCells_eq]; exact (by decide +kernel : [Str.ofString "words", Str.ofString "lost", Str.ofString "row", Str.ofString "exact", Str.ofString "residuals", Str.ofString "coefficients", Str.ofString "told", Str.ofString "column", Str.ofString "kind", Str.ofString "source"].Nodup)
inductive ZAt (L src inn : Addr) (cv : Str → Option Value) (Z : Led) : Prop
  | mk (X : Led) (co : Str → Obj) (h1_ : Z = X ++ cellLed (lawCells L) co) (h2_ : SrcAt src inn X) (h3_ : (∀ q ∈ lawCells L, (co q.1).data = .cell (cv q.1))) (h4_ : OffA X ((lawCells L).map (·.2))) : ZAt L src inn cv Z
noncomputable def setN (cv : Str → Option Value) (x : Str) (v : Value) : Str → Option Value := fun y => if y = x then some v else cv y
theorem cellLed_adr (cs : List (Str × Addr)) (co : Str → Obj) : (cellLed cs co).map (·.1) = cs.map (·.2) := by simp [cellLed, List.map_map, Function.comp_def]
theorem turnZ {h₀ h : Heap} {L : Addr} {X' P Z n : Led} (N : News h₀ L h (X' ++ ((P ++ Z) ++ n))) (o : Off X' ((P ++ Z) ++ n)) (O : Off (P ++ Z) n) (oP : Off P Z) : News h₀ L h (((X' ++ P) ++ Z) ++ n) ∧ Off ((X' ++ P) ++ Z) n ∧ Off (X' ++ P) Z ∧ Off X' P := by
  refine ⟨by simpa only [List.append_assoc] using N, ?_, o.ll.rr.appL oP, o.ll.ll⟩
  rw [List.append_assoc]; exact o.rr.appL O
theorem turnZ_out {h₀ h : Heap} {L : Addr} {X' P Z n : Led} (N : News h₀ L h (((X' ++ P) ++ Z) ++ n)) (O : Off ((X' ++ P) ++ Z) n) (oP : Off (X' ++ P) Z) (o : Off X' P) : News h₀ L h (X' ++ ((P ++ Z) ++ n)) ∧ Off X' ((P ++ Z) ++ n) ∧ Off (P ++ Z) n ∧ Off P Z := by
  refine ⟨by simpa only [List.append_assoc] using N, (o.mk oP.l).mk fun p hp => O p (List.mem_append_left _ (List.mem_append_left _ hp)), ?_, oP.r⟩
  rw [List.append_assoc] at O
  exact O.r
section
variable {w : World} {S : Store} {s : Shared} {A : Around} {Q E : Value → Shared → Prop} {h₀ : Heap} {L src inn : Addr} {m cv : Str → Option Value} {P Z n : Led}
/-- a draw -/
theorem takeZ {mo : Int} {tm : Tok} (G : Gr w S h₀) (F : Fr h₀ L s.heap m) (N : News h₀ L s.heap ((P ++ Z) ++ n)) (O : Off (P ++ Z) n) (oP : Off P Z) (hZ : ZAt L src inn cv Z) (hne : src ≠ inn)
    (C : ∀ (S : Store) (src inn : Addr) (X0 : Led) (most : Nat) (tm : Tok), SrcAt src inn X0 → src ≠ inn → 0 < most → most ≤ 64 → MutU w 2 509 [.ref src, .int (most : Nat) tm] S X0 (fun X' tl r => SrcAt src inn X' ∧ ∃ (k : Nat) (t : Tok), r = .int (k : Nat) t ∧ k < most))
    (B : Below callerA h₀ [] h₀) (hm : 0 < mo) (hm2 : mo ≤ 64)
    (k : ∀ (k : Nat) t Z' tl h' tk', (k : Int) < mo → Fr h₀ L h' m → News h₀ L h' ((P ++ Z') ++ (n ++ tl)) → Off (P ++ Z') (n ++ tl) → Off P Z' → ZAt L src inn cv Z' → Q (.int (k : Nat) t) { s with heap := h', toks := tk' }) :
    wpAny (model PySem.Challenge.rw_pq1326_01.prog w) (lawA L) (call (.ref 509) [.ref src, .int mo tm]) Q E s := by
  obtain ⟨X, co, rfl, hS, hc, OA⟩ := hZ
  have e : mo = ((mo.toNat : Nat) : Int) := (Int.toNat_of_nonneg (Int.le_of_lt hm)).symm
  rw [e]
  have oPX : Off P X := oP.ll
  have A1 : OffA (P ++ X) ((cellLed (lawCells L) co).map (·.1)) := (offA_of oP.rr).app (by rw [cellLed_adr]; exact OA)
  refine MutU.useM (P := P) (X := X) (Y := cellLed (lawCells L) co) (C _ src inn X mo.toNat tm hS hne (by exact om_187 _ hm) (by exact om_188 _ hm2)) G F (by simpa only [List.append_assoc] using N) (by rw [List.append_assoc P X]; exact O) A1 rfl oPX rfl B rfl rfl rfl (Nat.le_of_ble_eq_true rfl) (Nat.le_of_ble_eq_true rfl) ?_
  rintro r X' tl h' tk' F' N' O' A' oP' o' ⟨hS', k', t', rfl, hk⟩
  refine k k' t' (X' ++ cellLed (lawCells L) co) tl h' tk' (by exact om_189 _ _ hk) F' (by simpa only [List.append_assoc] using N') (by rw [← List.append_assoc]; exact O') (oP'.mk oP.rr) ⟨X', co, rfl, hS', hc, ?_⟩
  intro p hp a ha
  exact A' p (List.mem_append_right _ hp) a (by rw [cellLed_adr]; exact ha)
/-- a cell's name -/
theorem readZ {news : Led} {x : Str} {pos : Pos} {v : Value} {c : Addr} (N : News h₀ L s.heap news) (hZ : ZAt L src inn cv Z) (sub : ∀ p ∈ Z, p ∈ news) (hc : (lawCells L).lookup x = some c) (hv : cv x = some v) (h : Q v s)
    (hx : (lawEnv L).kindOf x = some .cell) (hd : (x == ("__debug__" : Str)) = false) : wpAny (model PySem.Challenge.rw_pq1326_01.prog w) A (eval (.Name x pos) (lawEnv L)) Q E s := by
  obtain ⟨X, co, rfl, hS, hcd, OA⟩ := hZ
  have hm := mem_of_lookup hc
  exact nameX_C N hc (sub _ (List.mem_append_right _ (List.mem_map.mpr ⟨(x, c), hm, rfl⟩))) (by rw [hcd _ hm, hv]) h rfl hx hd
/-- a cell's name within a comprehension -/
theorem readZC {news : Led} {env : Env} {scope : Scope} {cl : List (Str × Addr)} {C : Addr} {x : Str} {pos : Pos} {v : Value} {c : Addr} (N : News h₀ L s.heap news) (hZ : ZAt L src inn cv Z) (sub : ∀ p ∈ Z, p ∈ news) (hc : cl.lookup x = some c) (hl : (lawCells L).lookup x = some c) (hv : cv x = some v) (h : Q v s)
    (hk : (compEnvC scope cl C env).scope.kind = .function) (hx : (compEnvC scope cl C env).kindOf x = some .cell) (hd : (x == ("__debug__" : Str)) = false) : wpAny (model PySem.Challenge.rw_pq1326_01.prog w) A (eval (.Name x pos) (compEnvC scope cl C env)) Q E s := by
  obtain ⟨X, co, rfl, hS, hcd, OA⟩ := hZ
  have hm := mem_of_lookup hl
  exact cn_cell N hc (sub _ (List.mem_append_right _ (List.mem_map.mpr ⟨(x, c), hm, rfl⟩))) (by rw [hcd _ hm, hv]) h hk hx hd
/-- a cell's name stored -/
theorem storeZ {x : Str} {v : Value} {c : Addr} {Q : Unit → Shared → Prop} (F : Fr h₀ L s.heap m) (N : News h₀ L s.heap ((P ++ Z) ++ n)) (O : Off (P ++ Z) n) (oP : Off P Z) (hZ : ZAt L src inn cv Z) (hc : (lawCells L).lookup x = some c)
    (h : ∀ h' Z', Fr h₀ L h' m → News h₀ L h' ((P ++ Z') ++ n) → Off (P ++ Z') n → Off P Z' → ZAt L src inn (setN cv x v) Z' → Q () { s with heap := h' })
    (hx : (lawEnv L).kindOf x = some .cell) : wpAny (model PySem.Challenge.rw_pq1326_01.prog w) A (storeName (lawEnv L) x v) Q E s := by
  obtain ⟨X, co, rfl, hS, hcd, OA⟩ := hZ
  have hm := mem_of_lookup hc
  obtain ⟨p1, p2, e⟩ := List.append_of_mem hm
  have hap := lawCells_apart L
  have hnn := lawCells_names L
  have eL : cellLed (lawCells L) co = cellLed p1 co ++ (c, co x) :: cellLed p2 co := by rw [e]; simp [cellLed]
  have h1 : ∀ p ∈ (P ++ X) ++ cellLed p1 co, p.1 ≠ c := fun p hp => by
    rcases List.mem_append.mp hp with hp | hp
    · rcases List.mem_append.mp hp with hp | hp
      · exact oP p hp (c, co x) (List.mem_append_right _ (by rw [eL]; exact List.mem_append_right _ (.head _)))
      · exact OA p hp c (List.mem_map.mpr ⟨_, hm, rfl⟩)
    · obtain ⟨q, hq, rfl⟩ := List.mem_map.mp hp
      rw [e, List.pairwise_append] at hap
      exact hap.2.2 q hq _ (.head _)
  have h2 : ∀ p ∈ cellLed p2 co, p.1 ≠ c := fun p hp => by
    obtain ⟨q, hq, rfl⟩ := List.mem_map.mp hp
    rw [e, List.pairwise_append] at hap
    exact Ne.symm ((List.pairwise_cons.mp hap.2.1).1 q hq)
  have n1 : ∀ q ∈ p1, q.1 ≠ x := fun q hq => by
    rw [e, List.map_append, List.nodup_append] at hnn
    exact hnn.2.2 _ (List.mem_map_of_mem hq) _ (.head _)
  have n2 : ∀ q ∈ p2, q.1 ≠ x := fun q hq => by
    rw [e, List.map_append, List.nodup_append] at hnn
    have := (List.nodup_cons.mp hnn.2.1).1
    exact fun e' => this (List.mem_map.mpr ⟨q, hq, e'⟩)
  refine cell_st (pre := (P ++ X) ++ cellLed p1 co) (post := cellLed p2 co) (cn := Str.ofString "law") (cs := lawScope) (cl := lawCells L) F (by rw [eL] at N; simpa only [List.append_assoc, List.cons_append] using N) (by rw [eL] at O; simpa only [List.append_assoc, List.cons_append] using O) hc (hcd _ hm) h1 h2 (fun h' o' F' N' O' hd' => ?_) rfl hx
  have eN : (P ++ (X ++ cellLed (lawCells L) (fun y => if y = x then o' else co y))) = ((P ++ X) ++ cellLed p1 co) ++ (c, o') :: cellLed p2 co := by
    have a1 : cellLed p1 (fun y => if y = x then o' else co y) = cellLed p1 co := List.map_congr_left fun q hq => by simp [n1 q hq]
    have a2 : cellLed p2 (fun y => if y = x then o' else co y) = cellLed p2 co := List.map_congr_left fun q hq => by simp [n2 q hq]
    rw [e]
    simp only [cellLed, List.map_append, List.map_cons, if_true] at a1 a2 ⊢
    rw [a1, a2]
    simp only [List.append_assoc]
  refine h h' (X ++ cellLed (lawCells L) (fun y => if y = x then o' else co y)) F' (by rw [eN]; exact N') (by rw [eN]; exact O') ?_ ⟨X, _, rfl, hS, fun q hq => ?_, OA⟩
  · refine oP.ll.mk ?_
    refine of_offA ?_
    rw [cellLed_adr, ← cellLed_adr _ co]
    exact offA_of oP.rr
  · show Obj.data (if q.1 = x then o' else co q.1) = _
    unfold setN
    by_cases hqx : q.1 = x
    · rw [if_pos hqx, if_pos hqx]; exact hd'
    · rw [if_neg hqx, if_neg hqx]; exact hcd q hq
end

noncomputable def lawSt (k : Nat) : PySem.Stmt := lawBody.getD k (.Pass ⟨0, 0, 0, 0⟩)
theorem law_list : lawBody = [lawSt 0, lawSt 1, lawSt 2, lawSt 3, lawSt 4, lawSt 5, lawSt 6, lawSt 7, lawSt 8, lawSt 9, lawSt 10, lawSt 11, lawSt 12, lawSt 13, lawSt 14, lawSt 15, lawSt 16, lawSt 17, lawSt 18, lawSt 19, lawSt 20, lawSt 21, lawSt 22, lawSt 23, lawSt 24, lawSt 25, lawSt 26, lawSt 27, lawSt 28, lawSt 29, lawSt 30, lawSt 31] := rfl
theorem itemAny {prog : Program} {w : World} {A : Around} {E : Value → Shared → Prop} {s : Shared} {value slice : Expr} {a : Addr} {vs : List Value} {kk k : Nat} {t : Tok} {Q : Value → Shared → Prop} (hl : s.heap.get? a = some (lisO vs kk)) (hk : k < vs.length) (hz : vs.length ≤ 64)
    (h : ∀ v, vs[k]? = some v → Q v s) (hs : subscripted slice false (.ref a) (.int (k : Nat) t) = operate [.ref a, .int (k : Nat) t] (getItem (.ref a) (.int (k : Nat) t)) := by with_unfolding_all rfl) :
    wpAny (model prog w) A (subscriptTail value slice (.ref a) (.int (k : Nat) t)) Q E s :=
  itemL hl (by exact om_44 _) (by exact om_190 _ _ hk hz) (by rw [Int.toNat_natCast]; exact List.getElem?_eq_getElem hk) (h _ (List.getElem?_eq_getElem hk)) hs
theorem upd_self {m : Str → Option Value} : ∀ {l : List (Str × Option Value)}, AllEq m l → upd m l = m := by
  intro l h
  funext y
  induction l with
  | nil => rfl
  | cons p r ih =>
    obtain ⟨x, v⟩ := p
    show (if y = x then v else upd m r y) = m y
    by_cases e : y = x
    · rw [if_pos e, e]; exact h.1.symm
    · rw [if_neg e]; exact ih h.2
/-- where the law stands between two statements -/
structure LSt (h₀ : Heap) (L src inn : Addr) (ml cl : List (Str × Option Value)) (P n : Led) (h : Heap) : Prop where
  ex : ∃ m cv Z, Fr h₀ L h m ∧ AllEq m ml ∧ AllEq cv cl ∧ ZAt L src inn cv Z ∧ News h₀ L h ((P ++ Z) ++ n) ∧ Off (P ++ Z) n ∧ Off P Z
theorem LSt.open {h₀ h : Heap} {L src inn : Addr} {ml cl : List (Str × Option Value)} {P n : Led} (x : LSt h₀ L src inn ml cl P n h) :
    ∃ m cv Z, Fr h₀ L h (upd m ml) ∧ ZAt L src inn (upd cv cl) Z ∧ News h₀ L h ((P ++ Z) ++ n) ∧ Off (P ++ Z) n ∧ Off P Z := by
  obtain ⟨m, cv, Z, F, e1, e2, hZ, N, O, oP⟩ := x.ex
  exact ⟨m, cv, Z, (upd_self e1).symm ▸ F, (upd_self e2).symm ▸ hZ, N, O, oP⟩
theorem LSt.mk' {h₀ h : Heap} {L src inn : Addr} {ml cl : List (Str × Option Value)} {P Z n : Led} {m cv : Str → Option Value} (F : Fr h₀ L h m) (hZ : ZAt L src inn cv Z) (N : News h₀ L h ((P ++ Z) ++ n)) (O : Off (P ++ Z) n) (oP : Off P Z) (h1 : AllEq m ml) (h2 : AllEq cv cl) : LSt h₀ L src inn ml cl P n h :=
  ⟨⟨m, cv, Z, F, h1, h2, hZ, N, O, oP⟩⟩
section
variable {w : World} {S : Store} {s : Shared} {E : Value → Shared → Prop} {env : Env} {h₀ : Heap} {L src inn : Addr} {m cv : Str → Option Value} {P n0 : Led}
noncomputable abbrev prog0 : Program := PySem.Challenge.rw_pq1326_01.prog
/-- what a turn of a comprehension of the law's leaves -/
noncomputable def ZEnd (S : Store) (h₀ : Heap) (L : Addr) (s : Shared) (src inn : Addr) (cv m : Str → Option Value) (P n0 : Led) (R : Store → Prop) (s₂ : Shared) : Prop :=
  ∃ h' tk Z n, s₂ = { s with heap := h', toks := tk } ∧ Fr h₀ L h' m ∧ News h₀ L h' ((P ++ Z) ++ n) ∧ Off (P ++ Z) n ∧ Off P Z ∧ ZAt L src inn cv Z ∧ (∀ q ∈ n0, q ∈ n) ∧ R (Kn S n)
noncomputable abbrev CompTurnZ (w : World) (S : Store) (h₀ : Heap) (L : Addr) (s : Shared) (env : Env) (src inn : Addr) (cv m : Str → Option Value) (P n0 : Led) (x : Str) (ifs : List Expr) (elt : Expr) (scope : Scope) (cl : List (Str × Addr)) (R : Nat → List Value → Store → Prop) (i : Nat) (v : Value) : Prop :=
  ∀ (ys : List Value) (Z n P' : Led) (C : Addr) (oC : Obj) (m₂ : Str → Option Value) (h : Heap) (tk : Nat), R i ys (Kn S n) → (∀ q ∈ n0, q ∈ n) → (C, oC) ∈ P' → NsO oC m₂ → m₂ x = some v → Fr h₀ L h m → News h₀ L h ((P' ++ Z) ++ n) → Off (P' ++ Z) n → Off P' Z → ZAt L src inn cv Z →
    wpAny (model prog0 w) (lawA L) (testsOf ifs (compEnvC scope cl C env)) (fun ok s₃ => if ok = true then wpAny (model prog0 w) (lawA L) (eval elt (compEnvC scope cl C env)) (fun y s₄ => ZEnd S h₀ L s src inn cv m P' n (R (i + 1) (ys ++ [y])) s₄) (fun _ _ => False) s₃ else ZEnd S h₀ L s src inn cv m P' n (R (i + 1) ys) s₃) (fun _ _ => False) { s with heap := h, toks := tk }
inductive ZJ (S : Store) (L src inn : Addr) (cv : Str → Option Value) (P n0 : Led) (R : Nat → List Value → Store → Prop) (i : Nat) (ys : List Value) (news₁ : Led) : Prop
  | mk (Z n : _) (h1_ : news₁ = (P ++ Z) ++ n) (h2_ : Off (P ++ Z) n) (h3_ : Off P Z) (h4_ : ZAt L src inn cv Z) (h5_ : (∀ q ∈ n0, q ∈ n)) (h6_ : R i ys (Kn S n)) : ZJ S L src inn cv P n0 R i ys news₁
theorem cendZ {X lps n : Led} {J : Led → Prop} {R : Store → Prop} {s₂ : Shared} (hl : ∀ p ∈ lps, h₀.get? p.1 = some p.2 ∨ p ∈ n0) (hn : ∀ q ∈ n0, q ∈ n) (o : Off X P)
    (hJ : ∀ Z n, Off (P ++ Z) n → Off P Z → ZAt L src inn cv Z → (∀ q ∈ n0, q ∈ n) → R (Kn S n) → J ((P ++ Z) ++ n)) (h : ZEnd S h₀ L s src inn cv m (X ++ P) n R s₂) : CEnd h₀ L s m X lps J s₂ := by
  obtain ⟨h', tk, Z', n', rfl, F', N', O', oP', hZ', hsub, hR⟩ := h
  obtain ⟨a, b, c, d⟩ := turnZ_out N' O' oP' o
  exact ⟨h', tk, _, rfl, F', a, b, fun p hp => (hl p hp).imp id fun q => List.mem_append_right _ (hsub _ (hn _ q)), hJ _ _ c d hZ' (fun q hq => hsub _ (hn q hq)) hR⟩
theorem compTurn_of {lps : Led} {x : Str} {ifs : List Expr} {elt : Expr} {scope : Scope} {cl : List (Str × Addr)} {R : Nat → List Value → Store → Prop} {i : Nat} {v : Value} (hl : ∀ p ∈ lps, h₀.get? p.1 = some p.2 ∨ p ∈ n0)
    (T : CompTurnZ w S h₀ L s env src inn cv m P n0 x ifs elt scope cl R i v) : CompTurn prog0 w (lawA L) h₀ L s env m lps x ifs elt scope cl (ZJ S L src inn cv P n0 R) i v := by
  rintro ys news₁ X C oC m₂ h tk ⟨Z, n, rfl, O, oP, hZ, hn, hR⟩ hs o hC hns hv F N
  obtain ⟨a, b, c, d⟩ := turnZ N o O oP
  have T' := T ys Z n (X ++ P) C oC m₂ h tk hR hn (List.mem_append_left _ hC) hns hv F a b c hZ
  refine wpAny_mono T' (fun ok s₃ h₃ => ?_) fun _ _ x => x
  cases ok with
  | true =>
    simp only [if_true] at h₃ ⊢
    exact wpAny_mono h₃ (fun y s₄ h₄ => cendZ hl hn d (fun Z n a b c d e => ⟨Z, n, rfl, a, b, c, d, e⟩) h₄) fun _ _ x => x
  | false =>
    simp only [Bool.false_eq_true, if_false] at h₃ ⊢
    exact cendZ hl hn d (fun Z n a b c d e => ⟨Z, n, rfl, a, b, c, d, e⟩) h₃
/-- the list that a comprehension made goes to what stays -/
theorem made_in {h : Heap} {D : Addr} {o : Obj} {Y n : Led} (N : News h₀ L h ((D, o) :: (Y ++ n))) (O : Off Y n) (hD : ∀ p ∈ Y ++ n, p.1 ≠ D) : News h₀ L h (Y ++ ((D, o) :: n)) ∧ Off Y ((D, o) :: n) := led_push N O hD
noncomputable abbrev DoneZ (S : Store) (h₀ : Heap) (L : Addr) (s : Shared) (src inn : Addr) (cv : Str → Option Value) (m : Addr → Str → Option Value) (P n0 : Led) (R : List Value → Store → Prop) (Q : Addr → Shared → Prop) : Prop :=
  ∀ (D : Addr) (ys : List Value) (Z n : Led) (k : Nat) (h : Heap) (tk : Nat), R ys (Kn S n) → (∀ q ∈ n0, q ∈ n) → Fr h₀ L h (m D) → News h₀ L h ((P ++ Z) ++ ((D, lisO ys k) :: n)) → Off (P ++ Z) ((D, lisO ys k) :: n) → Off P Z → ZAt L src inn cv Z → Q D { s with heap := h, toks := tk }
theorem finZ_eval {A : Around} {R : Nat → List Value → Store → Prop} {N : Nat} {Q : Value → Shared → Prop} (done : DoneZ S h₀ L s src inn cv (fun _ => m) P n0 (R N) fun D => Q (.ref D)) :
    ∀ D C ys news' k h tk m', ZJ S L src inn cv P n0 R N ys news' → Fr h₀ L h m → News h₀ L h ((D, lisO ys k) :: news') → (∀ p ∈ news', p.1 ≠ D) → (∀ p ∈ news', p.1 ≠ C) → D ≠ C → C ≠ L → h₀.get? C = none → h.Ns C m' → compPost (model prog0 w) A E none Q (.ref D) C (.ok .next) { s with heap := h, toks := tk } :=
  fin_eval fun D ys news' k h tk hJ F N o => by
    obtain ⟨Z, n, rfl, O, oP, hZ, hn, hR⟩ := hJ
    obtain ⟨a, b⟩ := made_in N O o
    exact done D ys Z n k h tk hR hn F a b oP hZ
theorem finZ_assign {A : Around} {R : Nat → List Value → Store → Prop} {N : Nat} {y : Str} {py : Pos} {Q : Shared → Prop} (hL : env.locals = L) (hy : env.kindOf y = some .local) (hp : (env.scope.kind == .class || (env.scope.kind == .module && env.locals != env.globals)) = false)
    (done : DoneZ S h₀ L s src inn cv (fun D z => if z = y then some (.ref D) else m z) P n0 (R N) fun _ => Q) :
    ∀ D C ys news' k h tk m', ZJ S L src inn cv P n0 R N ys news' → Fr h₀ L h m → News h₀ L h ((D, lisO ys k) :: news') → (∀ p ∈ news', p.1 ≠ D) → (∀ p ∈ news', p.1 ≠ C) → D ≠ C → C ≠ L → h₀.get? C = none → h.Ns C m' → compPost (model prog0 w) A E (some (assign (.Name y py) env)) (fun _ s' => Q s') (.ref D) C (.ok .next) { s with heap := h, toks := tk } :=
  fin_assign2 hL hy hp fun D ys news' k h tk hJ F N o => by
    obtain ⟨Z, n, rfl, O, oP, hZ, hn, hR⟩ := hJ
    obtain ⟨a, b⟩ := made_in N O o
    exact done D ys Z n k h tk hR hn F a b oP hZ
end
section
variable {w : World} {S : Store} {s : Shared} {E : Value → Shared → Prop} {env : Env} {h₀ : Heap} {L src inn : Addr} {m cv : Str → Option Value} {P n0 : Led}
theorem compZ_range {elt iter : Expr} {x : Str} {px : Pos} {ifs : List Expr} {scope : Scope} {cl : List (Str × Addr)} {pos : Pos} {r : Addr} {N : Nat} {t₀ u₀ v₀ : Tok} {Z : Led} {use : Option (Value → Sem Unit)} {Q : Value → Shared → Prop} (hN : N ≤ 64)
    (R : Nat → List Value → Store → Prop) (hr : IsRange s.heap r 0 (N : Int) 1 t₀ u₀ v₀)
    (F : Fr h₀ L s.heap m) (Nw : News h₀ L s.heap ((P ++ Z) ++ n0)) (O : Off (P ++ Z) n0) (oP : Off P Z) (hZ : ZAt L src inn cv Z) (h0 : R 0 [] (Kn S n0))
    (hcell : ∀ y ∈ scope.names, y.2 ≠ .cell) (hkind : scope.kind = .function) (hx : scope.names.lookup x = some .local)
    (turn : ∀ (i : Nat) t, i < N → CompTurnZ w S h₀ L s env src inn cv m P n0 x ifs elt scope cl R i (.int (i : Int) t))
    (fin : ∀ D C ys news' k h tk m', ZJ S L src inn cv P n0 R N ys news' → Fr h₀ L h m → News h₀ L h ((D, lisO ys k) :: news') → (∀ p ∈ news', p.1 ≠ D) → (∀ p ∈ news', p.1 ≠ C) → D ≠ C → C ≠ L → h₀.get? C = none → h.Ns C m' → compPost (model prog0 w) (lawA L) E use Q (.ref D) C (.ok .next) { s with heap := h, toks := tk }) :
    wpAny (model prog0 w) (lawA L) (pyIter (.ref r)) (CompAt prog0 w (lawA L) E env (.ListComp elt [⟨.Name x px, iter, ifs, 0⟩] scope pos) scope cl use Q) E s := by
  refine comp_range N (ZJ S L src inn cv P n0 R) hr rfl (small_up (by exact om_198 _ hN)) size_up (Nat.le_trans hN (by decide)) F Nw ⟨Z, n0, rfl, O, oP, hZ, fun _ h => h, h0⟩ hcell hkind hx (fun i t hi => ?_) fin
  have e : (0 : Int) + (i : Int) * 1 = (i : Int) := by exact om_22 _
  rw [e]
  exact compTurn_of (fun _ h => nomatch h) (turn i t hi)
theorem compZ_list {elt iter : Expr} {x : Str} {px : Pos} {ifs : List Expr} {scope : Scope} {cl : List (Str × Addr)} {pos : Pos} {ax : Addr} {vs : List Value} {k₀ : Nat} {Z : Led} {use : Option (Value → Sem Unit)} {Q : Value → Shared → Prop} (G : Gr w S h₀) (hN : vs.length ≤ 64)
    (R : Nat → List Value → Store → Prop) (hs : Kn S n0 ax (lisO vs k₀))
    (F : Fr h₀ L s.heap m) (Nw : News h₀ L s.heap ((P ++ Z) ++ n0)) (O : Off (P ++ Z) n0) (oP : Off P Z) (hZ : ZAt L src inn cv Z) (h0 : R 0 [] (Kn S n0))
    (hcell : ∀ y ∈ scope.names, y.2 ≠ .cell) (hkind : scope.kind = .function) (hx : scope.names.lookup x = some .local)
    (turn : ∀ (i : Nat) v, vs[i]? = some v → CompTurnZ w S h₀ L s env src inn cv m P n0 x ifs elt scope cl R i v)
    (fin : ∀ D C ys news' k h tk m', ZJ S L src inn cv P n0 R vs.length ys news' → Fr h₀ L h m → News h₀ L h ((D, lisO ys k) :: news') → (∀ p ∈ news', p.1 ≠ D) → (∀ p ∈ news', p.1 ≠ C) → D ≠ C → C ≠ L → h₀.get? C = none → h.Ns C m' → compPost (model prog0 w) (lawA L) E use Q (.ref D) C (.ok .next) { s with heap := h, toks := tk }) :
    wpAny (model prog0 w) (lawA L) (pyIter (.ref ax)) (CompAt prog0 w (lawA L) E env (.ListComp elt [⟨.Name x px, iter, ifs, 0⟩] scope pos) scope cl use Q) E s := by
  have hs' : h₀.get? ax = some (lisO vs k₀) ∨ (ax, lisO vs k₀) ∈ n0 := hs.imp (G.s _ _) id
  refine comp_list (ZJ S L src inn cv P n0 R) (hs'.imp id fun h => List.mem_append_right _ h) rfl (Nat.le_trans hN (by decide)) F Nw ⟨Z, n0, rfl, O, oP, hZ, fun _ h => h, h0⟩ hcell hkind hx (fun i v hv => ?_) fin
  exact compTurn_of (fun p hp => by rw [List.mem_singleton.mp hp]; exact hs') (turn i v hv)
/-- what a turn of a for of the law's leaves -/
noncomputable def ZFEnd (S : Store) (h₀ : Heap) (L : Addr) (s : Shared) (src inn : Addr) (X : Led) (as : List Addr) (n0 : Led) (R : (Str → Option Value) → (Str → Option Value) → Led → Store → Prop) (s₂ : Shared) : Prop :=
  ∃ h' tk m' cv' P' Z n, s₂ = { s with heap := h', toks := tk } ∧ Fr h₀ L h' m' ∧ News h₀ L h' (((X ++ P') ++ Z) ++ n) ∧ Off ((X ++ P') ++ Z) n ∧ Off (X ++ P') Z ∧ ZAt L src inn cv' Z ∧ (∀ q ∈ n0, q ∈ n) ∧ P'.map (·.1) = as ∧ R m' cv' P' (Kn S n)
noncomputable def ZFPost (S : Store) (h₀ : Heap) (L : Addr) (s : Shared) (src inn : Addr) (X : Led) (as : List Addr) (n0 : Led) (R : (Str → Option Value) → (Str → Option Value) → Led → Store → Prop) (Q : Flow → Shared → Prop) (f : Flow) (s₂ : Shared) : Prop :=
  match f with
  | .ret v => Q (.ret v) s₂
  | .brk => Q .next s₂
  | _ => ZFEnd S h₀ L s src inn X as n0 R s₂
inductive ZFJ (S : Store) (L src inn : Addr) (as : List Addr) (n0 : Led) (R : Nat → (Str → Option Value) → (Str → Option Value) → Led → Store → Prop) (i : Nat) (m₁ : Str → Option Value) (news₁ : Led) : Prop
  | mk (cv P Z n : _) (h1_ : news₁ = (P ++ Z) ++ n) (h2_ : Off (P ++ Z) n) (h3_ : Off P Z) (h4_ : ZAt L src inn cv Z) (h5_ : (∀ q ∈ n0, q ∈ n)) (h6_ : P.map (·.1) = as) (h7_ : R i m₁ cv P (Kn S n)) : ZFJ S L src inn as n0 R i m₁ news₁
theorem fpostZ {X lps n : Led} {as : List Addr} {R : Nat → (Str → Option Value) → (Str → Option Value) → Led → Store → Prop} {i : Nat} {Q : Flow → Shared → Prop} {f : Flow} {s₂ : Shared} (hl : ∀ p ∈ lps, h₀.get? p.1 = some p.2 ∨ p ∈ n0) (hn : ∀ q ∈ n0, q ∈ n) (o : OffA X as)
    (h : ZFPost S h₀ L s src inn X as n (R i) Q f s₂) : FPost h₀ L s X lps (ZFJ S L src inn as n0 R i) Q f s₂ := by
  have key : ZFEnd S h₀ L s src inn X as n (R i) s₂ → FEnd h₀ L s X lps (ZFJ S L src inn as n0 R i) s₂ := by
    rintro ⟨h', tk, m', cv', P', Z, n', rfl, F', N', O', oP', hZ', hsub, ea, hR⟩
    obtain ⟨a, b, c, d⟩ := turnZ_out N' O' oP' (of_offA (ea ▸ o))
    exact ⟨h', tk, m', _, rfl, F', a, b, fun p hp => (hl p hp).imp id fun q => List.mem_append_right _ (hsub _ (hn _ q)), cv', P', Z, n', rfl, c, d, hZ', fun q hq => hsub _ (hn q hq), ea, hR⟩
  cases f with
  | ret v => exact h
  | brk => exact h
  | next => exact key h
  | cont => exact key h
noncomputable abbrev ForTurnZ (w : World) (S : Store) (h₀ : Heap) (L : Addr) (s : Shared) (src inn : Addr) (as : List Addr) (n0 : Led) (target : Expr) (body : List Stmt) (R : Nat → (Str → Option Value) → (Str → Option Value) → Led → Store → Prop) (Q : Flow → Shared → Prop) (i : Nat) (v : Value) : Prop :=
  ∀ (m₁ cv₁ : Str → Option Value) (P Z n X : Led) (h : Heap) (tk : Nat), R i m₁ cv₁ P (Kn S n) → P.map (·.1) = as → (∀ q ∈ n0, q ∈ n) → OffA X as → Fr h₀ L h m₁ → News h₀ L h (((X ++ P) ++ Z) ++ n) → Off ((X ++ P) ++ Z) n → Off (X ++ P) Z → ZAt L src inn cv₁ Z →
    wpAny (model prog0 w) (lawA L) (assign target (lawEnv L) v) (fun _ s₂ => wpAny (model prog0 w) (lawA L) (execs body (lawEnv L)) (ZFPost S h₀ L s src inn X as n (R (i + 1)) Q) (fun _ _ => False) s₂) (fun _ _ => False) { s with heap := h, toks := tk }
theorem forZ_range {target : Expr} {body : List Stmt} {Q : Flow → Shared → Prop} {r : Addr} {N : Nat} {t₀ u₀ v₀ : Tok} {Z : Led} (hN : N ≤ 64)
    (R : Nat → (Str → Option Value) → (Str → Option Value) → Led → Store → Prop) (hr : IsRange s.heap r 0 (N : Int) 1 t₀ u₀ v₀)
    (F : Fr h₀ L s.heap m) (Nw : News h₀ L s.heap ((P ++ Z) ++ n0)) (O : Off (P ++ Z) n0) (oP : Off P Z) (hZ : ZAt L src inn cv Z) (h0 : R 0 m cv P (Kn S n0))
    (turn : ∀ (i : Nat) t, i < N → ForTurnZ w S h₀ L s src inn (P.map (·.1)) n0 target body R Q i (.int (i : Int) t))
    (done : ∀ m₁ cv₁ P₁ Z n h tk, R N m₁ cv₁ P₁ (Kn S n) → (∀ q ∈ n0, q ∈ n) → Fr h₀ L h m₁ → News h₀ L h ((P₁ ++ Z) ++ n) → Off (P₁ ++ Z) n → Off P₁ Z → ZAt L src inn cv₁ Z → Q .next { s with heap := h, toks := tk })
    (ht : ∀ I v, letOwnedTupleGo target (.ref I) v = pure () := by intro _ _; rfl) :
    wpAny (model prog0 w) (lawA L) (pyIter (.ref r)) (fun it s₂ => codeAny (model prog0 w) (lawA L) (.forLoop target it body [] (lawEnv L)) (fun r s' => match r with | .ok f => Q f s' | .error e => cameBackBy (model prog0 w) (lawA L) (lawEnv L) E e s') s₂) E s := by
  refine for_range N (ZFJ S L src inn (P.map (·.1)) n0 R) hr rfl (small_up (by exact om_198 _ hN)) size_up F Nw ⟨cv, P, Z, n0, rfl, O, oP, hZ, fun _ h => h, rfl, h0⟩ ?_ ?_ ht
  · rintro i t m₁ news₁ X h tk hi ⟨cv₁, P₁, Z₁, n₁, rfl, O₁, oP₁, hZ₁, hn₁, ea, hR⟩ o F₁ N₁
    have e : (0 : Int) + (i : Int) * 1 = (i : Int) := by exact om_22 _
    rw [e]
    obtain ⟨a, b, c, d⟩ := turnZ N₁ o O₁ oP₁
    exact wpAny_mono (turn i t hi m₁ cv₁ P₁ Z₁ n₁ X h tk hR ea hn₁ (ea ▸ offA_of d) F₁ a b c hZ₁) (fun _ s₂ h₂ => wpAny_mono h₂ (fun f s₃ h₃ => fpostZ (fun _ h => nomatch h) hn₁ (ea ▸ offA_of d) h₃) fun _ _ x => x) fun _ _ x => x
  · rintro m₁ news₁ h tk ⟨cv₁, P₁, Z₁, n₁, rfl, O₁, oP₁, hZ₁, hn₁, ea, hR⟩ F₁ N₁
    exact done m₁ cv₁ P₁ Z₁ n₁ h tk hR hn₁ F₁ N₁ O₁ oP₁ hZ₁
theorem forZ_list {target : Expr} {body : List Stmt} {Q : Flow → Shared → Prop} {ax : Addr} {vs : List Value} {k₀ : Nat} {Z : Led} (G : Gr w S h₀)
    (R : Nat → (Str → Option Value) → (Str → Option Value) → Led → Store → Prop) (hs : Kn S n0 ax (lisO vs k₀))
    (F : Fr h₀ L s.heap m) (Nw : News h₀ L s.heap ((P ++ Z) ++ n0)) (O : Off (P ++ Z) n0) (oP : Off P Z) (hZ : ZAt L src inn cv Z) (h0 : R 0 m cv P (Kn S n0))
    (turn : ∀ (i : Nat) v, vs[i]? = some v → ForTurnZ w S h₀ L s src inn (P.map (·.1)) n0 target body R Q i v)
    (done : ∀ m₁ cv₁ P₁ Z n h tk, R vs.length m₁ cv₁ P₁ (Kn S n) → (∀ q ∈ n0, q ∈ n) → Fr h₀ L h m₁ → News h₀ L h ((P₁ ++ Z) ++ n) → Off (P₁ ++ Z) n → Off P₁ Z → ZAt L src inn cv₁ Z → Q .next { s with heap := h, toks := tk })
    (ht : ∀ I v, letOwnedTupleGo target (.ref I) v = pure () := by intro _ _; rfl) :
    wpAny (model prog0 w) (lawA L) (pyIter (.ref ax)) (fun it s₂ => codeAny (model prog0 w) (lawA L) (.forLoop target it body [] (lawEnv L)) (fun r s' => match r with | .ok f => Q f s' | .error e => cameBackBy (model prog0 w) (lawA L) (lawEnv L) E e s') s₂) E s := by
  have hs' : h₀.get? ax = some (lisO vs k₀) ∨ (ax, lisO vs k₀) ∈ n0 := hs.imp (G.s _ _) id
  refine for_list (ZFJ S L src inn (P.map (·.1)) n0 R) (hs'.imp id fun h => List.mem_append_right _ h) rfl F Nw ⟨cv, P, Z, n0, rfl, O, oP, hZ, fun _ h => h, rfl, h0⟩ ?_ ?_ ht
  · rintro i v m₁ news₁ X h tk hv ⟨cv₁, P₁, Z₁, n₁, rfl, O₁, oP₁, hZ₁, hn₁, ea, hR⟩ hsrc o F₁ N₁
    obtain ⟨a, b, c, d⟩ := turnZ N₁ o O₁ oP₁
    exact wpAny_mono (turn i v hv m₁ cv₁ P₁ Z₁ n₁ X h tk hR ea hn₁ (ea ▸ offA_of d) F₁ a b c hZ₁) (fun _ s₂ h₂ => wpAny_mono h₂ (fun f s₃ h₃ => fpostZ (fun p hp => by rw [List.mem_singleton.mp hp]; exact hs') hn₁ (ea ▸ offA_of d) h₃) fun _ _ x => x) fun _ _ x => x
  · rintro m₁ news₁ h tk ⟨cv₁, P₁, Z₁, n₁, rfl, O₁, oP₁, hZ₁, hn₁, ea, hR⟩ F₁ N₁
    exact done m₁ cv₁ P₁ Z₁ n₁ h tk hR hn₁ F₁ N₁ O₁ oP₁ hZ₁
end
theorem toP {h₀ h : Heap} {L D : Addr} {o : Obj} {Z n : Led} (N : News h₀ L h (([] ++ Z) ++ ((D, o) :: n))) (O : Off ([] ++ Z) ((D, o) :: n)) (l : ∀ p ∈ ([] ++ Z) ++ n, p.1 < D) : News h₀ L h (([(D, o)] ++ Z) ++ n) ∧ Off ([(D, o)] ++ Z) n ∧ Off [(D, o)] Z := by
  obtain ⟨a, b⟩ := led_move N O l
  exact ⟨a, b, fun p hp q hq => by rw [List.mem_singleton.mp hp]; exact Ne.symm (O q hq (D, o) (.head _))⟩
noncomputable abbrev natOf {k : Nat} {m : Int} (_ : (k : Int) < m) : Nat := k
theorem kind3 {a b c : Str} {t1 t2 t3 : Tok} {k : Nat} {v : Value} (h : ([.str a t1, .str b t2, .str c t3] : List Value)[k]? = some v) : ∃ kd kt, v = .str kd kt ∧ (kd = a ∨ kd = b ∨ kd = c) := by
  match k with
  | 0 => exact ⟨a, t1, (Option.some.inj h).symm, .inl rfl⟩
  | 1 => exact ⟨b, t2, (Option.some.inj h).symm, .inr (.inl rfl)⟩
  | 2 => exact ⟨c, t3, (Option.some.inj h).symm, .inr (.inr rfl)⟩
  | k + 3 => simp at h
/-- a column that the law has drawn -/
noncomputable def bK (kind : Str) : Nat := if kind = Str.ofString "integer" then 2 else 3
theorem bK_i : bK (Str.ofString "integer") = 2 := by decide +kernel
theorem bK_d : bK (Str.ofString "double") = 3 := by decide +kernel
theorem bK_l : bK (Str.ofString "logical") = 3 := by decide +kernel
theorem bK_le (kind : Str) : bK kind ≤ 3 := by unfold bK; split <;> decide
inductive ColS (S : Store) (kind : Str) (B tall : Nat) (v : Value) (col : List Rat) : Prop
  | mk (a vs k : _) (h1_ : v = .ref a) (h2_ : S a (lisO vs k)) (h3_ : ItemsS S kind vs col) (h4_ : col.length = tall) (h5_ : ∀ q ∈ col, Sz q B) : ColS S kind B tall v col
theorem ColS.mono {S S' : Store} (hs : ∀ a o, S a o → S' a o) {kind : Str} {B tall : Nat} {v : Value} {col : List Rat} (h : ColS S kind B tall v col) : ColS S' kind B tall v col :=
  by obtain ⟨a, vs, k, e, h1, h2, h3, h4⟩ := h; exact ⟨a, vs, k, e, hs _ _ h1, L2.mono (fun _ _ => ItemS.mono hs) h2, h3, h4⟩
noncomputable abbrev ColsS (S : Store) (kind : Str) (B tall : Nat) : List Value → List (List Rat) → Prop := L2 (ColS S kind B tall)
theorem ColsS.mono {S S' : Store} (hs : ∀ a o, S a o → S' a o) {kind : Str} {B tall : Nat} {vs : List Value} {cols : List (List Rat)} (h : ColsS S kind B tall vs cols) : ColsS S' kind B tall vs cols := L2.mono (fun _ _ => ColS.mono hs) h
theorem Kn.sub' {S : Store} {n n' : Led} (h : ∀ q ∈ n, q ∈ n') : ∀ a o, Kn S n a o → Kn S n' a o := fun a o e => e.imp id (h _)
section
variable {prog : Program} {w : World} {A : Around} {E : Value → Shared → Prop} {s : Shared} {h₀ : Heap} {L D : Addr} {m : Str → Option Value} {P P' Z n : Led}
theorem appendZ {vs : List Value} {kk : Nat} {x : Value} {Q : Value → Shared → Prop} (F : Fr h₀ L s.heap m) (N : News h₀ L s.heap ((P ++ Z) ++ n)) (O : Off (P ++ Z) n) (oP : Off P Z) (U : Upd D (lisO vs kk) (lisO (vs ++ [x]) (kk + 1)) P P')
    (h : ∀ h', Fr h₀ L h' m → News h₀ L h' ((P' ++ Z) ++ n) → Off (P' ++ Z) n → Off P' Z → Q .none { s with heap := h' }) (hsz : vs.length ≤ sizeLine) : wpAny (model prog w) A (call (.builtin "list.append") [.ref D, x]) Q E s :=
  append_Y F N O (upd_appL U (upd_ne U oP)) (fun h' F' N' O' => h h' F' N' O' (upd_off U oP)) hsz
theorem setItemZ {vs : List Value} {kk : Nat} {i : Int} {t : Tok} {v : Value} {Q : Unit → Shared → Prop} (F : Fr h₀ L s.heap m) (N : News h₀ L s.heap ((P ++ Z) ++ n)) (O : Off (P ++ Z) n) (oP : Off P Z) (U : Upd D (lisO vs kk) (lisO (vs.set i.toNat v) kk) P P')
    (h0 : 0 ≤ i) (h1 : i < vs.length) (hfit : i < 2 ^ 63) (h : ∀ h', Fr h₀ L h' m → News h₀ L h' ((P' ++ Z) ++ n) → Off (P' ++ Z) n → Off P' Z → Q () { s with heap := h' }) :
    wpAny (model prog w) A (setItem (.ref D) (.int i t) v) Q E s :=
  setItem_Y F N O (upd_appL U (upd_ne U oP)) h0 h1 hfit fun h' F' N' O' => h h' F' N' O' (upd_off U oP)
end
open PySem.Builtin.Int in
theorem sz_int {n : Int} {B : Nat} (h : intBits n ≤ B) (h1 : 1 ≤ B) : Sz (n : Rat) B := ⟨by rw [Rat.num_intCast]; exact h, by rw [Rat.den_intCast]; exact h1⟩
theorem item_int {S : Store} {kind : Str} {n : Int} {t : Tok} (h : kind ≠ Str.ofString "double") : ItemS S kind (.int n t) (n : Rat) := .inr ⟨h, n, t, rfl, rfl⟩
theorem sub_trans {a b c : Led} (h : ∀ q ∈ a, q ∈ b) (h' : ∀ q ∈ b, q ∈ c) : ∀ q ∈ a, q ∈ c := fun q hq => h' q (h q hq)
/-- picks: numbers below four -/
inductive PickR (j : Nat) (ys : List Value) : Prop
  | mk (ks : List Nat) (h1_ : L2 NatV ys ks) (h2_ : ks.length = j) (h3_ : ∀ k ∈ ks, k < 4) : PickR j ys
theorem PickR.nil : PickR 0 [] := ⟨[], trivial, rfl, fun _ h => nomatch h⟩
theorem PickR.snoc {j k : Nat} {ys : List Value} {t : Tok} (h : PickR j ys) (hk : (k : Int) < 4) : PickR (j + 1) (ys ++ [.int (k : Int) t]) := by
  obtain ⟨ks, a, b, c⟩ := h
  refine ⟨ks ++ [k], L2.snoc a ⟨t, rfl⟩, by simp [b], fun x hx => ?_⟩
  rcases List.mem_append.mp hx with hx | hx
  · exact c x hx
  · rw [List.mem_singleton.mp hx]; exact om_137 _ hk
theorem PickR.length {j : Nat} {ys : List Value} (h : PickR j ys) : ys.length = j := by obtain ⟨ks, a, b, c⟩ := h; rw [a.length, b]
theorem PickR.at {j i : Nat} {ys : List Value} {v : Value} (h : PickR j ys) (hv : ys[i]? = some v) : ∃ (k : Nat) (t : Tok), v = .int (k : Int) t ∧ k < 4 := by
  obtain ⟨ks, a, b, c⟩ := h
  have hi : i < ks.length := by rw [← a.length]; exact (List.getElem?_eq_some_iff.mp hv).1
  obtain ⟨t, e⟩ := a.app1 i hi hv
  exact ⟨ks[i], t, e, c _ (List.getElem_mem hi)⟩
/-- items made so far -/
inductive ItemR (kind : Str) (B : Nat) (i : Nat) (ys : List Value) (S : Store) : Prop
  | mk (qs : List Rat) (h1_ : ItemsS S kind ys qs) (h2_ : qs.length = i) (h3_ : ∀ q ∈ qs, Sz q B) : ItemR kind B i ys S
theorem ItemR.nil {kind : Str} {B : Nat} {S : Store} : ItemR kind B 0 [] S := ⟨[], trivial, rfl, fun _ h => nomatch h⟩
theorem ItemR.mono {S S' : Store} (hs : ∀ a o, S a o → S' a o) {kind : Str} {B i : Nat} {ys : List Value} (h : ItemR kind B i ys S) : ItemR kind B i ys S' :=
  by obtain ⟨qs, a, b, c⟩ := h; exact ⟨qs, L2.mono (fun _ _ => ItemS.mono hs) a, b, c⟩
theorem ItemR.snoc {kind : Str} {B i : Nat} {ys : List Value} {S : Store} {v : Value} {q : Rat} (h : ItemR kind B i ys S) (hv : ItemS S kind v q) (hq : Sz q B) : ItemR kind B (i + 1) (ys ++ [v]) S := by
  obtain ⟨qs, a, b, c⟩ := h
  refine ⟨qs ++ [q], L2.snoc a hv, by simp [b], fun x hx => ?_⟩
  rcases List.mem_append.mp hx with hx | hx
  · exact c x hx
  · rw [List.mem_singleton.mp hx]; exact hq
theorem ItemR.col {kind : Str} {B i k : Nat} {ys : List Value} {S : Store} {D : Addr} (h : ItemR kind B i ys S) (hD : S D (lisO ys k)) : ∃ col, ColS S kind B i (.ref D) col := by
  obtain ⟨qs, a, b, c⟩ := h
  exact ⟨qs, D, ys, k, rfl, hD, a, b, c⟩
inductive ColR (kind : Str) (tall : Nat) (cA : Addr) (kt t1 t2 : Tok) (wide : Nat) (src : Addr) (i : Nat) (m₁ cv₁ : Str → Option Value) (P : Led) (S : Store) : Prop
  | mk (cvs kk cols : _) (h1_ : AllEq m₁ [("columns", some (.ref cA)), ("doubled", some (.bool false)), ("wide", some (.int (wide : Nat) t2)), ("tall", some (.int (tall : Nat) t1))]) (h2_ : AllEq cv₁ [("kind", some (.str kind kt)), ("source", some (.ref src))]) (h3_ : P = [(cA, lisO cvs kk)]) (h4_ : ColsS S kind (bK kind) tall cvs cols) (h5_ : cols.length = i) : ColR kind tall cA kt t1 t2 wide src i m₁ cv₁ P S
theorem menu4 {a b c d v : Value} {k : Nat} (h : ([a, b, c, d] : List Value)[k]? = some v) : v = a ∨ v = b ∨ v = c ∨ v = d := by
  match k with
  | 0 => exact .inl (Option.some.inj h).symm
  | 1 => exact .inr (.inl (Option.some.inj h).symm)
  | 2 => exact .inr (.inr (.inl (Option.some.inj h).symm))
  | 3 => exact .inr (.inr (.inr (Option.some.inj h).symm))
  | k + 4 => simp at h
open PySem.Builtin.Int in
theorem menuI {a b c d : Int} {t1 t2 t3 t4 : Tok} {v : Value} {k B : Nat} {S : Store} {kind : Str} (hk : kind ≠ Str.ofString "double") (hB : 1 ≤ B) (ha : intBits a ≤ B) (hb : intBits b ≤ B) (hc : intBits c ≤ B) (hd : intBits d ≤ B) (h : ([.int a t1, .int b t2, .int c t3, .int d t4] : List Value)[k]? = some v) : ∃ q, ItemS S kind v q ∧ Sz q B := by
  rcases menu4 h with rfl | rfl | rfl | rfl
  · exact ⟨_, item_int hk, sz_int ha hB⟩
  · exact ⟨_, item_int hk, sz_int hb hB⟩
  · exact ⟨_, item_int hk, sz_int hc hB⟩
  · exact ⟨_, item_int hk, sz_int hd hB⟩
theorem menuR {a b c d : Addr} {v : Value} {k B : Nat} {S : Store} {qa qb qc qd : Rat} (ha : RatS S (.ref a) qa) (hb : RatS S (.ref b) qb) (hc : RatS S (.ref c) qc) (hd : RatS S (.ref d) qd) (za : Sz qa B) (zb : Sz qb B) (zc : Sz qc B) (zd : Sz qd B) (h : ([.ref a, .ref b, .ref c, .ref d] : List Value)[k]? = some v) : ∃ q, RatS S v q ∧ Sz q B := by
  rcases menu4 h with rfl | rfl | rfl | rfl
  · exact ⟨_, ha, za⟩
  · exact ⟨_, hb, zb⟩
  · exact ⟨_, hc, zc⟩
  · exact ⟨_, hd, zd⟩
noncomputable abbrev q11 : Rat := ⟨1, 1, by decide, by decide⟩
noncomputable abbrev q12 : Rat := ⟨1, 2, by decide, by decide⟩
noncomputable abbrev qm2 : Rat := ⟨-2, 1, by decide, by decide⟩
noncomputable abbrev q01 : Rat := ⟨0, 1, by decide, by decide⟩
noncomputable abbrev qm12 : Rat := ⟨-1, 2, by decide, by decide⟩
noncomputable abbrev q41 : Rat := ⟨4, 1, by decide, by decide⟩
open PySem.Builtin.Int in
theorem bits2 {n : Int} (h0 : 0 ≤ n) (h : n < 8) : intBits n ≤ 3 := by
  have : n = 0 ∨ n = 1 ∨ n = 2 ∨ n = 3 ∨ n = 4 ∨ n = 5 ∨ n = 6 ∨ n = 7 := by exact om_138 _ h0 h
  rcases this with rfl | rfl | rfl | rfl | rfl | rfl | rfl | rfl <;> decide +kernel
theorem ItemR.snocR {a b c d : Addr} {v : Value} {k B i : Nat} {ys : List Value} {S : Store} {qa qb qc qd : Rat} (h : ItemR (Str.ofString "double") B i ys S) (hm : ([.ref a, .ref b, .ref c, .ref d] : List Value)[k]? = some v) (ha : RatS S (.ref a) qa) (hb : RatS S (.ref b) qb) (hc : RatS S (.ref c) qc) (hd : RatS S (.ref d) qd) (za : Sz qa B) (zb : Sz qb B) (zc : Sz qc B) (zd : Sz qd B) :
    ItemR (Str.ofString "double") B (i + 1) (ys ++ [v]) S := by
  obtain ⟨q, h1, h2⟩ := menuR ha hb hc hd za zb zc zd hm
  exact h.snoc (.inl ⟨rfl, h1⟩) h2
theorem sz11 : Sz q11 3 := ⟨by decide +kernel, by decide +kernel⟩
theorem sz12 : Sz q12 3 := ⟨by decide +kernel, by decide +kernel⟩
theorem szm2 : Sz qm2 3 := ⟨by decide +kernel, by decide +kernel⟩
theorem sz01 : Sz q01 3 := ⟨by decide +kernel, by decide +kernel⟩
theorem szm12 : Sz qm12 3 := ⟨by decide +kernel, by decide +kernel⟩
theorem sz41 : Sz q41 3 := ⟨by decide +kernel, by decide +kernel⟩
theorem rat11 {S : Store} {a : Addr} {t1 t2 : Tok} (h : S a (tupO [.int 1 t1, .int 1 t2])) : RatS S (.ref a) q11 := ⟨a, t1, t2, rfl, h⟩
theorem rat12 {S : Store} {a : Addr} {t1 t2 : Tok} (h : S a (tupO [.int 1 t1, .int 2 t2])) : RatS S (.ref a) q12 := ⟨a, t1, t2, rfl, h⟩
theorem ratm2 {S : Store} {a : Addr} {t1 t2 : Tok} (h : S a (tupO [.int (-2) t1, .int 1 t2])) : RatS S (.ref a) qm2 := ⟨a, t1, t2, rfl, h⟩
theorem rat01 {S : Store} {a : Addr} {t1 t2 : Tok} (h : S a (tupO [.int 0 t1, .int 1 t2])) : RatS S (.ref a) q01 := ⟨a, t1, t2, rfl, h⟩
theorem ratm12 {S : Store} {a : Addr} {t1 t2 : Tok} (h : S a (tupO [.int (-1) t1, .int 2 t2])) : RatS S (.ref a) qm12 := ⟨a, t1, t2, rfl, h⟩
theorem rat41 {S : Store} {a : Addr} {t1 t2 : Tok} (h : S a (tupO [.int 4 t1, .int 1 t2])) : RatS S (.ref a) q41 := ⟨a, t1, t2, rfl, h⟩

theorem ItemR.snocI {a b c d : Int} {t1 t2 t3 t4 : Tok} {v : Value} {k B i : Nat} {ys : List Value} {S : Store} {kind : Str} (h : ItemR kind B i ys S) (hk : kind ≠ Str.ofString "double") (hB : 1 ≤ B) (ha : PySem.Builtin.Int.intBits a ≤ B) (hb : PySem.Builtin.Int.intBits b ≤ B) (hc : PySem.Builtin.Int.intBits c ≤ B) (hd : PySem.Builtin.Int.intBits d ≤ B) (hm : ([.int a t1, .int b t2, .int c t3, .int d t4] : List Value)[k]? = some v) :
    ItemR kind B (i + 1) (ys ++ [v]) S := by
  obtain ⟨q, h1, h2⟩ := menuI hk hB ha hb hc hd hm
  exact h.snoc h1 h2
theorem ItemR.colB {kind : Str} {B C i k : Nat} {ys : List Value} {S : Store} {D : Addr} (h : ItemR kind B i ys S) (e : B = C) (hD : S D (lisO ys k)) : ∃ col, ColS S kind C i (.ref D) col := e ▸ h.col hD
open PySem.Builtin.Int in
theorem bits_iff {m : Nat} {x : Int} : intBits x ≤ m ↔ x.natAbs < 2 ^ m := by
  unfold intBits
  by_cases h : x = 0
  · subst h; simp; exact Nat.pow_pos (by decide)
  · have h' : (x == 0) = false := by simpa using h
    rw [h']
    simp only [Bool.false_eq_true, if_false]
    rw [← Nat.log2_lt (fun e => h (Int.natAbs_eq_zero.mp e))]
    exact Nat.succ_le_iff
open PySem.Builtin.Int in
theorem sz_dbl {n : Int} (h : intBits n ≤ 2) : Sz ((2 * n : Int) : Rat) 3 := by
  refine sz_int ?_ (by decide)
  rw [bits_iff] at h ⊢
  rw [Int.natAbs_mul]
  exact Nat.mul_lt_mul_of_pos_left h (by decide)
theorem fromP {h₀ h : Heap} {L D : Addr} {o : Obj} {Z n : Led} (N : News h₀ L h (([(D, o)] ++ Z) ++ n)) (O : Off ([(D, o)] ++ Z) n) (oP : Off [(D, o)] Z) : News h₀ L h (([] ++ Z) ++ ((D, o) :: n)) ∧ Off ([] ++ Z) ((D, o) :: n) ∧ Off [] Z := by
  refine ⟨fun p hp => N p ?_, ?_, Off.nilL _⟩
  · rcases List.mem_append.mp hp with hp | hp
    · exact List.mem_append_left _ (List.mem_append_right _ hp)
    · rcases List.mem_cons.mp hp with rfl | hp
      · exact List.mem_append_left _ (.head _)
      · exact List.mem_append_right _ hp
  · exact Off.consR (O.r) fun p hp => Ne.symm (oP (D, o) (.head _) p hp)
/-- a column doubled -/
noncomputable def DblR (kind : Str) (qs0 : List Rat) (i : Nat) (ys : List Value) (S : Store) : Prop := ItemsS S kind ys ((qs0.take i).map fun x => 2 * x)
theorem DblR.snoc {kind : Str} {qs0 : List Rat} {i : Nat} {ys : List Value} {S S' : Store} {n : Int} {t : Tok} (hk : kind ≠ Str.ofString "double") (h : DblR kind qs0 i ys S) (hs : ∀ a o, S a o → S' a o) (hi : i < qs0.length) (e : qs0[i] = (n : Rat)) : DblR kind qs0 (i + 1) (ys ++ [.int (2 * n) t]) S' := by
  unfold DblR
  rw [take_succ' _ _ hi, List.map_append, List.map_singleton, e]
  refine L2.snoc (L2.mono (fun _ _ => ItemS.mono hs) h) (.inr ⟨hk, _, _, rfl, ?_⟩)
  simp [Rat.intCast_mul]
theorem col_dbl {S : Store} {D : Addr} {ys : List Value} {k tall : Nat} {kind : Str} {qs0 : List Rat} (h : DblR kind qs0 tall ys S) (hD : S D (lisO ys k)) (hl : qs0.length = tall) (hz : ∀ q ∈ qs0, ∃ n : Int, q = (n : Rat) ∧ PySem.Builtin.Int.intBits n ≤ 2) : ColS S kind 3 tall (.ref D) (qs0.map fun x => 2 * x) := by
  refine ⟨D, ys, k, rfl, hD, ?_, by simp [hl], fun q hq => ?_⟩
  · unfold DblR at h; rw [← hl, List.take_length] at h; exact h
  · obtain ⟨x, hx, rfl⟩ := List.mem_map.mp hq
    obtain ⟨n, rfl, hn⟩ := hz x hx
    have := sz_dbl hn
    rw [Rat.intCast_mul] at this
    exact this
theorem items_ints {S : Store} {kind : Str} {B : Nat} (hk : kind ≠ Str.ofString "double") : ∀ {vs : List Value} {qs : List Rat}, ItemsS S kind vs qs → (∀ q ∈ qs, Sz q B) → ∀ q ∈ qs, ∃ n : Int, q = (n : Rat) ∧ PySem.Builtin.Int.intBits n ≤ B
  | [], [], _, _, _, hq => nomatch hq
  | v :: vs, a :: qs, h, hz, q, hq => by
    rcases List.mem_cons.mp hq with rfl | hq
    · rcases h.1 with ⟨e, _⟩ | ⟨_, n, t, rfl, rfl⟩
      · exact absurd e hk
      · have := (hz _ (.head _)).1
        rw [Rat.num_intCast] at this
        exact ⟨n, rfl, this⟩
    · exact items_ints hk h.2 (fun x hx => hz x (.tail _ hx)) q hq
  | [], _ :: _, h, _, _, _ => h.elim
  | _ :: _, [], h, _, _, _ => h.elim
theorem ColS.up {S : Store} {kind : Str} {B C tall : Nat} {v : Value} {col : List Rat} (h : ColS S kind B tall v col) (hB : B ≤ C) : ColS S kind C tall v col :=
  by obtain ⟨a, vs, k, e, h1, h2, h3, h4⟩ := h; exact ⟨a, vs, k, e, h1, h2, h3, fun q hq => (h4 q hq).le hB⟩
theorem ColsS.up {S : Store} {kind : Str} {B C tall : Nat} {vs : List Value} {cols : List (List Rat)} (h : ColsS S kind B tall vs cols) (hB : B ≤ C) : ColsS S kind C tall vs cols := L2.mono (fun _ _ h => h.up hB) h
theorem two_of {α : Type} {l : List α} (h : 2 ≤ l.length) : ∃ a b r, l = a :: b :: r := by
  match l, h with
  | a :: b :: r, _ => exact ⟨a, b, r, rfl⟩
/-- the response's items so far -/
inductive YR (i : Nat) (ys : List Value) (S : Store) : Prop
  | mk (qs : List Rat) (h1_ : RatsS S ys qs) (h2_ : qs.length = i) (h3_ : ∀ q ∈ qs, Sz q 3) : YR i ys S
theorem YR.nil {S : Store} : YR 0 [] S := ⟨[], trivial, rfl, fun _ h => nomatch h⟩
theorem YR.snocR {a b c d : Addr} {v : Value} {k i : Nat} {ys : List Value} {S S' : Store} {qa qb qc qd : Rat} (h : YR i ys S) (hs : ∀ a o, S a o → S' a o) (hm : ([.ref a, .ref b, .ref c, .ref d] : List Value)[k]? = some v) (ha : RatS S' (.ref a) qa) (hb : RatS S' (.ref b) qb) (hc : RatS S' (.ref c) qc) (hd : RatS S' (.ref d) qd) (za : Sz qa 3) (zb : Sz qb 3) (zc : Sz qc 3) (zd : Sz qd 3) :
    YR (i + 1) (ys ++ [v]) S' := by
  obtain ⟨q, h1, h2⟩ := menuR ha hb hc hd za zb zc zd hm
  obtain ⟨qs, a1, b1, c1⟩ := h
  refine ⟨qs ++ [q], rats_L2.mpr (L2.snoc (L2.mono (fun _ _ x => RatS.mono x hs) (rats_L2.mp a1)) h1), by simp [b1], fun x hx => ?_⟩
  rcases List.mem_append.mp hx with hx | hx
  · exact c1 x hx
  · rw [List.mem_singleton.mp hx]; exact h2
section
variable {prog : Program} {w : World} {A : Around} {E : Value → Shared → Prop} {s : Shared} {R : Result → Shared → Prop}
noncomputable abbrev comp2 (elt : Expr) (x1 x2 : Str) (p1 p2 : Pos) (i1 i2 : Expr) (scope : Scope) (pos : Pos) : Expr := .ListComp elt [⟨.Name x1 p1, i1, [], 0⟩, ⟨.Name x2 p2, i2, [], 0⟩] scope pos
theorem compTurn2_1 (elt : Expr) (x1 x2 : Str) (p1 p2 : Pos) (i1 i2 : Expr) (scope : Scope) (pos : Pos) (it acc : Value) (env : Env) :
    compTurn (comp2 elt x1 x2 p1 p2 i1 i2 scope pos) 1 it acc env = (do
      standAt i2.pos
      match ← pyNext it with
      | none => pure (.done .next)
      | some v =>
        letOwnedTupleGo (.Name x2 p2) it v
        assign (.Name x2 p2) env v
        (do let _ ← call (.builtin "list.append") [acc, ← eval elt env])
        again (.compLoop (comp2 elt x1 x2 p1 p2 i1 i2 scope pos) 1 it acc env)) := by rfl
theorem compTurn2_0 (elt : Expr) (x1 x2 : Str) (p1 p2 : Pos) (i1 i2 : Expr) (scope : Scope) (pos : Pos) (it acc : Value) (env : Env) :
    compTurn (comp2 elt x1 x2 p1 p2 i1 i2 scope pos) 0 it acc env = (do
      standAt i1.pos
      match ← pyNext it with
      | none => pure (.done .next)
      | some v =>
        letOwnedTupleGo (.Name x1 p1) it v
        assign (.Name x1 p1) env v
        let x ← eval i2 env
        standAt i2.pos
        let x ← foldedSetIterable i2 env x
        let _ ← runOwn (.compStart (comp2 elt x1 x2 p1 p2 i1 i2 scope pos) 1 (← holding [x] (pyIter x)) acc env) env
        again (.compLoop (comp2 elt x1 x2 p1 p2 i1 i2 scope pos) 0 it acc env)) := by rfl
/-- what an inner loop keeps -/
noncomputable def Keep3 (a b c : Addr) (h h' : Heap) : Prop := ∀ d o, d ≠ a → d ≠ b → d ≠ c → h.get? d = some o → h'.get? d = some o
inductive CIInv (s : Shared) (J b C D : Addr) (ws : List Value) (f : Nat → List Value) (n : Nat) (s' : Shared) : Prop
  | mk (h' : Heap) (tk : Nat) (m' : Str → Option Value) (i : Nat) (h1_ : s' = { s with heap := h', toks := tk }) (h2_ : h'.IsListIter J b i ∧ h'.IsList b ws.toArray) (h3_ : h'.PlainList D (f i).toArray) (h4_ : h'.Ns C m') (h5_ : Keep3 J C D s.heap h') (h6_ : i ≤ ws.length) (h7_ : n = ws.length + 1 - i) : CIInv s J b C D ws f n s'
theorem inner2 {x1 x2 : Str} {p1 p2 p3 : Pos} {i1 i2 : Expr} {scope : Scope} {pos : Pos} {env : Env} {J b C D : Addr} {ws : List Value} {ys : List Value} {m₀ : Str → Option Value} (hh : A.handled = none)
    (hC : env.locals = C) (hk : env.scope.kind = .function) (hx : env.kindOf x2 = some .local) (hdb : (x2 == ("__debug__" : Str)) = false) (hJ : s.heap.IsListIter J b 0) (hb : s.heap.IsList b ws.toArray) (hD : s.heap.PlainList D ys.toArray) (hn : s.heap.Ns C m₀)
    (hJb : b ≠ J) (hJC : C ≠ J) (hJD : D ≠ J) (hDC : D ≠ C) (hbC : b ≠ C) (hbD : b ≠ D) (hz : ys.length + ws.length ≤ 64)
    (k : ∀ h' tk m', h'.PlainList D (ys ++ ws).toArray → h'.Ns C m' → Keep3 J C D s.heap h' → R (.ok .next) { s with heap := h', toks := tk }) :
    codeAny (model prog w) A (.compLoop (comp2 (.Name x2 p3) x1 x2 p1 p2 i1 i2 scope pos) 1 (.ref J) (.ref D) env) R s := by
  subst hC
  have W := Walks.list (prog := prog) (w := w) hh J b hJb ws.toArray
  rw [show ws.toArray.size = ws.length by simp] at W
  refine codeAny_loop rfl (CIInv s J b env.locals D ws fun i => ys ++ ws.take i) (fun n s' hI => ?_) (ws.length + 1)
    ⟨s.heap, s.toks, m₀, 0, rfl, ⟨hJ, hb⟩, by simpa using hD, hn, fun _ _ _ _ _ e => e, Nat.zero_le _, rfl⟩
  obtain ⟨h', tk, m', i, rfl, hst, acc, ns, kp, hi, rfl⟩ := hI
  show wpAny _ A ((compTurn (comp2 (.Name x2 p3) x1 x2 p1 p2 i1 i2 scope pos) 1 (.ref J) (.ref D) env).onRaise (fun x => do noteFrame x env; theTreesLotGoes x)) _ _ _
  refine wpAny_noted ?_
  rw [compTurn2_1]
  refine wpAny_bind (wpAny_standAt (wpAny_bind ?_))
  by_cases hlt : i < ws.length
  · refine W.item i _ _ _ hlt hst fun v h₁ tk₁ hP hst₁ hk₁ => ?_
    have hP' : ws[i]? = some v := by simpa using hP
    have hk₁' : ∀ d o, d ≠ J → h'.get? d = some o → h₁.get? d = some o := fun d o hd e => hk₁ d o (by simpa using hd) e
    refine wpAny_bind (wpAny_of_eq rfl (wpAny_bind (wpAny_assign_Name (wpAny_storeName_local hx (ns.at' fun o e => hk₁' _ o hJC e) (fun h₂ hn₂ hs₂ => ?_) (by rw [hk]; rfl)))))
    obtain ⟨kD, hDm⟩ := acc
    have hD2 : h₂.get? D = some (lisO (ys ++ ws.take i) kD) := (hs₂.2 _ hDC).trans (hk₁' _ _ hJD hDm)
    refine wpAny_bind (wpAny_bind ?_)
    refine wpAny_Name (wpAny_loadName_local hk hx hn₂ (v := v) (by simp) ?_) hdb
    refine wpAny_bind (wpAny_list_append_plain (hsz := by simp only [List.size_toArray]; refine Nat.le_trans (m := 64) ?_ (by decide); simp; omega) ⟨kD, hD2⟩ fun h₅ hl₅ hs₅ => ?_)
    refine wpAny_pure (wpAny_pure ⟨rfl, ws.length + 1 - (i + 1), by exact om_117 _ _ hlt, h₅, _, _, i + 1, rfl, ?_, ?_, hn₂.sameBut hs₅ (Ne.symm hDC), ?_, hlt, rfl⟩)
    · exact W.frame _ _ _ hst₁ fun c hc o e => by
        have c1 : c = J ∨ c = b := by simpa using hc
        have n1 : c ≠ env.locals := by rcases c1 with rfl | rfl; exact Ne.symm hJC; exact hbC
        have n2 : c ≠ D := by rcases c1 with rfl | rfl; exact Ne.symm hJD; exact hbD
        exact (hs₅.2 _ n2).trans ((hs₂.2 _ n1).trans e)
    · have e9 : (ys ++ ws.take (i + 1)).toArray = (ys ++ ws.take i).toArray.push v := by
        rw [List.take_add_one, hP']; simp
      rw [e9]; exact hl₅
    · intro d o d1 d2 d3 e
      exact (hs₅.2 _ d3).trans ((hs₂.2 _ d2).trans (hk₁' _ _ d1 (kp d o d1 d2 d3 e)))
  · have hin : i = ws.length := by exact om_118 _ _ hi hlt
    subst hin
    refine W.done _ _ _ hst fun h₁ tk₁ hk₁ => ?_
    have hk₁' : ∀ d o, d ≠ J → h'.get? d = some o → h₁.get? d = some o := fun d o hd e => hk₁ d o (by simpa using hd) e
    obtain ⟨kD, hDm⟩ := acc
    rw [List.take_length] at hDm
    exact wpAny_pure (k h₁ tk₁ m' ⟨kD, hk₁' _ _ hJD hDm⟩ (ns.at' fun o e => hk₁' _ o hJC e) fun d o d1 d2 d3 e => hk₁' _ _ d1 (kp d o d1 d2 d3 e))
theorem codeAny_compStart2 {elt : Expr} {x1 x2 : Str} {p1 p2 : Pos} {i1 i2 : Expr} {scope : Scope} {pos : Pos} {it acc : Value} {env : Env}
    (h0 : codeAny (model prog w) A (.compLoop (comp2 elt x1 x2 p1 p2 i1 i2 scope pos) 1 it acc env) R s)
    (h : wpAny (model prog w) A (pyIter it) (fun it' s' => codeAny (model prog w) A (.compLoop (comp2 elt x1 x2 p1 p2 i1 i2 scope pos) 1 it' acc env) R s')
      (notedBy (model prog w) A env fun x s' => R (.error x) s') s) :
    codeAny (model prog w) A (.compStart (comp2 elt x1 x2 p1 p2 i1 i2 scope pos) 1 it acc env) R s := by
  refine codeAny_of_tree ?_
  show wpAny _ _ ((compStart (comp2 elt x1 x2 p1 p2 i1 i2 scope pos) 1 it acc env).onRaise (fun x => do noteFrame x env; standAt theWindowsPlace)) _ _ s
  refine wpAny_notedAt ?_
  unfold compStart
  show wpAny _ _ (ask >>= _) _ _ s
  refine wpAny_bind (wpAny_askSetting (wpAny_ite ?_))
  split
  · exact wpAny_pure (And.intro rfl h0)
  · refine wpAny_bind (wpAny_rule ?_)
    show wpAny _ _ (standAt i2.pos >>= _) _ _ s
    exact wpAny_bind (wpAny_standAt (wpAny_bind (wpAny_mono h (fun it' s' h' => wpAny_pure (And.intro rfl h')) fun _ _ x => x)))
end
/-- the inner lists of a list of lists -/
noncomputable def Inner (h : Heap) (vs : List Value) (wss : List (List Value)) : Prop := vs.length = wss.length ∧ ∀ (i : Nat) (hi : i < wss.length), ∃ b k, vs[i]? = some (.ref b) ∧ h.get? b = some (lisO wss[i] k)
section
variable {prog : Program} {w : World} {A : Around} {E : Value → Shared → Prop} {s : Shared} {R : Result → Shared → Prop}
theorem outer2 {x1 x2 : Str} {p1 p2 p3 p4 : Pos} {i1 : Expr} {scope : Scope} {pos : Pos} {env : Env} {I ax C D : Addr} {vs : List Value} {wss : List (List Value)} {hb : Heap} {m₀ : Str → Option Value} (hh : A.handled = none)
    (hC : env.locals = C) (hk : env.scope.kind = .function) (hx1 : env.kindOf x1 = some .local) (hx2 : env.kindOf x2 = some .local) (hd1 : (x1 == ("__debug__" : Str)) = false) (hd2 : (x2 == ("__debug__" : Str)) = false)
    (hI : s.heap.IsListIter I ax 0) (ha : s.heap.IsList ax vs.toArray) (hv : Inner hb vs wss) (hD : s.heap.PlainList D #[]) (hn : s.heap.Ns C m₀) (hbI : hb.get? I = none) (hbC : hb.get? C = none) (hbD : hb.get? D = none) (hbs : Keep3 I C D hb s.heap)
    (hIC : C ≠ I) (hID : D ≠ I) (hDC : D ≠ C) (haI : ax ≠ I) (haC : ax ≠ C) (haD : ax ≠ D) (hz : wss.flatten.length ≤ 64)
    (k : ∀ h' tk m', h'.PlainList D wss.flatten.toArray → h'.Ns C m' → Keep3 I C D s.heap h' → R (.ok .next) { s with heap := h', toks := tk }) :
    codeAny (model prog w) A (.compLoop (comp2 (.Name x2 p3) x1 x2 p1 p2 i1 (.Name x1 p4) scope pos) 0 (.ref I) (.ref D) env) R s := by
  subst hC
  have W := Walks.list (prog := prog) (w := w) hh I ax haI vs.toArray
  rw [show vs.toArray.size = vs.length by simp] at W
  obtain ⟨hvl, hvi⟩ := hv
  refine codeAny_loop rfl (CIInv s I ax env.locals D vs fun i => (wss.take i).flatten) (fun n s' hI => ?_) (vs.length + 1)
    ⟨s.heap, s.toks, m₀, 0, rfl, ⟨hI, ha⟩, by simpa using hD, hn, fun _ _ _ _ _ e => e, Nat.zero_le _, rfl⟩
  obtain ⟨h', tk, m', i, rfl, hst, acc, ns, kp, hi, rfl⟩ := hI
  show wpAny _ A ((compTurn (comp2 (.Name x2 p3) x1 x2 p1 p2 i1 (.Name x1 p4) scope pos) 0 (.ref I) (.ref D) env).onRaise (fun x => do noteFrame x env; theTreesLotGoes x)) _ _ _
  refine wpAny_noted ?_
  rw [compTurn2_0]
  refine wpAny_bind (wpAny_standAt (wpAny_bind ?_))
  by_cases hlt : i < vs.length
  · refine W.item i _ _ _ hlt hst fun v h₁ tk₁ hP hst₁ hk₁ => ?_
    have hP' : vs[i]? = some v := by simpa using hP
    obtain ⟨b, kb, hvb, hgb⟩ := hvi i (by exact om_18 _ _ _ hvl hlt)
    rw [hP'] at hvb; obtain rfl := Option.some.inj hvb
    have hk₁' : ∀ d o, d ≠ I → h'.get? d = some o → h₁.get? d = some o := fun d o hd e => hk₁ d o (by simpa using hd) e
    have bI : b ≠ I := fun e => by rw [e, hbI] at hgb; cases hgb
    have bC : b ≠ env.locals := fun e => by rw [e, hbC] at hgb; cases hgb
    have bD : b ≠ D := fun e => by rw [e, hbD] at hgb; cases hgb
    refine wpAny_bind (wpAny_of_eq rfl (wpAny_bind (wpAny_assign_Name (wpAny_storeName_local hx1 (ns.at' fun o e => hk₁' _ o hIC e) (fun h₂ hn₂ hs₂ => ?_) (by rw [hk]; rfl)))))
    obtain ⟨kD, hDm⟩ := acc
    have hD2 : h₂.get? D = some (lisO (wss.take i).flatten kD) := (hs₂.2 _ hDC).trans (hk₁' _ _ hID hDm)
    have hb2 : h₂.get? b = some (lisO wss[i] kb) := (hs₂.2 _ bC).trans (hk₁' _ _ bI (kp _ _ bI bC bD (hbs _ _ bI bC bD hgb)))
    refine wpAny_bind (wpAny_Name (wpAny_loadName_local hk hx1 hn₂ (v := .ref b) (by simp) ?_) hd1)
    refine wpAny_bind (wpAny_standAt (wpAny_bind (wpAny_of_eq (show foldedSetIterable (.Name x1 p4) env (.ref b) = pure (.ref b) from rfl) (wpAny_bind (wpAny_holding ?_)))))
    refine wpAny_pyIter_list ⟨_, hb2, rfl, kb, rfl⟩ ?_
    have st₂ : h₂.IsListIter I ax (i + 1) ∧ h₂.IsList ax vs.toArray := W.frame _ _ _ hst₁ fun c hc o e => by
      have c1 : c = I ∨ c = ax := by simpa using hc
      have n1 : c ≠ env.locals := by rcases c1 with rfl | rfl; exact Ne.symm hIC; exact haC
      exact (hs₂.2 _ n1).trans e
    obtain ⟨oI, hoI, _⟩ := id st₂.1
    obtain ⟨oC, hoC, _⟩ := NsO.of hn₂
    have ltI : I < h₂.objs.size := Heap.lt_size hoI
    have ltD : D < h₂.objs.size := Heap.lt_size hD2
    have ltC : env.locals < h₂.objs.size := Heap.lt_size hoC
    have ltb : b < h₂.objs.size := Heap.lt_size hb2
    have ltx : ax < h₂.objs.size := by obtain ⟨o, ho, _⟩ := st₂.2; exact Heap.lt_size ho
    refine wpAny_bind (wpAny_runOwn ?_)
    have push : ∀ c o, h₂.get? c = some o → (h₂.push { cls := .type "list_iterator", data := .fields #[.ref b, .int 0 0] }).get? c = some o := fun c o e => Heap.get?_push_of_some _ e
    have body : ∀ (A' : Around) (E' : Value → Shared → Prop), A'.handled = none → codeAny (model prog w) A' (.compLoop (comp2 (.Name x2 p3) x1 x2 p1 p2 i1 (.Name x1 p4) scope pos) 1 (.ref h₂.objs.size) (.ref D) env)
        (fun r s' => match r with
          | .ok _ => wpAny (model prog w) A (again (.compLoop (comp2 (.Name x2 p3) x1 x2 p1 p2 i1 (.Name x1 p4) scope pos) 0 (.ref I) (.ref D) env)) (fun fin s' => match fin with
              | .done f => R (.ok f) s'
              | .again c' => c' = (.compLoop (comp2 (.Name x2 p3) x1 x2 p1 p2 i1 (.Name x1 p4) scope pos) 0 (.ref I) (.ref D) env) ∧ ∃ m, m < vs.length + 1 - i ∧ CIInv s I ax env.locals D vs (fun i => (wss.take i).flatten) m s') (notedBy (model prog w) A env fun e s' => R (.error e) s') s'
          | .error e => E' e s')
        { s with heap := h₂.push { cls := .type "list_iterator", data := .fields #[.ref b, .int 0 0] }, toks := tk₁ + 1 } := by
      intro A' E' hh'
      refine inner2 (ys := (wss.take i).flatten) (ws := wss[i]) (b := b) hh' rfl hk hx2 hd2 ⟨_, Heap.get?_push_size _ rfl, rfl, rfl⟩ ⟨_, push _ _ hb2, rfl, kb, rfl⟩ ⟨kD, push _ _ hD2⟩ (hn₂.at' fun o e => push _ _ e) (Nat.ne_of_lt ltb) (Nat.ne_of_lt ltC) (Nat.ne_of_lt ltD) hDC bC bD ?_ ?_
      · have e1 := congrArg List.length (congrArg List.flatten (take_succ' wss i (by exact om_18 _ _ _ hvl hlt)))
        have e2 : ((wss.take (i + 1)).flatten).length ≤ wss.flatten.length := by
          conv => rhs; rw [← List.take_append_drop (i + 1) wss]
          rw [List.flatten_append, List.length_append]; exact om_119 _ _
        simp only [List.flatten_append, List.flatten_singleton, List.length_append] at e1
        omega
      · intro h₄ tk₄ m₄ acc₄ ns₄ kp₄
        have kk : ∀ c o, c ≠ env.locals → c ≠ D → h₂.get? c = some o → h₄.get? c = some o := fun c o c1 c2 e => kp₄ c o (Nat.ne_of_lt (Heap.lt_size e)) c1 c2 (push _ _ e)
        refine wpAny_pure ⟨rfl, vs.length + 1 - (i + 1), by exact om_117 _ _ hlt, h₄, tk₄, m₄, i + 1, rfl, ?_, ?_, ns₄, ?_, hlt, rfl⟩
        · exact W.frame _ _ _ st₂ fun c hc o e => by
            have c1 : c = I ∨ c = ax := by simpa using hc
            have n1 : c ≠ env.locals := by rcases c1 with rfl | rfl; exact Ne.symm hIC; exact haC
            have n2 : c ≠ D := by rcases c1 with rfl | rfl; exact Ne.symm hID; exact haD
            exact kk c o n1 n2 e
        · rw [take_succ' wss i (by exact om_18 _ _ _ hvl hlt), List.flatten_append, List.flatten_singleton]; exact acc₄
        · intro d o d1 d2 d3 e
          exact kk d o d2 d3 ((hs₂.2 _ d2).trans (hk₁' _ _ d1 (kp d o d1 d2 d3 e)))
    exact codeAny_compStart2 (body _ _ hh) (wpAny_pyIter_listiter ⟨_, Heap.get?_push_size _ rfl, rfl, rfl⟩ (body _ _ hh))
  · have hin : i = vs.length := by exact om_118 _ _ hi hlt
    subst hin
    refine W.done _ _ _ hst fun h₁ tk₁ hk₁ => ?_
    have hk₁' : ∀ d o, d ≠ I → h'.get? d = some o → h₁.get? d = some o := fun d o hd e => hk₁ d o (by simpa using hd) e
    obtain ⟨kD, hDm⟩ := acc
    rw [hvl, List.take_length] at hDm
    exact wpAny_pure (k h₁ tk₁ m' ⟨kD, hk₁' _ _ hID hDm⟩ (ns.at' fun o e => hk₁' _ o hIC e) fun d o d1 d2 d3 e => hk₁' _ _ d1 (kp d o d1 d2 d3 e))
end
section
variable {prog : Program} {w : World} {A : Around} {E : Value → Shared → Prop} {s : Shared} {env : Env} {h₀ : Heap} {L : Addr} {m : Str → Option Value}
theorem comp2_list {x1 x2 : Str} {p1 p2 p3 p4 : Pos} {i1 : Expr} {scope : Scope} {cl : List (Str × Addr)} {pos : Pos} {ax : Addr} {k₀ : Nat} {vs : List Value} {wss : List (List Value)} {news : Led} {Q : Value → Shared → Prop} (hh : A.handled = none)
    (F : Fr h₀ L s.heap m) (N : News h₀ L s.heap news) (ha : s.heap.get? ax = some (lisO vs k₀)) (hv : Inner s.heap vs wss) (hz : wss.flatten.length ≤ 64)
    (hcell : ∀ y ∈ scope.names, y.2 ≠ .cell) (hkind : scope.kind = .function) (hx1 : scope.names.lookup x1 = some .local) (hx2 : scope.names.lookup x2 = some .local) (hd1 : (x1 == ("__debug__" : Str)) = false) (hd2 : (x2 == ("__debug__" : Str)) = false)
    (done : ∀ D k h tk, Fr h₀ L h m → News h₀ L h ((D, lisO wss.flatten k) :: news) → (∀ p ∈ news, p.1 ≠ D) → Q (.ref D) { s with heap := h, toks := tk }) :
    wpAny (model prog w) A (pyIter (.ref ax)) (CompAt prog w A E env (comp2 (.Name x2 p3) x1 x2 p1 p2 i1 (.Name x1 p4) scope pos) scope cl none Q) E s := by
  have hl : s.heap.IsList ax vs.toArray := ⟨_, ha, rfl, k₀, rfl⟩
  have hlt : ax < s.heap.objs.size := Heap.lt_size ha
  refine wpAny_pyIter_list hl ?_
  unfold CompAt
  refine wpAny_newObj_type (wpAny_newFunctionEnv hcell (by intro y hy; simp at hy) (fun h₁ hns₁ hsb₁ => ?_) hkind)
  dsimp only at hns₁ hsb₁ ⊢
  generalize hH1 : s.heap.push { cls := .type "list_iterator", data := .fields #[.ref ax, .int 0 0] } = H1 at hns₁ hsb₁ ⊢
  have hI1 : H1.objs.size = s.heap.objs.size + 1 := by rw [← hH1, Heap.size_push]
  generalize hH2 : H1.push { cls := .type "list", dict := none, data := .seq ([] : List Value).toArray } = H2 at hns₁ hsb₁ ⊢
  have hC : H2.objs.size = H1.objs.size + 1 := by rw [← hH2, Heap.size_push]
  have hCs : H2.objs.size = s.heap.objs.size + 1 + 1 := by rw [hC, hI1]
  have hDI : (H1.objs.size : Nat) ≠ s.heap.objs.size := by rw [hI1]; exact Nat.ne_of_gt (Nat.lt_succ_self _)
  have hCI : (H2.objs.size : Nat) ≠ s.heap.objs.size := by exact om_120 _ _ hCs
  have hDC : (H1.objs.size : Nat) ≠ H2.objs.size := by exact om_121 _ _ hC
  have below : ∀ b, (b : Nat) < s.heap.objs.size → (b : Nat) ≠ H2.objs.size ∧ (b : Nat) ≠ H1.objs.size ∧ (b : Nat) ≠ s.heap.objs.size := fun b hb => ⟨by exact om_122 _ _ _ hCs hb, by exact om_123 _ _ _ _ hC hCs hb, by exact om_124 _ _ hb⟩
  have old1 : ∀ b o, H1.get? b = some o → h₁.get? b = some o := fun b o e => hsb₁.extBut b o (Nat.ne_of_lt (Nat.lt_trans (Heap.lt_size e) (by rw [hC]; exact Nat.lt_succ_self _))) (Heap.get?_push_of_some _ (hH2 ▸ Heap.get?_push_of_some _ e))
  have old : ∀ b o, s.heap.get? b = some o → h₁.get? b = some o := fun b o e => old1 b o (hH1 ▸ Heap.get?_push_of_some _ e)
  have hacc : h₁.PlainList H1.objs.size #[] := ⟨_, hsb₁.extBut _ _ hDC (Heap.get?_push_of_some _ (hH2 ▸ Heap.get?_push_size _ rfl))⟩
  have hit : h₁.IsListIter s.heap.objs.size ax 0 := ⟨_, old1 _ _ (hH1 ▸ Heap.get?_push_size _ rfl), rfl, rfl⟩
  have F₁ : Fr h₀ L h₁ m := F.keeps old
  have N₁ : News h₀ L h₁ news := fun p hp => ⟨old _ _ (N p hp).1, (N p hp).2⟩
  have L0 : (L : Nat) < s.heap.objs.size := F.ns.lt
  have h0s : (h₀.objs.size : Nat) ≤ s.heap.objs.size := Nat.le_trans F.above (Nat.le_of_lt L0)
  have newC : h₀.get? H2.objs.size = none := Heap.get?_none_of_le (show (h₀.objs.size : Nat) ≤ H2.objs.size by exact om_125 _ _ _ hCs h0s)
  have newD : h₀.get? H1.objs.size = none := Heap.get?_none_of_le (show (h₀.objs.size : Nat) ≤ H1.objs.size by exact om_126 _ _ _ _ hC hCs h0s)
  have newI : h₀.get? s.heap.objs.size = none := Heap.get?_none_of_le h0s
  have ltn : ∀ p ∈ news, (p.1 : Nat) < s.heap.objs.size := fun p hp => Heap.lt_size (N p hp).1
  have loop : ∀ s₃ : Shared, s₃ = { s with heap := h₁, toks := s.toks + ([] : List (Str × Value)).length } →
      codeAny (model prog w) A (.compLoop (comp2 (.Name x2 p3) x1 x2 p1 p2 i1 (.Name x1 p4) scope pos) 0 (.ref s.heap.objs.size) (.ref H1.objs.size) (compEnvC scope cl H2.objs.size env))
        (compPost (model prog w) A E none Q (.ref H1.objs.size) H2.objs.size) s₃ := by
    rintro s₃ rfl
    refine outer2 (hb := s.heap) (C := H2.objs.size) hh rfl (by simp [compEnvC, relabel, hkind]) (lookup_relabel_local hx1) (lookup_relabel_local hx2) hd1 hd2 hit (hl.at fun o e => old _ _ e) hv hacc hns₁ (Heap.get?_none_of_le (Nat.le_refl _)) (Heap.get?_none_of_le (show (s.heap.objs.size : Nat) ≤ H2.objs.size by exact om_127 _ _ hCs)) (Heap.get?_none_of_le (show (s.heap.objs.size : Nat) ≤ H1.objs.size by exact om_128 _ _ _ hC hCs)) (fun d o _ _ _ e => old _ _ e) hCI hDI hDC (Nat.ne_of_lt hlt) (below _ hlt).1 (below _ hlt).2.1 hz ?_
    intro h' tk' m' acc' ns' kp'
    obtain ⟨kD, hDm⟩ := acc'
    have kpo : ∀ b o, (b : Nat) < s.heap.objs.size → h₁.get? b = some o → h'.get? b = some o := fun b o hb e => kp' b o (below b hb).2.2 (below b hb).1 (below b hb).2.1 e
    refine ⟨m', ns', fun h'' hs'' => ?_⟩
    have kq : ∀ b o, (b : Nat) < s.heap.objs.size → h₁.get? b = some o → h''.get? b = some o := fun b o hb e => (hs''.2 b (below b hb).1).trans (kpo b o hb e)
    refine done H1.objs.size kD h'' tk' ⟨F₁.ns.at' fun o e => kq _ o L0 e, fun b o e => kq b o (Nat.lt_of_lt_of_le (Heap.lt_size e) h0s) (F₁.keep b o e), F₁.above⟩ (fun p hp => ?_) (fun p hp => (below _ (ltn p hp)).2.1)
    rcases List.mem_cons.mp hp with rfl | hp
    · exact ⟨(hs''.2 _ hDC).trans hDm, Nat.ne_of_gt (Nat.lt_trans L0 (by rw [hI1]; exact Nat.lt_succ_self _)), newD⟩
    · exact ⟨kq _ _ (ltn p hp) (N₁ p hp).1, (N₁ p hp).2⟩
  exact codeAny_compStart_list (loop _ rfl) (wpAny_pyIter_listiter hit (loop _ rfl))
theorem eval_comp2 {x1 x2 : Str} {p1 p2 p3 p4 : Pos} {i1 : Expr} {scope : Scope} {cl : List (Str × Addr)} {pos : Pos} {Q : Value → Shared → Prop}
    (hclos : closureFor scope env = pure cl) (hkind : scope.kind = .function) (hnames : ∀ y ∈ scope.names, y.2 = .local → scope.names.lookup y.1 = some .local)
    (h : wpAny (model prog w) A (eval i1 env) (fun xv s₁ => wpAny (model prog w) A (pyIter xv) (CompAt prog w A E env (comp2 (.Name x2 p3) x1 x2 p1 p2 i1 (.Name x1 p4) scope pos) scope cl none Q) E s₁) E s)
    (hs : ∀ x, foldedSetIterable i1 env x = pure x := by intro _; rfl) :
    wpAny (model prog w) A (eval (comp2 (.Name x2 p3) x1 x2 p1 p2 i1 (.Name x1 p4) scope pos) env) Q E s := by
  rw [eval_ListComp]
  exact wpAny_comprehension_free (use := none) rfl hs hclos hkind hnames h
end
theorem cols_inner {S : Store} {kind : Str} {B tall : Nat} : ∀ {cvs : List Value} {cols : List (List Rat)}, ColsS S kind B tall cvs cols → ∃ wss : List (List Value), cvs.length = wss.length ∧ (∀ (i : Nat) (hi : i < wss.length), ∃ b k, cvs[i]? = some (.ref b) ∧ S b (lisO wss[i] k)) ∧ ItemsS S kind wss.flatten cols.flatten ∧ wss.flatten.length = cols.length * tall
  | [], [], _ => ⟨[], rfl, fun i hi => absurd hi (Nat.not_lt_zero _), trivial, by simp⟩
  | v :: vs, c :: cs, h => by
    obtain ⟨a, ws, k, rfl, h1, h2, h3, _⟩ := h.1
    obtain ⟨wss, e1, e2, e3, e4⟩ := cols_inner h.2
    refine ⟨ws :: wss, by simp [e1], fun i hi => ?_, ?_, ?_⟩
    · match i with
      | 0 => exact ⟨a, k, rfl, h1⟩
      | i + 1 => obtain ⟨b, k', x, y⟩ := e2 i (by simpa using hi); exact ⟨b, k', by simpa using x, by simpa using y⟩
    · rw [List.flatten_cons, List.flatten_cons]; exact L2.app h2 e3
    · rw [List.flatten_cons, List.length_append, e4, h2.length, h3, List.length_cons, Nat.add_mul, Nat.one_mul]; exact om_178 _ _
  | [], _ :: _, h => h.elim
  | _ :: _, [], h => h.elim
theorem inner_of {w : World} {S : Store} {h₀ h : Heap} {L : Addr} {m : Str → Option Value} {Y n : Led} {cvs : List Value} {wss : List (List Value)} (G : Gr w S h₀) (F : Fr h₀ L h m) (N : News h₀ L h (Y ++ n)) (h1 : cvs.length = wss.length) (h2 : ∀ (i : Nat) (hi : i < wss.length), ∃ b k, cvs[i]? = some (.ref b) ∧ Kn S n b (lisO wss[i] k)) : Inner h cvs wss :=
  ⟨h1, fun i hi => let ⟨b, k, x, y⟩ := h2 i hi; ⟨b, k, x, getN G F N y⟩⟩
/-- a new Vector's dict goes to what changes -/
theorem toP2 {h₀ h : Heap} {L x dx : Addr} {ox od : Obj} {Z n : Led} (hlt : dx < x) (N : News h₀ L h (([] ++ Z) ++ (n ++ [(x, ox), (dx, od)]))) (O : Off ([] ++ Z) (n ++ [(x, ox), (dx, od)])) (o : Off (([] ++ Z) ++ n) [(x, ox), (dx, od)]) :
    News h₀ L h (([(dx, od)] ++ Z) ++ (n ++ [(x, ox)])) ∧ Off ([(dx, od)] ++ Z) (n ++ [(x, ox)]) ∧ Off [(dx, od)] Z := by
  refine ⟨fun p hp => N p ?_, fun p hp q hq => ?_, fun p hp q hq => ?_⟩
  · simp only [List.mem_append, List.mem_cons, List.not_mem_nil, or_false, false_or] at hp ⊢
    grind
  · rcases List.mem_append.mp hp with hp | hp
    · rw [List.mem_singleton.mp hp]
      rcases List.mem_append.mp hq with hq | hq
      · exact Ne.symm (o q (List.mem_append_right _ hq) (dx, od) (.tail _ (.head _)))
      · rw [List.mem_singleton.mp hq]; exact Nat.ne_of_lt hlt
    · rcases List.mem_append.mp hq with hq | hq
      · exact O p hp q (List.mem_append_left _ hq)
      · exact O p hp q (List.mem_append_right _ (by rw [List.mem_singleton.mp hq]; exact .head _))
  · rw [List.mem_singleton.mp hp]
    exact Ne.symm (o q (List.mem_append_left _ hq) (dx, od) (.tail _ (.head _)))
/-- one thing goes to what stays, another to what changes -/
theorem toP3 {h₀ h : Heap} {L d ad : Addr} {o1 o2 od : Obj} {Z n : Led} (N : News h₀ L h (([(d, o2)] ++ Z) ++ ((ad, od) :: n))) (O : Off ([(d, o2)] ++ Z) ((ad, od) :: n)) (oP : Off [(d, o2)] Z) (l : ∀ p ∈ ([(d, o1)] ++ Z) ++ n, p.1 ≠ ad) :
    News h₀ L h (([(ad, od)] ++ Z) ++ ((d, o2) :: n)) ∧ Off ([(ad, od)] ++ Z) ((d, o2) :: n) ∧ Off [(ad, od)] Z := by
  refine ⟨fun p hp => N p ?_, fun p hp q hq => ?_, fun p hp q hq => ?_⟩
  · simp only [List.mem_append, List.mem_cons, List.not_mem_nil, or_false] at hp ⊢
    grind
  · rcases List.mem_append.mp hp with hp | hp
    · rw [List.mem_singleton.mp hp]
      rcases List.mem_cons.mp hq with rfl | hq
      · exact Ne.symm (l (d, o1) (.head _))
      · exact Ne.symm (l q (List.mem_append_right _ hq))
    · rcases List.mem_cons.mp hq with rfl | hq
      · exact Ne.symm (oP (d, o2) (.head _) p hp)
      · exact O p (List.mem_append_right _ hp) q (.tail _ hq)
  · rw [List.mem_singleton.mp hp]
    exact Ne.symm (l q (List.mem_append_left _ (List.mem_append_right _ hq)))
section
variable {w : World} {A : Around} {E : Value → Shared → Prop} {s : Shared} {h₀ : Heap} {L : Addr} {m : Str → Option Value} {P P' Z n : Led}
theorem setAttrZ {prog : Program} {K : Frag} {x C dx : Addr} {ox : Obj} {es es' : List DictEntry} {k k' : Nat} {name : Str} {v : Value} {Q : Unit → Shared → Prop} (F : Fr h₀ L s.heap m) (X₀ : K.In h₀) (N : News h₀ L s.heap ((P ++ Z) ++ n)) (O : Off (P ++ Z) n) (oP : Off P Z) (I : InstAt s.heap x ox C (some (dictOf es k))) (hd : ox.dict = some dx)
    (hs : findIn K (.ref C) "__setattr__" = some (some (.builtin "object.__setattr__"))) (hp : plainOver K C = true) (ht : takerIn K C name = some none) (hh : hasDictIn K C = true) (hl : (getL name es).isSome = true)
    (e : (putL name (PyData.keyHash w.params name) (.str name (s.toks + 1)) v es, putN name es k) = (es', k')) (U : Upd dx (dictOf es k) (dictOf es' k') P P') (hz : es'.length ≤ 1000)
    (h : ∀ h', Fr h₀ L h' m → News h₀ L h' ((P' ++ Z) ++ n) → Off (P' ++ Z) n → Off P' Z → Q () { s with heap := h', toks := s.toks + 2 }) :
    wpAny (model prog w) A (setAttr (.ref x) name v) Q E s :=
  set_Y F X₀ N O I hd hs hp ht hh hl e (upd_appL U (upd_ne U oP)) hz fun h' F' N' O' => h h' F' N' O' (upd_off U oP)
theorem setDictZ {d : Addr} {o : Obj} {kvs : List (Str × Value)} {x : Str} {t : Tok} {v : Value} {Q : Unit → Shared → Prop} (F : Fr h₀ L s.heap m) (N : News h₀ L s.heap (([(d, o)] ++ Z) ++ n)) (O : Off ([(d, o)] ++ Z) n) (oP : Off [(d, o)] Z) (hd : o.IsDictOf (strK w) kvs) (hz : kvs.length ≤ sizeLine)
    (h : ∀ h' o', Fr h₀ L h' m → News h₀ L h' (([(d, o')] ++ Z) ++ n) → Off ([(d, o')] ++ Z) n → Off [(d, o')] Z → o'.IsDictOf (strK w) (stored kvs x v) → Q () { s with heap := h', toks := s.toks + 1 }) : wpAny (model PySem.Challenge.rw_pq1326_01.prog w) A (setItem (.ref d) (.str x t) v) Q E s :=
  setDict F N O (.head fun p hp => Ne.symm (oP (d, o) (.head _) p hp)) hd hz fun h' o' F' N' O' hd' => h h' o' F' N' O' (fun p hp q hq => by rw [List.mem_singleton.mp hp]; exact oP (d, o) (.head _) q hq) hd'
end
theorem slice3 {a b c : Value} {k : Nat} (h1 : 1 ≤ k) (h3 : k ≤ 3) : slicePick [a, b, c].toArray none (some (k : Int)) none = ([a, b, c].take k).toArray := by
  have : k = 1 ∨ k = 2 ∨ k = 3 := by exact om_191 _ h1 h3
  rcases this with rfl | rfl | rfl <;> rfl
theorem StrsAre.take : ∀ {vs : List Value} {ys : List Str} (k : Nat), StrsAre vs ys → StrsAre (vs.take k) (ys.take k)
  | _, _, 0, _ => .nil
  | _, _, _ + 1, .nil => .nil
  | _, _, k + 1, .cons x t h => .cons x t (StrsAre.take k h)
theorem take3_len (k : Nat) (a b c : Value) : (List.take k [a, b, c]).length ≤ 64 := by
  rw [List.length_take]; exact Nat.le_trans (Nat.min_le_right _ _) (by show 3 ≤ 64; decide)
theorem take3_short {k : Nat} {a b c : Value} : (List.take k [a, b, c]).length ≤ sizeLine := Nat.le_trans (take3_len k a b c) (by decide)
section
variable {w : World} {c : Nat} {f : Addr} {vs : List Value} {S : Store} {s : Shared} {Q E : Value → Shared → Prop} {h₀ : Heap} {L : Addr} {m : Str → Option Value} {Y news : Led}
theorem PureT.useL {Post : Led → Value → Prop} (G : Gr w S h₀) (F : Fr h₀ L s.heap m) (N : News h₀ L s.heap (Y ++ news)) (O : Off Y news) (B : Below callerA h₀ [] h₀) (C : PureT w c f vs (Kn S news) Post) (hd : (lawA L).depth + c + 100 < recursionLimit)
    (k : ∀ r tl h' tk', Fr h₀ L h' m → News h₀ L h' (Y ++ (news ++ tl)) → Off Y (news ++ tl) → Off (Y ++ news) tl → Post tl r → Q r { s with heap := h', toks := tk' }) :
    wpAny (model PySem.Challenge.rw_pq1326_01.prog w) (lawA L) (call (.ref f) vs) Q E s := PureT.use C G F N O rfl B rfl rfl rfl hd k
theorem Pure.useL {Post : Store → Value → Prop} (G : Gr w S h₀) (F : Fr h₀ L s.heap m) (N : News h₀ L s.heap (Y ++ news)) (O : Off Y news) (B : Below callerA h₀ [] h₀) (C : Pure w c f vs (Kn S news) Post) (hd : (lawA L).depth + c + 100 < recursionLimit)
    (k : ∀ r tl h' tk', Fr h₀ L h' m → News h₀ L h' (Y ++ (news ++ tl)) → Off Y (news ++ tl) → Off (Y ++ news) tl → Post (Kn S (news ++ tl)) r → Q r { s with heap := h', toks := tk' }) :
    wpAny (model PySem.Challenge.rw_pq1326_01.prog w) (lawA L) (call (.ref f) vs) Q E s := Pure.use C G F N O rfl B rfl rfl rfl hd k
end
theorem str_canLayAll : ∀ ns : List Str, (∀ x ∈ ns, PyData.strOk x = true) → PyData.canLayAll0 (ns.map PyData.str) = true
  | [], _ => rfl
  | x :: r, h => by simp [PyData.canLayAll0, PyData.canLay0, h x (.head _), str_canLayAll r fun y hy => h y (.tail _ hy)]
theorem str_depthAll : ∀ ns : List Str, PyData.depthAll (ns.map PyData.str) = 0
  | [] => rfl
  | _ :: r => by simp [PyData.depthAll, PyData.depth, str_depthAll r]
theorem str_shaped (ns : List Str) (h : ∀ x ∈ ns, PyData.strOk x = true) : PySem.SeqAt.shaped (.list (ns.map PyData.str)) = true := by
  simp [PySem.SeqAt.shaped, PyData.canLay0, PyData.depth, str_canLayAll ns h, str_depthAll]
theorem str_sameAll : ∀ ns ms : List Str, PySem.Spec.sameAll (ns.map PyData.str) (ms.map PyData.str) = decide (ns = ms)
  | [], [] => by simp [PySem.Spec.sameAll]
  | [], _ :: _ => by simp [PySem.Spec.sameAll]
  | _ :: _, [] => by simp [PySem.Spec.sameAll]
  | a :: r, b :: t => by
    simp only [List.map_cons, PySem.Spec.sameAll, PySem.Spec.same, str_sameAll r t]
    by_cases h : a = b <;> by_cases h' : r = t <;> simp [h, h']
theorem str_same (ns ms : List Str) : PySem.Spec.same (.list (ns.map PyData.str)) (.list (ms.map PyData.str)) = decide (ns = ms) := by
  simp only [PySem.Spec.same]; exact str_sameAll ns ms
theorem str_carried : ∀ {vs : List Value} {ns : List Str}, StrsAre vs ns → CarriedAll vs (ns.map PyData.str)
  | _, _, .nil => .nil
  | _, _, .cons x t r => .cons (.str x t) (str_carried r)
section
variable {prog : Program} {w : World} {A : Around} {E : Value → Shared → Prop} {s : Shared} {a b : Addr} {xs ys : List Value} {ka kb : Nat} {Q : Value → Shared → Prop}
theorem ne_strs {ns ms : List Str} (ha : s.heap.get? a = some (lisO xs ka)) (hb : s.heap.get? b = some (lisO ys kb)) (hi : StrsAre xs ns) (hj : StrsAre ys ms) (h1 : ∀ x ∈ ns, PyData.strOk x = true) (h2 : ∀ x ∈ ms, PyData.strOk x = true) (hu : A.units + 64 < cLine) (h : Q (.bool (!decide (ns = ms))) s) :
    wpAny (model prog w) A (compareOp .NotEq (.ref a) (.ref b)) Q E s :=
  ne_dataH_same (reads_newData (lisAt ha) (str_carried hi)) (reads_newData (lisAt hb) (str_carried hj)) (str_shaped _ h1) (str_shaped _ h2) hu (PySem.SeqAt.noMix_of_shape (.list .str) rfl _ _ (list_map_has fun _ => rfl) (list_map_has fun _ => rfl)) (by rw [str_same]; exact h)
end
noncomputable abbrev pqr : List Str := [Str.ofString "p", Str.ofString "q", Str.ofString "r"]
theorem names_ok {nms : List Str} {wide : Nat} (h : nms = xNames.take wide ∨ nms = pqr.take wide) : ∀ x ∈ nms, PyData.strOk x = true := by
  have a : ∀ x ∈ xNames, PyData.strOk x = true := by decide +kernel
  have b : ∀ x ∈ pqr, PyData.strOk x = true := by decide +kernel
  rcases h with rfl | rfl
  · exact fun x hx => a x (List.mem_of_mem_take hx)
  · exact fun x hx => b x (List.mem_of_mem_take hx)
noncomputable def BoolV (v : Value) (b : Bool) : Prop := v = .bool b
theorem bool_canLayAll : ∀ ns : List Bool, PyData.canLayAll0 (ns.map PyData.bool) = true
  | [] => rfl
  | _ :: r => by simp [PyData.canLayAll0, PyData.canLay0, bool_canLayAll r]
theorem bool_depthAll : ∀ ns : List Bool, PyData.depthAll (ns.map PyData.bool) = 0
  | [] => rfl
  | _ :: r => by simp [PyData.depthAll, PyData.depth, bool_depthAll r]
theorem bool_shaped (ns : List Bool) : PySem.SeqAt.shaped (.list (ns.map PyData.bool)) = true := by
  simp [PySem.SeqAt.shaped, PyData.canLay0, PyData.depth, bool_canLayAll ns, bool_depthAll]
theorem bool_sameAll : ∀ ns ms : List Bool, PySem.Spec.sameAll (ns.map PyData.bool) (ms.map PyData.bool) = decide (ns = ms)
  | [], [] => by simp [PySem.Spec.sameAll]
  | [], _ :: _ => by simp [PySem.Spec.sameAll]
  | _ :: _, [] => by simp [PySem.Spec.sameAll]
  | a :: r, b :: t => by
    simp only [List.map_cons, PySem.Spec.sameAll, PySem.Spec.same, bool_sameAll r t]
    by_cases h : a = b <;> by_cases h' : r = t <;> simp [h, h']
theorem bool_carried : ∀ {vs : List Value} {ns : List Bool}, L2 BoolV vs ns → CarriedAll vs (ns.map PyData.bool)
  | [], [], _ => .nil
  | _ :: _, _ :: _, h => by rw [show _ = Value.bool _ from h.1]; exact .cons (.bool _) (bool_carried h.2)
  | [], _ :: _, h => h.elim
  | _ :: _, [], h => h.elim
theorem ne_bools {prog : Program} {w : World} {A : Around} {E : Value → Shared → Prop} {s : Shared} {a b : Addr} {xs ys : List Value} {ka kb : Nat} {Q : Value → Shared → Prop} {ns ms : List Bool} (ha : s.heap.get? a = some (lisO xs ka)) (hb : s.heap.get? b = some (lisO ys kb)) (hi : L2 BoolV xs ns) (hj : L2 BoolV ys ms) (hu : A.units + 64 < cLine) (h : Q (.bool (!decide (ns = ms))) s) :
    wpAny (model prog w) A (compareOp .NotEq (.ref a) (.ref b)) Q E s :=
  ne_dataH_same (reads_newData (lisAt ha) (bool_carried hi)) (reads_newData (lisAt hb) (bool_carried hj)) (bool_shaped _) (bool_shaped _) hu (PySem.SeqAt.noMix_of_shape (.list .bool) rfl _ _ (list_map_has fun _ => rfl) (list_map_has fun _ => rfl)) (by rw [show PySem.Spec.same (.list (ns.map PyData.bool)) (.list (ms.map PyData.bool)) = decide (ns = ms) from by simp only [PySem.Spec.same]; exact bool_sameAll ns ms]; exact h)
theorem ne_strs_same {prog : Program} {w : World} {A : Around} {E : Value → Shared → Prop} {s : Shared} {a b : Addr} {xs ys : List Value} {ka kb : Nat} {Q : Value → Shared → Prop} {ns : List Str} (ha : s.heap.get? a = some (lisO xs ka)) (hb : s.heap.get? b = some (lisO ys kb)) (hi : StrsAre xs ns) (hj : StrsAre ys ns) (h1 : ∀ x ∈ ns, PyData.strOk x = true) (hu : A.units + 64 < cLine) (h : Q (.bool false) s) :
    wpAny (model prog w) A (compareOp .NotEq (.ref a) (.ref b)) Q E s := ne_strs ha hb hi hj h1 h1 hu (by simpa using h)
theorem want_at {w : World} {ivs : List Value} {name : Str} {S' : Store} {r u : Value} {yn : List Str} (h : WantP w yn ivs name S' r) (h1 : yn.any (· == name) = true) (j : Nat) (h2 : yn.idxOf name = j) (h3 : ivs[j]? = some u) : r = u := by
  have := h.1 h1
  rw [h2, h3] at this
  exact (Option.some.inj this).symm
theorem NumV.mono {w : World} {S S' : Store} (hs : ∀ a o, S a o → S' a o) {a : Addr} {k : Int} (h : NumV w S a k) : NumV w S' a k :=
  by obtain ⟨kt, il, sv, lv, t, ki, x, y⟩ := h; exact ⟨kt, il, sv, lv, t, ki, x.mono hs, hs _ _ y⟩
theorem RatV.mono {w : World} {S S' : Store} (hs : ∀ a o, S a o → S' a o) {a : Addr} {qs : List Rat} (h : RatV w S a qs) : RatV w S' a qs :=
  by obtain ⟨kt, il, sv, lv, vs, ki, x, y, z⟩ := h; exact ⟨kt, il, sv, lv, vs, ki, x.mono hs, hs _ _ y, RatsS.mono hs z⟩
theorem CoefV.mono {w : World} {S S' : Store} (hs : ∀ a o, S a o → S' a o) {a : Addr} {cs : List (Option Rat)} {nms : List Str} (h : CoefV w S a cs nms) : CoefV w S' a cs nms :=
  by obtain ⟨kt, il, ad, sv, lv, vs, ki, od, cx, nk, na, ns, nl, cD, nvs, kn, a1, a2, a3, a4, a5, a6, a7, a8⟩ := h; exact ⟨kt, il, ad, sv, lv, vs, ki, od, cx, nk, na, ns, nl, cD, nvs, kn, a1.mono hs, hs _ _ a2, OptsS.mono hs a3, hs _ _ a4, a5, a6.mono hs, hs _ _ a7, a8⟩
theorem ToldP.mono {w : World} {S S' : Store} (hs : ∀ a o, S a o → S' a o) {r : Value} {cols : List (List Rat)} {ys : List Rat} {nms : List Str} (h : ToldP w S r cols ys nms) : ToldP w S' r cols ys nms :=
  by obtain ⟨c1, c2, c3, c4, c5, a, b, c, d, e, f⟩ := h; exact ⟨c1, c2, c3, c4, c5, a.mono hs, b.mono hs, c.mono hs, d.mono hs, e.mono hs, f.mono hs⟩
/-- the exact values of a column so far -/
noncomputable def ExR (col : List Rat) (j : Nat) (ys : List Value) (S : Store) : Prop := RatsS S ys (col.take j)
theorem ExR.snoc {col : List Rat} {j : Nat} {ys : List Value} {S S' : Store} {v : Value} (h : ExR col j ys S) (hs : ∀ a o, S a o → S' a o) (hj : j < col.length) (hv : RatS S' v col[j]) : ExR col (j + 1) (ys ++ [v]) S' := by
  unfold ExR at h ⊢
  rw [take_succ' _ _ hj]
  exact rats_L2.mpr (L2.snoc (rats_L2.mp (RatsS.mono hs h)) hv)
theorem rat_int {S : Store} {a : Addr} {n : Int} {t1 t2 : Tok} (h : S a (tupO [.int n t1, .int 1 t2])) : RatS S (.ref a) (n : Rat) := ⟨a, t1, t2, rfl, by rw [Rat.num_intCast, Rat.den_intCast]; exact h⟩
/-- the columns' exact values so far -/
noncomputable def OxR (cols : List (List Rat)) (i : Nat) (ys : List Value) (S : Store) : Prop := RatLs S ys (cols.take i)
theorem OxR.snoc {cols : List (List Rat)} {i k : Nat} {ys ws : List Value} {S S' : Store} {D : Addr} (h : OxR cols i ys S) (hs : ∀ a o, S a o → S' a o) (hi : i < cols.length) (hD : S' D (lisO ws k)) (hw : ExR cols[i] cols[i].length ws S') : OxR cols (i + 1) (ys ++ [.ref D]) S' := by
  unfold OxR at h ⊢
  rw [take_succ' _ _ hi]
  unfold ExR at hw
  rw [List.take_length] at hw
  exact L2.snoc (RatLs.mono hs h) ⟨D, k, ws, rfl, hD, hw⟩
theorem ExR.mono {S S' : Store} (hs : ∀ a o, S a o → S' a o) {col : List Rat} {j : Nat} {ys : List Value} (h : ExR col j ys S) : ExR col j ys S' := RatsS.mono hs h
/-- the places that have a coefficient -/
noncomputable def usedN (cs : List (Option Rat)) (i : Nat) : List Nat := (List.range i).filter fun p => (cs.getD p none).isSome
theorem usedN_yes {cs : List (Option Rat)} {i : Nat} (h : (cs.getD i none).isSome = true) : usedN cs (i + 1) = usedN cs i ++ [i] := by
  unfold usedN
  rw [List.range_succ, List.filter_append, List.filter_cons_of_pos (by exact h), List.filter_nil]
theorem usedN_no {cs : List (Option Rat)} {i : Nat} (h : (cs.getD i none).isSome = false) : usedN cs (i + 1) = usedN cs i := by
  unfold usedN
  rw [List.range_succ, List.filter_append, List.filter_cons_of_neg (by rw [h]; decide), List.filter_nil, List.append_nil]
noncomputable def UseR (cs : List (Option Rat)) (i : Nat) (ys : List Value) (_ : Store) : Prop := L2 NatV ys (usedN cs i)
theorem UseR.yes {cs : List (Option Rat)} {i : Nat} {ys : List Value} {S S' : Store} {t : Tok} (h : UseR cs i ys S) {q : Rat} (hi : i < cs.length) (e : cs[i] = some q) : UseR cs (i + 1) (ys ++ [.int (i : Int) t]) S' := by
  unfold UseR at h ⊢
  rw [usedN_yes (by rw [List.getD_eq_getElem?_getD, List.getElem?_eq_getElem hi, e]; rfl)]
  exact L2.snoc h ⟨t, rfl⟩
theorem UseR.no {cs : List (Option Rat)} {i : Nat} {ys : List Value} {S S' : Store} (h : UseR cs i ys S) (hi : i < cs.length) (e : cs[i] = none) : UseR cs (i + 1) ys S' := by
  unfold UseR at h ⊢
  rw [usedN_no (by rw [List.getD_eq_getElem?_getD, List.getElem?_eq_getElem hi, e]; rfl)]
  exact h
theorem fCoef_len (cols : List (List Rat)) (y : List Rat) : (fCoef cols y).length = cols.length := placeR_length _ _ _ _
theorem place_at {piv : List Nat} {vals : List Rat} {w : Nat} {q : Rat} : ∀ (i p : Nat), (placeR piv vals w i).getD p none = some q → ∃ k, k < i ∧ q = vals.getD k 0
  | 0, p, h => by
    rw [placeR, List.getD_eq_getElem?_getD, List.getElem?_replicate] at h
    split at h <;> simp at h
  | i + 1, p, h => by
    rw [placeR, List.getD_eq_getElem?_getD, List.getElem?_set] at h
    split at h
    · split at h
      · simp at h; exact ⟨i, Nat.lt_succ_self _, by simpa using h.symm⟩
      · simp at h
    · rw [← List.getD_eq_getElem?_getD] at h
      obtain ⟨k, h1, h2⟩ := place_at i p h
      exact ⟨k, Nat.lt_succ_of_lt h1, h2⟩
section
variable {rows : Nat} {cols : List (List Rat)} {y : List Rat}
theorem rest_sz (h5 : rows ≤ 5) (h3 : cols.length ≤ 3) (hc : ∀ c ∈ cols, c.length = rows) (hs : ∀ c ∈ cols, ∀ q ∈ c, Sz q 3) (hy : y.length = rows) (hys : ∀ q ∈ y, Sz q 3) : ∀ q ∈ fRest cols y, Sz q 38535 := fun q hq => by
  have ok := orth_ok h5 hc hs cols.length (Nat.le_refl _)
  obtain ⟨a1, a2, a3, a4⟩ := in_ok (col := y) ok h5 hy hys (fRank cols) (Nat.le_refl _)
  have := rank_le h5 hc hs
  exact (a2 q hq).le (cB_le3 _ (by exact om_28 _ _ h3 this))
theorem coef_sz (h5 : rows ≤ 5) (h3 : cols.length ≤ 3) (hc : ∀ c ∈ cols, c.length = rows) (hs : ∀ c ∈ cols, ∀ q ∈ c, Sz q 3) (hy : y.length = rows) (hys : ∀ q ∈ y, Sz q 3) {p : Nat} {q : Rat} (h : (fCoef cols y).getD p none = some q) : Sz q 8000000 := by
  have ok := orth_ok h5 hc hs cols.length (Nat.le_refl _)
  obtain ⟨a1, a2, a3, a4⟩ := in_ok (col := y) ok h5 hy hys (fRank cols) (Nat.le_refl _)
  have hr := rank_le h5 hc hs
  obtain ⟨k, hk, rfl⟩ := place_at _ _ h
  have hv : (fVals cols y).length = fRank cols := by unfold fVals; rw [backOut_length]; exact a3
  have z := sz_of_idx a4 (by rw [a3]; exact om_28 _ _ h3 hr)
  exact vals_sz (V := 0) ok (by show fRank cols ≤ 3; exact om_28 _ _ h3 hr) z a3 ((fVals cols y).getD k 0) (getD_mem (l := fVals cols y) (by rw [hv]; exact hk))
theorem subR_mem : ∀ {us vs : List Rat} {q : Rat}, q ∈ subR us vs → ∃ a b, a ∈ us ∧ b ∈ vs ∧ q = a - b
  | [], _, _, h => by simp [subR] at h
  | _ :: _, [], _, h => by simp [subR] at h
  | a :: as, b :: bs, q, h => by
    rcases List.mem_cons.mp h with rfl | h
    · exact ⟨a, b, .head _, .head _, rfl⟩
    · obtain ⟨c, d, h1, h2, h3⟩ := subR_mem h
      exact ⟨c, d, .tail _ h1, .tail _ h2, h3⟩
theorem fit_sz (h5 : rows ≤ 5) (h3 : cols.length ≤ 3) (hc : ∀ c ∈ cols, c.length = rows) (hs : ∀ c ∈ cols, ∀ q ∈ c, Sz q 3) (hy : y.length = rows) (hys : ∀ q ∈ y, Sz q 3) : ∀ q ∈ subR y (fRest cols y), Sz q 38539 := fun q hq => by
  obtain ⟨a, b, h1, h2, rfl⟩ := subR_mem hq
  exact (sz_sub (hys a h1) (rest_sz h5 h3 hc hs hy hys b h2)).le (by exact om_192)
end
theorem sumC_snoc : ∀ {cs : List (Option Rat)} {xs : List Rat} {c : Option Rat} {x : Rat}, cs.length = xs.length → sumC (cs ++ [c]) (xs ++ [x]) = sumC cs xs + x * c.getD 0
  | [], [], none, x, _ => by simp [sumC]; grind
  | [], [], some v, x, _ => by simp [sumC]; grind
  | none :: cs, y :: xs, c, x, h => by
    have ih := sumC_snoc (c := c) (x := x) (cs := cs) (xs := xs) (by simpa using h)
    simpa [sumC] using ih
  | some v :: cs, y :: xs, c, x, h => by
    have ih := sumC_snoc (c := c) (x := x) (cs := cs) (xs := xs) (by simpa using h)
    simp only [List.cons_append, sumC, ih]; grind
  | [], _ :: _, _, _, h => by simp at h
  | _ :: _, [], _, _, h => by simp at h
/-- the pairs that the law sums -/
noncomputable def pairU (cs : List (Option Rat)) (xs : List Rat) (u : Nat) : Rat × Rat := (xs.getD u 0, (cs.getD u none).getD 0)
theorem sumP_used {cs : List (Option Rat)} {xs : List Rat} (h : cs.length = xs.length) : ∀ i, i ≤ cs.length → sumP ((usedN cs i).map (pairU cs xs)) = sumC (cs.take i) (xs.take i)
  | 0, _ => by simp [usedN, sumP, sumC]
  | i + 1, hi => by
    have ih := sumP_used h i (by exact om_89 _ _ hi)
    rw [take_succ' cs i (by exact om_90 _ _ hi), take_succ' xs i (by exact om_193 _ _ _ h hi), sumC_snoc (by rw [List.length_take, List.length_take, h])]
    have e1 : cs.getD i none = cs[i] := getD_get (by exact om_90 _ _ hi)
    have e2 : xs.getD i 0 = xs[i] := getD_get (by exact om_193 _ _ _ h hi)
    cases hc : cs[i] with
    | none =>
      rw [usedN_no (by rw [e1, hc]; rfl), ih]; simp; grind
    | some q =>
      rw [usedN_yes (by rw [e1, hc]; rfl), List.map_append, List.map_singleton]
      show sumP (_ ++ [(xs.getD i 0, (cs.getD i none).getD 0)]) = _
      rw [sumP_snoc, ih, e1, e2, hc]
theorem usedN_mem {cs : List (Option Rat)} {i u : Nat} (h : u ∈ usedN cs i) : u < i ∧ ∃ q, cs.getD u none = some q := by
  unfold usedN at h
  obtain ⟨h1, h2⟩ := List.mem_filter.mp h
  exact ⟨List.mem_range.mp h1, Option.isSome_iff_exists.mp h2⟩
theorem usedN_len {cs : List (Option Rat)} {i : Nat} : (usedN cs i).length ≤ i := by
  unfold usedN
  exact Nat.le_trans (List.length_filter_le _ _) (by simp)
/-- what the law asks of a sum -/
theorem sum_asked {B k : Nat} {ps : List (Rat × Rat)} {n d : Int} {f : Rat} (h : SumAt B k ps n d) (hk : ps.length ≤ k) (e : sumP ps = f) : n * (f.den : Int) = f.num * d := by
  have h1 := h.eq
  rw [List.take_of_length_le hk, e] at h1
  have h2 := num_eq f
  have : ((n * (f.den : Int) : Int) : Rat) = ((f.num * d : Int) : Rat) := by
    rw [Rat.intCast_mul, Rat.intCast_mul, h1, h2]
    simp only [Rat.intCast_natCast]
    grind
  exact_mod_cast this
theorem sum_zero_asked {B k : Nat} {ps : List (Rat × Rat)} {n d : Int} (h : SumAt B k ps n d) (hk : ps.length ≤ k) (e : sumP ps = 0) : n = 0 := by
  have h1 := h.eq
  rw [List.take_of_length_le hk, e] at h1
  have : (n : Rat) = ((0 : Int) : Rat) := by rw [h1]; simp
  exact_mod_cast this
open PySem.Builtin.Int in
theorem sum_ok {B k : Nat} {ps : List (Rat × Rat)} {n d : Int} {f : Rat} {C : Nat} (h : SumAt B k ps n d) (hf : Sz f C) (hk : k ≤ 5) (hB : B ≤ 8000100) (hC : C ≤ 90000000) : IntMulOk n (f.den : Int) ∧ IntMulOk f.num d := by
  have hb : k * B ≤ 5 * 8000100 := Nat.mul_le_mul hk hB
  have hb1 : k * (B + 1) ≤ 5 * 8000101 := Nat.mul_le_mul hk (by exact om_180 _ hB)
  have := h.nB
  have := h.dB
  exact ⟨IntMulOk.of_le h.nB hf.2 (by exact om_194 _ _ hC hb1), IntMulOk.of_le hf.1 h.dB (by exact om_195 _ _ hC hb)⟩
theorem subN {h₀ h : Heap} {L : Addr} {P Z n n' : Led} (_ : News h₀ L h ((P ++ Z) ++ n')) (h : ∀ q ∈ n, q ∈ n') : ∀ q ∈ n, q ∈ n' := h
section
variable {rows w : Nat} {cols : List (List Rat)} {y : List Rat}
/-- the pairs of a row -/
noncomputable def puR (cols : List (List Rat)) (y : List Rat) (w i : Nat) : List (Rat × Rat) := (usedN (fCoef cols y) w).map (pairU (fCoef cols y) (cols.map fun c => c.getD i 0))
theorem puR_len : (puR cols y w i).length = (usedN (fCoef cols y) w).length := by simp [puR]
theorem puR_sum (h5 : rows ≤ 5) (h3 : cols.length ≤ 3) (hc : ∀ c ∈ cols, c.length = rows) (hs : ∀ c ∈ cols, ∀ q ∈ c, Sz q 3) (hy : y.length = rows) (hys : ∀ q ∈ y, Sz q 3) (i : Nat) : sumP (puR cols y cols.length i) = (subR y (fRest cols y)).getD i 0 := by
  have e := fCoef_len cols y
  have h := sumP_used (cs := fCoef cols y) (xs := cols.map fun c => c.getD i 0) (by simp [e]) cols.length (by exact om_34 _ _ e)
  rw [List.take_of_length_le (by exact om_39 _ _ e), List.take_of_length_le (by simp)] at h
  unfold puR
  rw [h]
  exact fit_sum h5 h3 hc hs hy hys i
theorem puR_p (hc : ∀ c ∈ cols, c.length = rows) (hs : ∀ c ∈ cols, ∀ q ∈ c, Sz q 3) {i : Nat} (hi : i < rows) : ∀ pq ∈ puR cols y cols.length i, Sz pq.1 3 := fun pq h => by
  obtain ⟨u, hu, rfl⟩ := List.mem_map.mp h
  obtain ⟨h1, _⟩ := usedN_mem hu
  show Sz ((cols.map fun c => c.getD i 0).getD u 0) 3
  rw [getD_get (by simpa using h1), List.getElem_map]
  exact hs _ (List.getElem_mem h1) _ (getD_mem (by rw [hc _ (List.getElem_mem h1)]; exact hi))
theorem puR_q (h5 : rows ≤ 5) (h3 : cols.length ≤ 3) (hc : ∀ c ∈ cols, c.length = rows) (hs : ∀ c ∈ cols, ∀ q ∈ c, Sz q 3) (hy : y.length = rows) (hys : ∀ q ∈ y, Sz q 3) {i : Nat} : ∀ pq ∈ puR cols y cols.length i, Sz pq.2 8000000 := fun pq h => by
  obtain ⟨u, hu, rfl⟩ := List.mem_map.mp h
  obtain ⟨_, q, hq⟩ := usedN_mem hu
  show Sz (((fCoef cols y).getD u none).getD 0) _
  rw [hq]
  exact coef_sz h5 h3 hc hs hy hys hq
/-- the place j of the pairs -/
theorem puR_at {i j : Nat} (hj : j < (usedN (fCoef cols y) w).length) (hw : w ≤ cols.length) : ∃ u q, (usedN (fCoef cols y) w)[j] = u ∧ ∃ (h1 : u < cols.length) (h2 : u < (fCoef cols y).length), u < w ∧ (fCoef cols y)[u] = some q ∧ ∀ h : j < (puR cols y w i).length, (puR cols y w i)[j] = (cols[u].getD i 0, q) := by
  have hm := List.getElem_mem hj
  obtain ⟨h1, q, hq⟩ := usedN_mem hm
  have e := fCoef_len cols y
  refine ⟨_, q, rfl, by exact om_131 _ _ _ hw h1, by exact om_132 _ _ _ _ hw h1 e, h1, ?_, fun h => ?_⟩
  · rw [← hq]; exact (getD_get (by exact om_132 _ _ _ _ hw h1 e)).symm
  · have h1' : (usedN (fCoef cols y) w)[j] < cols.length := by exact om_131 _ _ _ hw h1
    simp only [puR, List.getElem_map, pairU]
    rw [hq, getD_get (by simpa using h1'), List.getElem_map]
    rfl
end
noncomputable def PuR (ps : List (Rat × Rat)) (j : Nat) (ys : List Value) (S : Store) : Prop := L2 (PairS S) ys (ps.take j)
theorem PuR.nil {ps : List (Rat × Rat)} {S : Store} : PuR ps 0 [] S := by unfold PuR; rw [List.take_zero]; trivial
theorem PuR.snoc {ps : List (Rat × Rat)} {j : Nat} {ys : List Value} {S S' : Store} {v : Value} (h : PuR ps j ys S) (hs : ∀ a o, S a o → S' a o) (hj : j < ps.length) (hv : PairS S' v ps[j]) : PuR ps (j + 1) (ys ++ [v]) S' := by
  unfold PuR at h ⊢
  rw [take_succ' _ _ hj]
  exact L2.snoc (L2.mono (fun _ _ => PairS.mono hs) h) hv
theorem PuR.all {ps : List (Rat × Rat)} {ys : List Value} {S : Store} (h : PuR ps ps.length ys S) : L2 (PairS S) ys ps := by unfold PuR at h; rwa [List.take_length] at h
theorem pair_mk {S : Store} {a : Addr} {u1 u2 : Value} {p q : Rat} (h : S a (tupO [u1, u2])) (h1 : RatS S u1 p) (h2 : RatS S u2 q) : PairS S (.ref a) (p, q) := ⟨a, u1, u2, rfl, h, h1, h2⟩
noncomputable def RowR (ml cl : List (Str × Option Value)) (_ : Nat) (m₁ cv₁ : Str → Option Value) (P : Led) (_ : Store) : Prop := AllEq m₁ ml ∧ AllEq cv₁ cl ∧ P = []
/-- a number's item, opened -/
theorem rats_at {S : Store} {vs : List Value} {qs : List Rat} (h : RatsS S vs qs) {i : Nat} (hi : i < qs.length) : ∃ a t1 t2, vs[i]? = some (.ref a) ∧ S a (tupO [.int (qs.getD i 0).num t1, .int ((qs.getD i 0).den : Int) t2]) := by
  obtain ⟨v, h1, a, t1, t2, rfl, h2⟩ := RatsS.get i h hi
  exact ⟨a, t1, t2, h1, by rw [getD_get hi]; exact h2⟩
theorem ratl_at {S : Store} {xvs : List Value} {cols : List (List Rat)} (h : RatLs S xvs cols) {u i : Nat} (hu : u < cols.length) (hi : i < cols[u].length) : ∃ ca kc ws v, xvs[u]? = some (.ref ca) ∧ S ca (lisO ws kc) ∧ ws.length = cols[u].length ∧ ws[i]? = some v ∧ RatS S v (cols[u].getD i 0) := by
  obtain ⟨v, h1, ca, kc, ws, rfl, h2, h3⟩ := L2.get u h hu
  obtain ⟨v', h4, h5⟩ := RatsS.get i h3 hi
  exact ⟨ca, kc, ws, v', h1, h2, h3.length, h4, by rw [getD_get hi]; exact h5⟩
theorem opts_at {S : Store} {cvals : List Value} {cs : List (Option Rat)} (h : OptsS S cvals cs) {u : Nat} {q : Rat} (hu : u < cs.length) (e : cs[u] = some q) : ∃ v, cvals[u]? = some v ∧ RatS S v q := by
  obtain ⟨v, h1, h2⟩ := L2.get u h hu
  rw [e] at h2
  exact ⟨v, h1, h2⟩
theorem sum_two {f r : Rat} : sumP [(f, q11), (r, q11)] = f + r := by
  have : (q11 : Rat) = 1 := by decide +kernel
  simp only [sumP, this]; grind
theorem two_p {f r : Rat} {B : Nat} (hf : Sz f B) (hr : Sz r B) : ∀ pq ∈ [(f, q11), (r, q11)], Sz pq.1 B := fun pq h => by
  rcases List.mem_cons.mp h with rfl | h
  · exact hf
  · rw [List.mem_singleton.mp h]; exact hr
theorem two_q {f r : Rat} : ∀ pq ∈ [(f, q11), (r, q11)], Sz pq.2 3 := fun pq h => by
  rcases List.mem_cons.mp h with rfl | h
  · exact sz11
  · rw [List.mem_singleton.mp h]; exact sz11
noncomputable def puC (a b : List Rat) (t : Nat) : List (Rat × Rat) := (List.range t).map fun i => (a.getD i 0, b.getD i 0)
theorem puC_len {a b : List Rat} {t : Nat} : (puC a b t).length = t := by simp [puC]
theorem puC_at {a b : List Rat} {t j : Nat} (h : j < (puC a b t).length) : (puC a b t)[j] = (a.getD j 0, b.getD j 0) := by simp [puC]
theorem puC_sum {a b : List Rat} (h : a.length = b.length) : ∀ t, t ≤ a.length → sumP (puC a b t) = dotR (a.take t) (b.take t)
  | 0, _ => by simp [puC, sumP, dotR]
  | t + 1, ht => by
    have ih := puC_sum h t (by exact om_89 _ _ ht)
    rw [take_succ' a t (by exact om_90 _ _ ht), take_succ' b t (by exact om_193 _ _ _ h ht), dotR_snoc _ _ _ _ (by rw [List.length_take, List.length_take, h]), ← ih]
    unfold puC
    rw [List.range_succ, List.map_append, List.map_singleton, sumP_snoc, getD_get (by exact om_90 _ _ ht), getD_get (by exact om_193 _ _ _ h ht)]
theorem puC_zero {a b : List Rat} {t : Nat} (h : a.length = t) (h' : b.length = t) (e : dotR a b = 0) : sumP (puC a b t) = 0 := by
  rw [puC_sum (by exact om_33 _ _ _ h h') t (by exact om_34 _ _ h), List.take_of_length_le (by exact om_39 _ _ h), List.take_of_length_le (by exact om_39 _ _ h'), e]
theorem puC_p {a b : List Rat} {t B : Nat} (h : a.length = t) (hs : ∀ q ∈ a, Sz q B) : ∀ pq ∈ puC a b t, Sz pq.1 B := fun pq hp => by
  obtain ⟨i, hi, rfl⟩ := List.mem_map.mp hp
  exact hs _ (getD_mem (h.symm ▸ List.mem_range.mp hi))
theorem puC_q {a b : List Rat} {t B : Nat} (h : b.length = t) (hs : ∀ q ∈ b, Sz q B) : ∀ pq ∈ puC a b t, Sz pq.2 B := fun pq hp => by
  obtain ⟨i, hi, rfl⟩ := List.mem_map.mp hp
  exact hs _ (getD_mem (h.symm ▸ List.mem_range.mp hi))
theorem AttrV.some {w : World} {S : Store} {av : Value} {name : Str} {a : Addr} (h : AttrV w S av name (.ref a)) : ∃ ad o kvs, av = .ref ad ∧ S ad o ∧ o.IsDictOf (strK w) kvs ∧ valueAt kvs name = some (.ref a) := by
  rcases h with ⟨_, e⟩ | ⟨ad, o, kvs, e, h1, h2, h3, _⟩
  · cases e
  · refine ⟨ad, o, kvs, e, h1, h2, ?_⟩
    cases hv : valueAt kvs name with
    | none => rw [hv] at h3; cases h3
    | some x => rw [hv] at h3; exact congrArg _ h3
theorem ne_int1 {prog : Program} {w : World} {A : Around} {E : Value → Shared → Prop} {s : Shared} {a b : Addr} {i j : Int} {ti tj : Tok} {ka kb : Nat} {Q : Value → Shared → Prop} (ha : s.heap.get? a = some (lisO [.int i ti] ka)) (hb : s.heap.get? b = some (lisO [.int j tj] kb)) (e : i = j) (hu : A.units + 64 < cLine) (h : Q (.bool false) s) :
    wpAny (model prog w) A (compareOp .NotEq (.ref a) (.ref b)) Q E s := by
  subst e
  refine ne_dataH_same (reads_newData (lisAt ha) (ds := [PyData.int i]) (.cons (.int i ti) .nil)) (reads_newData (lisAt hb) (ds := [PyData.int i]) (.cons (.int i tj) .nil)) ?_ ?_ hu (PySem.SeqAt.noMix_of_shape (.list .int) rfl _ _ rfl rfl) ?_
  · simp [PySem.SeqAt.shaped, PyData.canLay0, PyData.canLayAll0, PyData.depth, PyData.depthAll]
  · simp [PySem.SeqAt.shaped, PyData.canLay0, PyData.canLayAll0, PyData.depth, PyData.depthAll]
  · rw [show PySem.Spec.same (.list [PyData.int i]) (.list [PyData.int i]) = true from by simp [PySem.Spec.same, PySem.Spec.sameAll]]; exact h
theorem usedN_count {cs : List (Option Rat)} : ∀ i, i ≤ cs.length → (usedN cs i).length = (cs.take i).countP (·.isSome)
  | 0, _ => by simp [usedN]
  | i + 1, hi => by
    have ih := usedN_count (cs := cs) i (by exact om_89 _ _ hi)
    rw [take_succ' cs i (by exact om_90 _ _ hi), List.countP_append]
    have e1 : cs.getD i none = cs[i] := getD_get (by exact om_90 _ _ hi)
    cases hc : cs[i] with
    | none => rw [usedN_no (by rw [e1, hc]; rfl), ih]; simp
    | some q => rw [usedN_yes (by rw [e1, hc]; rfl), List.length_append, ih]; simp
theorem ints_nats : ∀ {vs : List Value} {ks : List Nat}, L2 NatV vs ks → IntsAre vs (ks.map fun k : Nat => (k : Int))
  | [], [], _ => .nil
  | _ :: _, _ :: _, h => by
    obtain ⟨t, e⟩ := h.1
    rw [e]
    exact .cons _ _ (ints_nats h.2)
  | [], _ :: _, h => h.elim
  | _ :: _, [], h => h.elim
theorem used_no1 {cs : List (Option Rat)} {w : Nat} (h : cs.getD 1 none = none) : ((usedN cs w).map fun k : Nat => (k : Int)).any (· == 1) = false := by
  rw [List.any_eq_false]
  intro x hx
  obtain ⟨k, hk, rfl⟩ := List.mem_map.mp hx
  obtain ⟨_, q, hq⟩ := usedN_mem hk
  intro e
  have e2 : (k : Int) = 1 := by simpa using e
  have : k = 1 := by exact om_196 _ e2
  subst this
  rw [h] at hq; cases hq
theorem in_no {prog : Program} {w : World} {A : Around} {E : Value → Shared → Prop} {s : Shared} {l : Addr} {vs : List Value} {kk : Nat} {ks : List Nat} {t : Tok} {Q : Value → Shared → Prop} {k : Int} (hl : s.heap.get? l = some (lisO vs kk)) (hi : L2 NatV vs ks)
    (e : (ks.map fun k : Nat => (k : Int)).any (· == k) = false) (h : Q (.bool false) s) : wpAny (model prog w) A (compareOp .In (.int k t) (.ref l)) Q E s :=
  in_list_ints (lisAt hl) (ints_nats hi) (by rw [e]; exact h)
noncomputable def words4 : List Str := [Str.ofString "coefficients", Str.ofString "residuals", Str.ofString "fitted.values", Str.ofString "df.residual"]
noncomputable def word4 (i : Nat) : Str := words4.getD i (Str.ofString "")
theorem strs_get : ∀ {vs : List Value} {ys : List Str} (i : Nat) {v : Value}, StrsAre vs ys → vs[i]? = some v → ∃ t, v = .str (ys.getD i (Str.ofString "")) t
  | _, _, _, _, .nil, h => by simp at h
  | _, _, 0, _, .cons x t r, h => ⟨t, by simpa using h.symm⟩
  | _, _, i + 1, _, .cons x t r, h => by
    obtain ⟨t', e⟩ := strs_get i r (by simpa using h)
    exact ⟨t', by simpa using e⟩
theorem word4_inj {i k : Nat} (hi : i < 4) (hk : k < 4) (h : word4 i = word4 k) : i = k := by
  have key : ∀ i < 4, ∀ k < 4, word4 i = word4 k → i = k := by decide +kernel
  exact key i hi k hk h
noncomputable def pos5 (i : Nat) : Nat := [0, 1, 2, 4].getD i 0
theorem word4_idx {i : Nat} (hi : i < 4) : names5.idxOf (word4 i) = pos5 i := by
  have key : ∀ i < 4, names5.idxOf (word4 i) = pos5 i := by decide +kernel
  exact key i hi
theorem pos5_lt {i : Nat} (hi : i < 4) : pos5 i < names5.length := by
  have key : ∀ i < 4, pos5 i < names5.length := by decide +kernel
  exact key i hi
noncomputable def keptI (k i : Nat) : List Nat := (List.range i).filter fun j => decide (j ≠ k)
theorem keptI_yes {k i : Nat} (h : i ≠ k) : keptI k (i + 1) = keptI k i ++ [i] := by
  unfold keptI
  rw [List.range_succ, List.filter_append, List.filter_cons_of_pos (by simpa using h), List.filter_nil]
theorem keptI_no {k : Nat} : keptI k (k + 1) = keptI k k := by
  unfold keptI
  rw [List.range_succ, List.filter_append, List.filter_cons_of_neg (by simp), List.filter_nil, List.append_nil]
/-- the parts kept so far -/
noncomputable def PieR (cs : List Value) (k i : Nat) (ys : List Value) (_ : Store) : Prop := ys = (keptI k i).map fun j => cs.getD (pos5 j) .none
theorem PieR.yes {cs : List Value} {k i : Nat} {ys : List Value} {S S' : Store} {v : Value} (h : PieR cs k i ys S) (hk : i ≠ k) (hv : cs[pos5 i]? = some v) : PieR cs k (i + 1) (ys ++ [v]) S' := by
  unfold PieR at h ⊢
  rw [keptI_yes hk, List.map_append, List.map_singleton, ← h, List.getD_eq_getElem?_getD, hv]; rfl
theorem PieR.no {cs : List Value} {k : Nat} {ys : List Value} {S S' : Store} (h : PieR cs k k ys S) : PieR cs k (k + 1) ys S' := by
  unfold PieR at h ⊢
  rw [keptI_no]; exact h
noncomputable def KwR (k i : Nat) (ys : List Value) (_ : Store) : Prop := StrsAre ys ((keptI k i).map word4)
theorem strs_snoc {v : Str} {t : Tok} {vs : List Value} {ys : List Str} (h : StrsAre vs ys) : StrsAre (vs ++ [.str v t]) (ys ++ [v]) := StrsAre.snoc1 h
theorem KwR.yes {k i : Nat} {ys : List Value} {S S' : Store} {t : Tok} (h : KwR k i ys S) (hk : i ≠ k) : KwR k (i + 1) (ys ++ [.str (word4 i) t]) S' := by
  unfold KwR at h ⊢
  rw [keptI_yes hk, List.map_append, List.map_singleton]
  exact strs_snoc h
theorem KwR.no {k : Nat} {ys : List Value} {S S' : Store} (h : KwR k k ys S) : KwR k (k + 1) ys S' := by
  unfold KwR at h ⊢
  rw [keptI_no]; exact h
section
variable {prog : Program} {w : World} {A : Around} {E : Value → Shared → Prop} {s : Shared} {Q : Value → Shared → Prop}
theorem ne_w4 {i k : Nat} {t u : Tok} (hi : i < 4) (hk : k < 4) (h : Q (.bool (decide (i ≠ k))) s) : wpAny (model prog w) A (compareOp .NotEq (.str (word4 i) t) (.str (word4 k) u)) Q E s := by
  refine PyProof.Rows.ne_str ?_
  by_cases e : i = k
  · subst e; simpa using h
  · have h1 : word4 i ≠ word4 k := fun q => e (word4_inj hi hk q)
    have h2 : (word4 i != word4 k) = true := by simpa using h1
    rw [h2]
    simpa [e] using h
end
theorem keptI_mem {k j : Nat} (h : j ∈ keptI k 4) : j < 4 ∧ j ≠ k := by
  unfold keptI at h
  obtain ⟨h1, h2⟩ := List.mem_filter.mp h
  exact ⟨List.mem_range.mp h1, by simpa using h2⟩
theorem pie_named {ivs pvs : List Value} {k₀ : Nat} {S : Store} (hP : PieR ivs k₀ 4 pvs S) (hil : ivs.length = 5) (hir : ∀ u ∈ ivs, ∃ a, u = .ref a) : pvs.length = ((keptI k₀ 4).map word4).length ∧ ∀ u ∈ pvs, ∃ a, u = .ref a := by
  unfold PieR at hP
  subst hP
  refine ⟨by simp, fun u hu => ?_⟩
  obtain ⟨j, hj, rfl⟩ := List.mem_map.mp hu
  have h4 := (keptI_mem hj).1
  have hp := pos5_lt h4
  have h5 : names5.length = 5 := by decide +kernel
  rw [getD_get (om_211 _ _ _ hil hp h5)]
  exact hir _ (List.getElem_mem _)
theorem piece_mk {w : World} {S : Store} {dv ad cx : Addr} {od : Obj} {kt t1 t2 t3 t4 t5 ut u1 u2 u3 u4 u5 : Tok} {x il cdx cD : Addr} {ivs pvs nvs : List Value} {k₀ kp kn : Nat} {S0 : Store} (hx : S x (instObj 222 dv)) (hd : S dv (vecD w t1 t2 t3 t4 t5 (.str "list" kt) (.ref il) (.ref ad) (.bool false) (.bool false))) (hi : S il (lisO pvs kp)) (ha : S ad od) (hod : od.IsDictOf (strK w) [(Str.ofString "names", .ref cx)]) (lo : (ad == sysModules) = false)
    (hc : S cx (instObj 222 cdx)) (hcd : S cdx (vecD w u1 u2 u3 u4 u5 (.str "character" ut) (.ref cD) .none (.bool false) (.bool false))) (hcD : S cD (lisO nvs kn)) (hst : StrsAre nvs ((keptI k₀ 4).map word4)) (hP : PieR ivs k₀ 4 pvs S0) (hil : ivs.length = 5) (hir : ∀ u ∈ ivs, ∃ a, u = .ref a) : NamedS w S (.ref x) ((keptI k₀ 4).map word4) pvs := by
  obtain ⟨h1, h2⟩ := pie_named hP hil hir
  refine ⟨⟨kt, il, cD, .ref ad, .bool false, .bool false, .ref cx, .str "character" ut, .none, .bool false, .bool false, kp, kn, nvs, ⟨x, dv, t1, t2, t3, t4, t5, rfl, hx, hd⟩, .inr ⟨ad, od, _, rfl, ha, hod, rfl, lo⟩, .inr ⟨ad, od, _, rfl, ha, hod, rfl, lo⟩, ⟨cx, cdx, u1, u2, u3, u4, u5, rfl, hc, hcd⟩, hcD, hi, hst⟩, ?_, h1, h2⟩
  rw [List.length_map]
  unfold keptI
  exact Nat.le_trans (List.length_filter_le _ _) (by simp)
section
variable {h₀ h : Heap} {L d : Addr} {o : Obj} {P Z n : Led}
theorem consP (N : News h₀ L h (((d, o) :: (P ++ Z)) ++ n)) (O : Off ((d, o) :: (P ++ Z)) n) (l : ∀ p ∈ P ++ Z, p.1 ≠ d) (oP : Off P Z) : News h₀ L h ((((d, o) :: P) ++ Z) ++ n) ∧ Off (((d, o) :: P) ++ Z) n ∧ Off ((d, o) :: P) Z ∧ ∀ p ∈ P, p.1 ≠ d :=
  ⟨N, O, fun p hp q hq => by
    rcases List.mem_cons.mp hp with rfl | hp
    · exact Ne.symm (l q (List.mem_append_right _ hq))
    · exact oP p hp q hq, fun p hp => l p (List.mem_append_left _ hp)⟩
theorem consP_back (N : News h₀ L h ((((d, o) :: P) ++ Z) ++ n)) (O : Off (((d, o) :: P) ++ Z) n) (oP : Off ((d, o) :: P) Z) (hd : ∀ p ∈ P, p.1 ≠ d) : News h₀ L h (((d, o) :: (P ++ Z)) ++ n) ∧ Off ((d, o) :: (P ++ Z)) n ∧ (∀ p ∈ P ++ Z, p.1 ≠ d) ∧ Off P Z :=
  ⟨N, O, fun p hp => by
    rcases List.mem_append.mp hp with hp | hp
    · exact hd p hp
    · exact Ne.symm (oP (d, o) (.head _) p hp), fun p hp q hq => oP p (.tail _ hp) q hq⟩
end
noncomputable abbrev nulK : Str := Str.ofString "NULL"
/-- an object whose kind is told -/
noncomputable def KindV (w : World) (S : Store) (r : Value) (kd : Str) : Prop := (∃ x dx t1 t2 t3 t4 t5 kt iv av sv lv, r = .ref x ∧ S x (instObj 222 dx) ∧ S dx (vecD w t1 t2 t3 t4 t5 (.str kd kt) iv av sv lv)) ∨ (kd = nulK ∧ ∃ x dx t1 t2 t3, r = .ref x ∧ S x (instObj 193 dx) ∧ S dx (nulD w t1 t2 t3))
theorem KindV.mono {w : World} {S S' : Store} (hs : ∀ a o, S a o → S' a o) {r : Value} {kd : Str} (h : KindV w S r kd) : KindV w S' r kd := by
  rcases h with ⟨x, dx, t1, t2, t3, t4, t5, kt, iv, av, sv, lv, e, a, b⟩ | ⟨e, x, dx, t1, t2, t3, e', a, b⟩
  · exact .inl ⟨x, dx, t1, t2, t3, t4, t5, kt, iv, av, sv, lv, e, hs _ _ a, hs _ _ b⟩
  · exact .inr ⟨e, x, dx, t1, t2, t3, e', hs _ _ a, hs _ _ b⟩
/-- the parts' kinds -/
noncomputable def PartsK (w : World) (S : Store) (ivs : List Value) : Prop := ∀ j, j < 4 → ∃ v kd, ivs[pos5 j]? = some v ∧ KindV w S v kd ∧ kd ≠ nulK
theorem PartsK.mono {w : World} {S S' : Store} (hs : ∀ a o, S a o → S' a o) {ivs : List Value} (h : PartsK w S ivs) : PartsK w S' ivs := fun j hj => by obtain ⟨v, kd, a, b, c⟩ := h j hj; exact ⟨v, kd, a, b.mono hs, c⟩
theorem kindV_of {w : World} {S : Store} {a : Addr} {kd : Str} {kt : Tok} {iv av sv lv : Value} (h : VecS w S (.ref a) (.str kd kt) iv av sv lv) : KindV w S (.ref a) kd := by
  obtain ⟨x, dx, t1, t2, t3, t4, t5, e, b, c⟩ := h
  exact .inl ⟨x, dx, t1, t2, t3, t4, t5, kt, iv, av, sv, lv, e, b, c⟩
theorem told_parts {w : World} {S : Store} {c1 c2 c3 c4 c5 : Addr} {cs : List (Option Rat)} {ns : List Str} {r1 r2 : List Rat} {k5 : Int} (h1 : CoefV w S c1 cs ns) (h2 : RatV w S c2 r1) (h3 : RatV w S c3 r2) (h5 : NumV w S c5 k5) : PartsK w S [.ref c1, .ref c2, .ref c3, .ref c4, .ref c5] := fun j hj => by
  have hd : Str.ofString "double" ≠ nulK := by decide +kernel
  have hi : Str.ofString "integer" ≠ nulK := by decide +kernel
  have h : j = 0 ∨ j = 1 ∨ j = 2 ∨ j = 3 := by exact om_197 _ hj
  rcases h with rfl | rfl | rfl | rfl
  · obtain ⟨kt, il, ad, sv, lv, vs, ki, od, cx, nk, na, n2, nl, cD, nvs, kn, a1, _⟩ := h1
    exact ⟨_, _, rfl, kindV_of a1, hd⟩
  · obtain ⟨kt, il, sv, lv, vs, ki, a1, _⟩ := h2
    exact ⟨_, _, rfl, kindV_of a1, hd⟩
  · obtain ⟨kt, il, sv, lv, vs, ki, a1, _⟩ := h3
    exact ⟨_, _, rfl, kindV_of a1, hd⟩
  · obtain ⟨kt, il, sv, lv, t, ki, a1, _⟩ := h5
    exact ⟨_, _, rfl, kindV_of a1, hi⟩
/-- what a part of the piece has for its kind -/
theorem want_kind {w : World} {S S' S0 : Store} {ivs pvs : List Value} {k₀ j : Nat} {r : Value} (hk : k₀ < 4) (hj : j < 4) (hP : PieR ivs k₀ 4 pvs S0) (hpk : PartsK w S ivs) (hs : ∀ a o, S a o → S' a o) (h : WantP w ((keptI k₀ 4).map word4) pvs (word4 j) S' r) :
    ∃ kd, KindV w S' r kd ∧ (kd == nulK) = decide (j = k₀) := by
  have key : ∀ k < 4, ∀ j < 4, ((keptI k 4).map word4).any (· == word4 j) = decide (j ≠ k) ∧ (j ≠ k → (keptI k 4)[((keptI k 4).map word4).idxOf (word4 j)]? = some j) := by decide +kernel
  obtain ⟨k1, k2⟩ := key k₀ hk j hj
  by_cases e : j = k₀
  · obtain ⟨x, dx, t1, t2, t3, a, b, c⟩ := h.2 (by rw [k1]; simpa using e)
    exact ⟨nulK, .inr ⟨rfl, x, dx, t1, t2, t3, a, b, c⟩, by simp [e]⟩
  · have h1 := h.1 (by rw [k1]; simpa using e)
    obtain ⟨v, kd, a, b, c⟩ := hpk j hj
    unfold PieR at hP
    subst hP
    rw [List.getElem?_map, k2 e, Option.map_some, List.getD_eq_getElem?_getD, a] at h1
    obtain rfl := Option.some.inj h1
    refine ⟨kd, b.mono hs, ?_⟩
    simp [e, c]
noncomputable def bsK (k₀ : Nat) : List Bool := (List.range 4).map fun j => decide (j = k₀)
theorem bsK_len {k₀ : Nat} : (bsK k₀).length = 4 := by simp [bsK]
theorem bsK_at {k₀ j : Nat} (h : j < (bsK k₀).length) : (bsK k₀)[j] = decide (j = k₀) := by simp [bsK]
noncomputable def KindsS (k₀ : Nat) (vs : List Value) : Prop := vs.length = 4 ∧ ∀ (i : Nat) v, vs[i]? = some v → ∃ kd t, v = .str kd t ∧ (kd == nulK) = decide (i = k₀)
theorem kindsS_mk {k₀ : Nat} {a b c d : Str} {t1 t2 t3 t4 : Tok} (h0 : (a == nulK) = decide (0 = k₀)) (h1 : (b == nulK) = decide (1 = k₀)) (h2 : (c == nulK) = decide (2 = k₀)) (h3 : (d == nulK) = decide (3 = k₀)) : KindsS k₀ [.str a t1, .str b t2, .str c t3, .str d t4] :=
  ⟨rfl, fun i v h => by
    match i with
    | 0 => exact ⟨a, t1, (Option.some.inj h).symm, h0⟩
    | 1 => exact ⟨b, t2, (Option.some.inj h).symm, h1⟩
    | 2 => exact ⟨c, t3, (Option.some.inj h).symm, h2⟩
    | 3 => exact ⟨d, t4, (Option.some.inj h).symm, h3⟩
    | i + 4 => simp at h⟩
noncomputable def BoL (bs : List Bool) (i : Nat) (ys : List Value) (_ : Store) : Prop := L2 BoolV ys (bs.take i)
theorem BoL.snoc {bs : List Bool} {i : Nat} {ys : List Value} {S S' : Store} {b : Bool} (h : BoL bs i ys S) (hi : i < bs.length) (e : b = bs[i]) : BoL bs (i + 1) (ys ++ [.bool b]) S' := by
  unfold BoL at h ⊢
  rw [take_succ' _ _ hi]
  exact L2.snoc h (e ▸ rfl)
open PySem (Sem)
/-- a tree whose writes leave each object's own dict -/
noncomputable def DSafe {α : Type} : Sem α → Prop
  | .pure _ => True
  | .raise _ => True
  | .unsupported _ => True
  | .finish _ => True
  | .rule _ k => DSafe (k ())
  | .at _ k => DSafe (k ())
  | .load _ _ k => ∀ o, DSafe (k o)
  | .update _ _ f k => (∀ o : Obj, (f o).dict = o.dict ∧ (o.isFreed = false → (f o).isFreed = false)) ∧ DSafe (k ())
  | .alloc _ k => ∀ a, DSafe (k a)
  | .loadIfAlive _ k => ∀ o, DSafe (k o)
  | .point _ k => DSafe (k ())
  | .register _ _ => True
  | .fresh k => ∀ t, DSafe (k t)
  | .ask k => ∀ x, DSafe (k x)
  | .handled _ k => ∀ x, DSafe (k x)
  | .stack k => ∀ x, DSafe (k x)
  | .thread k => DSafe (k 0)
  | _ => False
noncomputable def SameD (h h' : Heap) : Prop := ∀ b o, h.get? b = some o → ∃ o', h'.get? b = some o' ∧ o'.dict = o.dict
theorem SameD.refl (h : Heap) : SameD h h := fun _ o e => ⟨o, e, rfl⟩
theorem SameD.trans {a b c : Heap} (x : SameD a b) (y : SameD b c) : SameD a c := fun d o e => by
  obtain ⟨o', e', q'⟩ := x d o e
  obtain ⟨o2, e2, q2⟩ := y d o' e'
  exact ⟨o2, e2, q2.trans q'⟩
theorem SameD.push (h : Heap) (o : Obj) : SameD h (h.push o) := fun _ o' e => ⟨o', Heap.get?_push_of_some _ e, rfl⟩
theorem SameD.update {h : Heap} {a : Addr} {f : Obj → Obj} (hf : ∀ o : Obj, (f o).dict = o.dict ∧ (o.isFreed = false → (f o).isFreed = false)) : SameD h (h.update a f) := fun b o e => by
  by_cases q : a = b
  · subst q
    exact ⟨f o, Heap.get?_update_self f e ((hf o).2 (Heap.get?_some_iff.mp e).2), (hf o).1⟩
  · exact ⟨o, by rw [Heap.get?_update_other _ _ q]; exact e, rfl⟩
theorem wp_same {α : Type} {M : Model} {Γ : Ctx} {Q : α → Pos → Shared → Prop} {E : Value → Pos → Shared → Prop} {h₀ : Heap} (t : Sem α) : DSafe t → ∀ (p : Pos) (s : Shared), SameD h₀ s.heap → Sem.wp M Γ t Q E p s → Sem.wp M Γ t (fun a p' s' => Q a p' s' ∧ SameD h₀ s'.heap) (fun e p' s' => E e p' s' ∧ SameD h₀ s'.heap) p s := by
  induction t with
  | pure a => intro _ p s hs h; rw [Sem.wp] at h ⊢; exact ⟨h, hs⟩
  | raise e => intro _ p s hs h; rw [Sem.wp] at h ⊢; exact ⟨h, hs⟩
  | unsupported w => intro _ p s hs h; rw [Sem.wp] at h; exact h.elim
  | finish w => intro _ p s hs h; rw [Sem.wp] at h; exact h.elim
  | rule _ k ih => intro d p s hs h; rw [Sem.wp] at h ⊢; exact ih () d p s hs h
  | «at» q k ih => intro d p s hs h; rw [Sem.wp] at h ⊢; exact ih () d q s hs h
  | load a _ k ih => intro d p s hs h; rw [Sem.wp] at h ⊢; obtain ⟨o, e, h⟩ := h; exact ⟨o, e, ih o (d o) p s hs h⟩
  | update a _ f k ih => intro d p s hs h; rw [Sem.wp] at h ⊢; exact ⟨h.1, ih () d.2 p _ (hs.trans (SameD.update d.1)) h.2⟩
  | alloc o k ih => intro d p s hs h; rw [Sem.wp] at h ⊢; exact ih _ (d _) p _ (hs.trans (SameD.push _ _)) h
  | loadIfAlive a k ih => intro d p s hs h; rw [Sem.wp] at h ⊢; exact ih _ (d _) p s hs h
  | point _ k ih => intro d p s hs h; rw [Sem.wp] at h ⊢; exact ih () d p s hs h
  | register _ _ _ => intro _ p s hs h; rw [Sem.wp] at h; exact h.elim
  | fresh k ih => intro d p s hs h; rw [Sem.wp] at h ⊢; exact ih _ (d _) p _ hs h
  | ask k ih => intro d p s hs h; rw [Sem.wp] at h ⊢; exact ih _ (d _) p s hs h
  | handled _ k ih => intro d p s hs h; rw [Sem.wp] at h ⊢; exact ih _ (d _) p s hs h
  | stack k ih => intro d p s hs h; rw [Sem.wp] at h ⊢; exact ih _ (d _) p s hs h
  | thread k ih => intro d p s hs h; rw [Sem.wp] at h ⊢; exact ih _ d p s hs h
  | _ => intro d; exact d.elim
theorem wpAny_same {α : Type} {M : Model} {A : Around} {t : Sem α} {Q : α → Shared → Prop} {E : Value → Shared → Prop} {s : Shared} (d : DSafe t) (h : wpAny M A t Q E s) : wpAny M A t (fun a s' => Q a s' ∧ SameD s.heap s'.heap) (fun e s' => E e s' ∧ SameD s.heap s'.heap) s :=
  fun Γ p hΓ => wp_same t d p s (SameD.refl _) (h Γ p hΓ)
theorem dsafe_bind {α β : Type} {f : α → Sem β} {m : Sem α} (hm : DSafe m) (hf : ∀ a, DSafe (f a)) : DSafe (m.bind f) := by
  induction m with
  | pure a => exact hf a
  | raise e => trivial
  | unsupported w => trivial
  | finish w => trivial
  | rule _ k ih => exact ih () hm
  | «at» q k ih => exact ih () hm
  | load a _ k ih => exact fun o => ih o (hm o)
  | update a _ f k ih => exact ⟨hm.1, ih () hm.2⟩
  | alloc o k ih => exact fun o => ih o (hm o)
  | loadIfAlive a k ih => exact fun o => ih o (hm o)
  | point _ k ih => exact ih () hm
  | register _ _ _ => trivial
  | fresh k ih => exact fun o => ih o (hm o)
  | ask k ih => exact fun o => ih o (hm o)
  | handled _ k ih => exact fun o => ih o (hm o)
  | stack k ih => exact fun o => ih o (hm o)
  | thread k ih => exact ih 0 hm
  | _ => exact hm.elim
theorem dsafe_bind' {α β : Type} {f : α → Sem β} {m : Sem α} (h : DSafe m) (hf : ∀ a, DSafe (f a)) : DSafe (m >>= f) := dsafe_bind h hf
theorem mapFields_safe (g : Array Value → Array Value) (o : Obj) : (Obj.mapFields g o).dict = o.dict ∧ (o.isFreed = false → (Obj.mapFields g o).isFreed = false) := by
  obtain ⟨c, d, da, sl⟩ := o
  cases da <;> exact ⟨rfl, fun h => h⟩
theorem dsafe_load (a : Addr) : DSafe (PySem.load a) := fun _ => trivial
theorem dsafe_stack : DSafe PySem.stack := fun _ => trivial
theorem dsafe_field (v : Value) (i : Nat) : DSafe (field v i) := by
  unfold field fieldsOf
  refine dsafe_bind' ?_ fun vs => ?_
  · cases v <;> first | trivial | skip
    refine dsafe_bind' (dsafe_load _) fun o => ?_
    split <;> trivial
  · split <;> trivial
theorem dsafe_setField (v : Value) (i : Nat) (x : Value) : DSafe (setField v i x) := by
  unfold setField
  split
  · unfold updateField
    refine dsafe_bind' (dsafe_load _) fun o => ?_
    split
    · split
      · exact ⟨mapFields_safe _, trivial⟩
      · trivial
    · trivial
  · trivial
theorem dsafe_setFlight (e : Value) (f : Option Addr) : DSafe (setFlight e f) := by
  unfold setFlight
  refine dsafe_bind' (dsafe_field _ _) fun tb => ?_
  split
  · exact dsafe_setField _ _ _
  · trivial
theorem dsafe_behind (env : Env) (l : List Env) : DSafe (behindIsImport env l) := by
  unfold behindIsImport
  split
  · trivial
  · split
    · trivial
    · exact dsafe_bind' (dsafe_field _ _) fun _ => trivial
theorem dsafe_keptBack (env : Env) (b : Bool) (l : List Env) : DSafe (keptBack env b l) := by
  unfold keptBack
  split
  · split
    · trivial
    · refine dsafe_bind' ?_ fun _ => trivial
      unfold underTheClaimsCaller
      exact dsafe_bind' dsafe_stack fun _ => trivial
  · trivial
theorem dsafe_ready : ∀ l : List Env, DSafe (readyFrames l)
  | [] => by unfold readyFrames; trivial
  | env :: outer => by
    unfold readyFrames
    split
    · refine dsafe_bind' (dsafe_load _) fun o => ?_
      split
      · trivial
      · refine dsafe_bind' (dsafe_behind _ _) fun _ => dsafe_bind' (dsafe_keptBack _ _ _) fun _ => dsafe_bind' ?_ fun _ => dsafe_ready outer
        refine ⟨fun o => ⟨rfl, fun h => ?_⟩, trivial⟩
        obtain ⟨c, d, da, sl⟩ := o
        cases da <;> first | rfl | exact h
    · trivial
theorem dsafe_frameOf (env : Env) : DSafe (PySem.frameOf env) := by
  unfold PySem.frameOf
  refine dsafe_bind' ?_ fun l => dsafe_bind' ?_ fun x => ?_
  · unfold frameEnvs
    exact dsafe_bind' dsafe_stack fun _ => trivial
  · generalize (l.dropWhile fun x => x.frame != env.frame) = q
    cases q with
    | nil => unfold frameObject; trivial
    | cons e r => unfold frameObject; exact dsafe_bind' (dsafe_ready _) fun _ => trivial
  · split <;> trivial
theorem dsafe_place (f : Addr) (b : Bool) : DSafe (entryPlaceOf f b) := by
  unfold entryPlaceOf
  refine dsafe_bind' dsafe_stack fun x => ?_
  split <;> trivial
theorem dsafe_newFields (ty : String) (vs : List Value) : DSafe (newFields ty vs) := by
  unfold newFields newObj
  dsimp only
  split
  · trivial
  · unfold newObjAsIs
    exact dsafe_bind' (fun _ => trivial) fun _ => trivial
theorem dsafe_note (e : Value) (env : Env) : DSafe (noteFrame e env) := by
  have tail : ∀ (head : Value) (f : Addr), DSafe (do setField e 1 (← EntryCells.newEntry head (← PySem.frameOf env) .none (rawInt f) .none (← entryPlaceOf f (head != .none)))) := fun head f => by
    refine dsafe_bind' (dsafe_frameOf _) fun _ => dsafe_bind' (dsafe_place _ _) fun _ => dsafe_bind' ?_ fun _ => dsafe_setField _ _ _
    unfold EntryCells.newEntry
    exact dsafe_newFields _ _
  unfold noteFrame
  split
  · refine dsafe_bind' (dsafe_field _ _) fun head => ?_
    split
    · refine dsafe_bind' (dsafe_field _ _) fun x => ?_
      split
      · trivial
      · exact dsafe_bind' (dsafe_setField _ _ _) fun _ => tail _ _
    · exact tail _ _
  · trivial
theorem dsafe_leaving (env : Env) (e : Value) : DSafe (leaving env e) := by
  unfold leaving
  exact dsafe_bind' (dsafe_note _ _) fun _ => dsafe_setFlight _ _
open PySem (Sem)
section
variable {prog : Program} {w : World} {A : Around} {E : Value → Shared → Prop} {h : Heap} {g : Array GenState} {d : Drawn} {t : Nat} {os : OsState}
variable {nm q : Str} {C N : Addr} {bs bm bmB : List Value} {hdct : Bool} {sn : List Str} {sub : List Value} {ab : Bool} {col : Option Bool} {dd : Option Addr} {k0 k1 k2 k3 k5 : Option Value} {B newId initId : String}
/-- an own exception class below an own one, with an __init__ of its own -/
theorem type_call_initU (F : ExcBaseFacts B newId initId bmB) (T : OwnTail h bmB bm) {mN : Str → Option Value} {rest : List Value} {fI : Addr} {oI : Obj} {Q : Fin → Shared → Prop}
    (hC : h.get? C = some (excClassObj nm q C N bs bm hdct sn sub ab col dd k0 k1 k2 k3 k5 newId)) (hn : h.Ns N mN) (hi : mN "__init__" = some (.ref fI)) (hfI : h.get? fI = some oI) (hfc : oI.cls = .type "function")
    (hq : ∀ h' e, Heap.MadeExcOf h h' e (.ref C) rest → wpAny (model prog w) A (call (.ref fI) (.ref e :: rest)) (fun r s' => r = .none ∧ Q (.done (.ret (.ref e))) s') E ⟨h', g, d, t, os⟩) (hrest : rest.length ≤ sizeLine := by size_fits) :
    wpAny (model prog w) A (Builtin.«type.__call__» ⟨.ref C :: rest, []⟩) Q E ⟨h, g, d, t, os⟩ := by
  repeat (first | with_reducible refine wpAny_loadPart_at hC ?_ | with_reducible refine wpAny_madeBy_exc hC ?_ | wp_step)
  refine codeAny_call_builtin_code (Code.quiet_builtin _ F.quiet) (wpAny_check_new_subU F F.hasB T hC ?_)
  refine codeAny_exc_new_subU F F.hasB F T hC ?_ hrest
  show wpAny _ _ _ _ _ _
  have hC₁ := Heap.get?_push_of_some { cls := .ref C, data := .fields #[.ref h.objs.size, .none, .none, .none, .bool false, .none] }
    (Heap.get?_push_of_some { cls := .type "tuple", data := .seq rest.toArray } hC)
  have hfI₁ := Heap.get?_push_of_some { cls := .ref C, data := .fields #[.ref h.objs.size, .none, .none, .none, .bool false, .none] }
    (Heap.get?_push_of_some { cls := .type "tuple", data := .seq rest.toArray } hfI)
  have hn₁ : ((h.push { cls := .type "tuple", data := .seq rest.toArray }).push { cls := .ref C, data := .fields #[.ref h.objs.size, .none, .none, .none, .bool false, .none] }).Ns N mN :=
    let ⟨o, es, ep, e, r⟩ := hn; ⟨o, es, ep, Heap.get?_push_of_some _ (Heap.get?_push_of_some _ e), r⟩
  have hget : ((h.push { cls := .type "tuple", data := .seq rest.toArray }).push
      { cls := .ref C, data := .fields #[.ref h.objs.size, .none, .none, .none, .bool false, .none] }).get? (h.objs.size + 1) = some
      { cls := .ref C, data := .fields #[.ref h.objs.size, .none, .none, .none, .bool false, .none] } := by heap_get
  have hcC : (Value.ref C :: bm).contains (.ref C) = true := by simp
  have T₁ := T.keeps (h' := (h.push { cls := .type "tuple", data := .seq rest.toArray }).push { cls := .ref C, data := .fields #[.ref h.objs.size, .none, .none, .none, .bool false, .none] })
    fun b o e => Heap.get?_push_of_some _ (Heap.get?_push_of_some _ e)
  unfold isInstance
  repeat (first | with_reducible refine wpAny_loadPart_at hget ?_ | (with_reducible refine wpAny_isSubtype_exc hC₁ ?_; rw [hcC]) | wp_step)
  show wpAny _ _ (typeLookup (.ref C) _) _ _ _
  refine wpAny_typeLookup_tail hC₁ hn₁ T₁ F.mroIs F.init.lookup ?_
  rw [hi]
  refine wpAny_holding (wpAny_bind ?_)
  unfold bindSpecial
  refine wpAny_bind (wpAny_typeOf (T := "function") ⟨_, hfI₁, hfc⟩ ?_)
  rw [if_pos (by decide)]
  refine wpAny_pure (wpAny_bind (wpAny_mono (hq _ (h.objs.size + 1) ⟨fun b o hb => Heap.get?_push_of_some _ (Heap.get?_push_of_some _ hb), Heap.get?_none_of_le (Nat.le_succ _), h.objs.size, hget, Heap.get?_none_of_le (Nat.le_refl _), ?_⟩) (fun r s' hr => ?_) fun _ _ x => x))
  · exact Heap.get?_push_of_some _ (Heap.get?_push_at rfl rfl)
  · obtain ⟨rfl, hQ⟩ := hr
    wp_walk
    exact hQ
theorem call_initU (F : ExcBaseFacts B newId initId bmB) (T : OwnTail h bmB bm) {mN : Str → Option Value} {rest : List Value} {fI : Addr} {oI : Obj} {Q : Value → Shared → Prop}
    (hC : h.get? C = some (excClassObj nm q C N bs bm hdct sn sub ab col dd k0 k1 k2 k3 k5 newId)) (hn : h.Ns N mN) (hi : mN "__init__" = some (.ref fI)) (hfI : h.get? fI = some oI) (hfc : oI.cls = .type "function")
    (hq : ∀ h' e, Heap.MadeExcOf h h' e (.ref C) rest → wpAny (model prog w) (A.under (.builtin "type.__call__" ⟨.ref C :: rest, []⟩)) (call (.ref fI) (.ref e :: rest)) (fun r s' => r = .none ∧ Q (.ref e) s') E ⟨h', g, d, t, os⟩) (hrest : rest.length ≤ sizeLine := by size_fits) :
    wpAny (model prog w) A (call (.ref C) rest) Q E ⟨h, g, d, t, os⟩ := by
  have f1 := tc_lookup
  have f2 := tc_bind (.ref C)
  have hT : (⟨h, g, d, t, os⟩ : Shared).TypeIs (.ref C) "type" := ⟨_, hC, rfl⟩
  refine wpAny_call (codeAny_of_tree ?_)
  show wpAny _ _ (callAny (.ref C) _) _ _ _
  repeat (any_goals (first | assumption | with_reducible refine wpAny_loadPart_at hC ?_ | wp_step))
  refine ⟨rfl, ?_⟩
  exact codeAny_call_builtin_at (Code.quiet_builtin _ (by decide +kernel)) entry_typeCall (wpAny_check_type_call_sub hC (type_call_initU (hrest := hrest) F T hC hn hi hfI hfc fun h' e hm => hq h' e hm))
/-- an own exception with its own dict is raised -/
theorem raise_made {s : Shared} {env : Env} {x : PySem.Expr} {pos : Pos} {Q : Flow → Shared → Prop} (hbase : bm.contains (.type "BaseException") = true) (hh : A.handled = none)
    (h : wpAny (model prog w) A (eval x env) (fun v s₁ => ∃ e t D, v = .ref e ∧ s₁.heap.get? C = some (excClassObj nm q C N bs bm hdct sn sub ab col dd k0 k1 k2 k3 k5 newId) ∧
      s₁.heap.get? e = some { cls := .ref C, dict := some D, data := .fields #[.ref t, .none, .none, .none, .bool false, .none] } ∧ E (.ref e) s₁) E s) :
    wpAny (model prog w) A (exec (.Raise (some x) none pos) env) Q E s := by
  have hcB : (Value.ref C :: bm).contains (.type "BaseException") = true := by rw [List.contains_cons, hbase, Bool.or_true]
  show wpAny _ A (do standAt pos; raiseStmt env (some (do let v ← eval x env; standAt pos; pure v)) none) Q E s
  refine wpAny_bind (wpAny_standAt ?_)
  unfold raiseStmt
  dsimp only
  refine wpAny_bind (wpAny_bind (wpAny_mono h (fun v s₁ h₁ => wpAny_bind (wpAny_standAt (wpAny_pure ?_))) fun _ _ x => x))
  obtain ⟨e, t, D, rfl, hC, he, hE⟩ := h₁
  obtain ⟨hp, g, d, tk, os⟩ := s₁
  repeat (first | with_reducible refine wpAny_loadPart_at he ?_ | with_reducible refine wpAny_loadPart_at hC ?_ | (with_reducible refine wpAny_isSubtype_exc hC ?_; rw [hcB]) | wp_step)
  exact wpAny_raiseNew_none hh hE
end
section
open PySem.Builtin PySem.Builtin.ObjectAttr
variable {prog : Program} {w : World} {A : Around} {E : Value → Shared → Prop} {s : Shared} {K : Frag} {e C : Addr} {name : Str} {v : Value}
/-- the first own attribute of an exception -/
theorem exc_set {Q : Unit → Shared → Prop} {cd : ClassData} {vs : Array Value} {sl : Array (Option Value)} (X : K.In s.heap) (hcd : clsIn K C = some cd) (hd : cd.hasDict = true) (hmro : cd.mro.isEmpty = false) (hpass : refuseLoop (.ref e) "__setattr__" cd.mro = pure ()) (hob : mroIn K C (.type "object") = some true)
    (hs : findIn K (.ref C) "__setattr__" = some (some (.builtin "object.__setattr__"))) (ht : takerIn K C name = some none) (he : s.heap.get? e = some { cls := .ref C, data := .fields vs, slots := sl })
    (hq : ∀ h' tk' D od, h'.get? e = some { cls := .ref C, dict := some D, data := .fields vs, slots := sl } → h'.get? D = some od → lookIn name od = some (some v) → D ≠ e → s.heap.get? D = none → (∀ b o, b ≠ e → s.heap.get? b = some o → h'.get? b = some o) → Q () { s with heap := h', toks := tk' }) :
    wpAny (model prog w) A (setAttr (.ref e) name v) Q E s := by
  have I : InstAt s.heap e { cls := .ref C, data := .fields vs, slots := sl } C none := ⟨he, rfl, rfl, trivial⟩
  refine set_plain X I hs ?_
  have SF := PySem.F.store_object
  have sub : Looks (model prog w) s.heap (isInstance (.ref e) (.type "object")) true := I.type.andThen (looks_mroIn X hob)
  refine codeAny_call_builtin SF.slot.plain SF.entry (@check_slot (model prog w) _ _ { s with toks := s.toks + 1 } "object.__setattr__" "object" "__setattr__" (.ref e) [.str name s.toks, v] [] _ SF.kind SF.split sub (SF.args (.ref e) (.str name s.toks) v) ?_)
  obtain ⟨attr, ha, hr⟩ := Option.bind_eq_some_iff.mp ht
  have hm : Looks (model prog w) s.heap (mroOf (.ref C)) cd.mro := (looks_clsIn X hcd).andThen .now
  have L3 : Looks (model prog w) s.heap (storeTaker? attr) none := by
    cases attr with
    | none => exact .now
    | some a =>
      obtain ⟨b, hb, hb'⟩ := Option.map_eq_some_iff.mp hr
      cases b with
      | true => cases hb'
      | false => exact (looks_takesIn X hb).andThen .now
  rw [osa_eq, refuse_eq]
  refine wpAny_bind (wpAny_bind (I.type.here (s := { s with toks := s.toks + 1 }) (wpAny_bind (hm.here (s := { s with toks := s.toks + 1 }) ?_))))
  rw [hpass]
  refine wpAny_pure (wpAny_bind (I.type.here (s := { s with toks := s.toks + 1 }) (wpAny_bind ((looks_findIn X ha).here (s := { s with toks := s.toks + 1 }) (wpAny_bind (L3.here (s := { s with toks := s.toks + 1 }) ?_))))))
  obtain ⟨h, g, d, t, os⟩ := s
  dsimp only at he hq X ⊢
  have hx₁ : (h.push { cls := .type "dict", data := .dict #[] }).get? e = some { cls := .ref C, data := .fields vs, slots := sl } := Heap.get?_push_of_some _ he
  have hxs : e ≠ h.objs.size := Nat.ne_of_lt (Heap.lt_size he)
  refine wpAny_bind (wpAny_pure (wpAny_bind (wpAny_bind (wpAny_loadPart he (wpAny_bind ((looks_clsIn X hcd).at ?_))))))
  rw [hd]
  show wpAny _ _ (alloc { cls := .type "dict", data := .dict #[] } >>= _) _ _ _
  refine wpAny_bind (wpAny_alloc' ?_)
  refine wpAny_bind (wpAny_update' hx₁ ?_)
  refine wpAny_pure ?_
  have hgd : ((h.push { cls := .type "dict", data := .dict #[] }).update e fun o => { cls := o.cls, dict := some h.objs.size, data := o.data, slots := o.slots }).get? h.objs.size = some { cls := .type "dict", data := .dict #[] } :=
    (Heap.get?_update_ne _ _ _ _ hxs.symm).trans (Heap.get?_push_at rfl rfl)
  have hnd : ((h.push { cls := .type "dict", data := .dict #[] }).update e fun o => { cls := o.cls, dict := some h.objs.size, data := o.data, slots := o.slots }).Ns h.objs.size (fun _ => none) :=
    ⟨_, #[], _, hgd, rfl, fun e he => absurd he (by simp), fun _ => rfl⟩
  show wpAny _ _ (storeInDict h.objs.size (.str name t) name v) _ _ _
  unfold storeInDict newKeyGuard
  refine wpAny_bind (wpAny_pure (wpAny_bind (wpAny_nsSet1 (Heap.Ns1.of_empty hnd) fun h' hn' hs' => ?_)))
  obtain ⟨oD, esD, epD, hoD, hdD, hcD⟩ := hn'.count (Within.cons name v Within.nil)
  refine wpAny_bind (wpAny_lookBehind hoD (by rw [hdD]; exact pastItsLine_dict (Nat.le_trans hcD (by rw [List.length_cons, List.length_nil, sizeLine_eq]; omega))) ?_)
  wp_walk
  refine hq h' _ h.objs.size oD ((hs'.2 e hxs).trans (Heap.get?_update_self _ hx₁ rfl)) hoD ?_ hxs.symm (Heap.get?_none_of_le (Nat.le_refl _)) fun b o hb hbo => (hs'.2 b (Nat.ne_of_lt (Heap.lt_size hbo))).trans ((Heap.get?_update_ne _ _ _ _ hb).trans (Heap.get?_push_of_some _ hbo))
  obtain ⟨o', es, ep, e1, e2, e3, eu, e4⟩ := hn'
  obtain rfl : o' = oD := Option.some.inj (e1.symm.trans hoD)
  have e5 : nsFind es name = some v := by rw [e4 name]; simp
  unfold nsFind findBy at e5
  unfold lookIn
  rw [e2]
  dsimp only
  rw [Array.find?_toList]
  obtain ⟨x, hx, ex⟩ := Option.map_eq_some_iff.mp e5
  rw [hx, ← ex]
set_option maxHeartbeats 400000 in
/-- an exception's own attribute is read -/
theorem exc_msg {Q : Value → Shared → Prop} {expr : Bool} {oe od : Obj} (X : K.In s.heap) (I : InstAt s.heap e oe C (some od)) (hga : findIn K (.ref C) "__getattribute__" = some (some (.builtin "BaseException.__getattribute__")))
    (hgt : findIn K (.ref C) "__getattr__" = some none) (hbe : mroIn K C (.type "BaseException") = some true) (hf : findObj K C (some od) name = some (.value v)) (hh : handedIn v = true) (h : Q v { s with toks := s.toks + 1 }) : wpAny (model prog w) A (getAttr (.ref e) name expr) Q E s := by
  obtain ⟨hp, g, d, t, os⟩ := s
  have L0 := I.type (M := model prog w)
  have L1 := looks_findIn (M := model prog w) X hga
  have L2 := looks_find (M := model prog w) X I hf
  have FB := PySem.F.attrBase_Exception
  have f3 := FB.ga.bind (.ref e)
  have hx0 : (expr && onTheHeap (Value.builtin "BaseException.__getattribute__")) = false := by cases expr <;> rfl
  have hx2 : (Value.builtin "BaseException.__getattribute__" == Value.builtin "object.__getattribute__") = false := by decide +kernel
  have hx1 : (onTheHeap (Value.ref C) && Value.builtin "BaseException.__getattribute__" == Value.builtin "object.__getattribute__") = false := by rw [hx2]; rfl
  have sub : Looks (model prog w) hp (isInstance (.ref e) (.type "BaseException")) true := L0.andThen (looks_mroIn X hbe)
  have hk : builtinKind "BaseException.__getattribute__" = some .slot := by decide +kernel
  have hsplit : splitId "BaseException.__getattribute__" = some ("BaseException", "__getattribute__") := by decide +kernel
  have run : ∀ (A' : Around) (R : Result → Shared → Prop), R (.ok (.ret v)) ⟨hp, g, d, t + 1, os⟩ → codeAny (model prog w) A' (.call (.builtin "BaseException.__getattribute__") ⟨[.ref e, .str name t], []⟩) R ⟨hp, g, d, t + 1, os⟩ := by
    intro A' R hR
    refine codeAny_call_builtin FB.ga.plain PySem.F.entry_bexc_ga (@check_slot (model prog w) _ _ ⟨hp, g, d, t + 1, os⟩ "BaseException.__getattribute__" "BaseException" "__getattribute__" (.ref e) [.str name t] [] _ hk hsplit sub (PySem.F.args_bexc_ga (.ref e) (.str name t)) ?_)
    unfold Builtin.«object.__getattribute__»
    repeat (first | with_reducible refine L0.at ?_ | with_reducible refine L2.at ?_ | wp_step)
    exact hR
  have L3 := looks_findIn (M := model prog w) X hgt
  unfold getAttr getAttrBy
  refine wpAny_bind (wpAny_mkText (wpAny_holding (wpAny_bind (L0.at (wpAny_bind (L1.at ?_))))))
  dsimp only
  rw [hx1, if_neg (by decide)]
  unfold getAttrByItsOwn hookBefore
  rw [if_pos (show onTheHeap (Value.ref C) = true from rfl)]
  refine wpAny_bind (L3.at ?_)
  repeat (any_goals (first | assumption | wp_step))
  refine run _ _ ?_
  show wpAny _ _ (handedOut v) Q E _
  rw [handedOut_of hh]
  exact wpAny_pure h
end
theorem ns_some_of {K : Frag} {h : Heap} {N : Addr} {mg : Str → Option Value} {n : Str} {v : Value} (X : K.In h) (G : h.Ns N mg) (e : nsIn K N n = some (some v)) : mg n = some v := by
  obtain ⟨o, es, ep, ho, hd, _, hf⟩ := G
  unfold nsIn at e
  split at e
  · rename_i c d es' n' sl q
    have := X _ _ q
    rw [ho] at this
    cases this
    cases hd
    split at e
    · rename_i x hx
      rw [← hf]
      unfold nsFind findBy
      rw [← Array.find?_toList, hx]
      simpa using e
    · split at e <;> cases e
  · cases e
noncomputable abbrev excO (t D : Addr) : Obj := { cls := .ref 75, dict := some D, data := .fields #[.ref t, .none, .none, .none, .bool false, .none] }
noncomputable abbrev excT : List Value := [.type "Exception", .type "BaseException", .type "object"]
noncomputable abbrev refC : Obj := excClassObj (Str.ofString "Refusal") (Str.ofString "Refusal") 75 74 [.ref 55] (.ref 55 :: excT) true [] [] false none none (some (.ref 59)) none (some (.str (Str.ofString "Refusal") 246)) (some (.str (Str.ofString "Refusal") 254)) (some (.bool true)) "Exception.__new__"
inductive MadeE (msg : Value) (tl : Led) (r : Value) : Prop
  | mk (e t D od : _) (h1_ : r = .ref e) (h2_ : tl = [(e, excO t D), (D, od), (t, tupO [msg])]) (h3_ : lookIn (Str.ofString "message") od = some (some msg)) : MadeE msg tl r
section
variable {prog : Program} {w : World} {A : Around} {s : Shared} {K : Frag} {R : Result → Shared → Prop} {name qual : Str} {params : Arguments} {body : List Stmt} {scope : Scope} {dV kV doc pm cdv ct oc : Value} {an od : Option Addr}
  {osl : Array (Option Value)} {f : Addr} {args : Args} {binds : List (Str × Value)} {p : Program} {loose : List Str} {mean : ExcName → Option Value} {mg mb : Str → Option Value}
/-- into a def that may raise -/
theorem enterPX (X : K.In s.heap) (T : Top p loose mean mg mb s.heap) (ho : K.lookup f = some ⟨oc, od, .func (fnOf name qual params body scope dV kV doc pm an cdv ct), osl⟩) (hcd : codeIn K cdv qual = true)
    (hroom : A.depth < recursionLimit) (hbind : BindsTo s (fnOf name qual params body scope dV kV doc pm an cdv ct) args binds) (hloc : ∀ y ∈ binds, scope.names.lookup y.1 = some .local)
    (h : ∀ h₁, Fr s.heap s.heap.objs.size h₁ (upd (fun _ => none) (binds.reverse.map fun p => (p.1, some p.2))) →
      wpAny (model prog w) (A.deeper (envOf qual scope s.heap.objs.size f cdv)) (execs body (envOf qual scope s.heap.objs.size f cdv))
        (fun fl s' => R (.ok (.ret (match fl with | .ret v => v | _ => .none))) s') (fun e s' => wpAny (model prog w) (A.deeper (envOf qual scope s.heap.objs.size f cdv)) (leaving (envOf qual scope s.heap.objs.size f cdv) e) (fun _ s'' => R (.error e) s'') (fun e' s'' => R (.error e') s'') s') { s with heap := h₁, toks := s.toks + binds.length })
    (hcell : ∀ x ∈ scope.names, x.2 ≠ .cell) (hco : scope.isCoroutine = false) (hgen : scope.isGenerator = false) (hk : scope.kind = .function) : codeAny (model prog w) A (.call (.ref f) args) R s :=
  codeAny_call_def (fd := fnOf name qual params body scope dV kV doc pm an cdv ct) (body := body) (binds := binds) hroom (X _ _ ho) rfl T.nolimit (codeRec_of X hcd) rfl hbind hcell hloc (fun h₁ hns hk₁ => h h₁ ⟨lookup_upd _ ▸ hns, hk₁, Nat.le_refl _⟩) hco hgen hk
/-- into a def that has cells and may raise -/
theorem enterPCX (X : K.In s.heap) (T : Top p loose mean mg mb s.heap) (ho : K.lookup f = some ⟨oc, od, .func (fnOf name qual params body scope dV kV doc pm an cdv ct), osl⟩) (hcd : codeIn K cdv qual = true)
    (hroom : A.depth < recursionLimit) (hbind : BindsTo s (fnOf name qual params body scope dV kV doc pm an cdv ct) args binds)
    (hkind : (binds.all fun y => scope.names.lookup y.1 == some .local || scope.names.lookup y.1 == some .cell) = true) (hnd : ((cellsFrom 0 scope.names []).map (·.1)).Nodup)
    (h : ∀ h₁ tk co, Fr s.heap s.heap.objs.size h₁ (bindL (envOfC qual scope s.heap.objs.size f cdv).kindOf binds fun _ => none) → News s.heap s.heap.objs.size h₁ (cellLed (cellsFrom (s.heap.objs.size + 1) scope.names []) co) →
      (∀ q ∈ cellsFrom (s.heap.objs.size + 1) scope.names [], (co q.1).data = .cell (bindC (envOfC qual scope s.heap.objs.size f cdv).kindOf binds (fun _ => none) q.1)) →
      wpAny (model prog w) (A.deeper (envOfC qual scope s.heap.objs.size f cdv)) (execs body (envOfC qual scope s.heap.objs.size f cdv))
        (fun fl s' => R (.ok (.ret (match fl with | .ret v => v | _ => .none))) s') (fun e s' => wpAny (model prog w) (A.deeper (envOfC qual scope s.heap.objs.size f cdv)) (leaving (envOfC qual scope s.heap.objs.size f cdv) e) (fun _ s'' => R (.error e) s'') (fun e' s'' => R (.error e') s'') s') { s with heap := h₁, toks := tk })
    (hco : scope.isCoroutine = false) (hgen : scope.isGenerator = false) (hk : scope.kind = .function) : codeAny (model prog w) A (.call (.ref f) args) R s := by
  refine codeAny_call_function hroom (X _ _ ho) rfl hco hgen rfl (codeRec_of X hcd) (hbind _ _ _ _ ?_)
  refine wpAny_newFunctionEnv_cells hk (kindsX hkind _) fun env' he s' x => ?_
  subst he
  refine ⟨T.nolimit.keeps x.toInCall.keep, codeAny_func ?_⟩
  obtain ⟨h₁, tk, rfl, _⟩ := x.done
  have nd : ∀ n c, (n, c) ∈ cellsFrom (s.heap.objs.size + 1) scope.names [] → (cellsFrom (s.heap.objs.size + 1) scope.names []).lookup n = some c := fun n c hm =>
    lookup_of_mem_nodup (cellsFrom_names scope.names 0 (s.heap.objs.size + 1) [] [] rfl ▸ hnd) hm
  let co : Str → Obj := fun n => match (cellsFrom (s.heap.objs.size + 1) scope.names []).lookup n with
    | some c => (h₁.get? c).getD default
    | none => default
  have hco' : ∀ n c, (n, c) ∈ cellsFrom (s.heap.objs.size + 1) scope.names [] → h₁.get? c = some (co n) ∧ (co n).data = .cell (bindC (envOfC qual scope s.heap.objs.size f cdv).kindOf binds (fun _ => none) n) := fun n c hm => by
    obtain ⟨o, ho, hd⟩ := x.cell n c (nd n c hm)
    have e : co n = o := by show (match (cellsFrom (s.heap.objs.size + 1) scope.names []).lookup n with | some c => (h₁.get? c).getD default | none => default) = o; rw [nd n c hm]; dsimp only; rw [show h₁.get? c = some o from ho]; rfl
    rw [e]; exact ⟨ho, hd⟩
  refine h h₁ tk co ⟨x.toInCall.ns, x.toInCall.keep, Nat.le_refl _⟩ (fun q hq => ?_) fun q hq => (hco' q.1 q.2 hq).2
  obtain ⟨y, hy, rfl⟩ := List.mem_map.mp hq
  have lt := x.above y.1 y.2 hy
  exact ⟨(hco' y.1 y.2 hy).1, Nat.ne_of_gt lt, Heap.get?_none_of_le (Nat.le_of_lt lt)⟩
end
/-- a Refusal in flight, its message in its own dict -/
inductive FlyE (base : Heap) (l : List Env) (e : Addr) (msg : Value) (h : Heap) : Prop
  | mk (B t D od : _) (h1_ : base.StaysIn B) (h2_ : Heap.FlyingW B l e (.ref 75) (.ref t) h) (h3_ : B.get? D = some od) (h4_ : lookIn (Str.ofString "message") od = some (some msg)) (oe : _) (h5_ : h.get? e = some oe) (h6_ : oe.dict = some D) : FlyE base l e msg h
/-- a call that raises a Refusal -/
noncomputable def RaiseT (w : World) (c : Nat) (f : Addr) (vs : List Value) (S : Store) (Msg : Value → Prop) : Prop :=
  ∀ (dp un : Nat) (fr : List Env) (gd : Option (List Code)) (base : Heap) (s : Shared) (Q E : Value → Shared → Prop), dp + c + 100 < recursionLimit → Gr w S s.heap → Below { handled := none, depth := dp, frames := some fr, guards := gd, units := un } base fr s.heap →
    (∀ e msg h' tk', Msg msg → FlyE base fr e msg h' → s.heap.UpToSlots h' → E (.ref e) { s with heap := h', toks := tk' }) →
    wpAny (model PySem.Challenge.rw_pq1326_01.prog w) { handled := none, depth := dp, frames := some fr, guards := gd, units := un } (call (.ref f) vs) Q E s
section
variable {M : Model} {A A' : Around} {E : Value → Shared → Prop} {s' : Shared} {base g g₂ : Heap} {outer : List Env} {L e t D : Addr} {m : Str → Option Value} {env : Env} {od : Obj} {msg : Value} {Q : Unit → Shared → Prop}
theorem leave_E (K : Below A base outer g) (F : Fr g L s'.heap m) (hfr : A'.frames = some (env :: outer)) (hf : env.frame = some L) (hke : env.scope.kind = .function) (he : s'.heap.get? e = some (excO t D)) (hen : g.get? e = none) (hD : s'.heap.get? D = some od) (hDn : g.get? D = none) (hDL : D ≠ L) (hDe : D ≠ e)
    (hlk : lookIn (Str.ofString "message") od = some (some msg)) (hQ : ∀ h', FlyE base outer e msg h' → g.UpToSlots h' → Q () { s' with heap := h' }) : wpAny M A' (leaving env (.ref e)) Q E s' := by
  have B0 := pushX K F hf hke
  have inF : ∀ env' ∈ (env :: outer), ∀ a, env'.frame = some a → a ∈ (env :: outer).filterMap (·.frame) ++ [e] := fun env' he' a ha => List.mem_append_left _ (List.mem_filterMap.mpr ⟨env', he', ha⟩)
  have fresh : ∀ b, b ∈ (env :: outer).filterMap (·.frame) ++ [e] → base.get? b = none := fun b hb => by
    rcases List.mem_append.mp hb with hb | hb
    · exact (B0.frames.mem hb).1
    · rw [List.mem_singleton.mp hb]; exact fresh_of_stays K.stays hen
  have hDin : D ∉ (env :: outer).filterMap (·.frame) ++ [e] := fun hm => by
    rcases List.mem_append.mp hm with hm | hm
    · obtain ⟨env', he', hf'⟩ := List.mem_filterMap.mp hm
      rcases List.mem_cons.mp he' with rfl | he'
      · exact hDL (Option.some.inj (hf'.symm.trans hf))
      · obtain ⟨o, ho, _⟩ := (K.frames.mem (List.mem_filterMap.mpr ⟨env', he', hf'⟩)).2
        rw [hDn] at ho; cases ho
    · exact hDe (List.mem_singleton.mp hm)
  have st : base.StaysIn (hideAll s'.heap ((env :: outer).filterMap (·.frame) ++ [e])) := fun b o q => hideAll_get _ (B0.stays b o q) fun hm => by rw [fresh b hm] at q; cases q
  have hl := wpAny_same (s := s') (dsafe_leaving env (.ref e)) (wpAny_leaving_firstW (M := M) (A := A') (E := E) (s := s') (base := hideAll s'.heap ((env :: outer).filterMap (·.frame) ++ [e])) (a0 := .ref t) (Q := fun _ s₂ => ∃ h', s₂ = { s' with heap := h' } ∧ Heap.LeftW (hideAll s'.heap ((env :: outer).filterMap (·.frame) ++ [e])) (env :: outer) e (.ref 75) (.ref t) s'.heap h')
    hfr (funFrames_hide B0.frames inF) hf he (fun b o q => of_hideAll _ q) (hideAll_none _ (List.mem_append_right _ (.head _))) rfl rfl rfl fun h' x => ⟨h', rfl, x⟩)
  refine wpAny_mono hl (fun _ s₂ hx => ?_) fun _ _ x => x.1
  obtain ⟨⟨h', rfl, k1, k2, k3, k4⟩, sd⟩ := hx
  obtain ⟨oe, ho, hd⟩ := sd e _ he
  exact hQ h' ⟨_, t, D, od, st, ⟨k1, hideAll_none _ (List.mem_append_right _ (.head _)), k2.2.2, k3⟩, hideAll_get _ hD hDin, hlk, oe, ho, hd⟩ ((Heap.UpToSlots.of_keeps F.keep).trans k4)
theorem leave_onE (F : Fr g L g₂ m) (hfr : A'.frames = some (env :: outer)) (hf : env.frame = some L) (R : FlyE base (env :: outer) e msg s'.heap) (hsm : g₂.UpToSlots s'.heap)
    (hQ : ∀ h', FlyE base outer e msg h' → g.UpToSlots h' → Q () { s' with heap := h' }) : wpAny M A' (leaving env (.ref e)) Q E s' := by
  obtain ⟨B, t, D, od, st, hfl, hD, hlk, oe, ho, hd⟩ := R
  have hl := wpAny_same (s := s') (dsafe_leaving env (.ref e)) (wpAny_leaves_onW (M := M) (A := A') (E := E) (s := s') (Q := fun _ s₂ => ∃ h', s₂ = { s' with heap := h' } ∧ Heap.FlyingW B outer e (.ref 75) (.ref t) h' ∧ s'.heap.UpToSlots h') hfr hf hfl fun h' x y => ⟨h', rfl, x, y⟩)
  refine wpAny_mono hl (fun _ s₂ hx => ?_) fun _ _ x => x.1
  obtain ⟨⟨h', rfl, k1, k2⟩, sd⟩ := hx
  obtain ⟨oe', ho', hd'⟩ := sd e _ ho
  exact hQ h' ⟨B, t, D, od, st, k1, hD, hlk, oe', ho', hd'.trans hd⟩ ((Heap.UpToSlots.of_keeps F.keep).trans (hsm.trans k2))
end
theorem made_ne {h : Heap} {e D t : Addr} {od : Obj} {msg : Value} (he : h.get? e = some (excO t D)) (hD : h.get? D = some od) (hlk : lookIn (Str.ofString "message") od = some (some msg)) : D ≠ e := fun q => by
  rw [q, he] at hD
  obtain rfl := Option.some.inj hD
  cases hlk
theorem raise_ref {prog : Program} {w : World} {A : Around} {E : Value → Shared → Prop} {s : Shared} {env : Env} {x : PySem.Expr} {pos : Pos} {Q : Flow → Shared → Prop} (hh : A.handled = none)
    (h : wpAny (model prog w) A (eval x env) (fun v s₁ => ∃ e t D, v = .ref e ∧ s₁.heap.get? 75 = some refC ∧ s₁.heap.get? e = some (excO t D) ∧ E (.ref e) s₁) E s) : wpAny (model prog w) A (exec (.Raise (some x) none pos) env) Q E s :=
  raise_made (C := 75) (nm := Str.ofString "Refusal") (q := Str.ofString "Refusal") (N := 74) (bs := [.ref 55]) (bm := .ref 55 :: excT) (by decide +kernel) hh h
section
variable {w : World} {c : Nat} {f : Addr} {vs : List Value} {S : Store} {Msg : Value → Prop} {A : Around} {s : Shared} {Q E : Value → Shared → Prop} {h₀ : Heap} {L : Addr} {m : Str → Option Value} {Y news : Led}
theorem RaiseT.use (C : RaiseT w c f vs (Kn S news) Msg) (G : Gr w S h₀) (F : Fr h₀ L s.heap m) (N : News h₀ L s.heap (Y ++ news)) (hh : A.handled = none) {A₀ : Around} {base : Heap} {outer : List Env} {env : Env} (B : Below A₀ base outer h₀) (hfr : A.frames = some (env :: outer)) (hf : env.frame = some L) (hke : env.scope.kind = .function) (hd : A.depth + c + 100 < recursionLimit)
    (k : ∀ e msg h' tk', Msg msg → FlyE base (env :: outer) e msg h' → s.heap.UpToSlots h' → E (.ref e) { s with heap := h', toks := tk' }) :
    wpAny (model PySem.Challenge.rw_pq1326_01.prog w) A (call (.ref f) vs) Q E s := by
  obtain ⟨_, dp, _, gd, un⟩ := A
  subst hh
  subst hfr
  have Nr : News h₀ L s.heap news := fun p hp => N p (List.mem_append_right _ hp)
  have B' := pushX B F hf hke
  exact C dp un (env :: outer) gd base s Q E hd (Kn.gr G F Nr) ⟨rfl, B'.stays, B'.frames⟩ k
end
section
variable {w : World} {s' : Shared} {h₀ h : Heap} {L e : Addr} {m mg mb : Str → Option Value} {mean : ExcName → Option Value} {msg : Value} {n : Str} {b₀ : Stmt} {suite : List Stmt} {pos np : Pos} {rest : List ExceptHandler} {Q : Flow → Shared → Prop} {E : Value → Shared → Prop}
/-- the law catches a Refusal by name -/
theorem caught_law (X : (k0.heap_1 w.params).In h₀) (T : Top view LO mean mg mb h₀) (F : Fr h₀ L h m) (hsm : h.UpToSlots s'.heap) (R : FlyE h₀ [lawEnv L] e msg s'.heap)
    (hlo : (lawEnv L).kindOf n = some .local) (hRef : nsIn (k0.heap_1 w.params) mainGlobals (Str.ofString "Refusal") = some (some (.ref 75))) (hCl : (k0.heap_1 w.params).lookup 75 = some refC)
    (k : ∀ h' tk oe od (E' : Value → Shared → Prop), Fr h₀ L h' (fun y => if y = n then some (.ref e) else m y) → InstAt h' e oe 75 (some od) → lookIn (Str.ofString "message") od = some (some msg) →
      wpAny (model prog0 w) ((lawA L).mark (some (.ref e))) (execs (b₀ :: suite) (lawEnv L))
        (fun f s₄ => wpAny (model prog0 w) (lawA L) (do bindName (lawEnv L) n .none; unbindBehindTheSuite (lawEnv L) n pos) (fun _ s₅ => Q f s₅) E s₄) E' { s' with heap := h', toks := tk }) :
    wpAny (model prog0 w) (lawA L) (noteFrame (.ref e) (lawEnv L))
      (fun _ s₂ => wpAny (model prog0 w) (lawA L) (setFlight (.ref e) none) (fun _ s₃ =>
        wpAny (model prog0 w) (lawA L) (handleBy (.ref e) (lawEnv L) (.ExceptHandler (some (.Name (Str.ofString "Refusal") np)) (some n) (b₀ :: suite) pos :: rest)) Q E s₃) E s₂) E s' := by
  obtain ⟨B, t, D, od, hB, hfl, hD, hlk, oe, ho, hdD⟩ := R
  have hL : B.get? L = none := by
    obtain ⟨_, ⟨L', _, hf, hn', _⟩, _⟩ := hfl.2.2.1
    obtain rfl : L = L' := Option.some.inj hf
    exact hn'
  have hDL : D ≠ L := fun q => by rw [q, hL] at hD; cases hD
  have hDe : D ≠ e := fun q => by rw [q, hfl.2.1] at hD; cases hD
  refine wpAny_mono (wpAny_same (dsafe_note (.ref e) (lawEnv L)) (wpAny_looks_onW (A := lawA L) (E := E) (s := s') (Q := fun _ s₂ => ∃ h', s₂ = { s' with heap := h' } ∧ Heap.HeldW B [lawEnv L] e (.ref 75) (.ref t) L h' ∧ s'.heap.UpToSlots h') rfl rfl hfl fun h' x y => ⟨h', rfl, x, y⟩)) (fun _ s₂ hx => ?_) fun _ _ x => x.1
  obtain ⟨⟨h₄, rfl, hheld₄, hsm₄⟩, sd₄⟩ := hx
  refine wpAny_mono (wpAny_same (dsafe_setFlight (.ref e) none) (wpAny_landsW (A := lawA L) (E := E) (s := { s' with heap := h₄ }) (Q := fun _ s₂ => ∃ h', s₂ = { s' with heap := h' } ∧ Heap.FlyingW B [lawEnv L] e (.ref 75) (.ref t) h' ∧ h₄.UpToSlots h') hheld₄ fun h' x y => ⟨h', rfl, x, y⟩)) (fun _ s₂ hx => ?_) fun _ _ x => x.1
  obtain ⟨⟨h₅, rfl, hheld, hsm₅'⟩, sd₅⟩ := hx
  have hsm₅ := hsm₄.trans hsm₅'
  have hheld' := flyingW_base hB hheld
  have F₅ : Fr h₀ L h₅ m := F.of_stays hheld'.1 (hsm.trans hsm₅)
  obtain ⟨ob, hob, hobc⟩ := hheld'.there
  refine wpAny_handleBy_cons (codeAny_handlers_test (nameX_K (K := k0.heap_1 w.params) F₅ X (topRead_of T) (v := .ref 75) hRef ?_ rfl rfl (by decide))) (by intro q; cases q)
  have hC : h₅.get? 75 = some refC := F₅.keep _ _ (X _ _ hCl)
  refine wpAny_excMatches_sub_self hC hob hobc (by decide +kernel) (codeAny_handlers_suite_as ?_)
  refine wpAny_mono (wpAny_same (dsafe_setFlight (.ref e) none) (lands_againW (s := { s' with heap := h₅ }) (Q := fun _ s₂ => ∃ h', s₂ = { s' with heap := h' } ∧ Heap.FlyingW B [lawEnv L] e (.ref 75) (.ref t) h' ∧ h₅.UpToSlots h') hheld fun h' x y => ⟨h', rfl, x, y⟩)) (fun _ s₂ hx => ?_) fun _ _ x => x.1
  obtain ⟨⟨h₆, rfl, hfl₆, hsm₆⟩, sd₆⟩ := hx
  have hfl₆' := flyingW_base hB hfl₆
  have F₆ : Fr h₀ L h₆ m := F.of_stays hfl₆'.1 ((hsm.trans hsm₅).trans hsm₆)
  obtain ⟨oe₆, hoe, hoed⟩ := ((SameD.trans sd₄ sd₅).trans sd₆) e oe ho
  obtain ⟨oe₆', ws, hoe', hoec, hoedat, hoe0⟩ := hfl₆'.first
  obtain rfl : oe₆ = oe₆' := Option.some.inj (hoe.symm.trans hoe')
  have heL : e ≠ L := fun q => by
    obtain ⟨o, es, ep, h1, h2, _⟩ := F₆.ns
    rw [q, h1] at hoe
    obtain rfl := Option.some.inj hoe
    rw [h2] at hoedat; cases hoedat
  have hD₆ : h₆.get? D = some od := hfl₆.1 _ _ hD
  refine wpAny_storeName_local hlo F₆.ns (fun h₇ hn hs => ?_) rfl
  exact k h₇ _ oe₆ od _ (F₆.set hn hs) ⟨(hs.2 e heL).trans hoe, hoec, (by unfold notCls; rw [hoedat]), (by rw [hoed.trans hdD]; exact (hs.2 D hDL).trans hD₆)⟩ hlk
end
theorem AllEq.sub {m : Str → Option Value} {l : List (Str × Option Value)} : AllEq m l → ∀ p ∈ l, m p.1 = p.2 := by
  induction l with
  | nil => intro _ p hp; cases hp
  | cons q r ih =>
    intro h p hp
    rcases List.mem_cons.mp hp with e | hp
    · rw [e]; exact h.1
    · exact ih h.2 p hp
theorem AllEq.of {m : Str → Option Value} : ∀ {l : List (Str × Option Value)}, (∀ p ∈ l, m p.1 = p.2) → AllEq m l
  | [], _ => trivial
  | (x, v) :: _, h => ⟨h (x, v) (.head _), AllEq.of fun p hp => h p (.tail _ hp)⟩
/-- fewer names known -/
theorem LSt.weak {h₀ h : Heap} {L src inn : Addr} {ml cl ml' cl' : List (Str × Option Value)} {P n : Led} (x : LSt h₀ L src inn ml cl P n h) (h1 : ∀ p ∈ ml', p ∈ ml) (h2 : ∀ p ∈ cl', p ∈ cl) : LSt h₀ L src inn ml' cl' P n h := by
  obtain ⟨m, cv, Z, F, e1, e2, r⟩ := x.ex
  exact ⟨⟨m, cv, Z, F, AllEq.of fun p hp => e1.sub p (h1 p hp), AllEq.of fun p hp => e2.sub p (h2 p hp), r⟩⟩
theorem cols_facts {S : Store} {kind : Str} {B tall : Nat} : ∀ {cvs : List Value} {cols : List (List Rat)}, ColsS S kind B tall cvs cols → (∀ c ∈ cols, c.length = tall) ∧ ∀ c ∈ cols, ∀ q ∈ c, Sz q B
  | [], [], _ => ⟨fun _ h => (List.not_mem_nil h).elim, fun _ h => (List.not_mem_nil h).elim⟩
  | v :: vs, c :: cs, h => by
    obtain ⟨a, ws, k, rfl, h1, h2, h3, h4⟩ := h.1
    obtain ⟨i1, i2⟩ := cols_facts h.2
    exact ⟨fun c' hc => (List.mem_cons.mp hc).elim (fun e => e ▸ h3) (i1 c'), fun c' hc => (List.mem_cons.mp hc).elim (fun e => e ▸ h4) (i2 c')⟩
theorem drawn_ok {nms : List Str} {wide : Nat} (h : nms = xNames.take wide ∨ nms = pqr.take wide) : ∀ x ∈ nms, PyData.strOk x = true := fun x hx => by
  rcases h with rfl | rfl
  · exact (by decide +kernel : ∀ x ∈ xNames, PyData.strOk x = true) x (List.mem_of_mem_take hx)
  · exact (by decide +kernel : ∀ x ∈ pqr, PyData.strOk x = true) x (List.mem_of_mem_take hx)
inductive ToldO (w : World) (S : Store) (r : Value) : Prop
  | mk (x0 d0 ii ad x6 d6 ni : Addr) (a1 a2 a3 a4 a5 b1 b2 b3 b4 b5 : Tok) (kv nk na ns nl sv lv : Value) (od : Obj) (kvs : List (Str × Value)) (ivs nvs : List Value) (kii kn : Nat) (h1_ : r = .ref x0) (h2_ : S x0 (instObj 222 d0)) (h3_ : S d0 (vecD w a1 a2 a3 a4 a5 kv (.ref ii) (.ref ad) sv lv)) (h4_ : S ad od) (h5_ : od.IsDictOf (strK w) kvs) (h6_ : valueAt kvs (Str.ofString "names") = some (.ref x6)) (h7_ : S x6 (instObj 222 d6)) (h8_ : S d6 (vecD w b1 b2 b3 b4 b5 nk (.ref ni) na ns nl)) (h9_ : S ni (lisO nvs kn)) (h10_ : S ii (lisO ivs kii)) (h11_ : StrsAre nvs names5) (h12_ : ivs.length = 5) (h13_ : (∀ u ∈ ivs, ∃ a, u = .ref a)) (h14_ : PartsK w S ivs) : ToldO w S r
/-- the told list's own things -/
theorem told_open {w : World} {S : Store} {r : Value} {cols : List (List Rat)} {ys : List Rat} {nms : List Str} (h : ToldP w S r cols ys nms) : ToldO w S r := by
  obtain ⟨c1, c2, c3, c4, c5, hN, hc, hr, hf, h4, h5⟩ := h
  obtain ⟨kt, ii, ni, av, sv, lv, nv, nk, na, ns, nl, ki, kn, nvs, a, b, c, d, e, f, g⟩ := hN.p
  obtain ⟨x6, d6, b1, b2, b3, b4, b5, rfl, hx6, hd6⟩ := d
  obtain ⟨ad, od, kvs, rfl, had, hod, hva⟩ := c.some
  obtain ⟨x0, d0, a1, a2, a3, a4, a5, rfl, hx0, hd0⟩ := a
  exact ⟨x0, d0, ii, ad, x6, d6, ni, a1, a2, a3, a4, a5, b1, b2, b3, b4, b5, _, nk, na, ns, nl, sv, lv, od, kvs, _, nvs, ki, kn, rfl, hx0, hd0, had, hod, hva, hx6, hd6, by assumption, by assumption, g, rfl, hN.r, told_parts hc hr hf h5⟩
theorem news_re {h₀ h : Heap} {L : Addr} {n n' : Led} (N : News h₀ L h n) (e : ∀ q ∈ n', q ∈ n) : News h₀ L h n' := fun q hq => N q (e q hq)
theorem lt63 {i : Nat} (h : i ≤ 64) : (i : Int) < 2 ^ 63 := Int.lt_of_le_of_lt (Int.ofNat_le.mpr h) (by decide)
theorem le1M {a : Nat} (h : a ≤ 64) : a ≤ 1048576 := Nat.le_trans h (by decide)
theorem stNL {M : Model} {A : Around} {E : Value → Shared → Prop} {s : Shared} {h₀ : Heap} {L a : Addr} {m : Str → Option Value} {name : Str} {scope : Scope} {cd : Value} {news : Led} {x : Str} {v : Value} {Q : Unit → Shared → Prop} (F : Fr h₀ L s.heap m) (N : News h₀ L s.heap news)
    (h : let zm : Str → Option Value := fun y => if y = x then some v else m y; ∀ h', let zs : Shared := { s with heap := h', toks := s.toks + 1 }; Fr h₀ L h' zm → News h₀ L h' news → Q () zs) (hk : scope.kind = .function) (hl : (envOf name scope L a cd).kindOf x = some .local) : wpAny M A (storeName (envOf name scope L a cd) x v) Q E s := stN F N h hk hl
section
theorem tup_newL {M : Model} {A : Around} {E : Value → Shared → Prop} {s : Shared} {h₀ : Heap} {L : Addr} {m : Str → Option Value} {Y n : Led} {vs : List Value} {Q : Value → Shared → Prop} (F : Fr h₀ L s.heap m) (N : News h₀ L s.heap (Y ++ n)) (O : Off Y n)
    (h : ∀ D, let zn : Led := (D, tupO vs) :: n; ∀ h', let zs : Shared := { s with heap := h' }; Fr h₀ L h' m → News h₀ L h' (Y ++ zn) → Off Y zn → (∀ p ∈ Y ++ n, p.1 < D) → Q (.ref D) zs) (hz : vs.length ≤ sizeLine) : wpAny M A (newTuple vs) Q E s := tup_new F N O h hz
end
section
theorem lis_newL {M : Model} {A : Around} {E : Value → Shared → Prop} {s : Shared} {h₀ : Heap} {L : Addr} {m : Str → Option Value} {Y n : Led} {vs : List Value} {Q : Value → Shared → Prop} (F : Fr h₀ L s.heap m) (N : News h₀ L s.heap (Y ++ n)) (O : Off Y n)
    (h : ∀ D, let zn : Led := (D, lisO vs 0) :: n; ∀ h', let zs : Shared := { s with heap := h' }; Fr h₀ L h' m → News h₀ L h' (Y ++ zn) → Off Y zn → (∀ p ∈ Y ++ n, p.1 < D) → Q (.ref D) zs) (hz : vs.length ≤ sizeLine) : wpAny M A (newList vs) Q E s := lis_new F N O h hz
end
section
theorem lis_copyL {prog : Program} {w : World} {A : Around} {E : Value → Shared → Prop} {s : Shared} {h₀ : Heap} {L : Addr} {m : Str → Option Value} {Y n : Led} {a : Addr} {vs : List Value} {kk : Nat} {Q : Value → Shared → Prop} (F : Fr h₀ L s.heap m) (N : News h₀ L s.heap (Y ++ n)) (O : Off Y n) (hl : s.heap.get? a = some (lisO vs kk))
    (h : ∀ D c, let zn : Led := (D, lisO vs c) :: n; ∀ h', let zs : Shared := { s with heap := h' }; Fr h₀ L h' m → News h₀ L h' (Y ++ zn) → Off Y zn → (∀ p ∈ Y ++ n, p.1 < D) → Q (.ref D) zs) (hz : vs.length ≤ sizeLine) : wpAny (model prog w) A (call (.type "list") [.ref a]) Q E s := lis_copy F N O hl h hz
end
section
theorem mulNoneL {prog : Program} {w : World} {A : Around} {E : Value → Shared → Prop} {s : Shared} {h₀ : Heap} {L : Addr} {m : Str → Option Value} {Y n : Led} {l : Addr} {kk c : Nat} {u : Tok} {Q : Value → Shared → Prop} (F : Fr h₀ L s.heap m) (N : News h₀ L s.heap (Y ++ n)) (O : Off Y n) (hl : s.heap.get? l = some (lisO [.none] kk)) (hc : c ≤ 64)
    (h : ∀ D, let zn : Led := (D, lisO (List.replicate c .none) 0) :: n; ∀ h', let zs : Shared := { s with heap := h' }; Fr h₀ L h' m → News h₀ L h' (Y ++ zn) → Off Y zn → (∀ p ∈ Y ++ n, p.1 < D) → Q (.ref D) zs) :
    wpAny (model prog w) A (binaryOp .Mult (.ref l) (.int (c : Int) u)) Q E s := mulNone F N O hl hc h
end
section
theorem mulTwoL {prog : Program} {w : World} {A : Around} {E : Value → Shared → Prop} {s : Shared} {h₀ : Heap} {L : Addr} {m : Str → Option Value} {Y n : Led} {l : Addr} {v : Value} {kk c : Nat} {u : Tok} {Q : Value → Shared → Prop} (F : Fr h₀ L s.heap m) (N : News h₀ L s.heap (Y ++ n)) (O : Off Y n) (hl : s.heap.get? l = some (lisO [v] kk)) (hc : c = 2)
    (h : ∀ D, let zn : Led := (D, lisO [v, v] 0) :: n; ∀ h', let zs : Shared := { s with heap := h' }; Fr h₀ L h' m → News h₀ L h' (Y ++ zn) → Off Y zn → (∀ p ∈ Y ++ n, p.1 < D) → Q (.ref D) zs) :
    wpAny (model prog w) A (binaryOp .Mult (.ref l) (.int (c : Int) u)) Q E s := mulTwo F N O hl hc h
end
section
theorem sliceYL {prog : Program} {w : World} {A : Around} {E : Value → Shared → Prop} {s : Shared} {h₀ : Heap} {L l : Addr} {m : Str → Option Value} {Y n : Led} {value slice : PySem.Expr} {vs zs : List Value} {kk : Nat} {vl vu : Value} {lo hi : Option Int} {Q : Value → Shared → Prop} (F : Fr h₀ L s.heap m) (N : News h₀ L s.heap (Y ++ n)) (O : Off Y n) (hl : s.heap.get? l = some (lisO vs kk)) (pl : IsPart vl lo) (pu : IsPart vu hi) (e : slicePick vs.toArray lo hi none = zs.toArray)
    (h : ∀ D, let zn : Led := (D, lisO zs 0) :: n; ∀ h', let zs : Shared := { s with heap := h' }; Fr h₀ L h' m → News h₀ L h' (Y ++ zn) → Off Y zn → (∀ p ∈ Y ++ n, p.1 < D) → Q (.ref D) zs)
    (hs : subscripted slice false (.ref l) (.ref s.heap.objs.size) = operate [.ref s.heap.objs.size, .ref l] (getItem (.ref l) (.ref s.heap.objs.size))) (ht : ∀ r, letTemporaryGo value (.ref l) r = pure ()) (hz : vs.length ≤ sizeLine) :
    wpAny (model prog w) A (subscriptTail value slice (.ref l) (.ref s.heap.objs.size)) Q E { s with heap := s.heap.push { cls := .type "slice", data := .fields #[vl, vu, .none] } } := sliceY F N O hl pl pu e h hs ht hz
end
section
variable  {prog : Program} {w : World} {A : Around} {E : Value → Shared → Prop} {s : Shared} {h₀ : Heap} {L D : Addr} {m : Str → Option Value} {Y Y' n : Led}
theorem append_YL {vs : List Value} {kk : Nat} {x : Value} {Q : Value → Shared → Prop} (F : Fr h₀ L s.heap m) (N : News h₀ L s.heap (Y ++ n)) (O : Off Y n) (U : Upd D (lisO vs kk) (lisO (vs ++ [x]) (kk + 1)) Y Y')
    (h : let zY : Led := Y'; ∀ h', let zs : Shared := { s with heap := h' }; Fr h₀ L h' m → News h₀ L h' (zY ++ n) → Off zY n → Q .none zs) (hsz : vs.length ≤ sizeLine) : wpAny (model prog w) A (call (.builtin "list.append") [.ref D, x]) Q E s := append_Y F N O U h hsz
end
section
variable  {prog : Program} {w : World} {A : Around} {E : Value → Shared → Prop} {s : Shared} {h₀ : Heap} {L D : Addr} {m : Str → Option Value} {Y Y' n : Led}
theorem set_YL {K : Frag} {x C dx : Addr} {ox : Obj} {es es' : List DictEntry} {k k' : Nat} {name : Str} {v : Value} {Q : Unit → Shared → Prop} (F : Fr h₀ L s.heap m) (X₀ : K.In h₀) (N : News h₀ L s.heap (Y ++ n)) (O : Off Y n) (I : InstAt s.heap x ox C (some (dictOf es k))) (hd : ox.dict = some dx)
    (hs : findIn K (.ref C) "__setattr__" = some (some (.builtin "object.__setattr__"))) (hp : plainOver K C = true) (ht : takerIn K C name = some none) (hh : hasDictIn K C = true) (hl : (getL name es).isSome = true)
    (e : (putL name (PyData.keyHash w.params name) (.str name (s.toks + 1)) v es, putN name es k) = (es', k')) (U : Upd dx (dictOf es k) (dictOf es' k') Y Y') (hz : es'.length ≤ 1000)
    (h : let zY : Led := Y'; ∀ h', let zs : Shared := { s with heap := h', toks := s.toks + 2 }; Fr h₀ L h' m → News h₀ L h' (zY ++ n) → Off zY n → Q () zs) :
    wpAny (model prog w) A (setAttr (.ref x) name v) Q E s := set_Y F X₀ N O I hd hs hp ht hh hl e U hz h
end
section
variable  {prog : Program} {w : World} {A : Around} {E : Value → Shared → Prop} {s : Shared} {h₀ : Heap} {L D : Addr} {m : Str → Option Value} {Y Y' n : Led}
theorem setItem_YL {vs : List Value} {kk : Nat} {i : Int} {t : Tok} {v : Value} {Q : Unit → Shared → Prop} (F : Fr h₀ L s.heap m) (N : News h₀ L s.heap (Y ++ n)) (O : Off Y n) (U : Upd D (lisO vs kk) (lisO (vs.set i.toNat v) kk) Y Y')
    (h0 : 0 ≤ i) (h1 : i < vs.length) (hfit : i < 2 ^ 63) (h : let zY : Led := Y'; ∀ h', let zs : Shared := { s with heap := h' }; Fr h₀ L h' m → News h₀ L h' (zY ++ n) → Off zY n → Q () zs) :
    wpAny (model prog w) A (setItem (.ref D) (.int i t) v) Q E s := setItem_Y F N O U h0 h1 hfit h
end
section
theorem popYL {prog : Program} {w : World} {A : Around} {E : Value → Shared → Prop} {s : Shared} {h₀ : Heap} {L D : Addr} {m : Str → Option Value} {Y Y' n : Led} {v : Value} {vs : List Value} {kk : Nat} {u : Tok} {Q : Value → Shared → Prop} (F : Fr h₀ L s.heap m) (N : News h₀ L s.heap (Y ++ n)) (O : Off Y n) (U : Upd D (lisO (v :: vs) kk) (lisO vs (kk + 1)) Y Y') (hz : vs.length ≤ 64)
    (h : let zY : Led := Y'; ∀ h', let zs : Shared := { s with heap := h' }; Fr h₀ L h' m → News h₀ L h' (zY ++ n) → Off zY n → Q v zs) : wpAny (model prog w) A (call (.builtin "list.pop") [.ref D, .int 0 u]) Q E s := popY F N O U hz h
end
section
variable  {prog : Program} {w : World} {A : Around} {E : Value → Shared → Prop} {s : Shared} {h₀ : Heap} {L D : Addr} {m : Str → Option Value} {P P' Z n : Led}
theorem appendZL {vs : List Value} {kk : Nat} {x : Value} {Q : Value → Shared → Prop} (F : Fr h₀ L s.heap m) (N : News h₀ L s.heap ((P ++ Z) ++ n)) (O : Off (P ++ Z) n) (oP : Off P Z) (U : Upd D (lisO vs kk) (lisO (vs ++ [x]) (kk + 1)) P P')
    (h : let zY : Led := P'; ∀ h', let zs : Shared := { s with heap := h' }; Fr h₀ L h' m → News h₀ L h' ((zY ++ Z) ++ n) → Off (zY ++ Z) n → Off zY Z → Q .none zs) (hsz : vs.length ≤ sizeLine) : wpAny (model prog w) A (call (.builtin "list.append") [.ref D, x]) Q E s := appendZ F N O oP U h hsz
end
section
variable  {prog : Program} {w : World} {A : Around} {E : Value → Shared → Prop} {s : Shared} {h₀ : Heap} {L D : Addr} {m : Str → Option Value} {P P' Z n : Led}
theorem setItemZL {vs : List Value} {kk : Nat} {i : Int} {t : Tok} {v : Value} {Q : Unit → Shared → Prop} (F : Fr h₀ L s.heap m) (N : News h₀ L s.heap ((P ++ Z) ++ n)) (O : Off (P ++ Z) n) (oP : Off P Z) (U : Upd D (lisO vs kk) (lisO (vs.set i.toNat v) kk) P P')
    (h0 : 0 ≤ i) (h1 : i < vs.length) (hfit : i < 2 ^ 63) (h : let zY : Led := P'; ∀ h', let zs : Shared := { s with heap := h' }; Fr h₀ L h' m → News h₀ L h' ((zY ++ Z) ++ n) → Off (zY ++ Z) n → Off zY Z → Q () zs) :
    wpAny (model prog w) A (setItem (.ref D) (.int i t) v) Q E s := setItemZ F N O oP U h0 h1 hfit h
end
section
variable  {w : World} {A : Around} {E : Value → Shared → Prop} {s : Shared} {h₀ : Heap} {L : Addr} {m : Str → Option Value} {P P' Z n : Led}
theorem setAttrZL {prog : Program} {K : Frag} {x C dx : Addr} {ox : Obj} {es es' : List DictEntry} {k k' : Nat} {name : Str} {v : Value} {Q : Unit → Shared → Prop} (F : Fr h₀ L s.heap m) (X₀ : K.In h₀) (N : News h₀ L s.heap ((P ++ Z) ++ n)) (O : Off (P ++ Z) n) (oP : Off P Z) (I : InstAt s.heap x ox C (some (dictOf es k))) (hd : ox.dict = some dx)
    (hs : findIn K (.ref C) "__setattr__" = some (some (.builtin "object.__setattr__"))) (hp : plainOver K C = true) (ht : takerIn K C name = some none) (hh : hasDictIn K C = true) (hl : (getL name es).isSome = true)
    (e : (putL name (PyData.keyHash w.params name) (.str name (s.toks + 1)) v es, putN name es k) = (es', k')) (U : Upd dx (dictOf es k) (dictOf es' k') P P') (hz : es'.length ≤ 1000)
    (h : let zY : Led := P'; ∀ h', let zs : Shared := { s with heap := h', toks := s.toks + 2 }; Fr h₀ L h' m → News h₀ L h' ((zY ++ Z) ++ n) → Off (zY ++ Z) n → Off zY Z → Q () zs) :
    wpAny (model prog w) A (setAttr (.ref x) name v) Q E s := setAttrZ F X₀ N O oP I hd hs hp ht hh hl e U hz h
end
section
variable  {M : Model} {A : Around} {E : Value → Shared → Prop} {s : Shared} {h₀ : Heap} {L a : Addr} {m : Str → Option Value} {cn : Str} {cs : Scope} {ccd : Value} {cl : List (Str × Addr)}
theorem localYL (F : Fr h₀ L s.heap m) (N : News h₀ L s.heap (Y ++ n))
    (h : let zm : Str → Option Value := fun y => if y = x then some v else m y; ∀ h', let zs : Shared := { s with heap := h', toks := s.toks + 1 }; Fr h₀ L h' zm → News h₀ L h' (Y ++ n) → Q () zs)
    (hk : cs.kind = .function) (hx : (envX cn cs L a ccd cl).kindOf x = some .local) : wpAny M A (storeName (envX cn cs L a ccd cl) x v) Q E s := localY F N h hk hx
end
section
variable  {M : Model} {A : Around} {E : Value → Shared → Prop} {s : Shared} {h₀ : Heap} {L a : Addr} {m : Str → Option Value} {cn : Str} {cs : Scope} {ccd : Value} {cl : List (Str × Addr)}
theorem cellYL (F : Fr h₀ L s.heap m) (N : News h₀ L s.heap (Y ++ n)) (O : Off Y n) (hc : cl.lookup x = some c) (U : UpdF c o Y g) (hd : o.data = .cell v₀)
    (h : ∀ h' o', let zY : Led := g o'; let zs : Shared := { s with heap := h' }; Fr h₀ L h' m → News h₀ L h' (zY ++ n) → Off zY n → o'.data = .cell (some v) → Q () zs)
    (hk : cs.kind = .function) (hx : (envX cn cs L a ccd cl).kindOf x = some .cell) : wpAny M A (storeName (envX cn cs L a ccd cl) x v) Q E s := cellY F N O hc U hd h hk hx
end
section
variable  {w : World} {A : Around} {E : Value → Shared → Prop} {s : Shared} {h₀ : Heap} {L d : Addr} {m : Str → Option Value} {Y n : Led} {o : Obj} {kvs : List (Str × Value)} {x : Str} {t : Tok}
theorem setDictL {v : Value} {g : Obj → Led} {Q : Unit → Shared → Prop} (F : Fr h₀ L s.heap m) (N : News h₀ L s.heap (Y ++ n)) (O : Off Y n) (U : UpdF d o Y g) (hd : o.IsDictOf (strK w) kvs) (hz : kvs.length ≤ sizeLine)
    (h : ∀ h' o', let zY : Led := g o'; let zs : Shared := { s with heap := h', toks := s.toks + 1 }; Fr h₀ L h' m → News h₀ L h' (zY ++ n) → Off zY n → o'.IsDictOf (strK w) (stored kvs x v) → Q () zs) : wpAny (model PySem.Challenge.rw_pq1326_01.prog w) A (setItem (.ref d) (.str x t) v) Q E s := setDict F N O U hd hz h
end
section
variable  {w : World} {A : Around} {E : Value → Shared → Prop} {s : Shared} {env : Env} {h₀ : Heap} {L d : Addr} {m : Str → Option Value} {Y n : Led} {o : Obj} {Q : Value → Shared → Prop}
theorem dictYL {keys : List (Option PySem.Expr)} {values : List PySem.Expr} {pos : Pos} (F : Fr h₀ L s.heap m) (N : News h₀ L s.heap (Y ++ n)) (O : Off Y n) (hbig : h₀.NoLimit)
    (hall : keys.all (·.isSome) = true) (hl : keys.length = values.length) (h0 : keys ≠ []) (hlen : keys.length ≤ 15)
    (h : ∀ (d : Addr) h' o, let zY : Led := (d, o) :: Y; Fr h₀ L h' m → News h₀ L h' (zY ++ n) → Off zY n → (∀ p ∈ Y, p.1 ≠ d) → (d == sysModules) = false → o.IsDictOf (strK w) [] →
      wpAny (model PySem.Challenge.rw_pq1326_01.prog w) A (evalPairs (pairTrees keys values env pos)) (fun vs s₁ => KdnMade PySem.Challenge.rw_pq1326_01.prog w (strK w) d Q vs s₁) E { s with heap := h' }) :
    wpAny (model PySem.Challenge.rw_pq1326_01.prog w) A (eval (.Dict keys values pos) env) Q E s := dictY F N O hbig hall hl h0 hlen h
end
section
variable  {w : World} {A : Around} {E : Value → Shared → Prop} {s : Shared} {env : Env} {h₀ : Heap} {L d : Addr} {m : Str → Option Value} {Y n : Led} {o : Obj} {Q : Value → Shared → Prop}
theorem dictMadeYL {vs : List (Value × Value)} (F : Fr h₀ L s.heap m) (N : News h₀ L s.heap (((d, o) :: Y) ++ n)) (O : Off ((d, o) :: Y) n) (hne : ∀ p ∈ Y, p.1 ≠ d) (hd : o.IsDictOf (strK w) []) (hk : allStrKeys vs = true) (hn : ((strPairs vs).map (·.1)).Nodup)
    (h : ∀ h' o', let zn : Led := (d, o') :: n; let zs : Shared := { s with heap := h', toks := s.toks + vs.length }; Fr h₀ L h' m → News h₀ L h' (Y ++ zn) → Off Y zn → (∀ p ∈ Y ++ n, p.1 ≠ d) → o'.IsDictOf (strK w) (strPairs vs) → Q (.ref d) zs) : KdnMade PySem.Challenge.rw_pq1326_01.prog w (strK w) d Q vs s := dictMadeY F N O hne hd hk hn h
end
section
theorem dictEL {w : World} {A : Around} {E : Value → Shared → Prop} {s : Shared} {env : Env} {h₀ : Heap} {L : Addr} {m : Str → Option Value} {Y n : Led} {pos : Pos} {Q : Value → Shared → Prop} (F : Fr h₀ L s.heap m) (N : News h₀ L s.heap (Y ++ n)) (O : Off Y n) (hbig : h₀.NoLimit)
    (h : ∀ d h' o, let zn : Led := (d, o) :: n; let zs : Shared := { s with heap := h' }; Fr h₀ L h' m → News h₀ L h' (Y ++ zn) → Off Y zn → (∀ p ∈ Y ++ n, p.1 < d) → (d == sysModules) = false → o.IsDictOf (strK w) [] → Q (.ref d) zs) :
    wpAny (model PySem.Challenge.rw_pq1326_01.prog w) A (eval (.Dict [] [] pos) env) Q E s := dictE F N O hbig h
end
section
variable  {w : World} {S : Store} {s : Shared} {A : Around} {Q E : Value → Shared → Prop} {h₀ : Heap} {L src inn : Addr} {m cv : Str → Option Value} {P Z n : Led}
theorem takeZL {mo : Int} {tm : Tok} (G : Gr w S h₀) (F : Fr h₀ L s.heap m) (N : News h₀ L s.heap ((P ++ Z) ++ n)) (O : Off (P ++ Z) n) (oP : Off P Z) (hZ : ZAt L src inn cv Z) (hne : src ≠ inn)
    (C : ∀ (S : Store) (src inn : Addr) (X0 : Led) (most : Nat) (tm : Tok), SrcAt src inn X0 → src ≠ inn → 0 < most → most ≤ 64 → MutU w 2 509 [.ref src, .int (most : Nat) tm] S X0 (fun X' tl r => SrcAt src inn X' ∧ ∃ (k : Nat) (t : Tok), r = .int (k : Nat) t ∧ k < most))
    (B : Below callerA h₀ [] h₀) (hm : 0 < mo) (hm2 : mo ≤ 64)
    (k : ∀ (k : Nat) t Z' tl, let zn : Led := n ++ tl; ∀ h' tk', let zs : Shared := { s with heap := h', toks := tk' }; (k : Int) < mo → Fr h₀ L h' m → News h₀ L h' ((P ++ Z') ++ zn) → Off (P ++ Z') zn → Off P Z' → ZAt L src inn cv Z' → Q (.int (k : Nat) t) zs) :
    wpAny (model PySem.Challenge.rw_pq1326_01.prog w) (lawA L) (call (.ref 509) [.ref src, .int mo tm]) Q E s := takeZ G F N O oP hZ hne C B hm hm2 k
end
section
variable  {w : World} {c : Nat} {f : Addr} {vs : List Value} {S : Store} {Post : Store → Value → Prop} {A : Around} {s : Shared} {Q E : Value → Shared → Prop} {h₀ : Heap} {L : Addr} {m : Str → Option Value} {news : Led}
theorem PureT.useN {Y : Led} {Post : Led → Value → Prop} (C : PureT w c f vs (Kn S news) Post) (G : Gr w S h₀) (F : Fr h₀ L s.heap m) (N : News h₀ L s.heap (Y ++ news)) (O : Off Y news) (hh : A.handled = none) {A₀ : Around} {base : Heap} {outer : List Env} {env : Env} (B : Below A₀ base outer h₀) (hfr : A.frames = some (env :: outer)) (hf : env.frame = some L) (hke : env.scope.kind = .function) (hd : A.depth + c + 100 < recursionLimit)
    (k : ∀ r tl, let zn : Led := news ++ tl; ∀ h' tk', let zs : Shared := { s with heap := h', toks := tk' }; Fr h₀ L h' m → News h₀ L h' (Y ++ zn) → Off Y zn → Off (Y ++ news) tl → Post tl r → Q r zs) :
    wpAny (model PySem.Challenge.rw_pq1326_01.prog w) A (call (.ref f) vs) Q E s := PureT.use C G F N O hh B hfr hf hke hd k
end
section
variable  {w : World} {c : Nat} {f : Addr} {vs : List Value} {S : Store} {Post : Store → Value → Prop} {A : Around} {s : Shared} {Q E : Value → Shared → Prop} {h₀ : Heap} {L : Addr} {m : Str → Option Value} {news : Led}
theorem Pure.useN {Y : Led} (C : Pure w c f vs (Kn S news) Post) (G : Gr w S h₀) (F : Fr h₀ L s.heap m) (N : News h₀ L s.heap (Y ++ news)) (O : Off Y news) (hh : A.handled = none) {A₀ : Around} {base : Heap} {outer : List Env} {env : Env} (B : Below A₀ base outer h₀) (hfr : A.frames = some (env :: outer)) (hf : env.frame = some L) (hke : env.scope.kind = .function) (hd : A.depth + c + 100 < recursionLimit)
    (k : ∀ r tl, let zn : Led := news ++ tl; ∀ h' tk', let zs : Shared := { s with heap := h', toks := tk' }; Fr h₀ L h' m → News h₀ L h' (Y ++ zn) → Off Y zn → Off (Y ++ news) tl → Post (Kn S zn) r → Q r zs) :
    wpAny (model PySem.Challenge.rw_pq1326_01.prog w) A (call (.ref f) vs) Q E s := Pure.use C G F N O hh B hfr hf hke hd k
end
theorem let_all {h₀ h : Heap} {L : Addr} {m : Str → Option Value} {Y n : Led} {P : Prop} (F : Fr h₀ L h m) (N : News h₀ L h (Y ++ n)) (O : Off Y n)
    (k : let zm := m; let zY := Y; let zn := n; ∀ (zF : Fr h₀ L h zm) (zN : News h₀ L h (zY ++ zn)) (zO : Off zY zn), P) : P := k F N O
theorem let_Z {h₀ h : Heap} {L src inn : Addr} {m cv : Str → Option Value} {Y n Z : Led} {P : Prop} (F : Fr h₀ L h m) (N : News h₀ L h (Y ++ n)) (O : Off Y n) (z : ZAt L src inn cv Z)
    (k : let zm := m; let zn := n; let zc := cv; ∀ (zF : Fr h₀ L h zm) (zN : News h₀ L h (Y ++ zn)) (zO : Off Y zn) (zZ : ZAt L src inn zc Z), P) : P := k F N O z
noncomputable def LawP (w : World) : Prop := ∀ (s : Shared) (ax : Addr) (vs : List Value) (ns : List Int), s.heap.IsList ax vs.toArray → IntsAre vs ns → (∀ n ∈ ns, PySem.Builtin.Int.intBits n ≤ 1048576) → ns.length ≤ 63 → Gr w (AllS s.heap) s.heap → Below callerA s.heap [] s.heap → ∀ R : Result → Shared → Prop,
  (∀ h' tk', (∀ b o, s.heap.get? b = some o → h'.get? b = some o) → R (.ok (.ret (.bool true))) { s with heap := h', toks := tk' }) → codeAny (model PySem.Challenge.rw_pq1326_01.prog w) callerA (.call (.ref 521) ⟨[.ref ax], []⟩) R s
/-- a world in which the law fails, if there is one: what is shown of it holds of each -/
@[irreducible] noncomputable def w : World := @Classical.epsilon World ⟨aWorld 0⟩ fun v => ¬ LawP v
theorem any_world (h : LawP w) (v : World) : LawP v := Classical.byContradiction fun hv => by
  unfold w at h
  exact (Classical.epsilon_spec (p := fun u => ¬ LawP u) ⟨v, hv⟩) h
theorem fillK (w : World) (h : Heap) : (k0.heap_1 w.params).In h → PySem.Challenge.rw_pq1326_01.prog = PySem.Challenge.rw_pq1326_01.prog := by
  k_fill
  intro _
  rfl
-- words of my own
local macro_rules | `(tactic| walk_at $s:str) => `(tactic| k_extra $(Lean.Syntax.mkStrLit ("o " ++ s.getString)):str)
local macro_rules | `(tactic| k_mem) => `(tactic| k_extra "o mem")
local macro_rules | `(tactic| k_ne) => `(tactic| k_extra "o k_ne")
local macro_rules | `(tactic| k_upd) => `(tactic| k_extra "o k_upd")
local macro_rules | `(tactic| k_updF) => `(tactic| k_extra "o k_updF")
local macro_rules | `(tactic| k_inst) => `(tactic| k_extra "o k_inst")
local macro_rules | `(tactic| mul_fits) => `(tactic| k_extra "o mul_fits")
--: the walk stops at loops and comprehensions
theorem rows_pre_0 : True := by
  k_with "o memall" => (first | exact List.forall_mem_nil _ | (refine List.forall_mem_cons.mpr ⟨by k_extra "o mem", ?_⟩; k_extra "o memall") | fail "-")
  k_with "o lets" => (first | (refine let_Z (by with_reducible assumption) (by with_reducible assumption) (by with_reducible assumption) (by with_reducible assumption) ?_; intro _ _ _ _ _ _ _) | (refine let_all (by with_reducible assumption) (by with_reducible assumption) (by with_reducible assumption) ?_; intro _ _ _ _ _ _) | fail "-")
  k_with "o om" => (first | decide | with_reducible exact Int.natCast_nonneg _ | with_reducible exact Int.ofNat_lt.mpr (by with_reducible assumption) | with_reducible exact lt63 (by with_reducible assumption) | with_reducible exact le1M (by with_reducible assumption) | with_reducible assumption | with_reducible exact Nat.le_trans (by with_reducible assumption) (by decide) | with_reducible exact i63 (Nat.le_trans (Nat.le_of_lt (by with_reducible assumption)) (by decide)) | omega)
  k_with "kt" => (first | ((case kB => assumption); (case kG => assumption); (case kF => assumption); (case kN => assumption); (case kO => assumption); (case kd => first | exact room_le (by assumption) rfl | omega | (dsimp only [Around.deeper]; omega) | exact Nat.le_of_ble_eq_true rfl)) | fail "-")
  k_with "km" => (first | ((case kB => assumption); (case kG => assumption); (case kF => assumption); (case kN => assumption); (case kO => assumption); (case kA => assumption); (case kd => first | exact room_le (by assumption) rfl | omega | (dsimp only [Around.deeper]; omega) | exact Nat.le_of_ble_eq_true rfl)) | fail "-")
  k_with "ktr" => (first | ((case k1 => assumption); (case k2 => assumption); (case k6 => k_is); (case k7 => k_is); (case k8 => first | exact room_lt (by assumption) | omega | (dsimp only [Around.deeper]; omega)); (case k9 => first | exact BindsTo.of_eq rfl | exact binds_K (by assumption) rfl (by k_is) rfl rfl rfl); (case c5 => decide); (case kB => exact locs rfl); (case c2 => exact rfl); (case c3 => exact rfl); (case c4 => exact rfl); k_whole) | fail "-")
  k_with "ktc" => (first | ((case k1 => assumption); (case k2 => assumption); (case k6 => k_is); (case k7 => k_is); (case k8 => first | exact room_lt (by assumption) | omega | (dsimp only [Around.deeper]; omega)); (case k9 => first | exact BindsTo.of_eq rfl | exact binds_K (by assumption) rfl (by k_is) rfl rfl rfl); (case kB => exact rfl); (case kD => decide +kernel); (case c2 => exact rfl); (case c3 => exact rfl); (case c4 => exact rfl); k_whole) | fail "-")
  trivial
theorem rows_pre_1 : True := by
  k_with "o stop" => (first | (((fail_if_success (with_reducible show wpAny _ _ (exec (Stmt.While _ _ _ _) _) _ _ _)); (fail_if_success (with_reducible show wpAny _ _ (exec (Stmt.For _ _ _ _ _) _) _ _ _)); (fail_if_success (with_reducible show wpAny _ _ (pyIter _) _ _ _)); (fail_if_success (with_reducible show wpAny _ _ (eval (Expr.ListComp _ _ _ _) _) _ _ _)); (fail_if_success (with_reducible show wpAny _ _ (exec (Stmt.Assign [_] (Expr.ListComp _ _ _ _) _) _) _ _ _)); first | (fail_if_success (with_reducible show wpAny _ _ (call (Value.ref _) _) _ _ _)) | ((fail_if_success (with_reducible show wpAny _ _ (call (Value.ref 431) _) _ _ _)); (fail_if_success (with_reducible show wpAny _ _ (call (Value.ref 438) _) _ _ _)); (fail_if_success (with_reducible show wpAny _ _ (call (Value.ref 98) _) _ _ _)); (fail_if_success (with_reducible show wpAny _ _ (call (Value.ref 105) _) _ _ _)); (fail_if_success (with_reducible show wpAny _ _ (call (Value.ref 119) _) _ _ _)); (fail_if_success (with_reducible show wpAny _ _ (call (Value.ref 131) _) _ _ _)); (fail_if_success (with_reducible show wpAny _ _ (call (Value.ref 134) _) _ _ _)); (fail_if_success (with_reducible show wpAny _ _ (call (Value.ref 40) _) _ _ _)); (fail_if_success (with_reducible show wpAny _ _ (call (Value.ref 45) _) _ _ _)); (fail_if_success (with_reducible show wpAny _ _ (call (Value.ref 33) _) _ _ _)); (fail_if_success (with_reducible show wpAny _ _ (call (Value.ref 288) _) _ _ _)); (fail_if_success (with_reducible show wpAny _ _ (call (Value.ref 295) _) _ _ _)); (fail_if_success (with_reducible show wpAny _ _ (call (Value.ref 240) _) _ _ _)); (fail_if_success (with_reducible show wpAny _ _ (call (Value.ref 247) _) _ _ _)); (fail_if_success (with_reducible show wpAny _ _ (call (Value.ref 281) _) _ _ _)); (fail_if_success (with_reducible show wpAny _ _ (call (Value.ref 300) _) _ _ _)); (fail_if_success (with_reducible show wpAny _ _ (call (Value.ref 469) _) _ _ _)); (fail_if_success (with_reducible show wpAny _ _ (call (Value.ref 449) _) _ _ _)); (fail_if_success (with_reducible show wpAny _ _ (call (Value.ref 169) _) _ _ _)); (fail_if_success (with_reducible show wpAny _ _ (call (Value.ref 163) _) _ _ _)); (fail_if_success (with_reducible show wpAny _ _ (call (Value.ref 222) _) _ _ _)); (fail_if_success (with_reducible show wpAny _ _ (call (Value.ref 193) _) _ _ _)); (fail_if_success (with_reducible show wpAny _ _ (call (Value.ref 233) _) _ _ _)); (fail_if_success (with_reducible show wpAny _ _ (call (Value.ref 267) _) _ _ _)); (fail_if_success (with_reducible show wpAny _ _ (call (Value.ref 274) _) _ _ _)); (fail_if_success (with_reducible show wpAny _ _ (call (Value.ref 260) _) _ _ _)); (fail_if_success (with_reducible show wpAny _ _ (call (Value.ref 254) _) _ _ _)); (fail_if_success (with_reducible show wpAny _ _ (call (Value.ref 509) _) _ _ _)); (fail_if_success (with_reducible show wpAny _ _ (call (Value.ref 516) _) _ _ _)); (fail_if_success (with_reducible show wpAny _ _ (call (Value.ref 474) _) _ _ _)); (fail_if_success (with_reducible show wpAny _ _ (call (Value.ref 481) _) _ _ _)); (fail_if_success (with_reducible show wpAny _ _ (call (Value.ref 488) _) _ _ _)); (fail_if_success (with_reducible show wpAny _ _ (call (Value.ref 495) _) _ _ _)); (fail_if_success (with_reducible show wpAny _ _ (call (Value.ref 502) _) _ _ _))))) | fail "-")
  k_with "o step" => (first | ((first | with_reducible refine run_qF ?_ | with_reducible refine run_qL ?_ | (k_unfold; (try dsimp only)) | (k_end; wrow_close) | ((with_reducible show ite _ _ _); walk1) | walk1 | (dsimp only; walk1) | fail "no step")) | fail "-")
  k_with "o go" => (first | (repeat' (k_extra "o stop"; k_extra "o step")) | fail "-")
  k_with "o clean" => (first | (((try dsimp only [List.reverse, List.reverseAux, List.map] at *); (try k_fold))) | fail "-")
  trivial
-- a call by what was shown of it
theorem rows_pre_2 : True := by
  k_with "o rat" => (first | (first | assumption | (refine RatS.l ?_; assumption) | (refine RatS.app ?_; k_extra "o rat") | (refine RatS.cons ?_; k_extra "o rat")) | fail "-")
  k_with "o mem" => (first | ((first | (with_reducible exact List.mem_cons_self) | ((fail_if_success (with_reducible refine List.mem_append_left _ ?_)); (fail_if_success (with_reducible refine List.mem_cons_of_mem _ ?_)); with_reducible assumption) | ((with_reducible refine List.mem_append_left _ ?_); k_extra "o mem") | ((with_reducible refine List.mem_append_right _ ?_); k_extra "o mem") | ((with_reducible refine List.mem_cons_of_mem _ ?_); k_extra "o mem"))) | fail "-")
  k_with "o mul_fits" => (first | (assumption) | fail "-")
  k_with "o memr" => (first | ((first | (with_reducible exact List.mem_cons_self) | ((fail_if_success (with_reducible refine List.mem_append_left _ ?_)); (fail_if_success (with_reducible refine List.mem_cons_of_mem _ ?_)); with_reducible assumption) | ((with_reducible refine List.mem_append_right _ ?_); k_extra "o memr") | ((with_reducible refine List.mem_append_left _ ?_); k_extra "o memr") | ((with_reducible refine List.mem_cons_of_mem _ ?_); k_extra "o memr"))) | fail "-")
  k_with "o kn1" => (first | ((first | (with_reducible assumption) | ((with_reducible refine Kn.app1 ?_); k_extra "o kn1") | ((with_reducible refine Kn.cons1 ?_); k_extra "o kn1") | ((with_reducible refine Kn.l ?_); with_reducible assumption) | ((with_reducible refine RatS.app ?_); k_extra "o kn1") | ((with_reducible refine RatS.cons ?_); k_extra "o kn1") | ((with_reducible refine RatS.l ?_); with_reducible assumption) | ((with_reducible refine RatL.app ?_); k_extra "o kn1") | ((with_reducible refine RatL.cons ?_); k_extra "o kn1") | ((with_reducible refine RatL.l ?_); with_reducible assumption) | ((with_reducible refine RatsS.app ?_); k_extra "o kn1") | ((with_reducible refine RatsS.cons ?_); k_extra "o kn1") | ((with_reducible refine RatsS.l ?_); with_reducible assumption) | ((with_reducible refine RatLs.app ?_); k_extra "o kn1") | ((with_reducible refine RatLs.cons ?_); k_extra "o kn1") | ((with_reducible refine RatLs.l ?_); with_reducible assumption))) | fail "-")
  k_with "o kn" => (first | ((first | k_extra "o kn1" | ((with_reducible refine Kn.r ?_); k_extra "o mem"))) | fail "-")
  k_with "o at" => (first | (first | exact getS (by assumption) (by assumption) (by assumption) | exact News.get (by assumption) (by k_extra "o mem") | exact getN (by assumption) (by assumption) (by assumption) (by k_extra "o kn")) | fail "-")
  k_with "o short" => (first | (first | exact Nat.le_trans (by k_extra "o om" : _ ≤ 64) (by decide) | exact Nat.le_of_ble_eq_true rfl | exact Nat.le_trans (by simp; k_extra "o om" : _ ≤ 64) (by decide)) | fail "-")
  k_with "o k_ne" => (first | ((dsimp only; (first | (with_reducible assumption) | (refine Ne.symm ?_; with_reducible assumption)))) | fail "-")
  k_with "o k_upd" => (first | (((with_reducible refine' upd_in ?U_106 ?O_106); (case O_106 => (dsimp only [List.map]; with_reducible assumption)); (case U_106 => k_upd))) | fail "-")
  k_with "o k_inst" => (first | ((refine' inst_M ?G_107 ?F_107 ?N_107 ?h1_107 ?h2_107; (case G_107 => assumption); (case F_107 => assumption); (case N_107 => assumption); (case h1_107 => k_extra "o kn"); (case h2_107 => k_extra "o mem"))) | fail "-")
  k_with "o k_inst" => (first | ((refine' inst_N ?G_108 ?F_108 ?N_108 ?h1_108 ?h2_108; (case G_108 => assumption); (case F_108 => assumption); (case N_108 => assumption); (case h1_108 => k_extra "o kn"); (case h2_108 => k_extra "o kn"))) | fail "-")
  k_with "o k_inst" => (first | ((refine' inst_S ?G_109 ?F_109 ?h1_109 ?h2_109; (case G_109 => assumption); (case F_109 => assumption); (case h1_109 => assumption); (case h2_109 => assumption))) | fail "-")
  k_with "o k_inst" => (first | ((refine' InstAt.of_news ?N_110 ?h1_110 ?h2_110; (case N_110 => k_asm); (case h1_110 => k_extra "o memr"); (case h2_110 => k_extra "o mem"))) | fail "-")
  k_with "o getMethod ref" => (first | ((k_here; (with_reducible show wpAny _ _ (getMethod (Value.ref _) (PySem.Str.ofString "append") _) _ _ _); k_dflt (refine' listMeth ?m_111 PySem.F.slot_list_append PySem.F.type_list_append ?_; (case m_111 => k_extra "o at")))) | fail "-")
  k_with "o call builtin:list.append" => (first | ((k_here; k_dflt (show wpAny _ _ (call (Value.builtin _) [Value.ref _, _]) _ _ _); k_dflt (refine' append_YL ?F_112 ?N_112 ?O_112 ?U_112 ?_ ?z_112; (case F_112 => assumption); (case N_112 => assumption); (case O_112 => assumption); (case U_112 => k_upd); (case z_112 => k_extra "o short"); k_whole); intro _ _ _ _ _ _; (try k_sweep))) | fail "-")
  k_with "o setAttr ref" => (first | ((k_here; k_dflt ( (refine' set_YL ?k1_113 ?k2_113 ?k3_113 ?kO_113 ?k4_113 ?k5_113 ?k6_113 ?k7_113 ?k8_113 ?k9_113 ?k10_113 ?k11_113 ?k12_113 ?k13_113 ?_; (case k1_113 => k_asm); (case k2_113 => k_asm); (case k3_113 => k_asm); (case kO_113 => assumption); (case k4_113 => k_inst); (case k5_113 => exact rfl); (case k6_113 => k_is); (case k7_113 => k_is); (case k8_113 => k_is); (case k9_113 => k_is); (case k10_113 => k_get); (case k11_113 => k_put); (case k12_113 => k_upd); (case k13_113 => exact Nat.le_of_ble_eq_true rfl); k_whole; intro _ _ _ _ _ _; (try k_sweep))))) | fail "-")
  k_with "o setItem ref int" => (first | ((k_here; (with_reducible show wpAny _ _ (setItem (Value.ref _) (Value.int _ _) _) _ _ _); k_dflt (refine' setItem_YL ?F_114 ?N_114 ?O_114 ?U_114 ?a_114 ?b_114 ?c_114 ?_; (case F_114 => assumption); (case N_114 => assumption); (case O_114 => assumption); (case U_114 => k_upd); (case a_114 => k_extra "o om"); (case b_114 => first | k_extra "o om" | (simp only [List.length_set, List.length_cons, List.length_nil]; k_extra "o om")); (case c_114 => k_extra "o om"); k_whole); intro _ _ _ _ _ _; (try k_sweep))) | fail "-")
  k_with "o my item" => (first | ((k_here; (with_reducible show wpAny _ _ (subscriptTail _ _ (Value.ref _) (Value.int _ _)) _ _ _); k_dflt (first | (refine' item_tupleT ?t_115 ?a_115 ?b_115 ?c_115 ?d_115 ?_; (case t_115 => first | exact tupS (by assumption) (by assumption) (by assumption) | exact tupN (by assumption) (by assumption) (by assumption) (by k_extra "o kn")); (case a_115 => decide); (case b_115 => decide); (case c_115 => rfl); (case d_115 => rfl); k_whole) | (refine' itemL ?l_115 ?a_115 ?b_115 ?c_115 ?_; (case l_115 => k_extra "o at"); (case c_115 => first | assumption | exact rfl); (case a_115 => k_extra "o om"); (case b_115 => k_extra "o om"); k_whole)))) | fail "-")
  k_with "o subscriptTail" => (first | (k_extra "o my item") | fail "-")
  trivial
theorem rows_pre_2_1 : True := by
  k_with "o subscriptTail Name" => (first | (k_extra "o my item") | fail "-")
  k_with "o subscriptTail Attribute" => (first | (k_extra "o my item") | fail "-")
  k_with "o subscriptTail Subscript" => (first | (k_extra "o my item") | fail "-")
  k_with "o call builtin:len" => (first | ((k_here; k_dflt (refine' lenL ?l_120 ?n_120 ?_; (case l_120 => k_extra "o at"); (case n_120 => first | k_extra "o om" | exact Nat.le_of_ble_eq_true rfl | (simp; k_extra "o om")); k_whole))) | fail "-")
  k_with "o call type:range" => (first | ((k_here; k_dflt (first | (refine' range3_rows ?F_121 ?N_121 (by decide) ?_ (Or.inl (PyProof.noPylong_small (by k_extra "o om"))); (case F_121 => assumption); (case N_121 => assumption)) | (refine' range1_rows ?F_121 ?N_121 ?_; (case F_121 => assumption); (case N_121 => assumption)) | (refine' range2_rows ?F_121 ?N_121 ?_; (case F_121 => assumption); (case N_121 => assumption))); intro _ _ _ _ _ _ _ _ _; (try k_sweep); (try dsimp only))) | fail "-")
  k_with "o ite" => (first | ((k_openite; (first | with_reducible refine split_ine ?_ ?_ | with_reducible refine split_ieq ?_ ?_ | refine split_dec ?_ ?_ | refine split_bool ?_ ?_) <;> (intro _; first | (exfalso; omega) | (exfalso; rename_i h9; simp only [List.length_cons, List.length_nil] at h9; omega) | skip))) | fail "-")
  k_with "o exec If" => (first | ((k_here; k_dflt (refine wpAny_If ?_))) | fail "-")
  k_with "o eval Call" => (first | ((k_here; k_dflt (refine Call_ ?_))) | fail "-")
  k_with "o eval Call Attribute" => (first | ((k_here; k_dflt (refine MethodCall_ ?_))) | fail "-")
  k_with "o binaryOp FloorDiv int int" => (first | ((k_here; refine floordiv_int (by assumption) ?_ (Or.inr (room (by assumption) (Fr.keep (by assumption)) (by exact room_dp (by assumption)) rfl rfl rfl rfl rfl rfl)))) | fail "-")
  k_with "o eval Name" => (first | ((k_here; k_dflt (first | (refine' ld ?k1_127 ?k2_127 ?_; (case k1_127 => assumption); (case k2_127 => exact rfl); k_whole) | (refine' name_K ?k0_127 ?k1_127 ?k2_127 ?k3_127 ?_; (case k0_127 => assumption); (case k1_127 => assumption); (case k2_127 => k_asm); (case k3_127 => k_is); k_whole)))) | fail "-")
  k_with "o eval Name" => (first | ((k_here; (with_reducible show wpAny _ _ (eval (Expr.Name _ _) (envOfC _ _ _ _ _)) _ _ _); k_dflt (first | (refine' nameX_L ?F_128 ?v_128 ?_ ?a_128 ?b_128; (case F_128 => assumption); (case a_128 => rfl); (case b_128 => rfl); (case v_128 => exact rfl); k_whole) | (refine' nameX_C ?N_128 ?c_128 ?m_128 ?d_128 ?_ ?a_128 ?b_128; (case a_128 => rfl); (case b_128 => rfl); (case N_128 => assumption); (case c_128 => exact rfl); (case m_128 => k_extra "o mem"); (case d_128 => assumption); k_whole) | (refine' nameX_K ?F_128 ?X_128 ?T_128 ?e_128 ?_ ?a_128 ?b_128; (case F_128 => assumption); (case X_128 => assumption); (case T_128 => k_asm); (case a_128 => rfl); (case b_128 => rfl); (case e_128 => k_is); k_whole)))) | fail "-")
  k_with "o eval Name" => (first | ((k_here; (with_reducible show wpAny _ _ (eval (Expr.Name _ _) (compEnvC _ _ _ _)) _ _ _); k_dflt (first | (refine' cn_local ?N_129 ?m_129 ?s_129 ?v_129 ?_ ?a_129 ?b_129 ?c_129; (case a_129 => rfl); (case b_129 => rfl); (case c_129 => decide); (case N_129 => assumption); (case m_129 => k_extra "o mem"); (case s_129 => assumption); (case v_129 => assumption); k_whole) | (refine' cn_cell ?N_129 ?l_129 ?m_129 ?d_129 ?_ ?a_129 ?b_129 ?c_129; (case a_129 => rfl); (case b_129 => rfl); (case c_129 => decide); (case N_129 => assumption); (case l_129 => exact rfl); (case m_129 => k_extra "o mem"); (case d_129 => assumption); k_whole) | (refine' nameG_K ?F_129 ?X_129 ?T_129 ?e_129 ?_ ?a_129 ?b_129 ?c_129 ?d_129; (case a_129 => rfl); (case b_129 => rfl); (case c_129 => rfl); (case d_129 => decide); (case F_129 => assumption); (case X_129 => assumption); (case T_129 => k_asm); (case e_129 => k_is); k_whole)))) | fail "-")
  k_with "o spliced" => (first | ((k_here; with_reducible refine go_sp ?_; intro _; (try dsimp only))) | fail "-")
  k_with "o isTrue" => (first | ((k_here; k_dflt (refine isTrue_plain ?_))) | fail "-")
  k_with "o isTrue BoolOp" => (first | ((k_here; first | with_reducible refine isTrue_and_nil ?_ | with_reducible refine isTrue_or_nil ?_ | with_reducible refine isTrue_and ?_ | with_reducible refine isTrue_or ?_)) | fail "-")
  k_with "o isTrue Compare" => (first | ((k_here; refine wpAny_isTrue_Compare1 ?_)) | fail "-")
  k_with "o eval Compare" => (first | ((k_here; refine wpAny_Compare1 ?_)) | fail "-")
  k_with "o execs cons" => (first | ((k_here; with_reducible refine go_xs ?_; intro _; (try dsimp only))) | fail "-")
  k_with "o eval Tuple" => (first | ((k_here; k_dflt (refine Tuple_ ?_))) | fail "-")
  trivial
theorem rows_pre_2_2 : True := by
  k_with "o eval Subscript" => (first | ((k_here; refine Subscript_ ?_)) | fail "-")
  k_with "o newTuple" => (first | ((k_here; k_dflt (refine' tup_newL ?F_138 ?N_138 ?O_138 ?_ ?z_138; (case F_138 => assumption); (case N_138 => assumption); (case O_138 => assumption); (case z_138 => exact Nat.le_of_ble_eq_true rfl)); intro _ _ _ _ _ _ _ _; (try k_sweep))) | fail "-")
  k_with "o newList" => (first | ((k_here; k_dflt (refine' lis_newL ?F_139 ?N_139 ?O_139 ?_ ?z_139; (case F_139 => assumption); (case N_139 => assumption); (case O_139 => assumption); (case z_139 => exact Nat.le_of_ble_eq_true rfl)); intro _ _ _ _ _ _ _ _; (try k_sweep))) | fail "-")
  k_with "o callWith ref" => (first | ((k_here; k_dflt (first | (refine' callWith_K ?k1_140 ?k2_140 ?_; (case k1_140 => assumption); (case k2_140 => k_is); k_whole) | (refine' callWith_K0 ?k1_140 ?k2_140 ?_; (case k1_140 => k_in); (case k2_140 => k_is); k_whole)))) | fail "-")
  k_with "o storeName" => (first | ((k_here; k_dflt (refine' stNL ?F_141 ?N_141 ?_ ?a_141 ?b_141; (case F_141 => assumption); (case N_141 => assumption); (case a_141 => rfl); (case b_141 => rfl); k_whole); intro _ _ _ _ _; (try k_sweep))) | fail "-")
  k_with "o call type:list" => (first | ((k_here; (with_reducible show wpAny _ _ (call (Value.type _) [Value.ref _]) _ _ _); k_dflt (refine' lis_copyL ?F_142 ?N_142 ?O_142 ?l_142 ?_ ?z_142; (case F_142 => assumption); (case N_142 => assumption); (case O_142 => assumption); (case l_142 => k_extra "o at"); (case z_142 => first | exact Nat.le_trans (by k_extra "o om" : _ ≤ 64) (by decide) | exact Nat.le_of_ble_eq_true rfl)); intro _ _ _ _ _ _ _ _ _; (try k_sweep))) | fail "-")
  trivial
-- a frame's names
theorem rows_pre_3 : True := by
  k_with "o eqs" => (first | (first | exact trivial | (refine ⟨rfl, ?_⟩; k_extra "o eqs")) | fail "-")
  k_with "o nots" => (first | ((intro _ hy; simp only [NotIn, and_true] at hy; simp +zetaDelta only [upd, hy, if_false])) | fail "-")
  k_with "o upd" => (first | (exact upd_ext _ (by k_extra "o eqs") (by k_extra "o nots")) | fail "-")
  k_with "o fr" => (first | (exact fr_upd _ (by assumption) (by k_extra "o eqs") (by k_extra "o nots")) | fail "-")
  k_with "o getAttr ref" => (first | ((k_here; k_dflt (refine' get_own ?k1_147 ?k2_147 ?k3_147 ?k4_147 ?k5_147 ?k6_147 ?k7_147 ?k8_147 ?k9_147 ?_; (case k1_147 => k_asm); (case k2_147 => k_asm); (case k3_147 => k_inst); (case k4_147 => k_is); (case k5_147 => k_is); (case k6_147 => k_is); (case k7_147 => k_is); (case k8_147 => k_get); (case k9_147 => k_handed); k_whole))) | fail "-")
  k_with "o nes" => (first | ((first | exact List.forall_mem_nil _ | (refine List.forall_mem_cons.mpr ⟨by (first | (with_reducible assumption) | (refine Ne.symm ?_; with_reducible assumption)), ?_⟩; k_extra "o nes"))) | fail "-")
  k_with "o k_updF" => (first | (((with_reducible refine' updF_in ?U_149 ?O_149); (case O_149 => (dsimp only [List.map]; with_reducible assumption)); (case U_149 => k_updF))) | fail "-")
  k_with "o storeName" => (first | ((k_here; (with_reducible show wpAny _ _ (storeName (envOfC _ _ _ _ _) _ _) _ _ _); k_dflt (first | (refine' localYL ?F_150 ?N_150 ?_ ?a_150 ?b_150; (case F_150 => assumption); (case N_150 => assumption); (case a_150 => rfl); (case b_150 => rfl); k_whole; intro _ _ _ _ _) | (refine' cellYL ?F_150 ?N_150 ?O_150 ?c_150 ?U_150 ?d_150 ?_ ?a_150 ?b_150; (case F_150 => assumption); (case N_150 => assumption); (case O_150 => assumption); (case a_150 => rfl); (case b_150 => rfl); (case c_150 => exact rfl); (case U_150 => k_updF); (case d_150 => assumption); k_whole; intro _ _ _ _ _ _ _ _)); (try k_sweep))) | fail "-")
  k_with "o binaryOp Mult ref int" => (first | ((k_here; k_dflt (refine' mulNoneL ?F_151 ?N_151 ?O_151 ?l_151 ?c_151 ?_; (case F_151 => assumption); (case N_151 => assumption); (case O_151 => assumption); (case l_151 => k_extra "o at"); (case c_151 => k_extra "o om")); intro _ _ _ _ _ _ _ _; (try k_sweep))) | fail "-")
  k_with "o getMethod ref" => (first | ((k_here; (with_reducible show wpAny _ _ (getMethod (Value.ref _) (PySem.Str.ofString "get") _) _ _ _); k_dflt (refine' dictMeth ?l_152 ?k_152 ?_; (case l_152 => k_extra "o at"); (case k_152 => assumption)))) | fail "-")
  k_with "o call builtin:dict.get" => (first | ((k_here; k_dflt (refine' dictGet ?l_153 ?k_153 ?lo_153 ?r_153 ?_; (case l_153 => k_extra "o at"); (case k_153 => assumption); (case lo_153 => assumption); (case r_153 => assumption); k_whole))) | fail "-")
  k_with "o call builtin:isinstance" => (first | ((k_here; k_dflt (refine' isi_call ?k1_154 ?k2_154 ?k3_154 ?k4_154 ?_; (case k1_154 => k_in); (case k2_154 => (intro _; exact InstAt.type (by k_extra "o inst"))); (case k3_154 => k_is); (case k4_154 => intro e; cases e); k_whole))) | fail "-")
  k_with "o inst" => (first | (first | exact inst_M (by assumption) (by assumption) (by assumption) (by k_extra "o kn") (by k_extra "o mem") | exact inst_N (by assumption) (by assumption) (by assumption) (by k_extra "o kn") (by k_extra "o kn") | exact inst_S (by assumption) (by assumption) (by assumption) (by assumption)) | fail "-")
  k_with "o vec" => (first | ((first | (with_reducible assumption) | ((with_reducible refine VecS.l ?_); k_extra "o vec") | ((with_reducible refine VecS.app ?_); k_extra "o vec") | ((with_reducible refine VecS.cons ?_); k_extra "o vec") | ((with_reducible refine AttrV.l ?_); k_extra "o vec") | ((with_reducible refine AttrV.app ?_); k_extra "o vec") | ((with_reducible refine AttrV.cons ?_); k_extra "o vec"))) | fail "-")
  k_with "o compareOp NotIn str ref" => (first | ((k_here; k_dflt (refine' notInStrs ?l_157 ?i_157 ?b_157 ?_; (case l_157 => k_extra "o at"); (case i_157 => assumption); (case b_157 => assumption); k_whole))) | fail "-")
  k_with "o getMethod ref" => (first | ((k_here; (with_reducible show wpAny _ _ (getMethod (Value.ref _) (PySem.Str.ofString "index") _) _ _ _); k_dflt (refine' listMeth ?m_158 PySem.F.slot_list_index PySem.F.type_list_index ?_; (case m_158 => k_extra "o at")))) | fail "-")
  k_with "o call builtin:list.index" => (first | ((k_here; k_dflt (refine' indexStrs ?l_159 ?i_159 ?j_159 ?lt_159 ?z_159 ?_; (case l_159 => k_extra "o at"); (case i_159 => assumption); (case j_159 => assumption); (case lt_159 => assumption); (case z_159 => k_extra "o om"); k_whole))) | fail "-")
  k_with "o eval Dict" => (first | ((k_here; k_dflt (refine' dictYL ?F_160 ?N_160 ?O_160 ?b_160 ?a_160 ?l_160 ?e_160 ?n_160 ?_; (case F_160 => assumption); (case N_160 => assumption); (case O_160 => assumption); (case b_160 => exact Top.nolimit (by k_asm)); (case a_160 => rfl); (case l_160 => rfl); (case e_160 => exact List.cons_ne_nil _ _); (case n_160 => exact Nat.le_of_ble_eq_true rfl)); intro _ _ _ _ _ _ _ _ _ _; (try k_sweep); (try dsimp only))) | fail "-")
  k_with "o KdnMade" => (first | ((k_here; k_dflt (refine' dictMadeYL ?F_161 ?N_161 ?O_161 ?ne_161 ?d_161 ?k_161 ?n_161 ?_; (case F_161 => assumption); (case N_161 => assumption); (case O_161 => assumption); (case ne_161 => assumption); (case d_161 => assumption); (case k_161 => rfl); (case n_161 => exact of_decide_eq_true (by first | rfl | kernel_rfl!))); intro _ _ _ _ _ _ _ _ _; (try k_sweep))) | fail "-")
  k_with "o strs" => (first | (first | exact StrsAre.nil | (refine StrsAre.cons _ _ ?_; k_extra "o strs")) | fail "-")
  trivial
theorem rows_pre_3_1 : True := by
  k_with "o compareOp NotIn str ref" => (first | ((k_here; k_dflt (refine' notInTup (b := true) ?l_163 ?i_163 ?b_163 ?_; (case l_163 => exact News.get (by assumption) (by k_extra "o mem")); (case i_163 => rfl); (case b_163 => first | rfl | assumption); k_whole))) | fail "-")
  k_with "o subscriptTail Name Slice ref ref" => (first | ((k_here; k_dflt (refine' sliceYL ?F_164 ?N_164 ?O_164 ?l_164 ?pl_164 ?pu_164 ?e_164 ?_ ?hs_164 ?ht_164 ?hz_164; (case F_164 => assumption); (case N_164 => assumption); (case O_164 => assumption); (case l_164 => k_extra "o at"); (case pl_164 => first | exact .none | exact .int _ _); (case pu_164 => first | exact .none | exact .int _ _); (case e_164 => assumption); (case hs_164 => with_unfolding_all rfl); (case ht_164 => (intro _; with_unfolding_all rfl)); (case hz_164 => k_extra "o short")); intro _ _ _ _ _ _ _ _; (try k_sweep))) | fail "-")
  trivial
theorem rows_pre_4 : True := by
  k_with "o compareOp In str ref" => (first | ((k_here; k_dflt (refine' inDict ?l_165 ?d_165 ?lo_165 ?bb_165 ?hb_165 ?_; (case l_165 => k_extra "o at"); (case d_165 => assumption); (case lo_165 => assumption); (case hb_165 => first | assumption | rfl); k_whole))) | fail "-")
  k_with "o compareOp NotIn str ref" => (first | ((k_here; k_dflt (first | (refine' notInDict ?l_166 ?d_166 ?lo_166 true ?hb_166 ?_; (case l_166 => k_extra "o at"); (case d_166 => assumption); (case lo_166 => assumption); (case hb_166 => first | assumption | rfl); k_whole) | (refine' notInDict ?l_166 ?d_166 ?lo_166 false ?hb_166 ?_; (case l_166 => k_extra "o at"); (case d_166 => assumption); (case lo_166 => assumption); (case hb_166 => first | assumption | rfl); k_whole)))) | fail "-")
  k_with "o compareOp In str ref" => (first | ((k_here; k_dflt (first | (refine' inDict ?l_167 ?d_167 ?lo_167 true ?hb_167 ?_; (case l_167 => k_extra "o at"); (case d_167 => assumption); (case lo_167 => assumption); (case hb_167 => first | assumption | rfl); k_whole) | (refine' inDict ?l_167 ?d_167 ?lo_167 false ?hb_167 ?_; (case l_167 => k_extra "o at"); (case d_167 => assumption); (case lo_167 => assumption); (case hb_167 => first | assumption | rfl); k_whole)))) | fail "-")
  k_with "o setItem ref str" => (first | ((k_here; k_dflt (refine' setDictL ?F_168 ?N_168 ?O_168 ?U_168 ?d_168 ?z_168 ?_; (case F_168 => assumption); (case N_168 => assumption); (case O_168 => assumption); (case U_168 => k_updF); (case d_168 => assumption); (case z_168 => exact Nat.le_of_ble_eq_true rfl); k_whole); intro _ _ _ _ _ _ _ _; (try k_sweep))) | fail "-")
  k_with "o eval Dict nil nil" => (first | ((k_here; k_dflt (refine' dictEL ?F_169 ?N_169 ?O_169 ?b_169 ?_; (case F_169 => assumption); (case N_169 => assumption); (case O_169 => assumption); (case b_169 => exact Top.nolimit (by k_asm))); intro _ _ _ _ _ _ _ _ _ _ _; (try k_sweep))) | fail "-")
  k_with "o assign Tuple" => (first | ((k_here; (with_reducible show wpAny _ _ (assign (Expr.Tuple _ _ _) _ (Value.ref _)) _ _ _); k_dflt (refine' kun_list ?k1_170 ?k2_170 ?k3_170 ?k4_170 ?k5_170 ?k6_170 ?_; (case k1_170 => assumption); (case k2_170 => assumption); (case k3_170 => exact lisAt (by k_extra "o at")); (case k4_170 => exact rfl); (case k5_170 => exact rfl); (case k6_170 => exact rfl); k_whole); intro _ _ _; (try k_sweep); (try dsimp only))) | fail "-")
  k_with "o assign Tuple" => (first | ((k_here; (with_reducible show wpAny _ _ (assign (Expr.Tuple _ _ _) _ (Value.ref _)) _ _ _); k_dflt (refine' unpackN_ ?k1_171 ?k2_171 ?k3_171 ?k4_171 ?k5_171 ?k6_171 ?_; (case k1_171 => assumption); (case k2_171 => assumption); (case k3_171 => exact tupAt (by k_extra "o at")); (case k4_171 => exact rfl); (case k5_171 => exact rfl); (case k6_171 => exact rfl); k_whole); intro _ _ _; (try k_sweep); (try dsimp only))) | fail "-")
  k_with "o subscriptTail Name Name ref str" => (first | ((k_here; k_dflt (refine' dictItem ?l_172 ?d_172 ?r_172 ?_; (case l_172 => k_extra "o at"); (case d_172 => assumption); (case r_172 => assumption); k_whole))) | fail "-")
  k_with "o subscriptTail Attribute Constant ref str" => (first | ((k_here; k_dflt (refine' dictItem ?l_173 ?d_173 ?r_173 ?_; (case l_173 => k_extra "o at"); (case d_173 => assumption); (case r_173 => assumption); k_whole))) | fail "-")
  k_with "o sub" => (first | ((first | (with_reducible assumption) | ((with_reducible refine List.mem_append_left _ ?_); k_extra "o sub") | ((with_reducible refine List.mem_append_right _ ?_); k_extra "o sub") | ((with_reducible refine List.mem_cons_of_mem _ ?_); k_extra "o sub"))) | fail "-")
  k_with "o getMethod ref" => (first | ((k_here; (with_reducible show wpAny _ _ (getMethod (Value.ref _) (PySem.Str.ofString "pop") _) _ _ _); k_dflt (refine' listMeth ?m_175 PySem.F.slot_list_pop PySem.F.type_list_pop ?_; (case m_175 => k_extra "o at")))) | fail "-")
  k_with "o call builtin:list.pop" => (first | ((k_here; k_dflt (show wpAny _ _ (call (Value.builtin _) [Value.ref _, Value.int 0 _]) _ _ _); k_dflt (refine' popYL ?F_176 ?N_176 ?O_176 ?U_176 ?z_176 ?_; (case F_176 => assumption); (case N_176 => assumption); (case O_176 => assumption); (case U_176 => k_upd); (case z_176 => k_extra "o om"); k_whole); intro _ _ _ _ _ _; (try k_sweep))) | fail "-")
  k_with "o compareOp NotEq ref ref" => (first | ((k_here; (with_reducible show wpAny _ _ (compareOp CmpOp.NotEq (Value.ref _) (Value.ref _)) _ _ _); k_dflt (refine' neNil ?a_177 ?b_177 ?i_177 ?u_177 ?_; (case a_177 => k_extra "o at"); (case b_177 => k_extra "o at"); (case i_177 => first | with_reducible assumption | exact .nil | exact .cons _ _ (by with_reducible assumption)); (case u_177 => first | ((with_reducible rename _ + 200 < cLine => hh); exact units_le hh) | (show _ + 3 + 64 < cLine; k_extra "o om")); k_whole))) | fail "-")
  trivial
theorem rows_pre_5 : True := by
  k_with "o subscriptTail List Call" => (first | ((k_here; k_dflt (refine' itemStr3 ?l_178 ?k_178 ?_; (case l_178 => k_extra "o at"); (case k_178 => assumption); k_whole); intro _ _ _; (try k_sweep); (try dsimp only))) | fail "-")
  k_with "o execs nil" => (first | ((k_here; with_reducible refine go_xs ?_; intro _; (try dsimp only))) | fail "-")
  trivial
theorem abs_nn (n : Int) : 0 ≤ if n < 0 then -n else n := if h : n < 0 then (if_pos h).symm ▸ Int.le_of_lt (Int.neg_pos_of_neg h) else (if_neg h).symm ▸ Int.not_lt.mp h
theorem gcd_step (x y : Int) (hx : 0 ≤ x) (hy : 0 < y) : Int.gcd y (x.fmod y) = Int.gcd x y := by
  rw [Int.fmod_eq_emod_of_nonneg x (Int.le_of_lt hy)]
  obtain ⟨n, rfl⟩ := Int.eq_ofNat_of_zero_le hx
  obtain ⟨m, rfl⟩ := Int.eq_ofNat_of_zero_le (Int.le_of_lt hy)
  show Nat.gcd m (n % m) = Nat.gcd n m
  rw [Nat.gcd_comm n m, Nat.gcd_rec m n]
  exact Nat.gcd_comm ..

theorem gcd_ok (S : Store) (a b : Int) (t1 t2 : Tok) (ha : 0 ≤ a) (hb : 0 ≤ b) : Pure w 1 308 [.int a t1, .int b t2] S (fun _ r => ∃ t, r = .int (Int.gcd a b) t) := by
  unfold Pure PureT
  intro dp un fr gd base s Q E hdp G Bl k
  obtain ⟨mean, mg, mb, T⟩ := G.t
  have X := G.In
  (refine wpAny_call ?_; k_dflt (refine' enterP (binds := [("a", Value.int a t1), ("b", Value.int b t2)]) ?k1 ?k2 ?k6 ?k7 ?k8 ?k9 ?kB ?_ ?c5 ?c2 ?c3 ?c4; k_extra "ktr"))
  intro h₁ F
  have N : News s.heap s.heap.objs.size h₁ ([] ++ []) := News.nil
  have O : Off [] [] := fun _ h => nomatch h
  walk_at "clean"
  walk_at "go"
  refine While_inv2 (fun n m₁ n₁ => ∃ x y tx ty, m₁ = upd (fun _ => none) [("b", some (.int y ty)), ("a", some (.int x tx))] ∧ n₁ = [] ∧ 0 ≤ x ∧ 0 ≤ y ∧ Int.gcd x y = Int.gcd a b ∧ n = y.toNat) F N ⟨a, b, t1, t2, rfl, rfl, ha, hb, rfl, rfl⟩ ?_ PassesOwn.never
  rintro n m₁ n₁ h tk F₁ N₁ ⟨x, y, tx, ty, rfl, rfl, hx, hy, hg, rfl⟩
  clear F N
  (try k_fold)
  walk_at "go"
  · have hy' : 0 < y := by simp_all
    have h1 := PySem.W.fmod_lo x hy'
    have h2 := PySem.W.fmod_hi x hy'
    exact ⟨_, _, _, _, (x.fmod y).toNat, rfl, fr_upd [("b", some (.int (x.fmod y) _)), ("a", some (.int y _))] (by assumption) ⟨rfl, rfl, trivial⟩ (by rintro z ⟨h1, h2, -⟩; simp +zetaDelta only [upd, if_neg h1, if_neg h2]), News.nil, by exact om_141 _ _ h1 h2, _, _, _, _, rfl, rfl, hy, h1, (gcd_step x y hx hy').trans hg, rfl⟩
  · have hy' : y = 0 := by simp_all; exact om_142 _ hy (by assumption)
    subst hy'
    (try dsimp only)
    refine k _ [] _ _ (Fr.keep (by assumption)) (by simp) ⟨tx, ?_⟩
    rw [← hg]; simp; exact (Int.natAbs_of_nonneg hx).symm

theorem is_na_ok (S : Store) (v : Value) (q : Rat) (hv : RatS S v q) : Pure w 1 322 [v] S (fun _ r => r = .bool false) := by
  unfold Pure PureT
  intro dp un fr gd base s Q E hdp G Bl k
  obtain ⟨mean, mg, mb, T⟩ := G.t
  have X := G.In
  obtain ⟨a, t1, t2, rfl, hx⟩ := hv
  have hq := rden_pos q
  (refine wpAny_call ?_; k_dflt (refine' enterP (binds := [("x", Value.ref a)]) ?k1 ?k2 ?k6 ?k7 ?k8 ?k9 ?kB ?_ ?c5 ?c2 ?c3 ?c4; k_extra "ktr"))
  intro h₁ F
  have N : News s.heap s.heap.objs.size h₁ ([] ++ []) := News.nil
  have O : Off [] [] := fun _ h => nomatch h
  walk_at "clean"
  walk_at "go"
  · exact k _ [] _ _ (Fr.keep (by assumption)) (by simp) (by simp; exact om_143 _ hq)
  · exact k _ [] _ _ (Fr.keep (by assumption)) (by simp) (by simp_all)

theorem make_ok (S : Store) (n d : Int) (t1 t2 : Tok) (h0 : 0 < d) : Pure w 2 315 [.int n t1, .int d t2] S (fun S' r => RatS S' r (Rat.divInt n d)) := by
  unfold Pure PureT
  intro dp un fr gd base s Q E hdp G Bl k
  obtain ⟨mean, mg, mb, T⟩ := G.t
  have X := G.In
  (refine wpAny_call ?_; k_dflt (refine' enterP (binds := [("n", Value.int n t1), ("d", Value.int d t2)]) ?k1 ?k2 ?k6 ?k7 ?k8 ?k9 ?kB ?_ ?c5 ?c2 ?c3 ?c4; k_extra "ktr"))
  intro h₁ F
  have N : News s.heap s.heap.objs.size h₁ ([] ++ []) := News.nil
  have O : Off [] [] := fun _ h => nomatch h
  walk_at "clean"
  walk_at "go"
  (k_dflt (refine' Pure.use (gcd_ok _ _ d _ _ (abs_nn _) (by exact om_144 _ (by assumption))) ?kG ?kF ?kN ?kO rfl ?kB rfl rfl rfl ?kd ?_; k_extra "kt"))
  intro r tl h' tk' F' N' O' o hp
  obtain ⟨t, rfl⟩ := hp
  (try k_sweep)
  have hg : Int.gcd (if n < 0 then -n else n) d = Int.gcd n d := by split <;> simp
  rw [hg]
  have hg0 : ((Int.gcd n d : Nat) : Int) ≠ 0 := by
    have : Int.gcd n d ≠ 0 := by rw [Ne, Int.gcd_eq_zero_iff]; exact om_145 _ _ (by assumption)
    exact fun e => this (Int.ofNat.inj e)
  walk_at "clean"
  walk_at "go"
  exact k _ _ _ _ (Fr.keep (by assumption)) (of_news (by assumption)) ⟨_, _, _, rfl, by rw [rnum h0, rden h0]; exact Kn.r (List.Mem.head _)⟩



theorem is_finite_ok (S : Store) (v : Value) (q : Rat) (hv : RatS S v q) : Pure w 1 329 [v] S (fun _ r => r = .bool true) := by
  unfold Pure PureT
  intro dp un fr gd base s Q E hdp G Bl k
  obtain ⟨mean, mg, mb, T⟩ := G.t
  have X := G.In
  obtain ⟨a, t1, t2, rfl, hx⟩ := hv
  have hq := rden_pos q
  (refine wpAny_call ?_; k_dflt (refine' enterP (binds := [("x", Value.ref a)]) ?k1 ?k2 ?k6 ?k7 ?k8 ?k9 ?kB ?_ ?c5 ?c2 ?c3 ?c4; k_extra "ktr"))
  intro h₁ F
  have N : News s.heap s.heap.objs.size h₁ ([] ++ []) := News.nil
  have O : Off [] [] := fun _ h => nomatch h
  walk_at "clean"
  walk_at "go"
  exact k _ _ _ _ (Fr.keep (by assumption)) (of_news (by assumption)) (by simp; exact om_146 _ hq)

theorem neg_ok (S : Store) (v : Value) (q : Rat) (hv : RatS S v q) : Pure w 1 343 [v] S (fun S' r => RatS S' r (-q)) := by
  unfold Pure PureT
  intro dp un fr gd base s Q E hdp G Bl k
  obtain ⟨mean, mg, mb, T⟩ := G.t
  have X := G.In
  obtain ⟨a, t1, t2, rfl, hx⟩ := hv
  have hq := rden_pos q
  (refine wpAny_call ?_; k_dflt (refine' enterP (binds := [("x", Value.ref a)]) ?k1 ?k2 ?k6 ?k7 ?k8 ?k9 ?kB ?_ ?c5 ?c2 ?c3 ?c4; k_extra "ktr"))
  intro h₁ F
  have N : News s.heap s.heap.objs.size h₁ ([] ++ []) := News.nil
  have O : Off [] [] := fun _ h => nomatch h
  walk_at "clean"
  walk_at "go"
  exact k _ _ _ _ (Fr.keep (by assumption)) (of_news (by assumption)) ⟨_, _, _, rfl, by rw [Rat.neg_num, Rat.neg_den, ← Int.zero_sub]; exact Kn.r (List.Mem.head _)⟩
theorem rows_R1_1 : True := by
  k_with "o call ref" => (first | (((with_reducible show wpAny _ _ (call (Value.ref 322) _) _ _ _); (k_dflt (refine' Pure.useN (is_na_ok _ _ _ ?kr_1) ?kG ?kF ?kN ?kO rfl ?kB rfl rfl rfl ?kd ?_; k_extra "kt")); (case kr_1 => k_extra "o rat"); intro _ _ _ _ _ _ _ _ _ _ hp; subst hp; (try k_sweep))) | fail "-")
  k_with "o call ref" => (first | (((with_reducible show wpAny _ _ (call (Value.ref 315) _) _ _ _); (k_dflt (refine' Pure.useN (make_ok _ _ _ _ _ ?k0_2) ?kG ?kF ?kN ?kO rfl ?kB rfl rfl rfl ?kd ?_; k_extra "kt")); (case k0_2 => assumption); intro _ _ _ _ _ _ _ _ _ _ _; (try k_sweep))) | fail "-")
  trivial
theorem mul_ok (S : Store) (v v' : Value) (p q : Rat) (B C : Nat) (hv : RatS S v p) (hv' : RatS S v' q) (hB : Sz p B) (hC : Sz q C) (hBC : B + C ≤ 134217728) : Pure w 3 364 [v, v'] S (fun S' r => RatS S' r (p * q)) := by
  unfold Pure PureT
  intro dp un fr gd base s Q E hdp G Bl k
  obtain ⟨mean, mg, mb, T⟩ := G.t
  have X := G.In
  have hv0 := hv
  have hv0' := hv'
  obtain ⟨a, t1, t2, rfl, hx⟩ := hv
  obtain ⟨a', t1', t2', rfl, hx'⟩ := hv'
  have hp := rden_pos p
  have hq := rden_pos q
  obtain ⟨m1, m2, m3, m4, m5⟩ := sz_ok hB hC hBC
  have hd := Int.mul_pos hp hq
  (refine wpAny_call ?_; k_dflt (refine' enterP (binds := [("x", Value.ref a), ("y", Value.ref a')]) ?k1 ?k2 ?k6 ?k7 ?k8 ?k9 ?kB ?_ ?c5 ?c2 ?c3 ?c4; k_extra "ktr"))
  intro h₁ F
  have N : News s.heap s.heap.objs.size h₁ ([] ++ []) := News.nil
  have O : Off [] [] := fun _ h => nomatch h
  walk_at "clean"
  walk_at "go"
  rename_i r tl h' tk' F' N' O' o hp
  exact k _ _ _ _ (Fr.keep (by assumption)) (of_news (by assumption)) (by rw [mul_divInt]; exact hp)



theorem add_ok (S : Store) (v v' : Value) (p q : Rat) (B C : Nat) (hv : RatS S v p) (hv' : RatS S v' q) (hB : Sz p B) (hC : Sz q C) (hBC : B + C ≤ 134217728) : Pure w 3 350 [v, v'] S (fun S' r => RatS S' r (p + q)) := by
  unfold Pure PureT
  intro dp un fr gd base s Q E hdp G Bl k
  obtain ⟨mean, mg, mb, T⟩ := G.t
  have X := G.In
  have hv0 := hv
  have hv0' := hv'
  obtain ⟨a, t1, t2, rfl, hx⟩ := hv
  obtain ⟨a', t1', t2', rfl, hx'⟩ := hv'
  have hp := rden_pos p
  have hq := rden_pos q
  obtain ⟨m1, m2, m3, m4, m5⟩ := sz_ok hB hC hBC
  have hd := Int.mul_pos hp hq
  (refine wpAny_call ?_; k_dflt (refine' enterP (binds := [("x", Value.ref a), ("y", Value.ref a')]) ?k1 ?k2 ?k6 ?k7 ?k8 ?k9 ?kB ?_ ?c5 ?c2 ?c3 ?c4; k_extra "ktr"))
  intro h₁ F
  have N : News s.heap s.heap.objs.size h₁ ([] ++ []) := News.nil
  have O : Off [] [] := fun _ h => nomatch h
  walk_at "clean"
  walk_at "go"
  rename_i r tl h' tk' F' N' O' o hp
  exact k _ _ _ _ (Fr.keep (by assumption)) (of_news (by assumption)) (by rw [add_divInt]; exact hp)

theorem div_ok (S : Store) (v v' : Value) (p q : Rat) (B C : Nat) (hv : RatS S v p) (hv' : RatS S v' q) (hB : Sz p B) (hC : Sz q C) (hBC : B + C ≤ 134217728) (h0 : 0 < q) : Pure w 3 371 [v, v'] S (fun S' r => RatS S' r (p / q)) := by
  unfold Pure PureT
  intro dp un fr gd base s Q E hdp G Bl k
  obtain ⟨mean, mg, mb, T⟩ := G.t
  have X := G.In
  have hv0 := hv
  have hv0' := hv'
  obtain ⟨a, t1, t2, rfl, hx⟩ := hv
  obtain ⟨a', t1', t2', rfl, hx'⟩ := hv'
  have hp := rden_pos p
  have hq := rden_pos q
  obtain ⟨m1, m2, m3, m4, m5⟩ := sz_ok hB hC hBC
  have hn := num_pos h0
  have hd := Int.mul_pos hp hn
  (refine wpAny_call ?_; k_dflt (refine' enterP (binds := [("x", Value.ref a), ("y", Value.ref a')]) ?k1 ?k2 ?k6 ?k7 ?k8 ?k9 ?kB ?_ ?c5 ?c2 ?c3 ?c4; k_extra "ktr"))
  intro h₁ F
  have N : News s.heap s.heap.objs.size h₁ ([] ++ []) := News.nil
  have O : Off [] [] := fun _ h => nomatch h
  walk_at "clean"
  walk_at "go"
  rename_i r tl h' tk' F' N' O' o hp
  exact k _ _ _ _ (Fr.keep (by assumption)) (of_news (by assumption)) (by rw [div_divInt]; exact hp)
theorem rows_R1_2 : True := by
  k_with "o call ref" => (first | (((with_reducible show wpAny _ _ (call (Value.ref 350) _) _ _ _); (k_dflt (refine' Pure.useN (add_ok _ _ _ _ _ _ _ ?k0_3 ?k1_3 ?k2_3 ?k3_3 ?k4_3) ?kG ?kF ?kN ?kO rfl ?kB rfl rfl rfl ?kd ?_; k_extra "kt")); (case k0_3 => k_extra "o rat"); (case k1_3 => k_extra "o rat"); (case k2_3 => assumption); (case k3_3 => assumption); (case k4_3 => k_extra "o om"); intro _ _ _ _ _ _ _ _ _ _ _; (try k_sweep))) | fail "-")
  k_with "o call ref" => (first | (((with_reducible show wpAny _ _ (call (Value.ref 343) _) _ _ _); (k_dflt (refine' Pure.useN (neg_ok _ _ _ ?k0_4) ?kG ?kF ?kN ?kO rfl ?kB rfl rfl rfl ?kd ?_; k_extra "kt")); (case k0_4 => k_extra "o rat"); intro _ _ _ _ _ _ _ _ _ _ _; (try k_sweep))) | fail "-")
  trivial

theorem sub_ok (S : Store) (v v' : Value) (p q : Rat) (B C : Nat) (hv : RatS S v p) (hv' : RatS S v' q) (hB : Sz p B) (hC : Sz q C) (hBC : B + C ≤ 134217728) : Pure w 4 357 [v, v'] S (fun S' r => RatS S' r (p - q)) := by
  unfold Pure PureT
  intro dp un fr gd base s Q E hdp G Bl k
  obtain ⟨mean, mg, mb, T⟩ := G.t
  have X := G.In
  have hC' := sz_neg hC
  (refine wpAny_call ?_; k_dflt (refine' enterP (binds := [("x", v), ("y", v')]) ?k1 ?k2 ?k6 ?k7 ?k8 ?k9 ?kB ?_ ?c5 ?c2 ?c3 ?c4; k_extra "ktr"))
  intro h₁ F
  have N : News s.heap s.heap.objs.size h₁ ([] ++ []) := News.nil
  have O : Off [] [] := fun _ h => nomatch h
  walk_at "clean"
  walk_at "go"
  rename_i r tl h' tk' F' N' O' o hp
  exact k _ _ _ _ (Fr.keep (by assumption)) (of_news (by assumption)) (by rw [Rat.sub_eq_add_neg]; exact hp)
-- the numbers' calls
theorem rows_R4_1 : True := by
  k_with "o call ref" => (first | (((with_reducible show wpAny _ _ (call (Value.ref 329) _) _ _ _); (k_dflt (refine' Pure.useN (is_finite_ok _ _ _ ?kr_6) ?kG ?kF ?kN ?kO rfl ?kB rfl rfl rfl ?kd ?_; k_extra "kt")); (case kr_6 => k_extra "o rat"); intro _ _ _ _ _ _ _ _ _ _ hp; subst hp; (try k_sweep))) | fail "-")
  k_with "o call ref" => (first | (((with_reducible show wpAny _ _ (call (Value.ref 364) _) _ _ _); (k_dflt (refine' Pure.useN (mul_ok _ _ _ _ _ _ _ ?k0_8 ?k1_8 ?k2_8 ?k3_8 ?k4_8) ?kG ?kF ?kN ?kO rfl ?kB rfl rfl rfl ?kd ?_; k_extra "kt")); (case k0_8 => k_extra "o rat"); (case k1_8 => k_extra "o rat"); (case k2_8 => assumption); (case k3_8 => assumption); (case k4_8 => k_extra "o om"); intro _ _ _ _ _ _ _ _ _ _ _; (try k_sweep))) | fail "-")
  k_with "o call ref" => (first | (((with_reducible show wpAny _ _ (call (Value.ref 357) _) _ _ _); (k_dflt (refine' Pure.useN (sub_ok _ _ _ _ _ _ _ ?k0_9 ?k1_9 ?k2_9 ?k3_9 ?k4_9) ?kG ?kF ?kN ?kO rfl ?kB rfl rfl rfl ?kd ?_; k_extra "kt")); (case k0_9 => k_extra "o rat"); (case k1_9 => k_extra "o rat"); (case k2_9 => assumption); (case k3_9 => assumption); (case k4_9 => k_extra "o om"); intro _ _ _ _ _ _ _ _ _ _ _; (try k_sweep))) | fail "-")
  k_with "o call ref" => (first | (((with_reducible show wpAny _ _ (call (Value.ref 371) _) _ _ _); (k_dflt (refine' Pure.useN (div_ok _ _ _ _ _ _ _ ?k0_10 ?k1_10 ?k2_10 ?k3_10 ?k4_10 ?k5_10) ?kG ?kF ?kN ?kO rfl ?kB rfl rfl rfl ?kd ?_; k_extra "kt")); (case k0_10 => k_extra "o rat"); (case k1_10 => k_extra "o rat"); (case k2_10 => assumption); (case k3_10 => assumption); (case k4_10 => k_extra "o om"); (case k5_10 => assumption); intro _ _ _ _ _ _ _ _ _ _ _; (try k_sweep))) | fail "-")
  trivial

theorem dot_ok (S : Store) (u v : Value) (us vs : List Rat) (B C : Nat) (hu : RatL S u us) (hv : RatL S v vs) (hl : us.length = vs.length) (h5 : us.length ≤ 5) (hB : ∀ q ∈ us, Sz q B) (hC : ∀ q ∈ vs, Sz q C) (hBC : 5 * (B + C + 1) + 1 + (B + C) ≤ 134217728) : Pure w 5 405 [u, v] S (fun S' r => RatS S' r (dotR us vs)) := by
  unfold Pure PureT
  intro dp un fr gd base s Q E hdp G Bl k
  obtain ⟨mean, mg, mb, T⟩ := G.t
  have X := G.In
  obtain ⟨a, ka, av, rfl, hu, hus⟩ := hu
  obtain ⟨b, kb, bv, rfl, hv, hvs⟩ := hv
  have e1 := hus.length
  have e2 := hvs.length
  have a5 : av.length ≤ 5 := om_26 _ _ h5 e1
  have bc0 : B + C ≤ 134217728 := Nat.le_trans (Nat.le_add_left _ _) hBC
  (refine wpAny_call ?_; k_dflt (refine' enterP (binds := [("u", Value.ref a), ("v", Value.ref b)]) ?k1 ?k2 ?k6 ?k7 ?k8 ?k9 ?kB ?_ ?c5 ?c2 ?c3 ?c4; k_extra "ktr"))
  intro h₁ F
  have N : News s.heap s.heap.objs.size h₁ ([] ++ []) := News.nil
  have O : Off [] [] := fun _ h => nomatch h
  walk_at "clean"
  walk_at "go"
  refine wpAny_For ?_
  walk_at "go"
  have hz : RatS S (.ref 372) 0 := ⟨372, _, _, rfl, G.k _ _ (by k_is)⟩
  refine for_range av.length (fun i m₁ n₁ => ∃ tv kv, m₁ = upd (fun _ => none) [("total", some tv), ("k", kv), ("v", some (.ref b)), ("u", some (.ref a))] ∧ RatS (Kn S n₁) tv (dotR (us.take i) (vs.take i)))
    (by assumption) rfl (small_up (by exact om_59 _ _ h5 e1)) size_up (by assumption) (by assumption) ⟨_, none, upd_ext _ ⟨rfl, rfl, rfl, rfl, trivial⟩ ?_, by simpa [dotR] using hz.l⟩ ?_ ?_
  · rintro y ⟨h1, h2, h3, h4, -⟩
    simp +zetaDelta only [upd, if_neg h1, if_neg h3, if_neg h4]
  · rintro i t m₁ n₁ Y h tk hi ⟨tv, kv, rfl, hr⟩ ho F₁ N₁
    have i1 : i < us.length := om_18 _ _ _ e1 hi
    have i2 : i < vs.length := om_60 _ _ _ _ hl e1 hi
    have i64 : i ≤ 64 := Nat.le_trans (Nat.le_of_lt i1) (Nat.le_trans h5 (by decide))
    obtain ⟨x, hx, x1, x2, x3, rfl, hxs⟩ := hus.get i i1
    obtain ⟨y, hy, y1, y2, y3, rfl, hys⟩ := hvs.get i i2
    have rx : RatS S (.ref x1) us[i] := ⟨_, _, _, rfl, hxs⟩
    have ry : RatS S (.ref y1) vs[i] := ⟨_, _, _, rfl, hys⟩
    have sx := hB us[i] (List.getElem_mem _)
    have sy := hC vs[i] (List.getElem_mem _)
    have sm := sz_mul sx sy
    have st : Sz (dotR (us.take i) (vs.take i)) (5 * (B + C + 1) + 1) := (sz_dot _ _ (sz_take hB i) (sz_take hC i)).le (by
      have : (us.take i).length ≤ 5 := by rw [List.length_take]; exact Nat.le_trans (Nat.min_le_right _ _) h5
      exact Nat.succ_le_succ (Nat.mul_le_mul_right (B + C + 1) this))
    have ed := dotR_take us vs i i1 i2
    simp only [Int.zero_add, Int.mul_one]
    refine wpAny_assign_Name ?_
    (try k_fold)
    walk_at "go"
    · exact ⟨_, _, _, _, rfl, fr_upd [("total", some _), ("k", some _), ("v", some (.ref b)), ("u", some (.ref a))] (by assumption) ⟨rfl, rfl, rfl, rfl, trivial⟩ (by rintro z ⟨h1, h2, h3, h4, -⟩; simp +zetaDelta only [upd, if_neg h1, if_neg h2, if_neg h3, if_neg h4]), by assumption, by assumption, Src.nil, _, _, rfl, by rw [ed]; assumption⟩
    · rename_i h0
      exact ⟨_, _, _, _, rfl, fr_upd [("total", some _), ("k", some _), ("v", some (.ref b)), ("u", some (.ref a))] (by assumption) ⟨rfl, rfl, rfl, rfl, trivial⟩ (by rintro z ⟨h1, h2, h3, h4, -⟩; simp +zetaDelta only [upd, if_neg h1, if_neg h2, if_neg h3, if_neg h4]), by assumption, by assumption, Src.nil, _, _, rfl, by rw [ed, Rat.num_eq_zero.mp h0, Rat.mul_zero, Rat.add_zero]; exact hr⟩
    · rename_i h0
      exact ⟨_, _, _, _, rfl, fr_upd [("total", some _), ("k", some _), ("v", some (.ref b)), ("u", some (.ref a))] (by assumption) ⟨rfl, rfl, rfl, rfl, trivial⟩ (by rintro z ⟨h1, h2, h3, h4, -⟩; simp +zetaDelta only [upd, if_neg h1, if_neg h2, if_neg h3, if_neg h4]), by assumption, by assumption, Src.nil, _, _, rfl, by rw [ed, Rat.num_eq_zero.mp h0, Rat.zero_mul, Rat.add_zero]; exact hr⟩
  · rintro m₁ n₁ h tk ⟨tv, kv, rfl, hr⟩ F₁ N₁
    rw [List.take_of_length_le (by exact om_34 _ _ e1), List.take_of_length_le (by exact om_61 _ _ _ hl e1)] at hr
    (try k_fold)
    walk_at "go"
    exact k _ _ _ _ (Fr.keep (by assumption)) (of_news (by assumption)) hr
-- the numbers' calls

theorem weighted_ok (S : Store) (v : Value) : Pure w 1 398 [v, .none] S (fun S' r => r = v) := by
  unfold Pure PureT
  intro dp un fr gd base s Q E hdp G Bl k
  obtain ⟨mean, mg, mb, T⟩ := G.t
  have X := G.In
  (refine wpAny_call ?_; k_dflt (refine' enterPC (binds := [("values", v), ("weights", Value.none)]) ?k1 ?k2 ?k6 ?k7 ?k8 ?k9 ?kB ?kD ?_ ?c2 ?c3 ?c4; k_extra "ktc"))
  intro h₁ tk₁ co F N hco
  replace F : Fr s.heap s.heap.objs.size h₁ (upd (fun _ => none) []) := F
  replace N : News s.heap s.heap.objs.size h₁ ([(s.heap.objs.size + 1 + 1, co "weights"), (s.heap.objs.size + 1, co "values")] ++ []) := N
  have O : Off [(s.heap.objs.size + 1 + 1, co "weights"), (s.heap.objs.size + 1, co "values")] [] := fun _ _ _ h => nomatch h
  have c0 : (co "values").data = .cell (some v) := hco ("values", s.heap.objs.size + 1) (.tail _ (.head _))
  have c1 : (co "weights").data = .cell (some .none) := hco ("weights", s.heap.objs.size + 1 + 1) (.head _)
  clear hco
  walk_at "clean"
  walk_at "go"
  exact k _ [] _ _ (Fr.keep (by assumption)) (by simp) rfl

theorem less_multiple_ok (S : Store) (u f v : Value) (us vs : List Rat) (q : Rat) (B C D : Nat) (hu : RatL S u us) (hf : RatS S f q) (hv : RatL S v vs) (hl : us.length = vs.length) (h5 : us.length ≤ 5)
    (hB : ∀ x ∈ us, Sz x B) (hD : Sz q D) (hC : ∀ x ∈ vs, Sz x C) (hBC : B + (D + C) ≤ 134217728) : Pure w 6 410 [u, f, v] S (fun S' r => RatL S' r (lessR us q vs)) := by
  unfold Pure PureT
  intro dp un fr gd base s Q E hdp G Bl k
  obtain ⟨mean, mg, mb, T⟩ := G.t
  have X := G.In
  have hu0 := hu
  have hf0 := hf
  obtain ⟨a, ka, av, rfl, hu, hus⟩ := hu
  obtain ⟨b, kb, bv, rfl, hv, hvs⟩ := hv
  obtain ⟨x, t1, t2, rfl, hx⟩ := hf
  have e1 := hus.length
  have e2 := hvs.length
  have a5 : av.length ≤ 5 := om_26 _ _ h5 e1
  have dc0 : D + C ≤ 134217728 := Nat.le_trans (Nat.le_add_left _ _) hBC
  (refine wpAny_call ?_; k_dflt (refine' enterPC (binds := [("u", Value.ref a), ("factor", Value.ref x), ("v", Value.ref b)]) ?k1 ?k2 ?k6 ?k7 ?k8 ?k9 ?kB ?kD ?_ ?c2 ?c3 ?c4; k_extra "ktc"))
  intro h₁ tk₁ co F N hco
  replace F : Fr s.heap s.heap.objs.size h₁ (upd (fun _ => none) []) := F
  replace N : News s.heap s.heap.objs.size h₁ ([(s.heap.objs.size + 1 + 1 + 1, co "v"), (s.heap.objs.size + 1 + 1, co "factor"), (s.heap.objs.size + 1, co "u")] ++ []) := N
  have O : Off [(s.heap.objs.size + 1 + 1 + 1, co "v"), (s.heap.objs.size + 1 + 1, co "factor"), (s.heap.objs.size + 1, co "u")] [] := fun _ _ _ h => nomatch h
  have c0 : (co "u").data = .cell (some (.ref a)) := hco ("u", s.heap.objs.size + 1) (.tail _ (.tail _ (.head _)))
  have c1 : (co "factor").data = .cell (some (.ref x)) := hco ("factor", s.heap.objs.size + 1 + 1) (.tail _ (.head _))
  have c2 : (co "v").data = .cell (some (.ref b)) := hco ("v", s.heap.objs.size + 1 + 1 + 1) (.head _)
  clear hco
  generalize hY : ([(s.heap.objs.size + 1 + 1 + 1, co "v"), (s.heap.objs.size + 1 + 1, co "factor"), (s.heap.objs.size + 1, co "u")] : Led) = Y at N O
  walk_at "clean"
  have m0 : (s.heap.objs.size + 1, co "u") ∈ Y := hY ▸ .tail _ (.tail _ (.head _))
  have m1 : (s.heap.objs.size + 1 + 1, co "factor") ∈ Y := hY ▸ .tail _ (.head _)
  have m2 : (s.heap.objs.size + 1 + 1 + 1, co "v") ∈ Y := hY ▸ .head _
  clear hY
  walk_at "go"
  · rename_i h0
    have h0' := Rat.num_eq_zero.mp h0
    subst h0'
    exact k _ [] _ _ (Fr.keep (by assumption)) (by simp) (by rw [lessR_zero _ _ hl]; exact hu0.l)
  · refine eval_comp rfl rfl (by decide) ?_
    walk_at "go"
    refine comp_range av.length (fun i ys n₁ => ∃ n, n₁ = Y ++ n ∧ Off Y n ∧ RatsS (Kn S n) ys ((lessR us q vs).take i))
      (by assumption) rfl (small_up (by exact om_59 _ _ h5 e1)) size_up (Nat.le_trans (by exact om_26 _ _ h5 e1 : av.length ≤ 5) (by decide)) (by assumption) (by assumption) ⟨[], rfl, O, by simp [RatsS]⟩ (by decide) rfl rfl ?_ (fin_eval ?_)
    · rintro i t hi ys n₁ Z C oC m₂ h tk ⟨n, rfl, oY, hr⟩ hs oZ hCm nsC hm₂ F₁ N₁
      have i1 : i < us.length := om_18 _ _ _ e1 hi
      have i2 : i < vs.length := om_60 _ _ _ _ hl e1 hi
      have i64 : i ≤ 64 := Nat.le_trans (Nat.le_of_lt i1) (Nat.le_trans h5 (by decide))
      obtain ⟨x', hx', x1, x2, x3, rfl, hxs⟩ := hus.get i i1
      obtain ⟨y', hy', y1, y2, y3, rfl, hys⟩ := hvs.get i i2
      have rx : RatS S (.ref x1) us[i] := ⟨_, _, _, rfl, hxs⟩
      have ry : RatS S (.ref y1) vs[i] := ⟨_, _, _, rfl, hys⟩
      have sx := hB us[i] (List.getElem_mem _)
      have sy := hC vs[i] (List.getElem_mem _)
      have sm := sz_mul hD sy
      have N₂ := led_in N₁
      have O₂ := oZ.rr.appL oY
      have oZY := oZ.ll
      simp only [Int.zero_add, Int.mul_one] at hm₂
      clear N₁
      refine tests_nil ?_
      (try k_fold)
      walk_at "go"
      refine ⟨_, _, Y ++ _, rfl, by assumption, led_out (by assumption), Off.mk oZY (Off.l (by assumption)), Src.nil, _, rfl, Off.r (by assumption), ?_⟩
      rw [lessR_get us q vs i i1 i2]
      exact RatsS.snoc (hr.mono fun a o e => Kn.appR _ _ (Kn.appR _ _ e)) (by assumption)
    · rintro D ys n₁ kk h tk ⟨n, rfl, oY, hr⟩ F₁ N₁ o1
      rw [List.take_of_length_le (by rw [lessR_length _ _ _ hl]; exact om_34 _ _ e1)] at hr
      (try dsimp only)
      exact k _ _ _ _ (Fr.keep F₁) (of_news N₁) ⟨D, kk, ys, rfl, Kn.r (.head _), hr.mono (Kn.sub fun p hp => .tail _ (List.mem_append_right _ hp))⟩
-- the numbers' calls

theorem check_finite_ok (S : Store) (a : Addr) (ka : Nat) (av : List Value) (us : List Rat) (nv : Value) (hu : S a (lisO av ka)) (hus : RatsS S av us) : Pure w 3 417 [.ref a, nv] S (fun S' r => r = .none) := by
  unfold Pure PureT
  intro dp un fr gd base s Q E hdp G Bl k
  obtain ⟨mean, mg, mb, T⟩ := G.t
  have X := G.In
  have e1 := hus.length
  (refine wpAny_call ?_; k_dflt (refine' enterP (binds := [("column", Value.ref a), ("name", nv)]) ?k1 ?k2 ?k6 ?k7 ?k8 ?k9 ?kB ?_ ?c5 ?c2 ?c3 ?c4; k_extra "ktr"))
  intro h₁ F
  have N : News s.heap s.heap.objs.size h₁ ([] ++ []) := News.nil
  have O : Off [] [] := fun _ h => nomatch h
  walk_at "clean"
  walk_at "go"
  refine wpAny_For ?_
  walk_at "go"
  refine for_list (fun i m₁ n₁ => ∃ xv, m₁ = upd (fun _ => none) [("x", xv), ("name", some nv), ("column", some (.ref a))]) (Or.inl (G.s _ _ hu)) rfl (by assumption) (by assumption) ⟨none, upd_ext _ ⟨rfl, rfl, rfl, trivial⟩ (by rintro y ⟨h1, h2, h3, -⟩; simp +zetaDelta only [upd, if_neg h2, if_neg h3])⟩ ?_ ?_
  · rintro i v m₁ n₁ Y h tk hv ⟨xv, rfl⟩ hsrc ho F₁ N₁
    have hi : i < us.length := by rw [← e1]; exact (List.getElem?_eq_some_iff.mp hv).1
    obtain ⟨x, hx, hr⟩ := hus.get i hi
    rw [hv] at hx
    cases hx
    refine wpAny_assign_Name ?_
    (try k_fold)
    walk_at "go"
    exact ⟨_, _, _, _, rfl, fr_upd [("x", some _), ("name", some nv), ("column", some (.ref a))] (by assumption) ⟨rfl, rfl, rfl, trivial⟩ (by rintro z ⟨h1, h2, h3, -⟩; simp +zetaDelta only [upd, if_neg h1, if_neg h2, if_neg h3]), by assumption, by assumption, hsrc.appR, _, rfl⟩
  · rintro m₁ n₁ h tk ⟨xv, rfl⟩ F₁ N₁
    (try k_fold)
    walk_at "go"
    exact k _ _ _ _ (Fr.keep (by assumption)) (of_news (by assumption)) rfl

inductive VecMade (w : World) (kv iv : Value) (tl : Led) (r : Value) : Prop
  | mk (x dx t1 t2 t3 t4 t5 : _) (h1_ : dx < x) (h2_ : r = .ref x) (h3_ : tl = [(x, instObj 222 dx), (dx, vecD w t1 t2 t3 t4 t5 kv iv .none (.bool false) (.bool false))]) : VecMade w kv iv tl r
theorem vec2_ok (S : Store) (kv iv : Value) : PureT w 4 222 [kv, iv] S (VecMade w kv iv) := by
  unfold PureT
  intro dp un fr gd base s Q E hdp G Bl k
  obtain ⟨mean, mg, mb, T⟩ := G.t
  have X := G.In
  refine wpAny_call ?_
  k_dflt (refine' newP (binds := [("self", Value.ref (s.heap.objs.size + 1)), ("kind", kv), ("items", iv), ("attrs", Value.none)]) ?k1 ?k2 ?m1 ?m2 ?m3 ?k6 ?k7 ?k8 ?k9 ?kB ?_ ?c5 ?c2 ?c3 ?c4; (case k1 => assumption); (case k2 => assumption); (case m1 => k_is); (case m2 => k_is); (case m3 => k_is); (case k6 => k_is); (case k7 => k_is); (case k8 => first | exact room_lt (by assumption) | exact om_79 _ hdp | (dsimp only [Around.deeper]; exact om_79 _ hdp)); (case k9 => intro s' X'; first | exact BindsTo.of_eq rfl | exact binds_K X' rfl (by k_is) rfl rfl rfl); (case c5 => decide); (case kB => exact locs rfl); (case c2 => exact rfl); (case c3 => exact rfl); (case c4 => exact rfl); k_whole)
  intro h₁ tk₁ F N
  have O : Off [(s.heap.objs.size + 1, instObj 222 s.heap.objs.size), (s.heap.objs.size, dictOf [] 0)] [] := fun _ _ _ h => nomatch h
  walk_at "clean"
  walk_at "go"
  exact k _ _ _ _ (Fr.keep (by assumption)) (of_news (by assumption)) ⟨_, _, _, _, _, _, _, Nat.lt_succ_self _, rfl, rfl⟩

inductive NulMade (w : World) (tl : Led) (r : Value) : Prop
  | mk (x dx t1 t2 t3 : _) (h1_ : dx < x) (h2_ : r = .ref x) (h3_ : tl = [(x, instObj 193 dx), (dx, nulD w t1 t2 t3)]) : NulMade w tl r
theorem null0_ok (S : Store) : PureT w 4 193 [] S (NulMade w) := by
  unfold PureT
  intro dp un fr gd base s Q E hdp G Bl k
  obtain ⟨mean, mg, mb, T⟩ := G.t
  have X := G.In
  refine wpAny_call ?_
  k_dflt (refine' newP (binds := [("self", Value.ref (s.heap.objs.size + 1))]) ?k1 ?k2 ?m1 ?m2 ?m3 ?k6 ?k7 ?k8 ?k9 ?kB ?_ ?c5 ?c2 ?c3 ?c4; (case k1 => assumption); (case k2 => assumption); (case m1 => k_is); (case m2 => k_is); (case m3 => k_is); (case k6 => k_is); (case k7 => k_is); (case k8 => first | exact room_lt (by assumption) | exact om_79 _ hdp | (dsimp only [Around.deeper]; exact om_79 _ hdp)); (case k9 => intro s' X'; first | exact BindsTo.of_eq rfl | exact binds_K X' rfl (by k_is) rfl rfl rfl); (case c5 => decide); (case kB => exact locs rfl); (case c2 => exact rfl); (case c3 => exact rfl); (case c4 => exact rfl); k_whole)
  intro h₁ tk₁ F N
  have O : Off [(s.heap.objs.size + 1, instObj 193 s.heap.objs.size), (s.heap.objs.size, dictOf [] 0)] [] := fun _ _ _ h => nomatch h
  walk_at "clean"
  walk_at "go"
  exact k _ _ _ _ (Fr.keep (by assumption)) (of_news (by assumption)) ⟨_, _, _, _, _, Nat.lt_succ_self _, rfl, rfl⟩

theorem news_swap {h₀ h : Heap} {L : Addr} {Y n : Led} (N : News h₀ L h (Y ++ n)) : News h₀ L h (n ++ Y) := fun p hp => N p (by
  rcases List.mem_append.mp hp with hp | hp
  · exact List.mem_append_right _ hp
  · exact List.mem_append_left _ hp)
theorem lt_of_all {Y : Led} {D a : Addr} {o : Obj} (l : ∀ p ∈ Y, p.1 < D) (m : (a, o) ∈ Y) : a < D := l _ m
inductive FitMade (w : World) (p b n h : Addr) (tl : Led) (r : Value) : Prop
  | mk (x dx st co fi re t1 t2 t3 t4 t5 t6 t7 t8 t9 t10 t11 u1 u2 : _) (h1_ : r = .ref x) (h2_ : (dx < x ∧ x < st ∧ st < co ∧ co < fi ∧ fi < re)) (h3_ : tl = [(re, lisO [] 0), (fi, lisO [] 0), (co, lisO [] 0), (st, lisO [] 0), (x, instObj 389 dx), (dx, fitD w t1 t2 t3 t4 t5 t6 t7 t8 t9 t10 t11 (.ref p) (.ref b) (.ref n) (.ref h) (.ref st) (.ref co) (.ref fi) (.ref re) .none (.int 0 u1) (.int 0 u2))]) : FitMade w p b n h tl r
theorem fit0_ok (S : Store) (p b n h : Addr) (kp : Nat) (hp : S p (lisO [] kp)) : PureT w 4 389 [.ref p, .ref b, .ref n, .ref h] S (FitMade w p b n h) := by
  unfold PureT
  intro dp un fr gd base s Q E hdp G Bl k
  obtain ⟨mean, mg, mb, T⟩ := G.t
  have X := G.In
  refine wpAny_call ?_
  k_dflt (refine' newP (binds := [("self", Value.ref (s.heap.objs.size + 1)), ("pivots", Value.ref p), ("bases", Value.ref b), ("norms", Value.ref n), ("shares", Value.ref h)]) ?k1 ?k2 ?m1 ?m2 ?m3 ?k6 ?k7 ?k8 ?k9 ?kB ?_ ?c5 ?c2 ?c3 ?c4; (case k1 => assumption); (case k2 => assumption); (case m1 => k_is); (case m2 => k_is); (case m3 => k_is); (case k6 => k_is); (case k7 => k_is); (case k8 => first | exact room_lt (by assumption) | exact om_79 _ hdp | (dsimp only [Around.deeper]; exact om_79 _ hdp)); (case k9 => intro s' X'; first | exact BindsTo.of_eq rfl | exact binds_K X' rfl (by k_is) rfl rfl rfl); (case c5 => decide); (case kB => exact locs rfl); (case c2 => exact rfl); (case c3 => exact rfl); (case c4 => exact rfl); k_whole)
  intro h₁ tk₁ F N
  have O : Off [(s.heap.objs.size + 1, instObj 389 s.heap.objs.size), (s.heap.objs.size, dictOf [] 0)] [] := fun _ _ _ h => nomatch h
  walk_at "clean"
  walk_at "go"
  refine k _ _ _ _ (Fr.keep (by assumption)) (of_news (news_swap (by assumption))) ⟨_, _, _, _, _, _, _, _, _, _, _, _, _, _, _, _, _, _, _, rfl, ⟨Nat.lt_succ_self _, ?_, ?_, ?_, ?_⟩, rfl⟩ <;> exact lt_of_all (by assumption) (by walk_at "mem")
-- the numbers' calls
theorem rows_R7_1 : True := by
  k_with "o call ref" => (first | (((with_reducible show wpAny _ _ (call (Value.ref 322) _) _ _ _); k_dflt ((k_dflt (refine' Pure.useN (is_na_ok _ _ _ ?kr_23) ?kG ?kF ?kN ?kO rfl ?kB rfl rfl rfl ?kd ?_; k_extra "kt")); (case kr_23 => k_extra "o rat")); intro _ _ _ _ _ _ _ _ _ _ hp; subst hp; (try k_sweep))) | fail "-")
  k_with "o call ref" => (first | (((with_reducible show wpAny _ _ (call (Value.ref 329) _) _ _ _); k_dflt ((k_dflt (refine' Pure.useN (is_finite_ok _ _ _ ?kr_24) ?kG ?kF ?kN ?kO rfl ?kB rfl rfl rfl ?kd ?_; k_extra "kt")); (case kr_24 => k_extra "o rat")); intro _ _ _ _ _ _ _ _ _ _ hp; subst hp; (try k_sweep))) | fail "-")
  k_with "o call ref" => (first | (((with_reducible show wpAny _ _ (call (Value.ref 350) _) _ _ _); k_dflt ((k_dflt (refine' Pure.useN (add_ok _ _ _ _ _ _ _ ?k0_25 ?k1_25 ?k2_25 ?k3_25 ?k4_25) ?kG ?kF ?kN ?kO rfl ?kB rfl rfl rfl ?kd ?_; k_extra "kt")); (case k0_25 => k_extra "o rat"); (case k1_25 => k_extra "o rat"); (case k2_25 => assumption); (case k3_25 => assumption); (case k4_25 => k_extra "o om")); intro _ _ _ _ _ _ _ _ _ _ _; (try k_sweep))) | fail "-")
  k_with "o call ref" => (first | (((with_reducible show wpAny _ _ (call (Value.ref 364) _) _ _ _); k_dflt ((k_dflt (refine' Pure.useN (mul_ok _ _ _ _ _ _ _ ?k0_26 ?k1_26 ?k2_26 ?k3_26 ?k4_26) ?kG ?kF ?kN ?kO rfl ?kB rfl rfl rfl ?kd ?_; k_extra "kt")); (case k0_26 => k_extra "o rat"); (case k1_26 => k_extra "o rat"); (case k2_26 => assumption); (case k3_26 => assumption); (case k4_26 => k_extra "o om")); intro _ _ _ _ _ _ _ _ _ _ _; (try k_sweep))) | fail "-")
  k_with "o call ref" => (first | (((with_reducible show wpAny _ _ (call (Value.ref 357) _) _ _ _); k_dflt ((k_dflt (refine' Pure.useN (sub_ok _ _ _ _ _ _ _ ?k0_27 ?k1_27 ?k2_27 ?k3_27 ?k4_27) ?kG ?kF ?kN ?kO rfl ?kB rfl rfl rfl ?kd ?_; k_extra "kt")); (case k0_27 => k_extra "o rat"); (case k1_27 => k_extra "o rat"); (case k2_27 => assumption); (case k3_27 => assumption); (case k4_27 => k_extra "o om")); intro _ _ _ _ _ _ _ _ _ _ _; (try k_sweep))) | fail "-")
  k_with "o call ref" => (first | (((with_reducible show wpAny _ _ (call (Value.ref 371) _) _ _ _); k_dflt ((k_dflt (refine' Pure.useN (div_ok _ _ _ _ _ _ _ ?k0_28 ?k1_28 ?k2_28 ?k3_28 ?k4_28 ?k5_28) ?kG ?kF ?kN ?kO rfl ?kB rfl rfl rfl ?kd ?_; k_extra "kt")); (case k0_28 => k_extra "o rat"); (case k1_28 => k_extra "o rat"); (case k2_28 => assumption); (case k3_28 => assumption); (case k4_28 => k_extra "o om"); (case k5_28 => assumption)); intro _ _ _ _ _ _ _ _ _ _ _; (try k_sweep))) | fail "-")
  k_with "o sz" => (first | (first | assumption | k_extra "o om") | fail "-")
  k_with "o call ref" => (first | (((with_reducible show wpAny _ _ (call (Value.ref 398) _) _ _ _); k_dflt ((k_dflt (refine' Pure.useN (weighted_ok _ _) ?kG ?kF ?kN ?kO rfl ?kB rfl rfl rfl ?kd ?_; k_extra "kt"))); intro _ _ _ _ _ _ _ _ _ _ hp; subst hp; (try k_sweep))) | fail "-")
  k_with "o call ref" => (first | (((with_reducible show wpAny _ _ (call (Value.ref 417) _) _ _ _); k_dflt ((k_dflt (refine' Pure.useN (check_finite_ok _ _ _ _ _ _ ?k0_31 ?k1_31) ?kG ?kF ?kN ?kO rfl ?kB rfl rfl rfl ?kd ?_; k_extra "kt")); (case k0_31 => k_extra "o kn"); (case k1_31 => k_extra "o kn")); intro _ _ _ _ _ _ _ _ _ _ hp; subst hp; (try k_sweep))) | fail "-")
  k_with "o call ref" => (first | (((with_reducible show wpAny _ _ (call (Value.ref 405) _) _ _ _); k_dflt ((k_dflt (refine' Pure.useN (dot_ok _ _ _ _ _ _ _ ?k0_32 ?k1_32 ?k2_32 ?k3_32 ?k4_32 ?k5_32 ?k6_32) ?kG ?kF ?kN ?kO rfl ?kB rfl rfl rfl ?kd ?_; k_extra "kt")); (case k0_32 => k_extra "o kn"); (case k1_32 => k_extra "o kn"); (case k2_32 => first | rfl | k_extra "o om"); (case k3_32 => k_extra "o om"); (case k4_32 => assumption); (case k5_32 => assumption); (case k6_32 => k_extra "o om")); intro _ _ _ _ _ _ _ _ _ _ hp; obtain ⟨_, _, _, he, hq⟩ := id hp; subst he; (try k_sweep))) | fail "-")
  k_with "o call ref" => (first | (((with_reducible show wpAny _ _ (call (Value.ref 410) _) _ _ _); k_dflt ((k_dflt (refine' Pure.useN (less_multiple_ok _ _ _ _ _ _ _ _ _ _ ?k0_33 ?kf_33 ?k1_33 ?k2_33 ?k3_33 ?k4_33 ?k5_33 ?k6_33 ?k7_33) ?kG ?kF ?kN ?kO rfl ?kB rfl rfl rfl ?kd ?_; k_extra "kt")); (case k0_33 => k_extra "o kn"); (case kf_33 => k_extra "o kn"); (case k1_33 => k_extra "o kn"); (case k2_33 => first | rfl | k_extra "o om"); (case k3_33 => k_extra "o om"); (case k4_33 => assumption); (case k5_33 => assumption); (case k6_33 => assumption); (case k7_33 => k_extra "o om")); intro _ _ _ _ _ _ _ _ _ _ _; (try k_sweep))) | fail "-")
  trivial

theorem orthogonal_ok (S : Store) (ca : Addr) (ck : Nat) (cvs : List Value) (cols : List (List Rat)) (rows : Nat) (hc : S ca (lisO cvs ck)) (hcs : RatLs S cvs cols) (h5 : rows ≤ 5) (h3 : cols.length ≤ 3) (hl : ∀ c ∈ cols, c.length = rows) (hs : ∀ c ∈ cols, ∀ q ∈ c, Sz q 3) :
    PureT w 8 431 [.ref ca, .none] S (FitPost w S (orthR cols cols.length)) := by
  (try unfold Pure)
  unfold PureT
  intro dp un fr gd base s Q E hdp G Bl k
  obtain ⟨mean, mg, mb, T⟩ := G.t
  have X := G.In
  have el := hcs.length
  have el3 : cvs.length ≤ 3 := Nat.le_trans (Nat.le_of_eq el) h3
  (refine wpAny_call ?_; k_dflt (refine' enterP (binds := [("columns", Value.ref ca), ("weights", Value.none)]) ?k1 ?k2 ?k6 ?k7 ?k8 ?k9 ?kB ?_ ?c5 ?c2 ?c3 ?c4; k_extra "ktr"))
  intro h₁ F
  have N : News s.heap s.heap.objs.size h₁ ([] ++ []) := News.nil
  have O : Off [] [] := fun _ h => nomatch h
  walk_at "clean"
  (try walk_at "lets")
  walk_at "go"
  rename_i p _ _ _ op lp b _ _ _ ob lb n _ _ _ on ln h _ hh _ Fh Nh Oh lh
  (k_dflt (refine' PureT.use (fit0_ok _ _ _ _ _ 0 ?kp) ?kG ?kF ?kN ?kO rfl ?kB rfl rfl rfl ?kd ?_; k_extra "kt"))
  case kp => walk_at "kn"
  rintro r tl h₂ tk₂ F₂ N₂ O₂ o₂ ⟨x, dx, st, co, fi, re, t1, t2, t3, t4, t5, t6, t7, t8, t9, t10, t11, u1, u2, rfl, ⟨q1, q2, q3, q4, q5⟩, rfl⟩
  (try k_sweep)
  have e_pb : p ≠ b := Nat.ne_of_lt (lb (p, lisO [] 0) (by walk_at "mem"))
  have e_pn : p ≠ n := Nat.ne_of_lt (ln (p, lisO [] 0) (by walk_at "mem"))
  have e_ph : p ≠ h := Nat.ne_of_lt (lh (p, lisO [] 0) (by walk_at "mem"))
  have e_pd : p ≠ dx := o₂ (p, lisO [] 0) (by walk_at "mem") (dx, _) (by walk_at "mem")
  have e_ps : p ≠ st := o₂ (p, lisO [] 0) (by walk_at "mem") (st, _) (by walk_at "mem")
  have e_bn : b ≠ n := Nat.ne_of_lt (ln (b, lisO [] 0) (by walk_at "mem"))
  have e_bh : b ≠ h := Nat.ne_of_lt (lh (b, lisO [] 0) (by walk_at "mem"))
  have e_bd : b ≠ dx := o₂ (b, lisO [] 0) (by walk_at "mem") (dx, _) (by walk_at "mem")
  have e_bs : b ≠ st := o₂ (b, lisO [] 0) (by walk_at "mem") (st, _) (by walk_at "mem")
  have e_nh : n ≠ h := Nat.ne_of_lt (lh (n, lisO [] 0) (by walk_at "mem"))
  have e_nd : n ≠ dx := o₂ (n, lisO [] 0) (by walk_at "mem") (dx, _) (by walk_at "mem")
  have e_ns : n ≠ st := o₂ (n, lisO [] 0) (by walk_at "mem") (st, _) (by walk_at "mem")
  have e_hd : h ≠ dx := o₂ (h, lisO [] 0) (by walk_at "mem") (dx, _) (by walk_at "mem")
  have e_hs : h ≠ st := o₂ (h, lisO [] 0) (by walk_at "mem") (st, _) (by walk_at "mem")
  have e_ds : dx ≠ st := Nat.ne_of_lt (Nat.lt_trans q1 q2)
  replace N₂ : News s.heap s.heap.objs.size h₂ (([] ++ [(dx, fitD w t1 t2 t3 t4 t5 t6 t7 t8 t9 t10 t11 (.ref p) (.ref b) (.ref n) (.ref h) (.ref st) (.ref co) (.ref fi) (.ref re) .none (.int 0 u1) (.int 0 u2)), (st, lisO [] 0), (p, lisO [] 0), (b, lisO [] 0), (n, lisO [] 0), (h, lisO [] 0)]) ++ [(x, instObj 389 dx)]) := news_re N₂ (by walk_at "memall")
  have O₃ : Off ([] ++ [(dx, fitD w t1 t2 t3 t4 t5 t6 t7 t8 t9 t10 t11 (.ref p) (.ref b) (.ref n) (.ref h) (.ref st) (.ref co) (.ref fi) (.ref re) .none (.int 0 u1) (.int 0 u2)), (st, lisO [] 0), (p, lisO [] 0), (b, lisO [] 0), (n, lisO [] 0), (h, lisO [] 0)]) [(x, instObj 389 dx)] := fun q hq q' hq' => by
    rw [List.mem_singleton.mp hq']
    revert q
    exact List.forall_mem_cons.mpr ⟨Nat.ne_of_lt q1, List.forall_mem_cons.mpr ⟨Nat.ne_of_gt q2, List.forall_mem_cons.mpr ⟨o₂ (p, lisO [] 0) (by walk_at "mem") (x, instObj 389 dx) (by walk_at "mem"), List.forall_mem_cons.mpr ⟨o₂ (b, lisO [] 0) (by walk_at "mem") (x, instObj 389 dx) (by walk_at "mem"), List.forall_mem_cons.mpr ⟨o₂ (n, lisO [] 0) (by walk_at "mem") (x, instObj 389 dx) (by walk_at "mem"), List.forall_mem_cons.mpr ⟨o₂ (h, lisO [] 0) (by walk_at "mem") (x, instObj 389 dx) (by walk_at "mem"), List.forall_mem_nil _⟩⟩⟩⟩⟩⟩
  clear O₂ o₂ op ob on Oh lp lb ln lh O q1 q2 q3 q4 q5
  walk_at "go"
  refine wpAny_For ?_
  walk_at "go"

  refine for_range cvs.length (OrthJ S cols ca x dx st p b n h (fitD w t1 t2 t3 t4 t5 t6 t7 t8 t9 t10 t11 (.ref p) (.ref b) (.ref n) (.ref h) (.ref st) (.ref co) (.ref fi) (.ref re) .none (.int 0 u1) (.int 0 u2)))
    (by assumption) rfl (small_up (by exact om_35 _ _ h3 el)) size_up (by assumption) (by assumption) ⟨_, _, _, _, _, _, _, [], [], [], [], 0, 0, 0, 0, rfl, O₃, by walk_at "upd", .head _, trivial, trivial, trivial, trivial⟩ ?_ ?_
  · rintro i t m₁ n₁ X' h₁ tk hi ⟨nv, fv, tv, sv, bsv, plv, n', pvs, bvs, nvs, svs, ka, kb, kc, kd, rfl, O₁, rfl, mx, i1, i2, i3, i4⟩ ho F₁ N₁
    obtain ⟨N₂, O₂, A₂, oX⟩ := turn_in N₁ ho O₁ (as := [dx, st, p, b, n, h]) OffA.nil
    clear N₁ ho O₁ O₃
    have hic : i < cols.length := om_18 _ _ _ el hi
    obtain ⟨cv, hcv, hrl⟩ := hcs.get i hic
    have hm : cols[i] ∈ cols := List.getElem_mem _
    have ok := orth_ok h5 hl hs i (by exact om_36 _ _ _ el hi)
    have lc := hl _ hm
    have sc := hs _ hm
    have eo : orthR cols (i + 1) = outStep (orthR cols i) i cols[i] := by show outStep _ _ (cols.getD i []) = _; rw [List.getD_eq_getElem?_getD, List.getElem?_eq_getElem hic]; rfl
    generalize orthR cols i = o at *
    generalize cols[i] = col at *
    obtain ⟨ca', ck', cvs', rfl, hca, hcs'⟩ := hrl
    have lo := ok.le
    have j1 := i1.length
    have j2 := i2.length
    have j3 := i3.length
    have j4 := i4.length
    have j5 := hcs'.length
    have j6 := ok.l1
    have j7 := ok.l2
    have j8 := ok.l3
    have c64 : cvs.length ≤ 64 := Nat.le_trans (Nat.le_of_eq el) (Nat.le_trans h3 (by decide))
    have i64 : i ≤ 64 := Nat.le_trans (Nat.le_of_lt hi) c64
    have b64 : bvs.length ≤ 64 := Nat.le_trans (Nat.le_of_eq j2) (Nat.le_trans lo i64)
    have p64 : pvs.length ≤ 64 := by rw [j1, j7, ← j2]; exact b64
    have n64 : nvs.length ≤ 64 := by rw [j3, j6, ← j2]; exact b64
    have s64 : svs.length ≤ 64 := by rw [j4, j8, ← j2]; exact b64
    have v5 : cvs'.length ≤ 64 := Nat.le_trans (Nat.le_of_eq (j5.trans lc)) (Nat.le_trans h5 (by decide))
    simp only [Int.zero_add, Int.mul_one]
    refine wpAny_assign_Name ?_
    (try k_fold)
    (try walk_at "lets")
    walk_at "go"
    rename_i _ _ _ _ D1 c1 _ _ _ od ld _ _ _ sh _ _ _ Oh lsh _ _ _ Fh Nh
    have lsh' : ∀ q ∈ ((X' ++ []) ++ [(dx, fitD w t1 t2 t3 t4 t5 t6 t7 t8 t9 t10 t11 (.ref p) (.ref b) (.ref n) (.ref h) (.ref st) (.ref co) (.ref fi) (.ref re) .none (.int 0 u1) (.int 0 u2)), (st, lisO [] 0), (p, lisO pvs ka), (b, lisO bvs kb), (n, lisO nvs kc), (h, lisO svs kd)]) ++ ((D1, lisO cvs' c1) :: n'), q.1 < sh := lsh
    obtain ⟨N₃, O₃, A₃⟩ := led_in2 Nh Oh lsh' A₂
    have hbase : RatL (Kn S ((D1, lisO cvs' c1) :: n')) (.ref D1) col := ⟨D1, c1, cvs', rfl, Kn.r (.head _), hcs'.l⟩
    have g_dx : dx ≠ sh := Nat.ne_of_lt (lsh (dx, _) (by walk_at "mem"))
    have g_st : st ≠ sh := Nat.ne_of_lt (lsh (st, _) (by walk_at "mem"))
    have g_p : p ≠ sh := Nat.ne_of_lt (lsh (p, _) (by walk_at "mem"))
    have g_b : b ≠ sh := Nat.ne_of_lt (lsh (b, _) (by walk_at "mem"))
    have g_n : n ≠ sh := Nat.ne_of_lt (lsh (n, _) (by walk_at "mem"))
    have g_h : h ≠ sh := Nat.ne_of_lt (lsh (h, _) (by walk_at "mem"))
    clear Nh lsh lsh' O₂ od ld
    refine wpAny_For ?_
    walk_at "go"
    refine for_range bvs.length (OrthI S (X' ++ []) [(dx, fitD w t1 t2 t3 t4 t5 t6 t7 t8 t9 t10 t11 (.ref p) (.ref b) (.ref n) (.ref h) (.ref st) (.ref co) (.ref fi) (.ref re) .none (.int 0 u1) (.int 0 u2)), (st, lisO [] 0), (p, lisO pvs ka), (b, lisO bvs kb), (n, lisO nvs kc), (h, lisO svs kd)] ((D1, lisO cvs' c1) :: n') ca x sh nv (some (.int (i : Int) t)) o col)
      (by assumption) rfl (small_up (by exact om_37 _ _ _ _ _ h3 el hi lo j2)) size_up (by assumption) (by assumption) ⟨_, _, _, _, [], 0, rfl, O₃, by walk_at "upd", fun _ h => h, by rw [inR_zero]; exact hbase, by rw [inR_zero]; trivial⟩ ?_ ?_
    · rintro j tj m₁ n₁ X'' h₁ tk₁ hj ⟨fv', tv', bv', n'', ss, ks, rfl, O₄, rfl, hsub, hb', hss⟩ ho₁ F₁ N₁
      obtain ⟨N₅, O₅, A₅, oX₁⟩ := turn_in N₁ ho₁ O₄ A₃
      clear N₁ ho₁ O₄ O₃
      obtain ⟨r1, r2, r3, r4⟩ := in_ok ok h5 lc sc j (by exact om_36 _ _ _ j2 hj)
      have hjb : j < o.bas.length := by exact om_18 _ _ _ j2 hj
      have hjn : j < o.nrm.length := by exact om_24 _ _ _ j6 hjb
      obtain ⟨bj, hbj, rbj⟩ := i2.get j hjb
      obtain ⟨nj, hnj, rnj⟩ := i3.get j hjn
      replace rbj : RatL (Kn S n'') bj o.bas[j] := rbj.mono (Kn.sub fun q hq => hsub _ (.tail _ hq))
      replace rnj : RatS (Kn S n'') nj o.nrm[j] := rnj.mono (Kn.sub fun q hq => hsub _ (.tail _ hq))
      have sb := ok.szB j _ (List.getElem?_eq_getElem hjb)
      have sn := ok.szN j _ (List.getElem?_eq_getElem hjn)
      have pn := ok.pos o.nrm[j] (List.getElem_mem _)
      have lb := ok.rws o.bas[j] (List.getElem_mem _)
      have hcb := cB_le j (by exact om_38 _ _ _ _ _ h3 el hi lo hjb)
      have z1 := om_213 _ hcb
      have z2 := om_214 _ hcb
      have z3 := om_215 _ hcb
      have ij5 : (inR o col j).1.length ≤ 5 := om_26 _ _ h5 r1
      have ijo : (inR o col j).1.length = o.bas[j].length := r1.trans lb.symm
      have es := inR_succ o col j hjb hjn
      have l_ss := hss.length
      have mx' := hsub _ (List.Mem.tail _ mx)
      generalize inR o col j = ij at *
      generalize o.bas[j] = ob at *
      generalize o.nrm[j] = onj at *
      have sd : Sz (dotR ij.1 ob) (10 * cB j + 6) := (sz_dot _ _ r2 sb).le (by
        have := Nat.mul_le_mul_right (cB j + cB j + 1) ij5
        exact om_210 _ _ this)
      have sf := sz_div sd sn pn
      have j64 : j ≤ 64 := Nat.le_trans (Nat.le_of_lt hj) b64
      have ss64 : ss.length ≤ 64 := Nat.le_trans (Nat.le_of_eq (l_ss.trans r3)) j64
      simp only [Int.zero_add, Int.mul_one]
      refine wpAny_assign_Name ?_
      (try k_fold)
      (try walk_at "lets")
      walk_at "go"
      obtain ⟨N₆, O₆, O₇⟩ := turn_out (by assumption) (by assumption) A₅ oX₁
      exact ⟨_, _, _, _, rfl, fr_upd [("norm", nv), ("factor", some _), ("turn", some _), ("share", some (.ref sh)), ("base", some _), ("place", some (.int (i : Int) t)), ("found", some (.ref x)), ("weights", some .none), ("columns", some (.ref ca))] (by assumption) (by walk_at "eqs") (by walk_at "nots"), N₆, O₆, Src.nil, _, _, _, _, _, _, rfl, O₇, rfl,
        (fun q hq => by have hq' := hsub q hq; walk_at "mem"), by rw [es]; dsimp only [inStep]; assumption, by rw [es]; dsimp only [inStep]; exact RatsS.snoc (by walk_at "kn") (by walk_at "kn")⟩
    · rintro m₁ n₁ h₁ tk₁ ⟨fv', tv', bv', n'', ss, ks, rfl, O₄, rfl, hsub, hb', hss⟩ F₁ N₁
      obtain ⟨r1, r2, r3, r4⟩ := in_ok ok h5 lc sc bvs.length (by exact om_39 _ _ j2)
      have hcb := cB_le bvs.length (by exact om_40 _ _ _ _ _ h3 el hi lo j2)
      have l_ss := hss.length
      have mx' := hsub _ (List.Mem.tail _ mx)
      replace i2 : RatLs (Kn S n'') bvs o.bas := RatLs.mono (Kn.sub fun q hq => hsub q (.tail _ hq)) i2
      replace i3 : RatsS (Kn S n'') nvs o.nrm := RatsS.mono (Kn.sub fun q hq => hsub q (.tail _ hq)) i3
      replace i4 : RatLs (Kn S n'') svs o.shr := RatLs.mono (Kn.sub fun q hq => hsub q (.tail _ hq)) i4
      rw [j2] at hb' hss r1 r2 r3 r4 hcb
      have z4 := om_213 _ hcb
      have ij5 : (inR o col o.bas.length).1.length ≤ 5 := om_26 _ _ h5 r1
      generalize eij : inR o col o.bas.length = ij at *
      (try k_fold)
      (try walk_at "lets")
      walk_at "go"
      · rename_i hp' _ _ _ h0 _ _ _ _ _ _ _ _ _ _ _ _ _ _ _ _ _ _ _ Fh Nh Oh
        have hne : dotR ij.1 ij.1 ≠ 0 := fun e => h0 (by rw [e]; rfl)
        have ep : outStep o i col = ⟨o.piv ++ [i], o.bas ++ [ij.1], o.nrm ++ [dotR ij.1 ij.1], o.shr ++ [ij.2]⟩ := by unfold outStep; rw [eij]; exact if_neg hne
        obtain ⟨N₅, O₅, A₅⟩ := led_back (Z := X' ++ []) (D := sh) Nh Oh A₃ (by walk_at "nes")
        obtain ⟨N₆, O₆, O₇⟩ := turn_out (X := []) N₅ O₅ A₅ oX
        exact ⟨_, _, _, _, rfl, fr_upd [("norm", some _), ("factor", fv'), ("turn", tv'), ("share", some (.ref sh)), ("base", some _), ("place", some (.int (i : Int) t)), ("found", some (.ref x)), ("weights", some .none), ("columns", some (.ref ca))] (by assumption) (by walk_at "eqs") (by walk_at "nots"), N₆, O₆, Src.nil, _, _, _, _, _, _, _, _, _, _, _, _, _, _, _, rfl, O₇, rfl, by walk_at "mem",
          by rw [eo, ep]; exact L2.snoc i1 ⟨_, rfl⟩, by rw [eo, ep]; exact L2.snoc (by walk_at "kn") (by walk_at "kn"), by rw [eo, ep]; exact RatsS.snoc (by walk_at "kn") (by walk_at "kn"), by rw [eo, ep]; exact L2.snoc (by walk_at "kn") ⟨sh, _, ss, rfl, Kn.r (.head _), by walk_at "kn"⟩⟩
      · rename_i Oh _ _ _ _ _ _ _ Fh Nh h0
        have he : dotR ij.1 ij.1 = 0 := Rat.num_eq_zero.mp h0
        have ep : outStep o i col = o := by unfold outStep; rw [eij]; exact if_pos he
        obtain ⟨N₅, O₅, A₅⟩ := led_back (Z := X' ++ []) (D := sh) Nh Oh A₃ (by walk_at "nes")
        obtain ⟨N₆, O₆, O₇⟩ := turn_out (X := []) N₅ O₅ A₅ oX
        exact ⟨_, _, _, _, rfl, fr_upd [("norm", some _), ("factor", fv'), ("turn", tv'), ("share", some (.ref sh)), ("base", some _), ("place", some (.int (i : Int) t)), ("found", some (.ref x)), ("weights", some .none), ("columns", some (.ref ca))] (by assumption) (by walk_at "eqs") (by walk_at "nots"), N₆, O₆, Src.nil, _, _, _, _, _, _, _, _, _, _, _, _, _, _, _, rfl, O₇, rfl, by walk_at "mem",
          by rw [eo, ep]; exact i1, by rw [eo, ep]; walk_at "kn", by rw [eo, ep]; walk_at "kn", by rw [eo, ep]; walk_at "kn"⟩
  · rintro m₁ n₁ h₁ tk₁ ⟨nv, fv, tv, sv, bsv, plv, n', pvs, bvs, nvs, svs, ka, kb, kc, kd, rfl, O₁, rfl, mx, i1, i2, i3, i4⟩ F₁ N₁
    rw [el] at i1 i2 i3 i4
    have ok := orth_ok h5 hl hs cols.length (Nat.le_refl _)
    have lo := ok.le
    have j1 := i1.length
    have j7 := ok.l2
    have p3 : pvs.length ≤ 3 := Nat.le_trans (Nat.le_of_eq (j1.trans j7)) (Nat.le_trans lo h3)
    generalize orthR cols cols.length = o at *
    (try k_fold)
    (try walk_at "lets")
    walk_at "go"
    rename_i Fh Nh Oh
    have k1 : ∀ q ∈ n', q.1 ≠ dx := fun q hq => Ne.symm (O₁ (dx, _) (by walk_at "mem") q hq)
    have k2 : ∀ q ∈ n', q.1 ≠ st := fun q hq => Ne.symm (O₁ (st, _) (by walk_at "mem") q hq)
    have sub : ∀ q ∈ n', q ∈ (p, lisO pvs ka) :: (b, lisO bvs kb) :: (n, lisO nvs kc) :: (h, lisO svs kd) :: n' := fun q hq => .tail _ (.tail _ (.tail _ (.tail _ hq)))
    refine k _ _ _ _ (Fr.keep (by assumption)) (of_news (by assumption)) ⟨x, dx, st, t1, t2, t3, t4, t5, t6, t7, t8, t9, t10, t11, p, b, n, h, .ref co, .ref fi, .ref re, _, u2, ka, kb, kc, kd, pvs, bvs, nvs, svs, _, rfl, by rw [← j7, ← j1]; rfl, ?_, e_ds, sub _ mx, .head _, .tail _ (.head _), .tail _ (.tail _ (.head _)), .tail _ (.tail _ (.tail _ (.head _))), i1, RatLs.mono (Kn.sub sub) i2, RatsS.mono (Kn.sub sub) i3, RatLs.mono (Kn.sub sub) i4⟩
    intro q hq a ha
    rcases List.mem_cons.mp ha with rfl | ha
    · rcases hq with _ | ⟨_, hq⟩; exact e_pd
      rcases hq with _ | ⟨_, hq⟩; exact e_bd
      rcases hq with _ | ⟨_, hq⟩; exact e_nd
      rcases hq with _ | ⟨_, hq⟩; exact e_hd
      exact k1 _ hq
    · rw [List.mem_singleton.mp ha]
      rcases hq with _ | ⟨_, hq⟩; exact e_ps
      rcases hq with _ | ⟨_, hq⟩; exact e_bs
      rcases hq with _ | ⟨_, hq⟩; exact e_ns
      rcases hq with _ | ⟨_, hq⟩; exact e_hs
      exact k2 _ hq
-- the numbers' calls

theorem back_ok (S : Store) (x dx st sv : Addr) (t1 t2 t3 t4 t5 t6 t7 t8 t9 t10 t11 u : Tok) (pv bv nv cov fiv rev wt dfv : Value) (r kt kd V C : Nat) (tvs hvs : List Value) (steps : List Rat) (shr : List (List Rat))
    (hx : S x (instObj 389 dx)) (hD : S dx (fitD w t1 t2 t3 t4 t5 t6 t7 t8 t9 t10 t11 pv bv nv (.ref sv) (.ref st) cov fiv rev wt (.int (r : Nat) u) dfv)) (hst : S st (lisO tvs kt)) (hsv : S sv (lisO hvs kd)) (hts : RatsS S tvs steps) (hhs : RatLs S hvs shr)
    (l1 : steps.length = r) (l2 : shr.length = r) (h3 : r ≤ 3) (hsl : ∀ l, l < r → (shr.getD l []).length = l) (hV : ∀ q ∈ steps, Sz q V) (hC : ∀ (k l : Nat), k < l → l < r → Sz ((shr.getD l []).getD k 0) C) (hB : 8 * V + 8 * C + 8 ≤ 16777216) :
    PureT w 6 438 [.ref x] S (BackPost S (backOut shr r steps r)) := by
  (try unfold Pure)
  unfold PureT
  intro dp un fr gd base s Q E hdp G Bl k
  obtain ⟨mean, mg, mb, T⟩ := G.t
  have X := G.In
  have e1 := hts.length
  have e2 := hhs.length
  have t64 : tvs.length ≤ 64 := Nat.le_trans (Nat.le_of_eq (e1.trans l1)) (Nat.le_trans h3 (by decide))
  have z1 := om_216 _ _ hB
  have z2 := om_217 _ _ hB
  (refine wpAny_call ?_; k_dflt (refine' enterP (binds := [("fitted", Value.ref x)]) ?k1 ?k2 ?k6 ?k7 ?k8 ?k9 ?kB ?_ ?c5 ?c2 ?c3 ?c4; k_extra "ktr"))
  intro h₁ F
  have N : News s.heap s.heap.objs.size h₁ ([] ++ []) := News.nil
  have O : Off [] [] := fun _ h => nomatch h
  walk_at "clean"
  walk_at "go"
  rename_i vl c0 _ _ _ Oh lv _ _ _ Fh Nh
  obtain ⟨N₂, O₂, A₂⟩ := led_in2 (Z := []) (Y := []) Nh Oh lv (as := []) OffA.nil
  clear Nh Oh lv O
  refine wpAny_For ?_
  walk_at "go"
  refine for_rangeV r (fun i => ((r - 1 - i : Nat) : Int)) (BackJ S shr r steps x vl) (by assumption) rfl (small_down (by exact om_1 _ h3)) size_down (by assumption) (by assumption) ⟨_, _, _, _, _, rfl, O₂, by walk_at "upd", hts.l⟩ (by intro i hi; exact om_2 _ _ hi) ?_ ?_
  · rintro i ti m₁ n₁ X' h₁ tk hi ⟨lv, kv, n', vvs, kk, rfl, O₁, rfl, hr⟩ ho F₁ N₁
    obtain ⟨N₃, O₃, A₃, oX⟩ := turn_in N₁ ho O₁ (as := [vl]) OffA.nil
    clear N₁ ho O₁ O₂
    have hK : (r - 1 - i) + i + 1 = r := by exact om_3 _ _ hi
    have eo : backOut shr r steps (i + 1) = backIn shr (r - 1 - i) (backOut shr r steps i) i := rfl
    (try dsimp only)
    generalize r - 1 - i = K0 at *
    refine wpAny_assign_Name ?_
    (try k_fold)
    walk_at "go"
    refine wpAny_For ?_
    walk_at "go"
    refine for_rangeV i (fun j => ((K0 + 1 + j : Nat) : Int)) (BackI S (X' ++ []) shr K0 (backOut shr r steps i) x vl (some (.int (K0 : Int) ti))) (by assumption) rfl (small_from (by exact om_4 _ _ _ hK) (by exact om_5 _) (by exact om_6 _ h3)) (by rw [size_from (by exact om_4 _ _ _ hK)]; exact om_7 _ _ _ hK) (by assumption) (by assumption) ⟨_, _, _, _, rfl, O₃, by walk_at "upd", hr⟩ (by intro j hj; exact om_8 _ _) ?_ ?_
    · rintro j tj m₁ n₁ X'' h₁ tk₁ hj ⟨lv', n'', vvs', kk', rfl, O₄, rfl, hr'⟩ ho₁ F₁ N₁
      obtain ⟨N₅, O₅, A₅, oX₁⟩ := turn_in N₁ ho₁ O₄ A₃
      clear N₁ ho₁ O₄ O₃
      (try dsimp only)
      generalize hJ : K0 + 1 + j = J0
      have eb : backIn shr K0 (backOut shr r steps i) (j + 1) = (backIn shr K0 (backOut shr r steps i) j).set K0 ((backIn shr K0 (backOut shr r steps i) j).getD K0 0 - (shr.getD J0 []).getD K0 0 * (backIn shr K0 (backOut shr r steps i) j).getD J0 0) := by rw [← hJ]; rfl
      have lb : (backIn shr K0 (backOut shr r steps i) j).length = r := by rw [backIn_length, backOut_length]; exact l1
      have sb := backIn_sz (k := K0) (vals := backOut shr r steps i) (by rw [backOut_length]; exact l1) (fun l h h' => hC _ l h h') (backOut_sz l1 hC hV i (by exact om_9 _ _ _ hK)) j (by exact om_10 _ _ _ _ hK hj)
      have ht : tri i + j ≤ 2 := by
        have : i = 0 ∨ i = 1 ∨ i = 2 := by exact om_11 _ _ _ h3 hK
        rcases this with rfl | rfl | rfl
        · exact absurd hj (Nat.not_lt_zero _)
        · exact Nat.le_trans (Nat.add_le_add_left (Nat.le_of_lt_succ hj) 0) (by decide)
        · exact Nat.add_le_add_left (Nat.le_of_lt_succ hj) 1
      have hvb : vB V C (tri i + j) ≤ 4 * V + 3 * (C + 1) := Nat.le_trans (vB_mono ht) (by show 2 * (2 * V + C + 1) + C + 1 ≤ _; exact om_12 _ _)
      replace sb : ∀ q ∈ backIn shr K0 (backOut shr r steps i) j, Sz q (4 * V + 3 * (C + 1)) := fun q hq => (sb q hq).le hvb
      have lv' := hr'.length
      generalize backIn shr K0 (backOut shr r steps i) j = bv at *
      have sc := hC K0 J0 (by exact om_13 _ _ _ hJ) (by exact om_14 _ _ _ _ _ hK hj hJ)
      have b1 : J0 < shr.length := by exact om_15 _ _ _ _ _ _ l2 hK hj hJ
      have b2 : K0 < bv.length := by exact om_16 _ _ _ _ hK lb
      have b3 : J0 < bv.length := by exact om_17 _ _ _ _ _ _ hK hj hJ lb
      have J64 : J0 ≤ 64 := Nat.le_trans (Nat.le_of_lt (om_18 _ _ _ lb b3)) (Nat.le_trans h3 (by decide))
      have K64 : K0 ≤ 64 := Nat.le_trans (Nat.le_of_lt (om_18 _ _ _ lb b2)) (Nat.le_trans h3 (by decide))
      have Kv : K0 < vvs'.length := Nat.lt_of_lt_of_eq b2 lv'.symm
      obtain ⟨hv, hhv, ⟨ah, kah, avs, rfl, hah, hars⟩⟩ := hhs.get J0 b1
      have hJr : (shr.getD J0 []) = shr[J0] := getD_get b1
      have hJl := hsl J0 (by exact om_18 _ _ _ lb b3)
      rw [hJr] at hJl sc
      have b4 : K0 < (shr[J0]).length := by exact om_19 _ _ _ _ hJ hJl
      obtain ⟨fv, hfv, hfr⟩ := hars.get K0 b4
      obtain ⟨v1, hv1, hr1⟩ := hr'.get K0 b2
      obtain ⟨v2, hv2, hr2⟩ := hr'.get J0 b3
      have g0 : shr[J0].getD K0 0 = shr[J0][K0] := getD_get b4
      have g1 : bv.getD K0 0 = bv[K0] := getD_get b2
      have g2 : bv.getD J0 0 = bv[J0] := getD_get b3
      rw [g0] at sc
      have s1 := sb bv[K0] (List.getElem_mem _)
      have s2 := sb bv[J0] (List.getElem_mem _)
      have sm := sz_mul sc s2
      refine wpAny_assign_Name ?_
      (try k_fold)
      walk_at "go"
      obtain ⟨N₆, O₆, O₇⟩ := turn_out (by assumption) (by assumption) A₅ oX₁
      exact ⟨_, _, _, _, rfl, fr_upd [("later", some _), ("k", some (.int (K0 : Int) ti)), ("values", some (.ref vl)), ("fitted", some (.ref x))] (by assumption) (by walk_at "eqs") (by walk_at "nots"), N₆, O₆, Src.nil, _, _, _, _, rfl, O₇, rfl, by rw [eb, hJr, g0, g1, g2]; exact RatsS.set K0 (by walk_at "kn") (by walk_at "kn")⟩
    · rintro m₁ n₁ h₁ tk₁ ⟨lv', n'', vvs', kk', rfl, O₄, rfl, hr'⟩ F₁ N₁
      (try k_fold)
      walk_at "go"
      obtain ⟨N₆, O₆, O₇⟩ := turn_out (X := []) (by assumption) (by assumption) A₃ oX
      exact ⟨_, _, _, _, rfl, fr_upd [("later", lv'), ("k", some _), ("values", some (.ref vl)), ("fitted", some (.ref x))] (by assumption) (by walk_at "eqs") (by walk_at "nots"), N₆, O₆, Src.nil, _, _, _, _, _, rfl, O₇, rfl, by rw [eo]; exact hr'⟩
  · rintro m₁ n₁ h₁ tk₁ ⟨lv, kv, n', vvs, kk, rfl, O₁, rfl, hr⟩ F₁ N₁
    (try k_fold)
    walk_at "go"
    exact k _ _ _ _ (Fr.keep (by assumption)) (of_news (by assumption)) ⟨vl, kk, vvs, n', rfl, rfl, hr⟩
-- the numbers' calls

theorem used_ok (S : Store) (v : Value) : Pure w 1 443 [v, .none] S (fun S' r => r = v) := by
  (try unfold Pure)
  unfold PureT
  intro dp un fr gd base s Q E hdp G Bl k
  obtain ⟨mean, mg, mb, T⟩ := G.t
  have X := G.In
  (refine wpAny_call ?_; k_dflt (refine' enterP (binds := [("count", v), ("weights", Value.none)]) ?k1 ?k2 ?k6 ?k7 ?k8 ?k9 ?kB ?_ ?c5 ?c2 ?c3 ?c4; k_extra "ktr"))
  intro h₁ F
  have N : News s.heap s.heap.objs.size h₁ ([] ++ []) := News.nil
  have O : Off [] [] := fun _ h => nomatch h
  walk_at "clean"
  (try walk_at "lets")
  walk_at "go"
  exact k _ [] _ _ (Fr.keep (by assumption)) (by simp) rfl


theorem rows_R9_2 : True := by
  k_with "o call ref" => (first | (((with_reducible show wpAny _ _ (call (Value.ref 443) _) _ _ _); k_dflt ((k_dflt (refine' Pure.useN (used_ok _ _) ?kG ?kF ?kN ?kO rfl ?kB rfl rfl rfl ?kd ?_; k_extra "kt"))); intro _ _ _ _ _ _ _ _ _ _ hp; subst hp; (try k_sweep))) | fail "-")
  trivial

theorem fit_ok (S : Store) (ca ya : Addr) (ck yk : Nat) (cvs yvs : List Value) (cols : List (List Rat)) (ys : List Rat) (rows : Nat) (hc : S ca (lisO cvs ck)) (hcs : RatLs S cvs cols) (hy : S ya (lisO yvs yk)) (hys : RatsS S yvs ys) (h5 : rows ≤ 5) (h3 : cols.length ≤ 3) (hl : ∀ c ∈ cols, c.length = rows) (hs : ∀ c ∈ cols, ∀ q ∈ c, Sz q 3) (hyl : ys.length = rows) (hsy : ∀ q ∈ ys, Sz q 3) :
    Pure w 12 449 [.ref ca, .ref ya] S (FitOut w cols ys) := by
  (try unfold Pure)
  unfold PureT
  intro dp un fr gd base s Q E hdp G Bl k
  obtain ⟨mean, mg, mb, T⟩ := G.t
  have X := G.In
  have el := hcs.length
  have ey := hys.length
  have y64 : yvs.length ≤ 64 := Nat.le_trans (Nat.le_of_eq (ey.trans hyl)) (Nat.le_trans h5 (by decide))
  have c64 : cvs.length ≤ 64 := Nat.le_trans (Nat.le_of_eq el) (Nat.le_trans h3 (by decide))
  (refine wpAny_call ?_; k_dflt (refine' enterPC (binds := [("columns", Value.ref ca), ("y", Value.ref ya), ("weights", Value.none)]) ?k1 ?k2 ?k6 ?k7 ?k8 ?k9 ?kB ?kD ?_ ?c2 ?c3 ?c4; k_extra "ktc"))
  intro h₁ tk₁ co F N hco
  replace F : Fr s.heap s.heap.objs.size h₁ (upd (fun _ => none) [("weights", some .none), ("columns", some (.ref ca))]) := F
  replace N : News s.heap s.heap.objs.size h₁ ([(s.heap.objs.size + 1 + 1, co "rest"), (s.heap.objs.size + 1, co "y")] ++ []) := N
  have O : Off [(s.heap.objs.size + 1 + 1, co "rest"), (s.heap.objs.size + 1, co "y")] [] := fun _ _ _ h => nomatch h
  have c0 : (co "y").data = .cell (some (.ref ya)) := hco ("y", s.heap.objs.size + 1) (.tail _ (.head _))
  have c1 : (co "rest").data = .cell (none) := hco ("rest", s.heap.objs.size + 1 + 1) (.head _)
  clear hco
  walk_at "clean"
  (try walk_at "lets")
  have hYn : (s.heap.objs.size + 1 + 1 : Nat) ≠ s.heap.objs.size + 1 := by exact om_20 _
  generalize co "y" = oy at *
  generalize co "rest" = orr at *
  walk_at "go"
  refine wpAny_For ?_
  walk_at "go"
  refine for_list (fun i => FitJ1 [(s.heap.objs.size + 1 + 1, orr), (s.heap.objs.size + 1, oy)] ca) (Or.inl (G.s _ _ hc)) rfl (by assumption) (by assumption) ⟨none, _, rfl, O, by walk_at "upd"⟩ ?_ ?_
  · rintro i v m₁ n₁ X' h tk hv ⟨cv, n', rfl, O₁, rfl⟩ hsrc ho F₁ N₁
    have hi : i < cols.length := by rw [← el]; exact (List.getElem?_eq_some_iff.mp hv).1
    obtain ⟨x, hx, hr⟩ := hcs.get i hi
    rw [hv] at hx
    cases hx
    obtain ⟨a, ka, avs, rfl, ha, hars⟩ := hr
    have ea := hars.length
    have lc := hl cols[i] (List.getElem_mem _)
    have a64 : avs.length ≤ 64 := Nat.le_trans (Nat.le_of_eq (ea.trans lc)) (Nat.le_trans h5 (by decide))
    have N₂ := led_in N₁
    have O₂ := ho.rr.appL O₁
    have oX := ho.ll
    clear N₁
    refine wpAny_assign_Name ?_
    (try k_fold)
    (try walk_at "lets")
    walk_at "go"
    exact ⟨_, _, _, _, rfl, fr_upd [("column", some _), ("weights", some .none), ("columns", some (.ref ca))] (by assumption) (by walk_at "eqs") (by walk_at "nots"), led_out (by assumption), Off.mk oX (Off.l (by assumption)), hsrc.sub (fun q hq => by rcases List.mem_append.mp hq with hq | hq; exact List.mem_append_left _ hq; exact List.mem_append_right _ (List.mem_append_left _ hq)), _, _, rfl, Off.r (by assumption), rfl⟩
  · rintro m₁ n₁ h₁ tk ⟨cv, n', rfl, O₁, rfl⟩ F₁ N₁
    have A₁ : OffA [] [s.heap.objs.size + 1 + 1, s.heap.objs.size + 1] := OffA.nil
    (try k_fold)
    (try walk_at "lets")
    walk_at "go"
    (k_dflt (refine' PureT.use (orthogonal_ok _ _ _ _ _ _ ?a1 ?a2 ?a3 ?a4 ?a5 ?a6) ?kG ?kF ?kN ?kO rfl ?kB rfl rfl rfl ?kd ?_; k_extra "kt"))
    case a1 => walk_at "kn"
    case a2 => walk_at "kn"
    case a3 => assumption
    case a4 => assumption
    case a5 => assumption
    case a6 => assumption
    rename_i tl _ _ _ _ _ _ _ _ _
    rintro r tlo h₂ tk₂ F₂ N₂ O₂ o₂ ⟨x, dx, st, t1, t2, t3, t4, t5, t6, t7, t8, t9, t10, t11, pv, bv, nv, sv, cov, fiv, rev, u1, u2, ka, kb, kc, kd, pvs, bvs, nvs, svs, n2, rfl, rfl, On, eds, mx, mp, mb, mn, ms, i1, i2, i3, i4⟩
    (try k_sweep)
    obtain ⟨N₃, O₃⟩ := led_join N₂ O₂ o₂ (fun p hp q hq => Ne.symm (of_offA On q hq p hp))
    rw [Kn.app] at i2 i3 i4
    have e1 : dx ≠ s.heap.objs.size + 1 + 1 := Ne.symm (o₂ (s.heap.objs.size + 1 + 1, orr) (by walk_at "mem") (dx, _) (by walk_at "mem"))
    have e2 : dx ≠ s.heap.objs.size + 1 := Ne.symm (o₂ (s.heap.objs.size + 1, oy) (by walk_at "mem") (dx, _) (by walk_at "mem"))
    have e3 : st ≠ s.heap.objs.size + 1 + 1 := Ne.symm (o₂ (s.heap.objs.size + 1 + 1, orr) (by walk_at "mem") (st, _) (by walk_at "mem"))
    have e4 : st ≠ s.heap.objs.size + 1 := Ne.symm (o₂ (s.heap.objs.size + 1, oy) (by walk_at "mem") (st, _) (by walk_at "mem"))
    have e5 : @Ne Addr (s.heap.objs.size + 1 + 1) (s.heap.objs.size + 1) := hYn
    clear o₂ O₂ N₂ On
    have ok := orth_ok h5 hl hs cols.length (Nat.le_refl _)
    generalize eo : orthR cols cols.length = o at *
    have lo := ok.le
    have j1 := i1.length
    have j2 := i2.length
    have j3 := i3.length
    have j4 := i4.length
    have j6 := ok.l1
    have j7 := ok.l2
    have j8 := ok.l3
    have o64 : o.bas.length ≤ 64 := Nat.le_trans lo (Nat.le_trans h3 (by decide))
    have b64 : bvs.length ≤ 64 := by rw [j2]; exact o64
    have p64 : pvs.length ≤ 64 := by rw [j1, j7]; exact o64
    have s64 : svs.length ≤ 64 := by rw [j4, j8]; exact o64
    (try k_fold)
    (try walk_at "lets")
    walk_at "go"
    refine wpAny_For ?_
    walk_at "go"
    rename_i Dy cy0 _ _ _ _ ly _ oc _ _ Oc dc _ _ _ _ _ _ hR Fh Nh hk
    obtain ⟨n0, hn0⟩ : ∃ n0, n0 = (Dy, lisO yvs cy0) :: (n' ++ tl ++ n2) := ⟨_, rfl⟩
    refine for_rangeV o.bas.length (fun i => (i : Int)) (FitJ2 S ca x dx st (s.heap.objs.size + 1 + 1) (s.heap.objs.size + 1) (fitD w t1 t2 t3 t4 t5 t6 t7 t8 t9 t10 t11 (.ref pv) (.ref bv) (.ref nv) (.ref sv) (.ref st) cov fiv rev .none (.int (o.bas.length : Nat) u1) (.int 0 u2)) oy o ys cv n0) (by assumption) rfl (small_up (by exact om_21 _ _ h3 lo)) size_up (by assumption) (by assumption)
      ⟨none, none, oc, .ref Dy, [], 0, _, rfl, Oc, by walk_at "upd", fun q h => by rw [hn0] at h; exact h, dc, by rw [inR_zero]; exact ⟨Dy, cy0, yvs, rfl, Kn.r (.head _), hys.l⟩, by rw [inR_zero]; trivial⟩ (by intro i hi; exact om_22 _) ?_ ?_
    · rintro i ti m₁ n₁ X' h₁ tk hi ⟨kv, stv, orr', restv, svs', ks, n3, rfl, O₄, rfl, hsub, dcr, hrest, hsteps⟩ ho F₁ N₁
      obtain ⟨N₅, O₅, A₅, oX⟩ := turn_in N₁ ho O₄ (as := [dx, st, s.heap.objs.size + 1 + 1, s.heap.objs.size + 1]) OffA.nil
      clear N₁ ho O₄ Oc Fh Nh
      obtain ⟨r1, r2, r3, r4⟩ := in_ok ok h5 hyl hsy i (by exact om_23 _ _ hi)
      have hjb : i < o.bas.length := hi
      have hjn : i < o.nrm.length := by exact om_24 _ _ _ j6 hjb
      obtain ⟨bj, hbj, rbj⟩ := i2.get i hjb
      obtain ⟨nj, hnj, rnj⟩ := i3.get i hjn
      have sub3 : ∀ q ∈ n' ++ tl ++ n2, q ∈ n3 := fun q hq => hsub q (by rw [hn0]; exact .tail _ hq)
      replace rbj : RatL (Kn S n3) bj o.bas[i] := rbj.mono (Kn.sub sub3)
      replace rnj : RatS (Kn S n3) nj o.nrm[i] := rnj.mono (Kn.sub sub3)
      have sb := ok.szB i _ (List.getElem?_eq_getElem hjb)
      have sn := ok.szN i _ (List.getElem?_eq_getElem hjn)
      have pn := ok.pos o.nrm[i] (List.getElem_mem _)
      have lb := ok.rws o.bas[i] (List.getElem_mem _)
      have hcb := cB_le i (by exact om_25 _ _ _ h3 lo hjb)
      have z1 := om_213 _ hcb
      have z2 := om_214 _ hcb
      have z3 := om_215 _ hcb
      have ij5 : (inR o ys i).1.length ≤ 5 := om_26 _ _ h5 r1
      have ijo : (inR o ys i).1.length = o.bas[i].length := r1.trans lb.symm
      have es := inR_succ o ys i hjb hjn
      have l_ss := hsteps.length
      have mx' := sub3 _ (List.mem_append_right _ mx)
      have mb' := sub3 _ (List.mem_append_right _ mb)
      have mn' := sub3 _ (List.mem_append_right _ mn)
      generalize inR o ys i = ij at *
      generalize o.bas[i] = ob at *
      generalize o.nrm[i] = onj at *
      have sd : Sz (dotR ij.1 ob) (10 * cB i + 6) := (sz_dot _ _ r2 sb).le (by
        have := Nat.mul_le_mul_right (cB i + cB i + 1) ij5
        exact om_210 _ _ this)
      have sf := sz_div sd sn pn
      have i64 : i ≤ 64 := Nat.le_trans (Nat.le_of_lt hi) o64
      have ss64 : svs'.length ≤ 64 := Nat.le_trans (Nat.le_of_eq (l_ss.trans r3)) i64
      refine wpAny_assign_Name ?_
      (try k_fold)
      (try walk_at "lets")
      walk_at "go"
      obtain ⟨N₆, O₆, O₇⟩ := turn_out (X := []) (by assumption) (by assumption) A₅ oX
      exact ⟨_, _, _, _, rfl, fr_upd [("step", some _), ("k", some _), ("found", some (.ref x)), ("column", cv), ("weights", some .none), ("columns", some (.ref ca))] (by assumption) (by walk_at "eqs") (by walk_at "nots"), N₆, O₆, Src.nil, _, _, _, _, _, _, _, rfl, O₇, rfl,
        (fun q hq => by have hq' := hsub q hq; walk_at "mem"), by assumption, by rw [es]; dsimp only [inStep]; assumption, by rw [es]; dsimp only [inStep]; exact RatsS.snoc (by walk_at "kn") (by walk_at "kn")⟩
    · rintro m₁ n₁ h₁ tk₁ ⟨kv, stv, orr', restv, svs', ks, n3, rfl, O₄, rfl, hsub, dcr, hrest, hsteps⟩ F₁ N₁
      clear Oc Fh Nh
      have sub3 : ∀ q ∈ n' ++ tl ++ n2, q ∈ n3 := fun q hq => hsub q (by rw [hn0]; exact .tail _ hq)
      replace i2 : RatLs (Kn S n3) bvs o.bas := RatLs.mono (Kn.sub sub3) i2
      replace i4 : RatLs (Kn S n3) svs o.shr := RatLs.mono (Kn.sub sub3) i4
      have mx' := sub3 _ (List.mem_append_right _ mx)
      have mp' := sub3 _ (List.mem_append_right _ mp)
      have ms' := sub3 _ (List.mem_append_right _ ms)
      (try k_fold)
      (try walk_at "lets")
      walk_at "go"
      rename_i D1 _ _ _ _ lD1 _ cl _ _ _ _ lcl _ _ _ Fh Nh Oh _
      obtain ⟨q1, q2, q3, q4⟩ := in_ok ok h5 hyl hsy o.bas.length (Nat.le_refl _)
      have hsz := sz_of_idx q4 (by exact om_27 _ _ _ h3 lo q3)
      obtain ⟨N₆, O₆, A₆⟩ := led_in2 (Z := []) (as := [dx, st, s.heap.objs.size + 1 + 1, s.heap.objs.size + 1]) Nh Oh (fun p hp => by
        rcases List.mem_append.mp hp with hp | hp
        · rcases List.mem_cons.mp hp with rfl | hp
          · exact lcl (dx, (fitD w t1 t2 t3 t4 t5 t6 t7 t8 t9 t10 t11 (.ref pv) (.ref bv) (.ref nv) (.ref sv) (.ref st) cov fiv rev .none (.int (o.bas.length : Nat) u1) (.int 0 u2))) (by walk_at "mem")
          · exact lcl p (List.mem_append_left _ (.tail _ hp))
        · exact lcl p (List.mem_append_right _ hp)) OffA.nil
      have f1 : cl ≠ dx := Nat.ne_of_gt (lcl (dx, (fitD w t1 t2 t3 t4 t5 t6 t7 t8 t9 t10 t11 (.ref pv) (.ref bv) (.ref nv) (.ref sv) (.ref st) cov fiv rev .none (.int (o.bas.length : Nat) u1) (.int 0 u2))) (by walk_at "mem"))
      have f2 : cl ≠ st := Nat.ne_of_gt (lcl (st, lisO svs' ks) (by walk_at "mem"))
      have f3 : cl ≠ s.heap.objs.size + 1 + 1 := Nat.ne_of_gt (lcl (s.heap.objs.size + 1 + 1, orr') (by walk_at "mem"))
      have f4 : cl ≠ s.heap.objs.size + 1 := Nat.ne_of_gt (lcl (s.heap.objs.size + 1, oy) (by walk_at "mem"))
      clear Nh Oh lcl lD1
      (k_dflt (refine' PureT.useY (back_ok _ x dx st sv _ _ _ _ _ _ _ _ _ _ _ _ _ _ _ _ _ _ _ _ o.bas.length _ _ 35032 35032 _ _ (inR o ys o.bas.length).2 o.shr ?a1 ?a2 ?a3 ?a4 ?a5 ?a6 ?a7 ?a8 ?a9 ?b1 ?b2 ?b3 ?b4) ?kG ?kF ?kN ?kO rfl ?kB rfl rfl rfl ?kd ?_; k_extra "kt"))
      case a1 => exact Kn.r (by walk_at "mem")
      case a2 => exact Kn.r (by walk_at "mem")
      case a3 => exact Kn.r (by walk_at "mem")
      case a4 => exact Kn.r (by walk_at "mem")
      case a5 => exact RatsS.mono (Kn.sub (n := n3) fun q hq => by walk_at "mem") hsteps
      case a6 => exact RatLs.mono (Kn.sub (n := n3) fun q hq => by walk_at "mem") i4
      case a7 => exact q3
      case a8 => exact j8
      case a9 => exact om_28 _ _ h3 lo
      case b1 => exact shr_len ok
      case b2 => exact hsz
      case b3 => exact shr_sz ok (by exact om_28 _ _ h3 lo)
      case b4 => exact om_29
      rintro r tlb h₂ tk₂ F₂ N₂ O₂ o₂ ⟨vD, vk, vvs, tl', rfl, rfl, hvv⟩
      have hvv' := RatsS.strip (by
        refine List.forall_mem_cons.mpr ⟨lis_not_tup _ _, List.forall_mem_cons.mpr ⟨dict_not_tup _ _, List.forall_mem_cons.mpr ⟨lis_not_tup _ _, List.forall_mem_cons.mpr ⟨cell_not_tup dcr, List.forall_mem_cons.mpr ⟨cell_not_tup c0, List.forall_mem_nil _⟩⟩⟩⟩⟩) hvv
      clear hvv O₆ N₆ O₃ o₂
      (try k_fold)
      (try walk_at "lets")
      walk_at "go"
      refine wpAny_For ?_
      walk_at "go"
      have lv := hvv'.length
      have lp := placeR_length o.piv (backOut o.shr o.bas.length (inR o ys o.bas.length).2 o.bas.length) cols.length
      have lvv : (backOut o.shr o.bas.length (inR o ys o.bas.length).2 o.bas.length).length = o.bas.length := by rw [backOut_length]; exact q3
      replace hvv' : RatsS (Kn S ((D1, lisO [Value.none] 0) :: n3 ++ (vD, lisO vvs vk) :: tl')) vvs _ := RatsS.mono (Kn.sub fun q hq => by
        rcases List.mem_append.mp hq with hq | hq
        · exact List.mem_append_left _ hq
        · exact List.mem_append_right _ (.tail _ hq)) hvv'
      generalize ev : backOut o.shr o.bas.length (inR o ys o.bas.length).2 o.bas.length = vals at *
      refine for_rangeV o.bas.length (fun i => (i : Int)) (FitJ3 S ca x cl vD [(dx, (fitD w t1 t2 t3 t4 t5 t6 t7 t8 t9 t10 t11 (.ref pv) (.ref bv) (.ref nv) (.ref sv) (.ref st) (.ref cl) fiv rev .none (.int (o.bas.length : Nat) u1) (.int 0 u2))), (st, lisO svs' ks), (s.heap.objs.size + 1 + 1, orr'), (s.heap.objs.size + 1, oy)] ((D1, lisO [Value.none] 0) :: n3 ++ (vD, lisO vvs vk) :: tl') cv stv o.piv vals cols.length) (by assumption) rfl (small_up (by exact om_21 _ _ h3 lo)) size_up (by assumption) (by assumption)
        ⟨kv, List.replicate cvs.length .none, rfl, by assumption, by walk_at "upd", by rw [el]; exact OptsS.none _ _⟩ (by intro i hi; exact om_22 _) ?_ ?_
      · rintro i ti m₁ n₁ X' h₁ tk hi ⟨kv', cvals, rfl, O₄, rfl, hcv⟩ ho F₁ N₁
        obtain ⟨N₅, O₅, A₅, oX⟩ := turn_in N₁ ho O₄ (as := [cl, dx, st, s.heap.objs.size + 1 + 1, s.heap.objs.size + 1]) OffA.nil
        clear N₁ ho O₄
        have hip : i < o.piv.length := by exact om_24 _ _ _ j7 hi
        have i64 : i ≤ 64 := Nat.le_trans (Nat.le_of_lt hi) o64
        obtain ⟨pvv, hpv, tp, rfl⟩ := i1.get i hip
        have hpl := ok.plt o.piv[i] (List.getElem_mem _)
        have b1 : i < vals.length := by exact om_24 _ _ _ lvv hi
        obtain ⟨vv, hvi, hvr⟩ := hvv'.get i b1
        have lcv := hcv.length
        have lcp := lp i
        have hpc : o.piv[i] < cvals.length := Nat.lt_of_lt_of_eq hpl (lcv.trans lcp).symm
        have hp64 : o.piv[i] ≤ 64 := Nat.le_trans (Nat.le_of_lt hpl) (Nat.le_trans h3 (by decide))
        have ep : placeR o.piv vals cols.length (i + 1) = (placeR o.piv vals cols.length i).set o.piv[i] (some vals[i]) := by
          show List.set _ _ _ = _
          rw [getD_get hip, getD_get b1]
        refine wpAny_assign_Name ?_
        (try k_fold)
        (try walk_at "lets")
        walk_at "go"
        obtain ⟨N₆, O₆, O₇⟩ := turn_out (X := []) (by assumption) (by assumption) A₅ oX
        exact ⟨_, _, _, _, rfl, fr_upd [("values", some (.ref vD)), ("step", stv), ("k", some _), ("found", some (.ref x)), ("column", cv), ("weights", some .none), ("columns", some (.ref ca))] (by assumption) (by walk_at "eqs") (by walk_at "nots"), N₆, O₆, Src.nil, _, _, rfl, O₇, rfl, by rw [ep]; exact OptsS.set o.piv[i] hcv hvr⟩
      · rintro m₁ n₁ h₁ tk₁ ⟨kv', cvals, rfl, O₄, rfl, hcv⟩ F₁ N₁
        obtain ⟨ra, rk, rvs, rfl, hra, hrs⟩ := hrest
        have A₇ : OffA [] [cl, dx, st, s.heap.objs.size + 1 + 1, s.heap.objs.size + 1] := OffA.nil
        have er := hrs.length
        have q1' := q1
        (try k_fold)
        (try walk_at "lets")
        walk_at "go"
        walk1
        refine eval_comp rfl rfl (by decide) ?_
        walk_at "go"
        obtain ⟨n4, hn4⟩ : ∃ n4, n4 = (D1, lisO [Value.none] 0) :: n3 ++ (vD, lisO vvs vk) :: tl' := ⟨_, rfl⟩
        have s34 : ∀ q ∈ n3, q ∈ n4 := fun q hq => by rw [hn4]; exact List.mem_append_left _ (.tail _ hq)
        have hc3 := cB_le3 o.bas.length (by exact om_28 _ _ h3 lo)
        have z5 : 3 + cB o.bas.length ≤ 134217728 := Nat.le_trans (Nat.add_le_add_left hc3 3) (by decide)
        refine comp_range yvs.length (FitJ4 S ([] ++ [(cl, lisO cvals 0), (dx, (fitD w t1 t2 t3 t4 t5 t6 t7 t8 t9 t10 t11 (.ref pv) (.ref bv) (.ref nv) (.ref sv) (.ref st) (.ref cl) fiv (.ref ra) .none (.int (o.bas.length : Nat) u1) (.int 0 u2))), (st, lisO svs' ks), (s.heap.objs.size + 1 + 1, orr'), (s.heap.objs.size + 1, oy)]) n4 (subR ys (inR o ys o.bas.length).1)) (by assumption) rfl (small_up (by exact om_30 _ _ _ h5 hyl ey)) size_up (Nat.le_trans (by exact om_31 _ _ _ h5 hyl ey : yvs.length ≤ 5) (by decide)) (by assumption) (by assumption) ⟨n4, by rw [hn4], by rw [hn4]; assumption, fun q h => h, by simp [RatsS]⟩ (by decide) rfl rfl ?_ (fin_eval ?_)
        · rintro i t hi ys' n₁ Z C oC m₂ h tk ⟨n, rfl, oY, hsub, hr⟩ hs oZ hCm nsC hm₂ F₁ N₁
          have b1 : i < ys.length := by exact om_18 _ _ _ ey hi
          have i64 : i ≤ 64 := Nat.le_trans (Nat.le_of_lt hi) y64
          have b2 : i < (inR o ys o.bas.length).1.length := by exact om_32 _ _ _ _ hyl q1' b1
          obtain ⟨x', hx', x1, x2, x3, rfl, hxs⟩ := hys.get i b1
          obtain ⟨y', hy', y1, y2, y3, rfl, hys'⟩ := hrs.get i b2
          have rx : RatS S (.ref x1) ys[i] := ⟨_, _, _, rfl, hxs⟩
          have ry : RatS (Kn S n) (.ref y1) (inR o ys o.bas.length).1[i] := ⟨_, _, _, rfl, Kn.sub (fun q hq => hsub q (s34 q hq)) _ _ hys'⟩
          have hra' : Kn S n ra (lisO rvs rk) := Kn.sub (fun q hq => hsub q (s34 q hq)) _ _ hra
          have sx := hsy ys[i] (List.getElem_mem _)
          have sy := q2 (inR o ys o.bas.length).1[i] (List.getElem_mem _)
          have N₂ := led_in N₁
          have O₂ := oZ.rr.appL oY
          have oZY := oZ.ll
          simp only [Int.zero_add, Int.mul_one] at hm₂
          clear N₁
          refine tests_nil ?_
          (try k_fold)
          (try walk_at "lets")
          walk_at "go"
          refine ⟨_, _, _, rfl, by assumption, led_out (by assumption), Off.mk oZY (Off.l (by assumption)), Src.nil, _, rfl, Off.r (by assumption), fun q hq => List.mem_append_left _ (hsub q hq), ?_⟩
          rw [subR_get ys _ i b1 b2]
          exact RatsS.snoc (hr.mono fun a o e => Kn.appR _ _ e) (by assumption)
        · rintro D fys n₁ kk h₅ tk₅ ⟨n, rfl, oY, hsub, hr⟩ F₅ N₅ o₅
          obtain ⟨N₆, O₆⟩ := led_push N₅ oY o₅
          clear N₅ oY o₅
          rw [List.take_of_length_le (by rw [subR_length _ _ (by exact om_33 _ _ _ hyl q1')]; exact om_34 _ _ ey)] at hr
          have mx5 : (x, instObj 389 dx) ∈ n := hsub _ (s34 _ mx')
          (try k_fold)
          (try walk_at "lets")
          walk_at "go"
          subst ev
          subst eo
          have e9 : (ys.length : Int) = yvs.length := by rw [ey]
          refine k _ _ _ _ (Fr.keep (by assumption)) (of_news (by assumption)) ?_
          refine' ⟨x, dx, t1, t2, t3, t4, t5, t6, t7, t8, t9, t10, t11, .ref pv, .ref bv, .ref nv, .ref sv, .ref st, cl, .ref D, .ref ra, .none, u1, ?u2, 0, cvals, rfl, Kn.r (by walk_at "mem"), ?dict, Kn.r (by walk_at "mem"), ?opt, ?fit, ?res⟩
          case dict =>
            show Kn _ _ dx (fitD w t1 t2 t3 t4 t5 t6 t7 t8 t9 t10 t11 (.ref pv) (.ref bv) (.ref nv) (.ref sv) (.ref st) (.ref cl) (.ref D) (.ref ra) .none (.int ((orthR cols cols.length).bas.length : Nat) u1) (.int ((ys.length : Int) - ((orthR cols cols.length).bas.length : Nat)) _))
            rw [e9]
            exact Kn.r (by walk_at "mem")
          case opt => exact OptsS.mono (Kn.sub (fun q hq => List.mem_append_right _ (List.mem_append_left _ (.tail _ (hsub q (by rw [hn4]; exact hq)))))) hcv
          case fit => exact ⟨D, kk, fys, rfl, Kn.r (by walk_at "mem"), RatsS.mono (Kn.sub (fun q hq => List.mem_append_right _ (List.mem_append_left _ (.tail _ hq)))) hr⟩
          case res => exact ⟨ra, rk, rvs, rfl, Kn.sub (fun q hq => List.mem_append_right _ (List.mem_append_left _ (.tail _ (hsub q (s34 q hq))))) _ _ hra, RatsS.mono (Kn.sub (fun q hq => List.mem_append_right _ (List.mem_append_left _ (.tail _ (hsub q (s34 q hq)))))) hrs⟩

theorem as_double_ok (S : Store) (kind : Str) (kt : Tok) (v : Value) (q : Rat) (hv : ItemS S kind v q) : Pure w 2 176 [.str kind kt, v] S (fun S' r => RatS S' r q) := by
  (try unfold Pure)
  unfold PureT
  intro dp un fr gd base s Q E hdp G Bl k
  obtain ⟨mean, mg, mb, T⟩ := G.t
  have X := G.In
  (refine wpAny_call ?_; k_dflt (refine' enterP (binds := [("kind", Value.str kind kt), ("item", v)]) ?k1 ?k2 ?k6 ?k7 ?k8 ?k9 ?kB ?_ ?c5 ?c2 ?c3 ?c4; k_extra "ktr"))
  intro h₁ F
  have N : News s.heap s.heap.objs.size h₁ ([] ++ []) := News.nil
  have O : Off [] [] := fun _ h => nomatch h
  walk_at "clean"
  rcases hv with ⟨hk, hv⟩ | ⟨hk, n, t, rfl, rfl⟩
  · obtain ⟨a, t1, t2, rfl, hx⟩ := hv
    have hv : RatS S (.ref a) q := ⟨a, t1, t2, rfl, hx⟩
    subst hk
    walk_at "go"
    exact k _ [] _ _ (Fr.keep (by assumption)) (by simp) hv.l
  · walk_at "go"
    · rename_i h9
      exact absurd (beq_iff_eq.mp h9) hk
    · exact k _ _ _ _ (Fr.keep (by assumption)) (of_news (by assumption)) ⟨_, _, _, rfl, Kn.r (by rw [Rat.num_intCast, Rat.den_intCast]; exact .head _)⟩


theorem null_ok (S : Store) : PureT w 6 233 [] S (NulMade w) := by
  (try unfold Pure)
  unfold PureT
  intro dp un fr gd base s Q E hdp G Bl k
  obtain ⟨mean, mg, mb, T⟩ := G.t
  have X := G.In
  (refine wpAny_call ?_; k_dflt (refine' enterP (binds := []) ?k1 ?k2 ?k6 ?k7 ?k8 ?k9 ?kB ?_ ?c5 ?c2 ?c3 ?c4; k_extra "ktr"))
  intro h₁ F
  have N : News s.heap s.heap.objs.size h₁ ([] ++ []) := News.nil
  have O : Off [] [] := fun _ h => nomatch h
  walk_at "clean"
  walk_at "go"
  (k_dflt (refine' PureT.use (null0_ok _) ?kG ?kF ?kN ?kO rfl ?kB rfl rfl rfl ?kd ?_; k_extra "kt"))
  rintro r tl h' tk' F' N' O' o' ⟨x, dx, t1, t2, t3, hlt, rfl, rfl⟩
  (try k_sweep)
  walk_at "go"
  exact k _ _ _ _ (Fr.keep (by assumption)) (of_news (by assumption)) ⟨x, dx, t1, t2, t3, hlt, rfl, rfl⟩


inductive DblMade (w : World) (kind : Str) (vs : List Value) (tl : Led) (r : Value) : Prop
  | mk (kt x dx D c n' : _) (h1_ : VecN w tl r x dx (.str kind kt) (.ref D) .none n') (h2_ : (D, lisO vs c) ∈ n') : DblMade w kind vs tl r
theorem double_ok (S : Store) (a : Addr) (ka : Nat) (vs : List Value) (ha : S a (lisO vs ka)) (hz : vs.length ≤ 64) : PureT w 7 240 [.ref a] S (DblMade w "double" vs) := by
  (try unfold Pure)
  unfold PureT
  intro dp un fr gd base s Q E hdp G Bl k
  obtain ⟨mean, mg, mb, T⟩ := G.t
  have X := G.In
  (refine wpAny_call ?_; k_dflt (refine' enterP (binds := [("items", Value.ref a)]) ?k1 ?k2 ?k6 ?k7 ?k8 ?k9 ?kB ?_ ?c5 ?c2 ?c3 ?c4; k_extra "ktr"))
  intro h₁ F
  have N : News s.heap s.heap.objs.size h₁ ([] ++ []) := News.nil
  have O : Off [] [] := fun _ h => nomatch h
  walk_at "clean"
  walk_at "go"
  rename_i D c _ _ _ _ _ _ lt
  (k_dflt (refine' PureT.use (vec2_ok _ _ _) ?kG ?kF ?kN ?kO rfl ?kB rfl rfl rfl ?kd ?_; k_extra "kt"))
  rintro r tl h' tk' F' N' O' o' ⟨x, dx, t1, t2, t3, t4, t5, hlt, rfl, rfl⟩
  (try k_sweep)
  walk_at "go"
  exact k _ ((dx, _) :: [(x, instObj 222 dx), (D, _)]) _ _ (Fr.keep (by assumption)) (vec_led (w := w) N') ⟨_, x, dx, D, _, _, ⟨rfl, ⟨t1, t2, t3, t4, t5, rfl⟩, vec_off hlt o', .head _⟩, .tail _ (.head _)⟩


theorem character_ok (S : Store) (a : Addr) (ka : Nat) (vs : List Value) (ha : S a (lisO vs ka)) (hz : vs.length ≤ 64) : PureT w 7 247 [.ref a] S (DblMade w "character" vs) := by
  (try unfold Pure)
  unfold PureT
  intro dp un fr gd base s Q E hdp G Bl k
  obtain ⟨mean, mg, mb, T⟩ := G.t
  have X := G.In
  (refine wpAny_call ?_; k_dflt (refine' enterP (binds := [("items", Value.ref a)]) ?k1 ?k2 ?k6 ?k7 ?k8 ?k9 ?kB ?_ ?c5 ?c2 ?c3 ?c4; k_extra "ktr"))
  intro h₁ F
  have N : News s.heap s.heap.objs.size h₁ ([] ++ []) := News.nil
  have O : Off [] [] := fun _ h => nomatch h
  walk_at "clean"
  walk_at "go"
  rename_i D c _ _ _ _ _ _ lt
  (k_dflt (refine' PureT.use (vec2_ok _ _ _) ?kG ?kF ?kN ?kO rfl ?kB rfl rfl rfl ?kd ?_; k_extra "kt"))
  rintro r tl h' tk' F' N' O' o' ⟨x, dx, t1, t2, t3, t4, t5, hlt, rfl, rfl⟩
  (try k_sweep)
  walk_at "go"
  exact k _ ((dx, _) :: [(x, instObj 222 dx), (D, _)]) _ _ (Fr.keep (by assumption)) (vec_led (w := w) N') ⟨_, x, dx, D, _, _, ⟨rfl, ⟨t1, t2, t3, t4, t5, rfl⟩, vec_off hlt o', .head _⟩, .tail _ (.head _)⟩


theorem whole_ok (S : Store) (v : Value) : PureT w 7 267 [v] S (DblMade w "integer" [v]) := by
  (try unfold Pure)
  unfold PureT
  intro dp un fr gd base s Q E hdp G Bl k
  obtain ⟨mean, mg, mb, T⟩ := G.t
  have X := G.In
  (refine wpAny_call ?_; k_dflt (refine' enterP (binds := [("n", v)]) ?k1 ?k2 ?k6 ?k7 ?k8 ?k9 ?kB ?_ ?c5 ?c2 ?c3 ?c4; k_extra "ktr"))
  intro h₁ F
  have N : News s.heap s.heap.objs.size h₁ ([] ++ []) := News.nil
  have O : Off [] [] := fun _ h => nomatch h
  walk_at "clean"
  walk_at "go"
  rename_i D _ _ _ _ _ _ lt
  (k_dflt (refine' PureT.use (vec2_ok _ _ _) ?kG ?kF ?kN ?kO rfl ?kB rfl rfl rfl ?kd ?_; k_extra "kt"))
  rintro r tl h' tk' F' N' O' o' ⟨x, dx, t1, t2, t3, t4, t5, hlt, rfl, rfl⟩
  (try k_sweep)
  walk_at "go"
  exact k _ ((dx, _) :: [(x, instObj 222 dx), (D, _)]) _ _ (Fr.keep (by assumption)) (vec_led (w := w) N') ⟨_, x, dx, D, _, _, ⟨rfl, ⟨t1, t2, t3, t4, t5, rfl⟩, vec_off hlt o', .head _⟩, .tail _ (.head _)⟩


theorem given_ok (S : Store) (a : Addr) (nm : Str) (nt : Tok) : Pure w 2 456 [.ref a, .str nm nt] S (fun _ r => r = .ref a) := by
  (try unfold Pure)
  unfold PureT
  intro dp un fr gd base s Q E hdp G Bl k
  obtain ⟨mean, mg, mb, T⟩ := G.t
  have X := G.In
  (refine wpAny_call ?_; k_dflt (refine' enterP (binds := [("v", Value.ref a), ("name", Value.str nm nt)]) ?k1 ?k2 ?k6 ?k7 ?k8 ?k9 ?kB ?_ ?c5 ?c2 ?c3 ?c4; k_extra "ktr"))
  intro h₁ F
  have N : News s.heap s.heap.objs.size h₁ ([] ++ []) := News.nil
  have O : Off [] [] := fun _ h => nomatch h
  walk_at "clean"
  walk_at "go"
  exact k _ [] _ _ (Fr.keep (by assumption)) (by simp) rfl


theorem first_ok (S : Store) (a t : Addr) (ka : Nat) (rest : List Value) (g v : Value) (ha : S a (lisO (.ref t :: rest) ka)) (hz : rest.length ≤ 64) (ht : S t (tupO [g, v])) : Pure w 2 464 [.ref a] S (fun _ r => r = v) := by
  (try unfold Pure)
  unfold PureT
  intro dp un fr gd base s Q E hdp G Bl k
  obtain ⟨mean, mg, mb, T⟩ := G.t
  have X := G.In
  (refine wpAny_call ?_; k_dflt (refine' enterP (binds := [("args", Value.ref a), ("name", Value.str "object" 775)]) ?k1 ?k2 ?k6 ?k7 ?k8 ?k9 ?kB ?_ ?c5 ?c2 ?c3 ?c4; k_extra "ktr"))
  intro h₁ F
  have N : News s.heap s.heap.objs.size h₁ ([] ++ []) := News.nil
  have O : Off [] [] := fun _ h => nomatch h
  walk_at "clean"
  have hzz : (.ref t :: rest : List Value).length ≤ 65 := by simp; exact om_63 _ hz
  have hpos : (.ref t :: rest : List Value).length = rest.length + 1 := rfl
  have hl0 : (.ref t :: rest : List Value)[(0 : Int).toNat]? = some (.ref t) := rfl
  walk_at "go"
  exact k _ [] _ _ (Fr.keep (by assumption)) (by simp) rfl


theorem get_attr_ok (S : Store) (v kv iv av sv lv r0 : Value) (nm : Str) (nt : Tok) (hv : VecS w S v kv iv av sv lv) (ha : AttrV w S av nm r0) : Pure w 2 28 [v, .str nm nt] S (fun _ r => r = r0) := by
  (try unfold Pure)
  unfold PureT
  intro dp un fr gd base s Q E hdp G Bl k
  obtain ⟨mean, mg, mb, T⟩ := G.t
  have X := G.In
  obtain ⟨x, dx, t1, t2, t3, t4, t5, rfl, hx, hdx⟩ := hv
  (refine wpAny_call ?_; k_dflt (refine' enterP (binds := [("v", Value.ref x), ("name", Value.str nm nt)]) ?k1 ?k2 ?k6 ?k7 ?k8 ?k9 ?kB ?_ ?c5 ?c2 ?c3 ?c4; k_extra "ktr"))
  intro h₁ F
  have N : News s.heap s.heap.objs.size h₁ ([] ++ []) := News.nil
  have O : Off [] [] := fun _ h => nomatch h
  walk_at "clean"
  rcases ha with ⟨rfl, rfl⟩ | ⟨ad, od, kvs, rfl, had, hkl, hr, lo⟩
  · walk_at "go"
    exact k _ [] _ _ (Fr.keep (by assumption)) (by simp) rfl
  · walk_at "go"
    exact k _ [] _ _ (Fr.keep (by assumption)) (by simp) rfl


theorem share_ok (S : Store) (x dx : Addr) (t1 t2 t3 t4 t5 : Tok) (kv iv av sv lv : Value) (hx : S x (instObj 222 dx)) :
    MutT w 2 274 [.ref x] S [(dx, vecD w t1 t2 t3 t4 t5 kv iv av sv lv)] (fun X' tl r => r = .ref x ∧ tl = [] ∧ X' = [(dx, vecD w t1 t2 t3 t4 t5 kv iv av (.bool true) lv)]) := by
  unfold MutT
  intro dp un fr gd base g s Q E hdp G Bl hg hz hX k
  obtain ⟨mean, mg, mb, T⟩ := G.t
  have X := G.In
  refine wpAny_call ?_
  k_dflt (refine' enterM (binds := [("v", Value.ref x)]) ?k1 ?k2 hg hz hX ?k6 ?k7 ?k8 ?k9 ?kB ?_ ?c5 ?c2 ?c3 ?c4; (case k1 => assumption); (case k2 => assumption); (case k6 => k_is); (case k7 => k_is); (case k8 => first | exact room_lt (by assumption) | omega | (dsimp only [Around.deeper]; omega)); (case k9 => first | exact BindsTo.of_eq rfl | exact binds_K (X.keeps hg) rfl (by k_is) rfl rfl rfl); (case c5 => decide); (case kB => exact locs rfl); (case c2 => exact rfl); (case c3 => exact rfl); (case c4 => exact rfl); k_whole)
  intro h₁ F N
  have O : Off [(dx, vecD w t1 t2 t3 t4 t5 kv iv av sv lv)] [] := Off.nilR
  walk_at "clean"
  walk_at "go"
  (try dsimp only)
  refine k _ _ [] _ _ ?_ ?_ Off.nilR rfl ⟨rfl, rfl, rfl⟩
  · exact Fr.keep (by assumption)
  · exact of_news (by assumption)
theorem rows_V3_1 : True := by
  k_with "o call ref" => (first | (((with_reducible show wpAny _ _ (call (Value.ref 28) _) _ _ _); k_dflt ((k_dflt (refine' Pure.useN (get_attr_ok _ _ _ _ _ _ _ _ _ _ ?k0_63 ?k1_63) ?kG ?kF ?kN ?kO rfl ?kB rfl rfl rfl ?kd ?_; k_extra "kt")); (case k0_63 => k_extra "o vec"); (case k1_63 => k_extra "o vec")); intro _ _ _ _ _ _ _ _ _ _ hp; subst hp; (try k_sweep))) | fail "-")
  k_with "o call ref" => (first | (((with_reducible show wpAny _ _ (call (Value.ref 456) _) _ _ _); k_dflt ((k_dflt (refine' Pure.useN (given_ok _ _ _ _) ?kG ?kF ?kN ?kO rfl ?kB rfl rfl rfl ?kd ?_; k_extra "kt"))); intro _ _ _ _ _ _ _ _ _ _ hp; subst hp; (try k_sweep))) | fail "-")
  trivial

theorem dim_none (S : Store) (v kv iv av sv lv : Value) (hv : VecS w S v kv iv av sv lv) (ha : AttrV w S av "dim" .none) : Pure w 4 40 [v] S (fun _ r => r = .none) := by
  (try unfold Pure)
  unfold PureT
  intro dp un fr gd base s Q E hdp G Bl k
  obtain ⟨mean, mg, mb, T⟩ := G.t
  have X := G.In
  obtain ⟨x, dx, t1, t2, t3, t4, t5, rfl, hx, hdx⟩ := id hv
  (refine wpAny_call ?_; k_dflt (refine' enterP (binds := [("v", Value.ref x)]) ?k1 ?k2 ?k6 ?k7 ?k8 ?k9 ?kB ?_ ?c5 ?c2 ?c3 ?c4; k_extra "ktr"))
  intro h₁ F
  have N : News s.heap s.heap.objs.size h₁ ([] ++ []) := News.nil
  have O : Off [] [] := fun _ h => nomatch h
  walk_at "clean"
  walk_at "go"
  exact k _ _ _ _ (Fr.keep (by assumption)) (of_news (by assumption)) rfl


theorem dim_some (S : Store) (v kv iv av sv lv dv kv2 av2 sv2 lv2 : Value) (dl : Addr) (ds : List Value) (kd : Nat) (hv : VecS w S v kv iv av sv lv) (ha : AttrV w S av "dim" dv) (hd : VecS w S dv kv2 (.ref dl) av2 sv2 lv2) (hl : S dl (lisO ds kd)) (hz : ds.length ≤ 64) : Pure w 4 40 [v] S (fun S' r => ∃ D c, r = .ref D ∧ S' D (lisO ds c)) := by
  (try unfold Pure)
  unfold PureT
  intro dp un fr gd base s Q E hdp G Bl k
  obtain ⟨mean, mg, mb, T⟩ := G.t
  have X := G.In
  obtain ⟨x, dx, t1, t2, t3, t4, t5, rfl, hx, hdx⟩ := id hv
  obtain ⟨x2, dx2, u1, u2, u3, u4, u5, rfl, hx2, hdx2⟩ := id hd
  (refine wpAny_call ?_; k_dflt (refine' enterP (binds := [("v", Value.ref x)]) ?k1 ?k2 ?k6 ?k7 ?k8 ?k9 ?kB ?_ ?c5 ?c2 ?c3 ?c4; k_extra "ktr"))
  intro h₁ F
  have N : News s.heap s.heap.objs.size h₁ ([] ++ []) := News.nil
  have O : Off [] [] := fun _ h => nomatch h
  walk_at "clean"
  walk_at "go"
  exact k _ _ _ _ (Fr.keep (by assumption)) (of_news (by assumption)) ⟨_, _, rfl, Kn.r (by walk_at "mem")⟩


theorem dimnames_none (S : Store) (v kv iv av sv lv : Value) (hv : VecS w S v kv iv av sv lv) (ha : AttrV w S av "dimnames" .none) : Pure w 4 45 [v] S (fun _ r => r = .none) := by
  (try unfold Pure)
  unfold PureT
  intro dp un fr gd base s Q E hdp G Bl k
  obtain ⟨mean, mg, mb, T⟩ := G.t
  have X := G.In
  obtain ⟨x, dx, t1, t2, t3, t4, t5, rfl, hx, hdx⟩ := id hv
  (refine wpAny_call ?_; k_dflt (refine' enterP (binds := [("v", Value.ref x)]) ?k1 ?k2 ?k6 ?k7 ?k8 ?k9 ?kB ?_ ?c5 ?c2 ?c3 ?c4; k_extra "ktr"))
  intro h₁ F
  have N : News s.heap s.heap.objs.size h₁ ([] ++ []) := News.nil
  have O : Off [] [] := fun _ h => nomatch h
  walk_at "clean"
  walk_at "go"
  exact k _ _ _ _ (Fr.keep (by assumption)) (of_news (by assumption)) rfl


theorem dimnames_some (S : Store) (v kv iv av sv lv dv kv2 av2 sv2 lv2 nv nk na ns nl : Value) (il nu ndx ni : Addr) (nvs : List Value) (ki kn : Nat) (n1 n2 n3 : Tok) (kq : Str) (kt : Tok) (hv : VecS w S v kv iv av sv lv) (ha : AttrV w S av "dimnames" dv) (hd : VecS w S dv kv2 (.ref il) av2 sv2 lv2) (hi : S il (lisO [.ref nu, nv] ki)) (hnu : S nu (instObj 193 ndx)) (hnd : S ndx (nulD w n1 n2 n3)) (hnv : VecS w S nv (.str "character" kt) (.ref ni) na ns nl) (hni : S ni (lisO nvs kn)) (hz : nvs.length ≤ 64) : Pure w 4 45 [v] S (fun S' r => ∃ D c D2 c2, r = .ref D ∧ S' D (lisO [.none, .ref D2] c) ∧ S' D2 (lisO nvs c2)) := by
  (try unfold Pure)
  unfold PureT
  intro dp un fr gd base s Q E hdp G Bl k
  obtain ⟨mean, mg, mb, T⟩ := G.t
  have X := G.In
  obtain ⟨x, dx, t1, t2, t3, t4, t5, rfl, hx, hdx⟩ := id hv
  obtain ⟨x2, dx2, u1, u2, u3, u4, u5, rfl, hx2, hdx2⟩ := id hd
  obtain ⟨x3, dx3, v1, v2, v3, v4, v5, rfl, hx3, hdx3⟩ := id hnv
  (refine wpAny_call ?_; k_dflt (refine' enterP (binds := [("v", Value.ref x)]) ?k1 ?k2 ?k6 ?k7 ?k8 ?k9 ?kB ?_ ?c5 ?c2 ?c3 ?c4; k_extra "ktr"))
  intro h₁ F
  have N : News s.heap s.heap.objs.size h₁ ([] ++ []) := News.nil
  have O : Off [] [] := fun _ h => nomatch h
  walk_at "clean"
  walk_at "go"
  refine eval_comp rfl rfl (by decide) ?_
  walk_at "go"
  refine comp_list (vs := [.ref nu, .ref x3]) (fun i ys n₁ => DimJ nvs i ys n₁) (Or.inl (G.s _ _ hi)) rfl (Nat.le_of_ble_eq_true rfl) (by assumption) (by assumption) rfl (by decide) rfl rfl ?_ (fin_eval ?_)
  · rintro i vv hv' ys n₁ Z C oC m₂ h tk hJ hs oZ hCm nsC hm₂ F₁ N₁
    match i with
    | 0 =>
      cases hv'
      obtain rfl : ys = [] := hJ
      refine tests_nil ?_
      (try k_fold)
      walk_at "go"
      exact ⟨_, _, _, rfl, by assumption, by assumption, by assumption, hs, rfl⟩
    | 1 =>
      cases hv'
      obtain rfl : ys = [.none] := hJ
      refine tests_nil ?_
      (try k_fold)
      walk_at "go"
      exact ⟨_, _, _, rfl, by assumption, by assumption, by assumption, hs.sub fun p hp => .tail _ hp, _, _, rfl, .head _⟩
    | i + 2 => cases hv'
  · rintro D ys n₁ kk h tk ⟨D2, c2, rfl, hm⟩ F₁ N₁ o1
    (try dsimp only)
    exact k _ _ _ _ (Fr.keep F₁) (of_news N₁) ⟨D, kk, D2, c2, rfl, Kn.r (.head _), Kn.r (.tail _ hm)⟩


theorem names_of_ok (S : Store) (v iv av sv lv nv nk na ns nl : Value) (ni : Addr) (nvs : List Value) (kn : Nat) (kt : Tok) (hv : VecS w S v (.str "list" kt) iv av sv lv) (ha : AttrV w S av "dim" .none) (hb : AttrV w S av "names" nv) (hnv : VecS w S nv nk (.ref ni) na ns nl) (hni : S ni (lisO nvs kn)) (hz : nvs.length ≤ 64) : Pure w 6 33 [v] S (fun S' r => ∃ D c, r = .ref D ∧ S' D (lisO nvs c)) := by
  (try unfold Pure)
  unfold PureT
  intro dp un fr gd base s Q E hdp G Bl k
  obtain ⟨mean, mg, mb, T⟩ := G.t
  have X := G.In
  obtain ⟨x, dx, t1, t2, t3, t4, t5, rfl, hx, hdx⟩ := id hv
  obtain ⟨x3, dx3, v1, v2, v3, v4, v5, rfl, hx3, hdx3⟩ := id hnv
  (refine wpAny_call ?_; k_dflt (refine' enterP (binds := [("v", Value.ref x)]) ?k1 ?k2 ?k6 ?k7 ?k8 ?k9 ?kB ?_ ?c5 ?c2 ?c3 ?c4; k_extra "ktr"))
  intro h₁ F
  have N : News s.heap s.heap.objs.size h₁ ([] ++ []) := News.nil
  have O : Off [] [] := fun _ h => nomatch h
  walk_at "clean"
  walk_at "go"
  (k_dflt (refine' Pure.use (dim_none _ _ _ _ _ _ _ ?k0 ?k1) ?kG ?kF ?kN ?kO rfl ?kB rfl rfl rfl ?kd ?_; k_extra "kt"))
  case k0 => walk_at "vec"
  case k1 => walk_at "vec"
  rintro r tl h' tk' F' N' O' o' rfl
  (try k_sweep)
  walk_at "go"
  exact k _ _ _ _ (Fr.keep (by assumption)) (of_news (by assumption)) ⟨_, _, rfl, Kn.r (by walk_at "mem")⟩


theorem part_in (S : Store) (v av sv lv nv nk na ns nl : Value) (ii ni : Addr) (ivs nvs : List Value) (ki kn : Nat) (kt nt : Tok) (name : Str) (yn : List Str) (hv : VecS w S v (.str "list" kt) (.ref ii) av sv lv) (ha : AttrV w S av "dim" .none) (hb : AttrV w S av "names" nv) (hnv : VecS w S nv nk (.ref ni) na ns nl) (hni : S ni (lisO nvs kn)) (hz : yn.length ≤ 64) (hii : S ii (lisO ivs ki)) (hst : StrsAre nvs yn) (j : Nat) (r0 : Value) (hany : yn.any (· == name) = true) (hj : yn.idxOf name = j) (hjl : j < yn.length) (hr : ivs[((j : Nat) : Int).toNat]? = some r0) : Pure w 8 288 [v, .str name nt] S (fun _ r => r = r0) := by
  (try unfold Pure)
  unfold PureT
  intro dp un fr gd base s Q E hdp G Bl k
  obtain ⟨mean, mg, mb, T⟩ := G.t
  have X := G.In
  obtain ⟨x, dx, t1, t2, t3, t4, t5, rfl, hx, hdx⟩ := id hv
  have hlen := strs_length hst
  (refine wpAny_call ?_; k_dflt (refine' enterP (binds := [("v", Value.ref x), ("name", Value.str name nt)]) ?k1 ?k2 ?k6 ?k7 ?k8 ?k9 ?kB ?_ ?c5 ?c2 ?c3 ?c4; k_extra "ktr"))
  intro h₁ F
  have N : News s.heap s.heap.objs.size h₁ ([] ++ []) := News.nil
  have O : Off [] [] := fun _ h => nomatch h
  walk_at "clean"
  walk_at "go"
  (k_dflt (refine' Pure.use (names_of_ok _ _ _ _ _ _ _ _ _ _ _ _ _ _ _ ?k0 ?k1 ?k2 ?k3 ?k4 ?k5) ?kG ?kF ?kN ?kO rfl ?kB rfl rfl rfl ?kd ?_; k_extra "kt"))
  case k0 => walk_at "vec"
  case k1 => walk_at "vec"
  case k2 => walk_at "vec"
  case k3 => walk_at "vec"
  case k4 => walk_at "kn"
  case k5 => exact om_201 _ _ hz hlen
  rintro r tl h' tk' F' N' O' o' ⟨D, c, rfl, hD⟩
  (try k_sweep)
  walk_at "go"
  exact k _ _ _ _ (Fr.keep (by assumption)) (of_news (by assumption)) rfl


theorem part_out (S : Store) (v av sv lv nv nk na ns nl : Value) (ii ni : Addr) (ivs nvs : List Value) (ki kn : Nat) (kt nt : Tok) (name : Str) (yn : List Str) (hv : VecS w S v (.str "list" kt) (.ref ii) av sv lv) (ha : AttrV w S av "dim" .none) (hb : AttrV w S av "names" nv) (hnv : VecS w S nv nk (.ref ni) na ns nl) (hni : S ni (lisO nvs kn)) (hz : yn.length ≤ 64) (hii : S ii (lisO ivs ki)) (hst : StrsAre nvs yn) (hany : yn.any (· == name) = false) : Pure w 8 288 [v, .str name nt] S (fun _ r => r = .none) := by
  (try unfold Pure)
  unfold PureT
  intro dp un fr gd base s Q E hdp G Bl k
  obtain ⟨mean, mg, mb, T⟩ := G.t
  have X := G.In
  obtain ⟨x, dx, t1, t2, t3, t4, t5, rfl, hx, hdx⟩ := id hv
  have hlen := strs_length hst
  (refine wpAny_call ?_; k_dflt (refine' enterP (binds := [("v", Value.ref x), ("name", Value.str name nt)]) ?k1 ?k2 ?k6 ?k7 ?k8 ?k9 ?kB ?_ ?c5 ?c2 ?c3 ?c4; k_extra "ktr"))
  intro h₁ F
  have N : News s.heap s.heap.objs.size h₁ ([] ++ []) := News.nil
  have O : Off [] [] := fun _ h => nomatch h
  walk_at "clean"
  walk_at "go"
  (k_dflt (refine' Pure.use (names_of_ok _ _ _ _ _ _ _ _ _ _ _ _ _ _ _ ?k0 ?k1 ?k2 ?k3 ?k4 ?k5) ?kG ?kF ?kN ?kO rfl ?kB rfl rfl rfl ?kd ?_; k_extra "kt"))
  case k0 => walk_at "vec"
  case k1 => walk_at "vec"
  case k2 => walk_at "vec"
  case k3 => walk_at "vec"
  case k4 => walk_at "kn"
  case k5 => exact om_201 _ _ hz hlen
  rintro r tl h' tk' F' N' O' o' ⟨D, c, rfl, hD⟩
  (try k_sweep)
  walk_at "go"
  exact k _ _ _ _ (Fr.keep (by assumption)) (of_news (by assumption)) rfl

theorem part_ok (S : Store) (v : Value) (yn : List Str) (ivs : List Value) (name : Str) (nt : Tok) (h : NamedS w S v yn ivs) : Pure w 8 288 [v, .str name nt] S (fun _ r => (yn.any (· == name) = true ∧ ivs[yn.idxOf name]? = some r ∧ ∃ a, r = .ref a) ∨ (yn.any (· == name) = false ∧ r = .none)) := by
  obtain ⟨⟨kt, ii, ni, av, sv, lv, nv, nk, na, ns, nl, ki, kn, nvs, a, b, c, d, e, f, g⟩, z, l, rr⟩ := h
  cases hany : yn.any (· == name) with
  | true =>
    have hlt := any_idx hany
    have hr : ivs[((yn.idxOf name : Nat) : Int).toNat]? = some (ivs[yn.idxOf name]'(by exact om_24 _ _ _ l hlt)) := by
      rw [Int.toNat_natCast]; exact List.getElem?_eq_getElem (by exact om_24 _ _ _ l hlt)
    exact (part_in S v av sv lv nv nk na ns nl ii ni ivs nvs ki kn kt nt name yn a b c d e z f g _ _ hany rfl hlt hr).mono fun S' r hq => .inl ⟨rfl, by rw [hq]; exact List.getElem?_eq_getElem (by exact om_24 _ _ _ l hlt), by rw [hq]; exact rr _ (List.getElem_mem _)⟩
  | false => exact (part_out S v av sv lv nv nk na ns nl ii ni ivs nvs ki kn kt nt name yn a b c d e z f g hany).mono fun S' r hq => .inr ⟨rfl, hq⟩

theorem wanted_ok (S : Store) (v : Value) (yn : List Str) (ivs : List Value) (name : Str) (nt : Tok) (h : NamedS w S v yn ivs) : Pure w 10 295 [v, .str name nt] S (fun S' r => WantP w yn ivs name S' r) := by
  (try unfold Pure)
  unfold PureT
  intro dp un fr gd base s Q E hdp G Bl k
  obtain ⟨mean, mg, mb, T⟩ := G.t
  have X := G.In
  (refine wpAny_call ?_; k_dflt (refine' enterP (binds := [("v", v), ("name", Value.str name nt)]) ?k1 ?k2 ?k6 ?k7 ?k8 ?k9 ?kB ?_ ?c5 ?c2 ?c3 ?c4; k_extra "ktr"))
  intro h₁ F
  have N : News s.heap s.heap.objs.size h₁ ([] ++ []) := News.nil
  have O : Off [] [] := fun _ h => nomatch h
  walk_at "clean"
  walk_at "go"
  (k_dflt (refine' Pure.use (part_ok _ _ _ _ _ _ h.l') ?kG ?kF ?kN ?kO rfl ?kB rfl rfl rfl ?kd ?_; k_extra "kt"))
  rintro r tl h' tk' F' N' O' o' hq
  (try k_sweep)
  rcases hq with ⟨ha, hi, a, rfl⟩ | ⟨ha, rfl⟩
  · walk_at "go"
    exact k _ _ _ _ (Fr.keep (by assumption)) (of_news (by assumption)) ⟨fun _ => hi, fun e => by rw [ha] at e; cases e⟩
  · walk_at "go"
    (k_dflt (refine' PureT.use (null_ok _) ?kG ?kF ?kN ?kO rfl ?kB rfl rfl rfl ?kd ?_; k_extra "kt"))
    rintro r tl2 h' tk' F' N' O' o' ⟨x, dx, t1, t2, t3, hlt, rfl, rfl⟩
    (try k_sweep)
    walk_at "go"
    exact k _ _ _ _ (Fr.keep (by assumption)) (of_news (by assumption)) ⟨(fun e => by rw [ha] at e; cases e), fun _ => ⟨x, dx, t1, t2, t3, rfl, Kn.r (by walk_at "mem"), Kn.r (by walk_at "mem")⟩⟩


theorem b_coef_ok (S : Store) (i e g v : Value) (al ta : Addr) (ka : Nat) (yn : List Str) (ivs : List Value) (ha : S al (lisO [.ref ta] ka)) (ht : S ta (tupO [g, v])) (h : NamedS w S v yn ivs) : Pure w 12 481 [i, .ref al, e] S (fun S' r => WantP w yn ivs "coefficients" S' r) := by
  (try unfold Pure)
  unfold PureT
  intro dp un fr gd base s Q E hdp G Bl k
  obtain ⟨mean, mg, mb, T⟩ := G.t
  have X := G.In
  (refine wpAny_call ?_; k_dflt (refine' enterP (binds := [("interp", i), ("args", Value.ref al), ("env", e)]) ?k1 ?k2 ?k6 ?k7 ?k8 ?k9 ?kB ?_ ?c5 ?c2 ?c3 ?c4; k_extra "ktr"))
  intro h₁ F
  have N : News s.heap s.heap.objs.size h₁ ([] ++ []) := News.nil
  have O : Off [] [] := fun _ h => nomatch h
  walk_at "clean"
  walk_at "go"
  (k_dflt (refine' Pure.use (first_ok _ _ _ _ _ _ _ (Kn.l ha) (by decide) (Kn.l ht)) ?kG ?kF ?kN ?kO rfl ?kB rfl rfl rfl ?kd ?_; k_extra "kt"))
  rintro r tl h' tk' F' N' O' o' rfl
  (try k_sweep)
  walk_at "go"
  (k_dflt (refine' Pure.use (wanted_ok _ _ _ _ _ _ h.l') ?kG ?kF ?kN ?kO rfl ?kB rfl rfl rfl ?kd ?_; k_extra "kt"))
  rintro r tl2 h' tk' F' N' O' o' hq
  (try k_sweep)
  walk_at "go"
  exact k _ _ _ _ (Fr.keep (by assumption)) (of_news (by assumption)) hq


theorem b_res_ok (S : Store) (i e g v : Value) (al ta : Addr) (ka : Nat) (yn : List Str) (ivs : List Value) (ha : S al (lisO [.ref ta] ka)) (ht : S ta (tupO [g, v])) (h : NamedS w S v yn ivs) : Pure w 12 488 [i, .ref al, e] S (fun S' r => WantP w yn ivs "residuals" S' r) := by
  (try unfold Pure)
  unfold PureT
  intro dp un fr gd base s Q E hdp G Bl k
  obtain ⟨mean, mg, mb, T⟩ := G.t
  have X := G.In
  (refine wpAny_call ?_; k_dflt (refine' enterP (binds := [("interp", i), ("args", Value.ref al), ("env", e)]) ?k1 ?k2 ?k6 ?k7 ?k8 ?k9 ?kB ?_ ?c5 ?c2 ?c3 ?c4; k_extra "ktr"))
  intro h₁ F
  have N : News s.heap s.heap.objs.size h₁ ([] ++ []) := News.nil
  have O : Off [] [] := fun _ h => nomatch h
  walk_at "clean"
  walk_at "go"
  (k_dflt (refine' Pure.use (first_ok _ _ _ _ _ _ _ (Kn.l ha) (by decide) (Kn.l ht)) ?kG ?kF ?kN ?kO rfl ?kB rfl rfl rfl ?kd ?_; k_extra "kt"))
  rintro r tl h' tk' F' N' O' o' rfl
  (try k_sweep)
  walk_at "go"
  (k_dflt (refine' Pure.use (wanted_ok _ _ _ _ _ _ h.l') ?kG ?kF ?kN ?kO rfl ?kB rfl rfl rfl ?kd ?_; k_extra "kt"))
  rintro r tl2 h' tk' F' N' O' o' hq
  (try k_sweep)
  walk_at "go"
  exact k _ _ _ _ (Fr.keep (by assumption)) (of_news (by assumption)) hq


theorem b_fit_ok (S : Store) (i e g v : Value) (al ta : Addr) (ka : Nat) (yn : List Str) (ivs : List Value) (ha : S al (lisO [.ref ta] ka)) (ht : S ta (tupO [g, v])) (h : NamedS w S v yn ivs) : Pure w 12 495 [i, .ref al, e] S (fun S' r => WantP w yn ivs "fitted.values" S' r) := by
  (try unfold Pure)
  unfold PureT
  intro dp un fr gd base s Q E hdp G Bl k
  obtain ⟨mean, mg, mb, T⟩ := G.t
  have X := G.In
  (refine wpAny_call ?_; k_dflt (refine' enterP (binds := [("interp", i), ("args", Value.ref al), ("env", e)]) ?k1 ?k2 ?k6 ?k7 ?k8 ?k9 ?kB ?_ ?c5 ?c2 ?c3 ?c4; k_extra "ktr"))
  intro h₁ F
  have N : News s.heap s.heap.objs.size h₁ ([] ++ []) := News.nil
  have O : Off [] [] := fun _ h => nomatch h
  walk_at "clean"
  walk_at "go"
  (k_dflt (refine' Pure.use (first_ok _ _ _ _ _ _ _ (Kn.l ha) (by decide) (Kn.l ht)) ?kG ?kF ?kN ?kO rfl ?kB rfl rfl rfl ?kd ?_; k_extra "kt"))
  rintro r tl h' tk' F' N' O' o' rfl
  (try k_sweep)
  walk_at "go"
  (k_dflt (refine' Pure.use (wanted_ok _ _ _ _ _ _ h.l') ?kG ?kF ?kN ?kO rfl ?kB rfl rfl rfl ?kd ?_; k_extra "kt"))
  rintro r tl2 h' tk' F' N' O' o' hq
  (try k_sweep)
  walk_at "go"
  exact k _ _ _ _ (Fr.keep (by assumption)) (of_news (by assumption)) hq


theorem b_df_ok (S : Store) (i e g v : Value) (al ta : Addr) (ka : Nat) (yn : List Str) (ivs : List Value) (ha : S al (lisO [.ref ta] ka)) (ht : S ta (tupO [g, v])) (h : NamedS w S v yn ivs) : Pure w 12 502 [i, .ref al, e] S (fun S' r => WantP w yn ivs "df.residual" S' r) := by
  (try unfold Pure)
  unfold PureT
  intro dp un fr gd base s Q E hdp G Bl k
  obtain ⟨mean, mg, mb, T⟩ := G.t
  have X := G.In
  (refine wpAny_call ?_; k_dflt (refine' enterP (binds := [("interp", i), ("args", Value.ref al), ("env", e)]) ?k1 ?k2 ?k6 ?k7 ?k8 ?k9 ?kB ?_ ?c5 ?c2 ?c3 ?c4; k_extra "ktr"))
  intro h₁ F
  have N : News s.heap s.heap.objs.size h₁ ([] ++ []) := News.nil
  have O : Off [] [] := fun _ h => nomatch h
  walk_at "clean"
  walk_at "go"
  (k_dflt (refine' Pure.use (first_ok _ _ _ _ _ _ _ (Kn.l ha) (by decide) (Kn.l ht)) ?kG ?kF ?kN ?kO rfl ?kB rfl rfl rfl ?kd ?_; k_extra "kt"))
  rintro r tl h' tk' F' N' O' o' rfl
  (try k_sweep)
  walk_at "go"
  (k_dflt (refine' Pure.use (wanted_ok _ _ _ _ _ _ h.l') ?kG ?kF ?kN ?kO rfl ?kB rfl rfl rfl ?kd ?_; k_extra "kt"))
  rintro r tl2 h' tk' F' N' O' o' hq
  (try k_sweep)
  walk_at "go"
  exact k _ _ _ _ (Fr.keep (by assumption)) (of_news (by assumption)) hq
theorem rows_V5_1 : True := by
  k_with "o call ref" => (first | (((with_reducible show wpAny _ _ (call (Value.ref 176) _) _ _ _); k_dflt ((k_dflt (refine' Pure.useN (as_double_ok _ _ _ _ _ ?k0_69) ?kG ?kF ?kN ?kO rfl ?kB rfl rfl rfl ?kd ?_; k_extra "kt")); (case k0_69 => (first | assumption | exact ItemS.l (by assumption)))); intro _ _ _ _ _ _ _ _ _ _ _; (try k_sweep))) | fail "-")
  trivial

theorem named_doubles_ok (S : Store) (a b : Addr) (ka kb : Nat) (vs nvs : List Value) (ha : S a (lisO vs ka)) (hb : S b (lisO nvs kb)) (hz : vs.length ≤ 64) (hz2 : nvs.length ≤ 64) : PureT w 10 281 [.ref a, .ref b] S (fun tl r => NamedN w tl r "double" vs nvs) := by
  (try unfold Pure)
  unfold PureT
  intro dp un fr gd base s Q E hdp G Bl k
  obtain ⟨mean, mg, mb, T⟩ := G.t
  have X := G.In
  (refine wpAny_call ?_; k_dflt (refine' enterP (binds := [("items", Value.ref a), ("names", Value.ref b)]) ?k1 ?k2 ?k6 ?k7 ?k8 ?k9 ?kB ?_ ?c5 ?c2 ?c3 ?c4; k_extra "ktr"))
  intro h₁ F
  have N : News s.heap s.heap.objs.size h₁ ([] ++ []) := News.nil
  have O : Off [] [] := fun _ h => nomatch h
  walk_at "clean"
  walk_at "go"
  (k_dflt (refine' PureT.use (double_ok _ _ _ _ (Kn.l ha) hz) ?kG ?kF ?kN ?kO rfl ?kB rfl rfl rfl ?kd ?_; k_extra "kt"))
  rintro r tl h' tk' F' N' O' o' ⟨kt, x, dx, D, c, n', ⟨rfl, ⟨t1, t2, t3, t4, t5, rfl⟩, oA, hx⟩, hD⟩
  have N₃ : News s.heap s.heap.objs.size h' ([(dx, vecD w t1 t2 t3 t4 t5 (.str "double" kt) (.ref D) .none (.bool false) (.bool false))] ++ n') := N'
  have O₃ : Off [(dx, vecD w t1 t2 t3 t4 t5 (.str "double" kt) (.ref D) .none (.bool false) (.bool false))] n' := off_one oA
  clear N' O' o'
  (try k_sweep)
  walk_at "go"
  (k_dflt (refine' PureT.use (character_ok _ _ _ _ (Kn.l hb) hz2) ?kG ?kF ?kN ?kO rfl ?kB rfl rfl rfl ?kd ?_; k_extra "kt"))
  rintro r tl h' tk' F' N' O' o' ⟨kt2, cx, cdx, cD, c2, n2, ⟨rfl, ⟨u1, u2, u3, u4, u5, rfl⟩, oA2, hcx⟩, hcD⟩
  (try k_sweep)
  walk_at "go"
  (rename Obj.IsDictOf _ _ _ => hdd)
  (rename (_ == sysModules) = false => lo)
  (try dsimp only)
  exact k _ ((dx, _) :: _) _ _ (Fr.keep (by assumption)) (of_news (by assumption)) ⟨x, dx, D, _, cx, cdx, cD, _, c, c2, kt, t1, t2, t3, t4, t5, u1, u2, u3, u4, u5, kt2, _, rfl, rfl, offA_one (by assumption), by walk_at "mem", by walk_at "mem", .head _, hdd, lo, by walk_at "mem", by walk_at "mem", by walk_at "mem"⟩


theorem number_column_ok (S : Store) (v iv0 av sv lv : Value) (a : Addr) (ka : Nat) (ivs : List Value) (qs : List Rat) (kt wt : Tok) (wh : Str) (hv : VecS w S v (.str "double" kt) (.ref a) av sv lv) (ha : AttrV w S av "dim" .none) (hb : AttrV w S av "levels" .none) (hi : S a (lisO ivs ka)) (hq : RatsS S ivs qs) (hz : ivs.length ≤ 64) : Pure w 8 300 [v, .str wh wt] S (fun S' r => RatL S' r qs) := by
  (try unfold Pure)
  unfold PureT
  intro dp un fr gd base s Q E hdp G Bl k
  obtain ⟨mean, mg, mb, T⟩ := G.t
  have X := G.In
  obtain ⟨x, dx, t1, t2, t3, t4, t5, rfl, hx, hdx⟩ := id hv
  (refine wpAny_call ?_; k_dflt (refine' enterPC (binds := [("v", Value.ref x), ("what", Value.str wh wt)]) ?k1 ?k2 ?k6 ?k7 ?k8 ?k9 ?kB ?kD ?_ ?c2 ?c3 ?c4; k_extra "ktc"))
  intro h₁ tk₁ co F N hco
  replace F : Fr s.heap s.heap.objs.size h₁ (upd (fun _ => none) [("what", some (.str wh wt))]) := F
  replace N : News s.heap s.heap.objs.size h₁ ([(s.heap.objs.size + 1, co "v")] ++ []) := N
  have O : Off [(s.heap.objs.size + 1, co "v")] [] := fun _ _ _ h => nomatch h
  have c0 : (co "v").data = .cell (some (.ref x)) := hco ("v", s.heap.objs.size + 1) (.head _)
  clear hco
  generalize hY : ([(s.heap.objs.size + 1, co "v")] : Led) = Y at N O
  have m0 : (s.heap.objs.size + 1, co "v") ∈ Y := hY ▸ .head _
  clear hY
  walk_at "clean"
  walk_at "go"
  (k_dflt (refine' Pure.use (dim_none _ _ _ _ _ _ _ ?k0 ?k1) ?kG ?kF ?kN ?kO rfl ?kB rfl rfl rfl ?kd ?_; k_extra "kt"))
  case k0 => walk_at "vec"
  case k1 => walk_at "vec"
  rintro r tl h' tk' F' N' O' o' rfl
  (try k_sweep)
  walk_at "go"
  refine eval_comp rfl rfl (by decide) ?_
  walk_at "go"
  have el := hq.length
  refine comp_list (vs := ivs) (AsJ S Y qs) (Or.inl (G.s _ _ hi)) rfl (Nat.le_trans hz (by decide)) (by assumption) (by assumption) ⟨_, rfl, by assumption, trivial⟩ (by decide) rfl rfl ?_ (fin_eval ?_)
  · rintro i vv hv' ys n₁ Z C oC m₂ h tk ⟨n, rfl, oY, hr⟩ hs oZ hCm nsC hm₂ F₁ N₁
    have hi' : i < qs.length := by rw [← el]; exact (List.getElem?_eq_some_iff.mp hv').1
    obtain ⟨v', hx', hrr⟩ := hq.get i hi'
    rw [hv'] at hx'
    cases hx'
    have hit : ItemS S "double" vv qs[i] := .inl ⟨rfl, hrr⟩
    have N₂ := led_in N₁
    have O₂ := oZ.rr.appL oY
    have oZY := oZ.ll
    clear N₁
    refine tests_nil ?_
    (try k_fold)
    walk_at "go"
    refine ⟨_, _, _, rfl, by assumption, led_out (by assumption), Off.mk oZY (Off.l (by assumption)), hs.sub fun q hq => ?_, _, rfl, Off.r (by assumption), ?_⟩
    · rcases List.mem_append.mp hq with hq | hq
      · exact List.mem_append_left _ hq
      · exact List.mem_append_right _ (List.mem_append_left _ hq)
    rw [take_succ' _ _ hi']
    exact RatsS.snoc (hr.mono fun a o e => Kn.appR _ _ e) (by assumption)
  · rintro D ys n₁ kk h tk ⟨n, rfl, oY, hr⟩ F₁ N₁ o1
    rw [List.take_of_length_le (by exact om_34 _ _ el)] at hr
    (try dsimp only)
    exact k _ _ _ _ (Fr.keep F₁) (of_news N₁) ⟨D, kk, ys, rfl, Kn.r (.head _), hr.mono (Kn.sub fun p hp => .tail _ (List.mem_append_right _ hp))⟩

theorem matrix_columns_ok (S : Store) (v av sv lv dv kv2 av2 sv2 lv2 : Value) (il dl : Addr) (ivs : List Value) (ki kd tall wide : Nat) (kt d1 d2 : Tok) (kind : Str) (cols : List (List Rat)) (hn : Option (List Value))
    (hkind : [Str.ofString "logical", Str.ofString "integer", Str.ofString "double"].any (· == kind) = true) (hv : VecS w S v (.str kind kt) (.ref il) av sv lv) (ha : AttrV w S av "dim" dv) (hd : VecS w S dv kv2 (.ref dl) av2 sv2 lv2) (hdl : S dl (lisO [.int (tall : Nat) d1, .int (wide : Nat) d2] kd)) (hdn : DimnS w S av hn)
    (hi : S il (lisO ivs ki)) (hq : ItemsS S kind ivs cols.flatten) (hw : cols.length = wide) (hc : ∀ c ∈ cols, c.length = tall) (h5 : tall ≤ 5) (h3 : wide ≤ 3) :
    Pure w 10 469 [v] S (fun S' r => ∃ T CL hd cvs kc, r = .ref T ∧ S' T (tupO [.ref CL, hd]) ∧ S' CL (lisO cvs kc) ∧ RatLs S' cvs cols ∧ HeadV S' hd hn) := by
  (try unfold Pure)
  unfold PureT
  intro dp un fr gd base s Q E hdp G Bl k
  obtain ⟨mean, mg, mb, T⟩ := G.t
  have X := G.In
  obtain ⟨x, dx, t1, t2, t3, t4, t5, rfl, hx, hdx⟩ := id hv
  (refine wpAny_call ?_; k_dflt (refine' enterPC (binds := [("v", Value.ref x)]) ?k1 ?k2 ?k6 ?k7 ?k8 ?k9 ?kB ?kD ?_ ?c2 ?c3 ?c4; k_extra "ktc"))
  intro h₁ tk₁ co F N hco
  replace F : Fr s.heap s.heap.objs.size h₁ (upd (fun _ => none) []) := F
  replace N : News s.heap s.heap.objs.size h₁ ([(s.heap.objs.size + 1 + 1 + 1, co "values"), (s.heap.objs.size + 1 + 1, co "dims"), (s.heap.objs.size + 1, co "v")] ++ []) := N
  have O : Off [(s.heap.objs.size + 1 + 1 + 1, co "values"), (s.heap.objs.size + 1 + 1, co "dims"), (s.heap.objs.size + 1, co "v")] [] := fun _ _ _ h => nomatch h
  have c0 : (co "v").data = .cell (some (.ref x)) := hco ("v", s.heap.objs.size + 1) (.tail _ (.tail _ (.head _)))
  have c1 : (co "dims").data = .cell (none) := hco ("dims", s.heap.objs.size + 1 + 1) (.tail _ (.head _))
  have c2 : (co "values").data = .cell (none) := hco ("values", s.heap.objs.size + 1 + 1 + 1) (.head _)
  clear hco
  walk_at "clean"
  have e1 : @Ne Addr (s.heap.objs.size + 1) (s.heap.objs.size + 1 + 1) := (by exact om_70 _ : (s.heap.objs.size + 1 : Nat) ≠ s.heap.objs.size + 1 + 1)
  have e2 : @Ne Addr (s.heap.objs.size + 1) (s.heap.objs.size + 1 + 1 + 1) := (by exact om_71 _ : (s.heap.objs.size + 1 : Nat) ≠ s.heap.objs.size + 1 + 1 + 1)
  have e3 : @Ne Addr (s.heap.objs.size + 1 + 1) (s.heap.objs.size + 1 + 1 + 1) := (by exact om_72 _ : (s.heap.objs.size + 1 + 1 : Nat) ≠ s.heap.objs.size + 1 + 1 + 1)
  generalize co "v" = ov at *
  generalize co "dims" = od at *
  generalize co "values" = ow at *
  walk_at "go"
  (k_dflt (refine' Pure.use (dim_some _ _ _ _ _ _ _ _ _ _ _ _ _ _ _ ?k0 ?k1 ?k2 ?k3 ?k4) ?kG ?kF ?kN ?kO rfl ?kB rfl rfl rfl ?kd ?_; k_extra "kt"))
  case k0 => walk_at "vec"
  case k1 => walk_at "vec"
  case k2 => walk_at "vec"
  case k3 => walk_at "kn"
  case k4 => exact (by decide : 2 ≤ 64)
  rintro r tl h' tk' F' N' O' o' ⟨D, c, rfl, hD⟩
  (try k_sweep)
  have hd0 : ([.int (tall : Nat) d1, .int (wide : Nat) d2] : List Value)[(0 : Int).toNat]? = some (.int (tall : Nat) d1) := rfl
  have hd1 : ([.int (tall : Nat) d1, .int (wide : Nat) d2] : List Value)[(1 : Int).toNat]? = some (.int (wide : Nat) d2) := rfl
  walk_at "go"
  walk1
  refine eval_comp rfl rfl (by decide) ?_
  walk_at "go"
  have el := hq.length
  have eF : cols.flatten.length ≤ 15 := by rw [flat_len hc, hw]; exact Nat.mul_le_mul h3 h5
  refine comp_list (vs := ivs) (FitJ4 S _ _ cols.flatten) (Or.inl (G.s _ _ hi)) rfl (Nat.le_trans (by exact om_73 _ _ el eF : ivs.length ≤ 15) (by decide)) (by assumption) (by assumption) ⟨_, rfl, by assumption, fun q h => h, trivial⟩ (by decide) rfl rfl ?_ (fin_eval ?_)
  · rintro i vv hv' ys n₁ Z C oC m₂ h tk ⟨n, rfl, oY, hsub, hr⟩ hs oZ hCm nsC hm₂ F₁ N₁
    have hi' : i < cols.flatten.length := by rw [← el]; exact (List.getElem?_eq_some_iff.mp hv').1
    have hit : ItemS S kind vv cols.flatten[i] := hq.app1 i hi' hv'
    have N₂ := led_in N₁
    have O₂ := oZ.rr.appL oY
    have oZY := oZ.ll
    clear N₁
    refine tests_nil ?_
    (try k_fold)
    walk_at "go"
    refine ⟨_, _, _, rfl, by assumption, led_out (by assumption), Off.mk oZY (Off.l (by assumption)), hs.sub fun q hq => ?_, _, rfl, Off.r (by assumption), fun q hq => List.mem_append_left _ (hsub q hq), ?_⟩
    · rcases List.mem_append.mp hq with hq | hq
      · exact List.mem_append_left _ hq
      · exact List.mem_append_right _ (List.mem_append_left _ hq)
    rw [take_succ' _ _ hi']
    exact RatsS.snoc (hr.mono fun a o e => Kn.appR _ _ e) (by assumption)
  · rintro D2 ys n₁ kk h tk ⟨n, rfl, oY, hsub, hr⟩ F₁ N₁ o1
    rw [List.take_of_length_le (by exact om_34 _ _ el)] at hr
    obtain ⟨N₂, O₂⟩ := led_push N₁ oY o1
    clear N₁ oY o1
    have hD' : Kn S n D (lisO [.int (tall : Nat) d1, .int (wide : Nat) d2] c) := Kn.sub (fun q hq => hsub q (.tail _ hq)) _ _ hD
    (try k_fold)
    walk_at "go"
    refine assign_comp rfl rfl rfl (by decide) ?_
    walk_at "go"
    refine comp_range wide (ColJ S _ _ cols) (by assumption) rfl (small_up (by exact om_1 _ h3)) size_up (Nat.le_trans (by exact om_74 _ h3 : wide ≤ 3) (by decide)) (by assumption) (by assumption) ⟨_, rfl, by assumption, fun q h => h, trivial⟩ (by decide) rfl rfl ?_ (fin_assign2 rfl rfl rfl ?_)
    · rintro i t hi ys' n₁ Z C oC m₂ h tk ⟨n2, rfl, oY, hsub2, hr2⟩ hs oZ hCm nsC hm₂ F₁ N₁
      have hi' : i < cols.length := by exact om_24 _ _ _ hw hi
      have hDt : Kn S n2 D (lisO [.int (tall : Nat) d1, .int (wide : Nat) d2] c) := Kn.sub (fun q hq => hsub2 q (.tail _ hq)) _ _ hD'
      have hVt : Kn S n2 D2 (lisO ys kk) := Kn.r (hsub2 _ (.head _))
      have hrt : RatsS (Kn S n2) ys cols.flatten := hr.mono (Kn.sub fun q hq => hsub2 q (.tail _ hq))
      have hm1 := mulOk_small (a := i) (b := tall) (by exact om_75 _ _ h3 hi)
      have hm2 := mulOk_small1 (a := i) (b := tall) (by exact om_76 _ _ h3 hi)
      have hyl : ys.length = wide * tall := by rw [hr.length, flat_len hc, hw]
      have hmc := mul_lt_cols (tall := tall) (show i < wide by exact om_77 _ _ hi)
      have hsl := slice_col (ys := ys) (i := i) (tall := tall) (by exact om_78 _ _ _ _ hyl hmc)
      have hy15 : ys.length ≤ 15 := by rw [hyl]; exact Nat.mul_le_mul h3 h5
      have N₂ := led_in N₁
      have O₂ := oZ.rr.appL oY
      have oZY := oZ.ll
      simp only [Int.zero_add, Int.mul_one] at hm₂
      clear N₁
      refine tests_nil ?_
      (try k_fold)
      walk_at "go"
      refine ⟨_, _, _, rfl, by assumption, led_out (by assumption), Off.mk oZY (Off.l (by assumption)), Src.nil, _, rfl, Off.r (by assumption), fun q hq => .tail _ (hsub2 q hq), ?_⟩
      rw [take_succ' _ _ hi', ← flat_col i hc hi']
      exact L2.snoc (hr2.mono (Kn.sub fun q hq => .tail _ hq)) ⟨_, 0, _, rfl, Kn.r (.head _), ((hrt.drop _).take _).mono (Kn.sub fun q hq => .tail _ hq)⟩
    · rintro D3 ys3 n₁ kk3 h tk ⟨n2, rfl, oY, hsub2, hr2⟩ F₁ N₁ o1
      rw [List.take_of_length_le (by exact om_39 _ _ hw)] at hr2
      obtain ⟨N₂, O₂⟩ := led_push N₁ oY o1
      clear N₁ oY o1
      (try k_fold)
      walk_at "go"
      cases hn with
      | none =>
        have hdn' : AttrV w S av "dimnames" .none := hdn
        (k_dflt (refine' Pure.use (dimnames_none _ _ _ _ _ _ _ ?k0 ?k1) ?kG ?kF ?kN ?kO rfl ?kB rfl rfl rfl ?kd ?_; k_extra "kt"))
        case k0 => walk_at "vec"
        case k1 => walk_at "vec"
        rintro r tl4 h' tk' F' N' O' o' rfl
        (try k_sweep)
        walk_at "go"
        (try dsimp only)
        exact k _ _ _ _ (Fr.keep (by assumption)) (of_news (by assumption)) ⟨_, D3, .none, ys3, kk3, rfl, Kn.r (by walk_at "mem"), Kn.r (by walk_at "mem"), hr2.mono (Kn.sub fun q hq => by walk_at "mem"), rfl⟩
      | some nvs =>
        obtain ⟨dv, kv2, av2, sv2, lv2, nv, na, ns, nl, il, nu, ndx, ni, ki, kn, n1, n2, n3, kt, a1, a2, a3, a4, a5, a6, a7, a8⟩ := hdn
        (k_dflt (refine' Pure.use (dimnames_some _ _ _ _ _ _ _ dv kv2 av2 sv2 lv2 nv .none na ns nl il nu ndx ni nvs ki kn n1 n2 n3 kind kt ?k0 ?k1 ?k2 ?k3 ?k4 ?k5 ?k6 ?k7 ?k8) ?kG ?kF ?kN ?kO rfl ?kB rfl rfl rfl ?kd ?_; k_extra "kt"))
        case k0 => walk_at "vec"
        case k1 => walk_at "vec"
        case k2 => walk_at "vec"
        case k3 => walk_at "kn"
        case k4 => walk_at "kn"
        case k5 => walk_at "kn"
        case k6 => walk_at "vec"
        case k7 => walk_at "kn"
        case k8 => exact om_63 _ a8
        rintro r tl4 h' tk' F' N' O' o' ⟨D4, c4, D5, c5, rfl, hD4, hD5⟩
        (try k_sweep)
        have hx1 : ([.none, .ref D5] : List Value)[(1 : Int).toNat]? = some (.ref D5) := rfl
        walk_at "go"
        (try dsimp only)
        exact k _ _ _ _ (Fr.keep (by assumption)) (of_news (by assumption)) ⟨_, D3, .ref D5, ys3, kk3, rfl, Kn.r (by walk_at "mem"), Kn.r (by walk_at "mem"), hr2.mono (Kn.sub fun q hq => by walk_at "mem"), D5, c5, rfl, Kn.sub (fun q hq => List.mem_append_right _ (.tail _ hq)) _ _ hD5⟩

theorem named_ok (S : Store) (x dx nl : Addr) (t1 t2 t3 t4 t5 : Tok) (kv iv sv lv : Value) (nvs : List Value) (kn : Nat) (hx : S x (instObj 222 dx)) (hn : S nl (lisO nvs kn)) (hzn : nvs.length ≤ 64) :
    MutT w 9 254 [.ref x, .ref nl] S [(dx, vecD w t1 t2 t3 t4 t5 kv iv .none sv lv)] (fun X' tl r => ∃ ad, r = .ref x ∧ X' = [(dx, vecD w t1 t2 t3 t4 t5 kv iv (.ref ad) sv lv)] ∧ NamesN w tl ad nvs) := by
  unfold MutT
  intro dp un fr gd base g s Q E hdp G Bl hg hz hX k
  obtain ⟨mean, mg, mb, T⟩ := G.t
  have X := G.In
  refine wpAny_call ?_
  k_dflt (refine' enterM (binds := [("v", Value.ref x), ("names", Value.ref nl)]) ?k1 ?k2 hg hz hX ?k6 ?k7 ?k8 ?k9 ?kB ?_ ?c5 ?c2 ?c3 ?c4; (case k1 => assumption); (case k2 => assumption); (case k6 => k_is); (case k7 => k_is); (case k8 => first | exact room_lt (by assumption) | omega | (dsimp only [Around.deeper]; omega)); (case k9 => first | exact BindsTo.of_eq rfl | exact binds_K (X.keeps hg) rfl (by k_is) rfl rfl rfl); (case c5 => decide); (case kB => exact locs rfl); (case c2 => exact rfl); (case c3 => exact rfl); (case c4 => exact rfl); k_whole)
  intro h₁ F N
  have O : Off ([(dx, vecD w t1 t2 t3 t4 t5 kv iv .none sv lv)]) [] := Off.nilR
  walk_at "clean"
  walk_at "go"
  (k_dflt (refine' PureT.use (character_ok _ _ _ _ ?k0 hzn) ?kG ?kF ?kN ?kO rfl ?kB rfl rfl rfl ?kd ?_; k_extra "kt"))
  case k0 => walk_at "kn"
  rintro r tl h' tk' F' N' O' o' ⟨kt2, cx, cdx, cD, c2, n2, ⟨rfl, ⟨u1, u2, u3, u4, u5, rfl⟩, oA2, hcx⟩, hcD⟩
  (try k_sweep)
  walk_at "go"
  (rename Obj.IsDictOf _ _ _ => hdd)
  (rename (_ == sysModules) = false => lo)
  (try dsimp only)
  exact k _ _ _ _ _ (Fr.keep (by assumption)) (of_news (by assumption)) (by assumption) rfl ⟨_, rfl, rfl, cx, cdx, cD, _, c2, u1, u2, u3, u4, u5, kt2, .head _, hdd, lo, by walk_at "mem", by walk_at "mem", by walk_at "mem"⟩


theorem list_of_ok (S : Store) (il nl : Addr) (ki kn : Nat) (vds : List VD) (nvs : List Value) (hi : S il (lisO (vds.map fun d => Value.ref d.x) ki)) (hn : S nl (lisO nvs kn)) (hzn : nvs.length ≤ 64) (hzv : vds.length ≤ 64) (hx : ∀ d ∈ vds, S d.x (instObj 222 d.dx)) (hnd : (vds.map (·.dx)).Nodup) :
    MutT w 13 260 [.ref il, .ref nl] S (shL w vds 0) (fun X' tl r => ∃ v dv D ad c kt t1 t2 t3 t4 t5, r = .ref v ∧ X' = shL w vds vds.length ∧ (v, instObj 222 dv) ∈ tl ∧ (dv, vecD w t1 t2 t3 t4 t5 (.str "list" kt) (.ref D) (.ref ad) (.bool false) (.bool false)) ∈ tl ∧ (D, lisO (vds.map fun d => Value.ref d.x) c) ∈ tl ∧ NamesN w tl ad nvs) := by
  unfold MutT
  intro dp un fr gd base g s Q E hdp G Bl hg hz hX k
  obtain ⟨mean, mg, mb, T⟩ := G.t
  have X := G.In
  refine wpAny_call ?_
  k_dflt (refine' enterM (binds := [("items", Value.ref il), ("names", Value.ref nl)]) ?k1 ?k2 hg hz hX ?k6 ?k7 ?k8 ?k9 ?kB ?_ ?c5 ?c2 ?c3 ?c4; (case k1 => assumption); (case k2 => assumption); (case k6 => k_is); (case k7 => k_is); (case k8 => first | exact room_lt (by assumption) | omega | (dsimp only [Around.deeper]; omega)); (case k9 => first | exact BindsTo.of_eq rfl | exact binds_K (X.keeps hg) rfl (by k_is) rfl rfl rfl); (case c5 => decide); (case kB => exact locs rfl); (case c2 => exact rfl); (case c3 => exact rfl); (case c4 => exact rfl); k_whole)
  intro h₁ F N
  have O : Off (shL w vds 0) [] := Off.nilR
  walk_at "clean"
  walk_at "go"
  refine eval_comp rfl rfl (by decide) ?_
  walk_at "go"
  refine comp_list (vs := vds.map fun d => Value.ref d.x) (ShJ w _ vds) (Or.inl (G.s _ _ hi)) rfl (Nat.le_trans (by simpa using hzv) (by decide : 64 ≤ sizeLine)) (by assumption) (by assumption) ⟨[], rfl, O, fun q h => h, rfl⟩ (by decide) rfl rfl ?_ (fin_eval ?_)
  · rintro i vv hv' ys n₁ Z C oC m₂ h tk ⟨n, rfl, oY, hsub, rfl⟩ hs oZ hCm nsC hm₂ F₁ N₁
    have hi' : i < vds.length := by simpa using (List.getElem?_eq_some_iff.mp hv').1
    obtain rfl : Value.ref vds[i].x = vv := by rw [List.getElem?_map, List.getElem?_eq_getElem hi'] at hv'; exact Option.some.inj hv'
    have hxi := hx vds[i] (List.getElem_mem _)
    obtain ⟨ne1, ne2⟩ := vd_ne (w := w) hnd hi' (b := true)
    obtain ⟨ne3, ne4⟩ := vd_ne (w := w) hnd hi' (b := false)
    rw [shL_at hi'] at N₁ oY oZ hs
    obtain ⟨O₂, A₂⟩ := perm_off oZ oY ne1 ne4
    have N₂ : News g s.heap.objs.size h (((Z ++ (((vds.take i).map (VD.o w true)) ++ ((vds.drop (i + 1)).map (VD.o w false)))) ++ [vds[i].o w false]) ++ n) := fun q hq => N₁ q (perm_in hq)
    clear N₁
    refine tests_nil ?_
    (try k_fold)
    walk_at "go"
    (k_dflt (refine' MutT.use (share_ok _ vds[i].x vds[i].dx vds[i].t1 vds[i].t2 vds[i].t3 vds[i].t4 vds[i].t5 vds[i].kv vds[i].iv vds[i].av (.bool false) (.bool false) (Kn.l hxi)) ?kG ?kF ?kN ?kO ?kA rfl ?kB rfl rfl rfl ?kd ?_; k_extra "km"))
    rintro r X' tl h' tk' F' N' O' o' ea ⟨rfl, rfl, rfl⟩
    rw [List.append_nil] at N' O'
    obtain ⟨O₄, O₅⟩ := perm_back (p := vds[i].o w false) (p' := vds[i].o w true) rfl oZ O'
    (try k_sweep)
    walk_at "go"
    refine ⟨_, _, _, rfl, by assumption, (fun q hq => N' q (perm_out hq) : News g s.heap.objs.size h' (Z ++ (((vds.take i).map (VD.o w true) ++ (vds[i].o w true :: (vds.drop (i + 1)).map (VD.o w false))) ++ n))), O₄, (fun q hq => Or.inl (by rw [List.mem_singleton.mp hq]; exact G.s _ _ hi)), n, by rw [shL_next hi'], by rw [shL_next hi']; exact O₅, hsub, ?_⟩
    rw [take_succ' _ _ hi', List.map_append]; rfl
  · rintro D ys n₁ kk h tk ⟨n, rfl, oY, hsub, rfl⟩ F₁ N₁ o1
    rw [List.take_of_length_le (by simp)] at N₁
    have hlen : (vds.map fun d => Value.ref d.x).length = vds.length := by simp
    rw [hlen] at oY N₁ o1
    obtain ⟨N₂, O₂⟩ := led_push N₁ oY o1
    clear N₁ oY o1
    (try k_fold)
    walk_at "go"
    (k_dflt (refine' PureT.use (vec2_ok _ _ _) ?kG ?kF ?kN ?kO rfl ?kB rfl rfl rfl ?kd ?_; k_extra "kt"))
    rintro r tl h' tk' F' N' O' o' ⟨x, dx, t1, t2, t3, t4, t5, hlt, rfl, rfl⟩
    (try k_sweep)
    walk_at "go"
    obtain ⟨N₃, O₃, A₃⟩ := vec_thaw N' O' o' hlt
    clear N' O' o'
    (k_dflt (refine' MutT.use (named_ok _ x dx nl t1 t2 t3 t4 t5 _ _ _ _ nvs kn (Kn.r (List.mem_append_right _ (List.mem_append_right _ (.head _)))) (Kn.l hn) hzn) ?kG ?kF ?kN ?kO ?kA rfl ?kB rfl rfl rfl ?kd ?_; k_extra "km"))
    rintro r X' tl2 h' tk' F' N' O' o' ea ⟨ad, rfl, rfl, hnm⟩
    (try k_sweep)
    walk_at "go"
    rw [List.append_assoc] at N'
    (try dsimp only)
    exact k _ (shL w vds vds.length) _ _ _ (Fr.keep F') (of_news N') (Off.consR (Off.l O') fun p hp => A₃ p hp dx (.head _)) (by rw [shL_adr, shL_adr]) ⟨x, dx, D, ad, _, _, t1, t2, t3, t4, t5, rfl, rfl, by walk_at "mem", .head _, by walk_at "mem", hnm.sub (n := tl2) fun p hp => List.mem_append_right _ (List.mem_append_right _ hp)⟩

theorem is_free_ok (S : Store) (m md fl tl ul pl : Addr) (tags fvs : List Value) (a1 a2 a3 a4 : Tok) (kf kt : Nat) (hM : MatS w S m md fl tl ul pl tags fvs a1 a2 a3 a4 kf kt) (us : List Value) (ku i : Nat) (it ut : Tok) (u : Int) (hU : S ul (lisO us ku)) (hu : us[((i : Nat) : Int).toNat]? = some (.int u ut)) (ht : tags[((i : Nat) : Int).toNat]? = some .none) (hi : i ≤ 64) : Pure w 2 126 [.ref m, .int (i : Nat) it] S (fun _ r => r = .bool (u == 0)) := by
  (try unfold Pure)
  unfold PureT
  intro dp un fr gd base s Q E hdp G Bl k
  obtain ⟨mean, mg, mb, T⟩ := G.t
  have X := G.In
  obtain ⟨hmi, hmd, hmf, hmt⟩ := id hM
  (refine wpAny_call ?_; k_dflt (refine' enterP (binds := [("self", Value.ref m), ("place", Value.int (i : Nat) it)]) ?k1 ?k2 ?k6 ?k7 ?k8 ?k9 ?kB ?_ ?c5 ?c2 ?c3 ?c4; k_extra "ktr"))
  intro h₁ F
  have N : News s.heap s.heap.objs.size h₁ ([] ++ []) := News.nil
  have O : Off [] [] := fun _ h => nomatch h
  walk_at "clean"
  walk_at "go"
  · exact k _ [] _ _ (Fr.keep (by assumption)) (by simp) (by simp_all)
  · exact k _ [] _ _ (Fr.keep (by assumption)) (by simp) rfl


theorem partial_of_ok (S : Store) (m md fl tl ul pl : Addr) (tags fvs : List Value) (a1 a2 a3 a4 : Tok) (kf kt : Nat) (hM : MatS w S m md fl tl ul pl tags fvs a1 a2 a3 a4 kf kt) (u0 u1 : Int) (ut1 ut2 nt : Tok) (ku : Nat) (nm : Str) (tv : Value) (hU : S ul (lisO [.int u0 ut1, .int u1 ut2] ku)) (e : tags = [.none, tv]) (hc : tv = .none ∨ ((∃ ty, tv = .str "y" ty) ∧ u1 = 2)) : Pure w 3 112 [.ref m, .str nm nt] S (fun _ r => r = .none) := by
  (try unfold Pure)
  unfold PureT
  intro dp un fr gd base s Q E hdp G Bl k
  obtain ⟨mean, mg, mb, T⟩ := G.t
  have X := G.In
  obtain ⟨hmi, hmd, hmf, hmt⟩ := id hM
  (refine wpAny_call ?_; k_dflt (refine' enterP (binds := [("self", Value.ref m), ("name", Value.str nm nt)]) ?k1 ?k2 ?k6 ?k7 ?k8 ?k9 ?kB ?_ ?c5 ?c2 ?c3 ?c4; k_extra "ktr"))
  intro h₁ F
  have N : News s.heap s.heap.objs.size h₁ ([] ++ []) := News.nil
  have O : Off [] [] := fun _ h => nomatch h
  walk_at "clean"
  subst e
  walk_at "go"
  refine wpAny_For ?_
  walk_at "go"
  refine for_rangeV 2 (fun i => (i : Int)) (fun i m₁ n₁ => ∃ tv pv, m₁ = upd (fun _ => none) [("tag", tv), ("place", pv), ("name", some (.str nm nt)), ("self", some (.ref m))]) (by assumption) rfl (small_up (n := 2) (by decide)) (size_up (n := 2)) (by assumption) (by assumption) ⟨none, none, by walk_at "upd"⟩ (by intro i hi; exact om_22 _) ?_ ?_
  · rintro i t m₁ n₁ Y h tk hi ⟨tgv, pv, rfl⟩ ho F₁ N₁
    obtain ⟨tg, u, ut, ht, hu, hcc⟩ : ∃ tg u ut, ([.none, tv] : List Value)[((i : Nat) : Int).toNat]? = some tg ∧ ([.int u0 ut1, .int u1 ut2] : List Value)[((i : Nat) : Int).toNat]? = some (.int u ut) ∧ (tg = .none ∨ ((∃ ty, tg = .str "y" ty) ∧ u = 2)) := by
      have hi2 : i = 0 ∨ i = 1 := by exact om_154 _ hi
      rcases hi2 with rfl | rfl
      · exact ⟨_, _, _, rfl, rfl, .inl rfl⟩
      · exact ⟨_, _, _, rfl, rfl, hc⟩
    refine wpAny_assign_Name ?_
    (try k_fold)
    rcases hcc with rfl | ⟨⟨ty, rfl⟩, rfl⟩ <;> walk_at "go" <;>
    exact ⟨_, _, _, _, rfl, fr_upd [("tag", some _), ("place", some _), ("name", some (.str nm nt)), ("self", some (.ref m))] (by assumption) (by walk_at "eqs") (by walk_at "nots"), by assumption, by assumption, Src.nil, _, _, rfl⟩
  · rintro m₁ n₁ h tk ⟨tgv, pv, rfl⟩ F₁ N₁
    (try k_fold)
    walk_at "go"
    exact k _ [] _ _ (Fr.keep (by assumption)) (by simp) rfl


theorem rows_V8_1 : True := by
  k_with "o call ref" => (first | (((with_reducible show wpAny _ _ (call (Value.ref 112) _) _ _ _); k_dflt ((k_dflt (refine' Pure.useN (partial_of_ok _ _ _ _ _ _ _ _ _ _ _ _ _ _ _ ?kM_75 _ _ _ _ _ _ _ _ ?kU_75 ?ke_75 ?kc_75) ?kG ?kF ?kN ?kO rfl ?kB rfl rfl rfl ?kd ?_; k_extra "kt")); (case kM_75 => first | assumption | exact MatS.mono (fun _ _ => Kn.l) (by assumption)); (case kU_75 => k_extra "o kn"); (case ke_75 => first | assumption | rfl); (case kc_75 => assumption)); intro _ _ _ _ _ _ _ _ _ _ hp; subst hp; (try k_sweep))) | fail "-")
  trivial

theorem partial_ok (S : Store) (m md fl tl ul pl : Addr) (tags fvs : List Value) (a1 a2 a3 a4 : Tok) (kf kt : Nat) (hM : MatS w S m md fl tl ul pl tags fvs a1 a2 a3 a4 kf kt) (u0 u1 : Int) (ut1 ut2 f1 f2 f3 : Tok) (ku : Nat) (tv : Value) (po : Obj) (kvs : List (Str × Value)) (hU : S ul (lisO [.int u0 ut1, .int u1 ut2] ku)) (hP : S pl po) (hpo : po.IsDictOf (strK w) kvs) (lo : (pl == sysModules) = false) (e : tags = [.none, tv]) (ef : fvs = xyN f1 f2 f3) (hc : tv = .none ∨ ((∃ ty, tv = .str "y" ty) ∧ u1 = 2)) : Pure w 6 105 [.ref m] S (fun _ r => r = .none) := by
  (try unfold Pure)
  unfold PureT
  intro dp un fr gd base s Q E hdp G Bl k
  obtain ⟨mean, mg, mb, T⟩ := G.t
  have X := G.In
  obtain ⟨hmi, hmd, hmf, hmt⟩ := id hM
  (refine wpAny_call ?_; k_dflt (refine' enterP (binds := [("self", Value.ref m)]) ?k1 ?k2 ?k6 ?k7 ?k8 ?k9 ?kB ?_ ?c5 ?c2 ?c3 ?c4; k_extra "ktr"))
  intro h₁ F
  have N : News s.heap s.heap.objs.size h₁ ([] ++ []) := News.nil
  have O : Off [] [] := fun _ h => nomatch h
  walk_at "clean"
  subst e
  subst ef
  walk_at "go"
  refine wpAny_For ?_
  walk_at "go"
  refine for_list (vs := xyN f1 f2 f3) (fun i m₁ n₁ => ∃ nv, m₁ = upd (fun _ => none) [("name", nv), ("self", some (.ref m))]) (Or.inl (G.s _ _ hmf)) rfl (by assumption) (by assumption) ⟨none, by walk_at "upd"⟩ ?_ ?_
  · rintro i v m₁ n₁ Y h tk hv ⟨nv, rfl⟩ hsrc ho F₁ N₁
    refine wpAny_assign_Name ?_
    match i with
    | 0 =>
      cases hv
      (try k_fold)
      cases hin : (valueAt kvs (Str.ofString "x")).isSome <;> walk_at "go" <;>
      exact ⟨_, _, _, _, rfl, fr_upd [("name", some _), ("self", some (.ref m))] (by assumption) (by walk_at "eqs") (by walk_at "nots"), by assumption, by assumption, hsrc.sub (fun q hq => by walk_at "mem"), _, rfl⟩
    | 1 =>
      cases hv
      (try k_fold)
      cases hin : (valueAt kvs (Str.ofString "y")).isSome <;> walk_at "go" <;>
      exact ⟨_, _, _, _, rfl, fr_upd [("name", some _), ("self", some (.ref m))] (by assumption) (by walk_at "eqs") (by walk_at "nots"), by assumption, by assumption, hsrc.sub (fun q hq => by walk_at "mem"), _, rfl⟩
    | 2 =>
      cases hv
      (try k_fold)
      walk_at "go"
      exact k _ [] _ _ (Fr.keep (by assumption)) (by simp) rfl
    | i + 3 => cases hv
  · rintro m₁ n₁ h tk ⟨nv, rfl⟩ F₁ N₁
    (try k_fold)
    walk_at "go"
    exact k _ [] _ _ (Fr.keep (by assumption)) (by simp) rfl

theorem rest_ok (S : Store) (m md fl tl ul pl : Addr) (tags fvs : List Value) (a1 a2 a3 a4 : Tok) (kf kt : Nat) (hM : MatS w S m md fl tl ul pl tags fvs a1 a2 a3 a4 kf kt) (z1 z2 : Tok) (ku : Nat) (tv : Value) (hU : S ul (lisO [.int 2 z1, .int 2 z2] ku)) (e : tags = [.none, tv]) : PureT w 3 131 [.ref m] S (fun tl r => ∃ D c, r = .ref D ∧ (D, lisO [] c) ∈ tl) := by
  (try unfold Pure)
  unfold PureT
  intro dp un fr gd base s Q E hdp G Bl k
  obtain ⟨mean, mg, mb, T⟩ := G.t
  have X := G.In
  obtain ⟨hmi, hmd, hmf, hmt⟩ := id hM
  (refine wpAny_call ?_; k_dflt (refine' enterPC (binds := [("self", Value.ref m)]) ?k1 ?k2 ?k6 ?k7 ?k8 ?k9 ?kB ?kD ?_ ?c2 ?c3 ?c4; k_extra "ktc"))
  intro h₁ tk₁ co F N hco
  replace F : Fr s.heap s.heap.objs.size h₁ (upd (fun _ => none) []) := F
  replace N : News s.heap s.heap.objs.size h₁ ([(s.heap.objs.size + 1, co "self")] ++ []) := N
  have O : Off [(s.heap.objs.size + 1, co "self")] [] := fun _ _ _ h => nomatch h
  have c0 : (co "self").data = .cell (some (.ref m)) := hco ("self", s.heap.objs.size + 1) (.head _)
  clear hco
  generalize hY : ([(s.heap.objs.size + 1, co "self")] : Led) = Y at N O
  have m0 : (s.heap.objs.size + 1, co "self") ∈ Y := hY ▸ .head _
  clear hY
  walk_at "clean"
  subst e
  walk_at "go"
  refine eval_comp rfl rfl (by decide) ?_
  walk_at "go"
  refine comp_range 2 (fun i ys n₁ => ∃ n, n₁ = Y ++ n ∧ Off Y n ∧ ys = []) (by assumption) rfl (small_up (n := 2) (by decide)) (size_up (n := 2)) (Nat.le_of_ble_eq_true rfl) (by assumption) (by assumption) ⟨_, rfl, O, rfl⟩ (by decide) rfl rfl ?_ (fin_eval ?_)
  · rintro i t hi ys n₁ Z C oC m₂ h tk ⟨n, rfl, oY, rfl⟩ hs oZ hCm nsC hm₂ F₁ N₁
    have hu : ∃ z, ([.int 2 z1, .int 2 z2] : List Value)[((i : Nat) : Int).toNat]? = some (.int 2 z) := by
      have hi2 : i = 0 ∨ i = 1 := by exact om_154 _ hi
      rcases hi2 with rfl | rfl
      · exact ⟨_, rfl⟩
      · exact ⟨_, rfl⟩
    obtain ⟨z, hu⟩ := hu
    have N₂ := led_in N₁
    have O₂ := oZ.rr.appL oY
    have oZY := oZ.ll
    simp only [Int.zero_add, Int.mul_one] at hm₂
    clear N₁
    refine tests_one ?_
    (try k_fold)
    walk_at "go"
    exact ⟨_, _, _, rfl, by assumption, led_out (by assumption), Off.mk oZY (Off.l (by assumption)), Src.nil, _, rfl, Off.r (by assumption), rfl⟩
  · rintro D ys n₁ kk h tk ⟨n, rfl, oY, rfl⟩ F₁ N₁ o1
    (try dsimp only)
    exact k _ _ _ _ (Fr.keep F₁) (of_news N₁) ⟨D, kk, rfl, .head _⟩


theorem exact_Y (S : Store) (m md fl tl ul pl : Addr) (tags fvs : List Value) (a1 a2 a3 a4 : Tok) (kf kt : Nat) (hM : MatS w S m md fl tl ul pl tags fvs a1 a2 a3 a4 kf kt) (z0 z1 f1 f2 f3 ty : Tok) (ku : Nat) (po : Obj) (hpo : po.IsDictOf (strK w) []) (lo : (pl == sysModules) = false) (hne : ul ≠ pl) (e : tags = [.none, .str "y" ty]) (ef : fvs = xyN f1 f2 f3) :
    MutT w 2 98 [.ref m] S [(ul, lisO [.int 0 z0, .int 0 z1] ku), (pl, po)] (fun X' tl r => r = .none ∧ MSt w ul pl z0 z1 ku po true X') := by
  unfold MutT
  intro dp un fr gd base g s Q E hdp G Bl hg hz hX k
  obtain ⟨mean, mg, mb, T⟩ := G.t
  have X := G.In
  obtain ⟨hmi, hmd, hmf, hmt⟩ := id hM
  subst e
  subst ef
  refine wpAny_call ?_
  k_dflt (refine' enterM (binds := [("self", Value.ref m)]) ?k1 ?k2 hg hz hX ?k6 ?k7 ?k8 ?k9 ?kB ?_ ?c5 ?c2 ?c3 ?c4; (case k1 => assumption); (case k2 => assumption); (case k6 => k_is); (case k7 => k_is); (case k8 => first | exact room_lt (by assumption) | omega | (dsimp only [Around.deeper]; omega)); (case k9 => first | exact BindsTo.of_eq rfl | exact binds_K (X.keeps hg) rfl (by k_is) rfl rfl rfl); (case c5 => decide); (case kB => exact locs rfl); (case c2 => exact rfl); (case c3 => exact rfl); (case c4 => exact rfl); k_whole)
  intro h₁ F N
  have O : Off ([(ul, lisO [.int 0 z0, .int 0 z1] ku), (pl, po)]) [] := Off.nilR
  walk_at "clean"
  walk_at "go"
  refine wpAny_For ?_
  walk_at "go"
  refine for_list (vs := xyN f1 f2 f3) (ExJ w ul pl z0 z1 ku po m (fun i => decide (2 ≤ i))) (Or.inl (G.s _ _ hmf)) rfl (by assumption) (by assumption) ⟨none, none, _, _, rfl, O, by walk_at "upd", rfl⟩ ?_ ?_
  · rintro i v m₁ n₁ X' h tk hv ⟨pv, nv, X, n', rfl, O₁, rfl, hX⟩ hsrc ho F₁ N₁
    match i with
    | 0 =>
      cases hv
      obtain rfl : X = [(ul, lisO [.int 0 z0, .int 0 z1] ku), (pl, po)] := hX
      obtain ⟨N₂, O₂, A₂, oX⟩ := turn_in N₁ ho O₁ (as := [ul, pl]) OffA.nil
      clear N₁ ho O₁
      refine wpAny_assign_Name ?_
      (try k_fold)
      walk_at "go"
      refine wpAny_For ?_
      walk_at "go"
      refine for_rangeV 2 (fun j => (j : Int)) (ExI w ul pl z0 z1 ku po m _ _ (.str "x" f1) (fun _ => false)) (by assumption) rfl (small_up (n := 2) (by decide)) (size_up (n := 2)) (by assumption) (by assumption) ⟨pv, _, _, rfl, by assumption, by walk_at "upd", fun q h => h, rfl⟩ (by intro i hi; exact om_22 _) ?_ ?_
      · rintro j tj m₁ n₁ X'' h tk hj ⟨pv2, X, n2, rfl, O₃, rfl, hsub, hX⟩ ho2 F₁ N₁
        have hj2 : j = 0 ∨ j = 1 := by exact om_154 _ hj
        rcases hj2 with rfl | rfl
        · obtain rfl : X = [(ul, lisO [.int 0 z0, .int 0 z1] ku), (pl, po)] := hX
          obtain ⟨N₄, O₄, A₄, oX4⟩ := turn_in N₁ ho2 O₃ (as := [ul, pl]) A₂
          clear N₁ ho2 O₃
          have hg : ([.none, .str "y" ty] : List Value)[((0 : Nat) : Int).toNat]? = some (.none) := rfl
          have hu : ([.int 0 z0, .int 0 z1] : List Value)[((0 : Nat) : Int).toNat]? = some (.int 0 z0) := rfl
          have hup : ul ≠ pl := hne
          refine wpAny_assign_Name ?_
          (try k_fold)
          walk_at "go"
          obtain ⟨N₆, O₆, O₇⟩ := turn_out (by assumption) (by assumption) A₄ oX4
          exact ⟨_, _, _, _, rfl, fr_upd [("place", some _), ("name", some _), ("self", some (.ref m))] (by assumption) (by walk_at "eqs") (by walk_at "nots"), N₆, O₆, Src.nil, _, _, _, rfl, O₇, rfl, hsub, rfl⟩
        · obtain rfl : X = [(ul, lisO [.int 0 z0, .int 0 z1] ku), (pl, po)] := hX
          obtain ⟨N₄, O₄, A₄, oX4⟩ := turn_in N₁ ho2 O₃ (as := [ul, pl]) A₂
          clear N₁ ho2 O₃
          have hg : ([.none, .str "y" ty] : List Value)[((1 : Nat) : Int).toNat]? = some (.str "y" ty) := rfl
          have hu : ([.int 0 z0, .int 0 z1] : List Value)[((1 : Nat) : Int).toNat]? = some (.int 0 z1) := rfl
          have hup : ul ≠ pl := hne
          refine wpAny_assign_Name ?_
          (try k_fold)
          walk_at "go"
          obtain ⟨N₆, O₆, O₇⟩ := turn_out (by assumption) (by assumption) A₄ oX4
          exact ⟨_, _, _, _, rfl, fr_upd [("place", some _), ("name", some _), ("self", some (.ref m))] (by assumption) (by walk_at "eqs") (by walk_at "nots"), N₆, O₆, Src.nil, _, _, _, rfl, O₇, rfl, hsub, rfl⟩
      · rintro m₁ n₁ h tk ⟨pv2, X, n2, rfl, O₃, rfl, hsub, hX⟩ F₁ N₁
        obtain rfl : X = [(ul, lisO [.int 0 z0, .int 0 z1] ku), (pl, po)] := hX
        (try k_fold)
        walk_at "go"
        obtain ⟨N₆, O₆, O₇⟩ := turn_out (X := []) (by assumption) (by assumption) A₂ oX
        exact ⟨_, _, _, _, rfl, fr_upd [("place", pv2), ("name", some _), ("self", some (.ref m))] (by assumption) (by walk_at "eqs") (by walk_at "nots"), N₆, O₆, (fun q hq => Or.inl (by rw [List.mem_singleton.mp hq]; exact G.s _ _ hmf)), _, _, _, _, rfl, O₇, rfl, rfl⟩
    | 1 =>
      cases hv
      obtain rfl : X = [(ul, lisO [.int 0 z0, .int 0 z1] ku), (pl, po)] := hX
      obtain ⟨N₂, O₂, A₂, oX⟩ := turn_in N₁ ho O₁ (as := [ul, pl]) OffA.nil
      clear N₁ ho O₁
      refine wpAny_assign_Name ?_
      (try k_fold)
      walk_at "go"
      refine wpAny_For ?_
      walk_at "go"
      refine for_rangeV 2 (fun j => (j : Int)) (ExI w ul pl z0 z1 ku po m _ _ (.str "y" f2) (fun j => decide (2 ≤ j))) (by assumption) rfl (small_up (n := 2) (by decide)) (size_up (n := 2)) (by assumption) (by assumption) ⟨pv, _, _, rfl, by assumption, by walk_at "upd", fun q h => h, rfl⟩ (by intro i hi; exact om_22 _) ?_ ?_
      · rintro j tj m₁ n₁ X'' h tk hj ⟨pv2, X, n2, rfl, O₃, rfl, hsub, hX⟩ ho2 F₁ N₁
        have hj2 : j = 0 ∨ j = 1 := by exact om_154 _ hj
        rcases hj2 with rfl | rfl
        · obtain rfl : X = [(ul, lisO [.int 0 z0, .int 0 z1] ku), (pl, po)] := hX
          obtain ⟨N₄, O₄, A₄, oX4⟩ := turn_in N₁ ho2 O₃ (as := [ul, pl]) A₂
          clear N₁ ho2 O₃
          have hg : ([.none, .str "y" ty] : List Value)[((0 : Nat) : Int).toNat]? = some (.none) := rfl
          have hu : ([.int 0 z0, .int 0 z1] : List Value)[((0 : Nat) : Int).toNat]? = some (.int 0 z0) := rfl
          have hup : ul ≠ pl := hne
          refine wpAny_assign_Name ?_
          (try k_fold)
          walk_at "go"
          obtain ⟨N₆, O₆, O₇⟩ := turn_out (by assumption) (by assumption) A₄ oX4
          exact ⟨_, _, _, _, rfl, fr_upd [("place", some _), ("name", some _), ("self", some (.ref m))] (by assumption) (by walk_at "eqs") (by walk_at "nots"), N₆, O₆, Src.nil, _, _, _, rfl, O₇, rfl, hsub, rfl⟩
        · obtain rfl : X = [(ul, lisO [.int 0 z0, .int 0 z1] ku), (pl, po)] := hX
          obtain ⟨N₄, O₄, A₄, oX4⟩ := turn_in N₁ ho2 O₃ (as := [ul, pl]) A₂
          clear N₁ ho2 O₃
          have hg : ([.none, .str "y" ty] : List Value)[((1 : Nat) : Int).toNat]? = some (.str "y" ty) := rfl
          have hu : ([.int 0 z0, .int 0 z1] : List Value)[((1 : Nat) : Int).toNat]? = some (.int 0 z1) := rfl
          have hup : ul ≠ pl := hne
          refine wpAny_assign_Name ?_
          (try k_fold)
          walk_at "go"
          obtain ⟨N₆, O₆, O₇⟩ := turn_out (by assumption) (by assumption) A₄ oX4
          exact ⟨_, _, _, _, rfl, fr_upd [("place", some _), ("name", some _), ("self", some (.ref m))] (by assumption) (by walk_at "eqs") (by walk_at "nots"), N₆, O₆, Src.nil, _, _, _, rfl, O₇, rfl, hsub, (by exact ⟨_, _, _, rfl, by assumption⟩ : MSt w ul pl z0 z1 ku po true _)⟩
      · rintro m₁ n₁ h tk ⟨pv2, X, n2, rfl, O₃, rfl, hsub, hX⟩ F₁ N₁
        obtain ⟨s1, s2, po2, rfl, hd2⟩ := hX
        (try k_fold)
        walk_at "go"
        obtain ⟨N₆, O₆, O₇⟩ := turn_out (X := []) (by assumption) (by assumption) A₂ oX
        exact ⟨_, _, _, _, rfl, fr_upd [("place", pv2), ("name", some _), ("self", some (.ref m))] (by assumption) (by walk_at "eqs") (by walk_at "nots"), N₆, O₆, (fun q hq => Or.inl (by rw [List.mem_singleton.mp hq]; exact G.s _ _ hmf)), _, _, _, _, rfl, O₇, rfl, ⟨s1, s2, po2, rfl, hd2⟩⟩
    | 2 =>
      cases hv
      obtain ⟨s1, s2, po2, rfl, hd2⟩ := hX
      obtain ⟨N₂, O₂, A₂, oX⟩ := turn_in N₁ ho O₁ (as := [ul, pl]) OffA.nil
      clear N₁ ho O₁
      refine wpAny_assign_Name ?_
      (try k_fold)
      walk_at "go"
      obtain ⟨N₆, O₆, O₇⟩ := turn_out (X := []) (by assumption) (by assumption) A₂ oX
      exact ⟨_, _, _, _, rfl, fr_upd [("place", pv), ("name", some _), ("self", some (.ref m))] (by assumption) (by walk_at "eqs") (by walk_at "nots"), N₆, O₆, (fun q hq => Or.inl (by rw [List.mem_singleton.mp hq]; exact G.s _ _ hmf)), _, _, _, _, rfl, O₇, rfl, ⟨s1, s2, po2, rfl, hd2⟩⟩
    | i + 3 => cases hv
  · rintro m₁ n₁ h tk ⟨pv, nv, X, n', rfl, O₁, rfl, hX⟩ F₁ N₁
    obtain ⟨s1, s2, po2, rfl, hd2⟩ := hX
    (try k_fold)
    walk_at "go"
    (try dsimp only)
    exact k _ _ _ _ _ (Fr.keep F₁) (of_news N₁) O₁ rfl ⟨rfl, ⟨s1, s2, po2, rfl, hd2⟩⟩


theorem exact_N (S : Store) (m md fl tl ul pl : Addr) (tags fvs : List Value) (a1 a2 a3 a4 : Tok) (kf kt : Nat) (hM : MatS w S m md fl tl ul pl tags fvs a1 a2 a3 a4 kf kt) (z0 z1 f1 f2 f3 ty : Tok) (ku : Nat) (po : Obj) (hpo : po.IsDictOf (strK w) []) (lo : (pl == sysModules) = false) (hne : ul ≠ pl) (e : tags = [.none, .none]) (ef : fvs = xyN f1 f2 f3) :
    MutT w 2 98 [.ref m] S [(ul, lisO [.int 0 z0, .int 0 z1] ku), (pl, po)] (fun X' tl r => r = .none ∧ MSt w ul pl z0 z1 ku po false X') := by
  unfold MutT
  intro dp un fr gd base g s Q E hdp G Bl hg hz hX k
  obtain ⟨mean, mg, mb, T⟩ := G.t
  have X := G.In
  obtain ⟨hmi, hmd, hmf, hmt⟩ := id hM
  subst e
  subst ef
  refine wpAny_call ?_
  k_dflt (refine' enterM (binds := [("self", Value.ref m)]) ?k1 ?k2 hg hz hX ?k6 ?k7 ?k8 ?k9 ?kB ?_ ?c5 ?c2 ?c3 ?c4; (case k1 => assumption); (case k2 => assumption); (case k6 => k_is); (case k7 => k_is); (case k8 => first | exact room_lt (by assumption) | omega | (dsimp only [Around.deeper]; omega)); (case k9 => first | exact BindsTo.of_eq rfl | exact binds_K (X.keeps hg) rfl (by k_is) rfl rfl rfl); (case c5 => decide); (case kB => exact locs rfl); (case c2 => exact rfl); (case c3 => exact rfl); (case c4 => exact rfl); k_whole)
  intro h₁ F N
  have O : Off ([(ul, lisO [.int 0 z0, .int 0 z1] ku), (pl, po)]) [] := Off.nilR
  walk_at "clean"
  walk_at "go"
  refine wpAny_For ?_
  walk_at "go"
  refine for_list (vs := xyN f1 f2 f3) (ExJ w ul pl z0 z1 ku po m (fun _ => false)) (Or.inl (G.s _ _ hmf)) rfl (by assumption) (by assumption) ⟨none, none, _, _, rfl, O, by walk_at "upd", rfl⟩ ?_ ?_
  · rintro i v m₁ n₁ X' h tk hv ⟨pv, nv, X, n', rfl, O₁, rfl, hX⟩ hsrc ho F₁ N₁
    match i with
    | 0 =>
      cases hv
      obtain rfl : X = [(ul, lisO [.int 0 z0, .int 0 z1] ku), (pl, po)] := hX
      obtain ⟨N₂, O₂, A₂, oX⟩ := turn_in N₁ ho O₁ (as := [ul, pl]) OffA.nil
      clear N₁ ho O₁
      refine wpAny_assign_Name ?_
      (try k_fold)
      walk_at "go"
      refine wpAny_For ?_
      walk_at "go"
      refine for_rangeV 2 (fun j => (j : Int)) (ExI w ul pl z0 z1 ku po m _ _ (.str "x" f1) (fun _ => false)) (by assumption) rfl (small_up (n := 2) (by decide)) (size_up (n := 2)) (by assumption) (by assumption) ⟨pv, _, _, rfl, by assumption, by walk_at "upd", fun q h => h, rfl⟩ (by intro i hi; exact om_22 _) ?_ ?_
      · rintro j tj m₁ n₁ X'' h tk hj ⟨pv2, X, n2, rfl, O₃, rfl, hsub, hX⟩ ho2 F₁ N₁
        have hj2 : j = 0 ∨ j = 1 := by exact om_154 _ hj
        obtain rfl : X = [(ul, lisO [.int 0 z0, .int 0 z1] ku), (pl, po)] := hX
        obtain ⟨N₄, O₄, A₄, oX4⟩ := turn_in N₁ ho2 O₃ (as := [ul, pl]) A₂
        clear N₁ ho2 O₃
        have hg : ([.none, .none] : List Value)[((j : Nat) : Int).toNat]? = some (.none) := by rcases hj2 with rfl | rfl <;> rfl
        have hu : ∃ z, ([.int 0 z0, .int 0 z1] : List Value)[((j : Nat) : Int).toNat]? = some (.int 0 z) := by rcases hj2 with rfl | rfl <;> exact ⟨_, rfl⟩
        obtain ⟨z, hu⟩ := hu
        have hup : ul ≠ pl := hne
        refine wpAny_assign_Name ?_
        (try k_fold)
        walk_at "go"
        obtain ⟨N₆, O₆, O₇⟩ := turn_out (by assumption) (by assumption) A₄ oX4
        exact ⟨_, _, _, _, rfl, fr_upd [("place", some _), ("name", some _), ("self", some (.ref m))] (by assumption) (by walk_at "eqs") (by walk_at "nots"), N₆, O₆, Src.nil, _, _, _, rfl, O₇, rfl, hsub, rfl⟩
      · rintro m₁ n₁ h tk ⟨pv2, X, n2, rfl, O₃, rfl, hsub, hX⟩ F₁ N₁
        obtain rfl : X = [(ul, lisO [.int 0 z0, .int 0 z1] ku), (pl, po)] := hX
        (try k_fold)
        walk_at "go"
        obtain ⟨N₆, O₆, O₇⟩ := turn_out (X := []) (by assumption) (by assumption) A₂ oX
        exact ⟨_, _, _, _, rfl, fr_upd [("place", pv2), ("name", some _), ("self", some (.ref m))] (by assumption) (by walk_at "eqs") (by walk_at "nots"), N₆, O₆, (fun q hq => Or.inl (by rw [List.mem_singleton.mp hq]; exact G.s _ _ hmf)), _, _, _, _, rfl, O₇, rfl, rfl⟩
    | 1 =>
      cases hv
      obtain rfl : X = [(ul, lisO [.int 0 z0, .int 0 z1] ku), (pl, po)] := hX
      obtain ⟨N₂, O₂, A₂, oX⟩ := turn_in N₁ ho O₁ (as := [ul, pl]) OffA.nil
      clear N₁ ho O₁
      refine wpAny_assign_Name ?_
      (try k_fold)
      walk_at "go"
      refine wpAny_For ?_
      walk_at "go"
      refine for_rangeV 2 (fun j => (j : Int)) (ExI w ul pl z0 z1 ku po m _ _ (.str "y" f2) (fun _ => false)) (by assumption) rfl (small_up (n := 2) (by decide)) (size_up (n := 2)) (by assumption) (by assumption) ⟨pv, _, _, rfl, by assumption, by walk_at "upd", fun q h => h, rfl⟩ (by intro i hi; exact om_22 _) ?_ ?_
      · rintro j tj m₁ n₁ X'' h tk hj ⟨pv2, X, n2, rfl, O₃, rfl, hsub, hX⟩ ho2 F₁ N₁
        have hj2 : j = 0 ∨ j = 1 := by exact om_154 _ hj
        obtain rfl : X = [(ul, lisO [.int 0 z0, .int 0 z1] ku), (pl, po)] := hX
        obtain ⟨N₄, O₄, A₄, oX4⟩ := turn_in N₁ ho2 O₃ (as := [ul, pl]) A₂
        clear N₁ ho2 O₃
        have hg : ([.none, .none] : List Value)[((j : Nat) : Int).toNat]? = some (.none) := by rcases hj2 with rfl | rfl <;> rfl
        have hu : ∃ z, ([.int 0 z0, .int 0 z1] : List Value)[((j : Nat) : Int).toNat]? = some (.int 0 z) := by rcases hj2 with rfl | rfl <;> exact ⟨_, rfl⟩
        obtain ⟨z, hu⟩ := hu
        have hup : ul ≠ pl := hne
        refine wpAny_assign_Name ?_
        (try k_fold)
        walk_at "go"
        obtain ⟨N₆, O₆, O₇⟩ := turn_out (by assumption) (by assumption) A₄ oX4
        exact ⟨_, _, _, _, rfl, fr_upd [("place", some _), ("name", some _), ("self", some (.ref m))] (by assumption) (by walk_at "eqs") (by walk_at "nots"), N₆, O₆, Src.nil, _, _, _, rfl, O₇, rfl, hsub, rfl⟩
      · rintro m₁ n₁ h tk ⟨pv2, X, n2, rfl, O₃, rfl, hsub, hX⟩ F₁ N₁
        obtain rfl : X = [(ul, lisO [.int 0 z0, .int 0 z1] ku), (pl, po)] := hX
        (try k_fold)
        walk_at "go"
        obtain ⟨N₆, O₆, O₇⟩ := turn_out (X := []) (by assumption) (by assumption) A₂ oX
        exact ⟨_, _, _, _, rfl, fr_upd [("place", pv2), ("name", some _), ("self", some (.ref m))] (by assumption) (by walk_at "eqs") (by walk_at "nots"), N₆, O₆, (fun q hq => Or.inl (by rw [List.mem_singleton.mp hq]; exact G.s _ _ hmf)), _, _, _, _, rfl, O₇, rfl, rfl⟩
    | 2 =>
      cases hv
      obtain rfl : X = [(ul, lisO [.int 0 z0, .int 0 z1] ku), (pl, po)] := hX
      obtain ⟨N₂, O₂, A₂, oX⟩ := turn_in N₁ ho O₁ (as := [ul, pl]) OffA.nil
      clear N₁ ho O₁
      refine wpAny_assign_Name ?_
      (try k_fold)
      walk_at "go"
      obtain ⟨N₆, O₆, O₇⟩ := turn_out (X := []) (by assumption) (by assumption) A₂ oX
      exact ⟨_, _, _, _, rfl, fr_upd [("place", pv), ("name", some _), ("self", some (.ref m))] (by assumption) (by walk_at "eqs") (by walk_at "nots"), N₆, O₆, (fun q hq => Or.inl (by rw [List.mem_singleton.mp hq]; exact G.s _ _ hmf)), _, _, _, _, rfl, O₇, rfl, rfl⟩
    | i + 3 => cases hv
  · rintro m₁ n₁ h tk ⟨pv, nv, X, n', rfl, O₁, rfl, hX⟩ F₁ N₁
    obtain rfl : X = [(ul, lisO [.int 0 z0, .int 0 z1] ku), (pl, po)] := hX
    (try k_fold)
    walk_at "go"
    (try dsimp only)
    exact k _ _ _ _ _ (Fr.keep F₁) (of_news N₁) O₁ rfl ⟨rfl, rfl⟩

theorem is_free2 (S : Store) (m md fl tl ul pl : Addr) (tags fvs : List Value) (a1 a2 a3 a4 : Tok) (kf kt : Nat) (hM : MatS w S m md fl tl ul pl tags fvs a1 a2 a3 a4 kf kt) (us : List Value) (ku i : Nat) (it ut : Tok) (u : Int) (b : Bool) (hU : S ul (lisO us ku)) (hu : us[((i : Nat) : Int).toNat]? = some (.int u ut)) (ht : tags[((i : Nat) : Int).toNat]? = some .none) (hi : i ≤ 64) (hb : (u == 0) = b) : Pure w 2 126 [.ref m, .int (i : Nat) it] S (fun _ r => r = .bool b) :=
  hb ▸ is_free_ok S m md fl tl ul pl tags fvs a1 a2 a3 a4 kf kt hM us ku i it ut u hU hu ht hi
theorem rows_V10_1 : True := by
  k_with "o call ref" => (first | (((with_reducible show wpAny _ _ (call (Value.ref 126) _) _ _ _); k_dflt ((k_dflt (refine' PureT.useY (is_free2 _ _ _ _ _ _ _ _ _ _ _ _ _ _ _ ?kM_52 _ _ _ _ _ _ false ?kU_52 ?ku_52 ?kt_52 ?ki_52 ?kb_52) ?kG ?kF ?kN ?kO rfl ?kB rfl rfl rfl ?kd ?_; k_extra "kt")); (case kM_52 => exact MatS.mono (fun _ _ => Kn.l) (by assumption)); (case kU_52 => exact Kn.r (by k_extra "o mem")); (case ku_52 => assumption); (case kt_52 => assumption); (case ki_52 => k_extra "o om"); (case kb_52 => rfl)); intro _ _ _ _ _ _ _ _ hp; subst hp; (try k_sweep); (try dsimp only))) | fail "-")
  k_with "o call ref" => (first | (((with_reducible show wpAny _ _ (call (Value.ref 126) _) _ _ _); k_dflt ((k_dflt (refine' PureT.useY (is_free2 _ _ _ _ _ _ _ _ _ _ _ _ _ _ _ ?kM_53 _ _ _ _ _ _ true ?kU_53 ?ku_53 ?kt_53 ?ki_53 ?kb_53) ?kG ?kF ?kN ?kO rfl ?kB rfl rfl rfl ?kd ?_; k_extra "kt")); (case kM_53 => exact MatS.mono (fun _ _ => Kn.l) (by assumption)); (case kU_53 => exact Kn.r (by k_extra "o mem")); (case ku_53 => assumption); (case kt_53 => assumption); (case ki_53 => k_extra "o om"); (case kb_53 => rfl)); intro _ _ _ _ _ _ _ _ hp; subst hp; (try k_sweep); (try dsimp only))) | fail "-")
  trivial

theorem positional_Y (S : Store) (m md fl tl ul pl : Addr) (tags fvs : List Value) (a1 a2 a3 a4 : Tok) (kf kt : Nat) (hM : MatS w S m md fl tl ul pl tags fvs a1 a2 a3 a4 kf kt) (f1 f2 f3 ty : Tok) (ku : Nat) (X0 : Led) (hX0 : PosY w ul pl ku 0 X0) (lo : (pl == sysModules) = false) (hne : ul ≠ pl) (e : tags = [.none, .str "y" ty]) (ef : fvs = xyN f1 f2 f3) :
    MutT w 4 119 [.ref m] S X0 (fun X' tl r => r = .none ∧ PosY w ul pl ku 3 X') := by
  unfold MutT
  intro dp un fr gd base g s Q E hdp G Bl hg hz hX k
  obtain ⟨mean, mg, mb, T⟩ := G.t
  have X := G.In
  obtain ⟨hmi, hmd, hmf, hmt⟩ := id hM
  subst e
  subst ef
  have eX : X0.map (·.1) = [ul, pl] := by obtain ⟨z0, z1, po, kvs, rfl, hpo, hk⟩ := id hX0; rfl
  refine wpAny_call ?_
  k_dflt (refine' enterM (binds := [("self", Value.ref m)]) ?k1 ?k2 hg hz hX ?k6 ?k7 ?k8 ?k9 ?kB ?_ ?c5 ?c2 ?c3 ?c4; (case k1 => assumption); (case k2 => assumption); (case k6 => k_is); (case k7 => k_is); (case k8 => first | exact room_lt (by assumption) | omega | (dsimp only [Around.deeper]; omega)); (case k9 => first | exact BindsTo.of_eq rfl | exact binds_K (X.keeps hg) rfl (by k_is) rfl rfl rfl); (case c5 => decide); (case kB => exact locs rfl); (case c2 => exact rfl); (case c3 => exact rfl); (case c4 => exact rfl); k_whole)
  intro h₁ F N
  have O : Off (X0) [] := Off.nilR
  walk_at "clean"
  walk_at "go"
  refine wpAny_For ?_
  walk_at "go"
  refine for_list (vs := xyN f1 f2 f3) (PoJ (PosY w ul pl ku) m (fun _ => 0)) (Or.inl (G.s _ _ hmf)) rfl (by assumption) (by assumption) ⟨_, none, _, _, rfl, O, by walk_at "upd", hX0⟩ ?_ ?_
  · rintro i v m₁ n₁ X' h tk hv ⟨pt, nv, X, n', rfl, O₁, rfl, hX⟩ hsrc ho F₁ N₁
    match i with
    | 0 =>
      cases hv
      obtain ⟨z0, z1, po, kvs, rfl, hpo, ⟨q1, rfl⟩⟩ := hX
      obtain ⟨N₂, O₂, A₂, oX⟩ := turn_in N₁ ho O₁ (as := [ul, pl]) OffA.nil
      clear N₁ ho O₁
      refine wpAny_assign_Name ?_
      (try k_fold)
      walk_at "go"
      refine While_inv2 (WhJ (X' ++ []) [(ul, lisO [.int 0 z0, .int 2 z1] ku), (pl, po)] _ m (.str "x" f1) 0) (n₀ := 0) (by assumption) (by assumption) ⟨0, pt, _, rfl, rfl, by assumption, by walk_at "upd", fun q h => h⟩ ?_ PassesOwn.never
      rintro kk m₁ n₁ h tk F₁ N₁ ⟨p, pt2, n2, hpk, rfl, O₃, rfl, hsub⟩
      have hup : ul ≠ pl := hne
      obtain rfl : p = 0 := by exact om_150 _ _ hpk
      have hg : ([.none, .str "y" ty] : List Value)[((0 : Nat) : Int).toNat]? = some .none := rfl
      have hu : ([.int 0 z0, .int 2 z1] : List Value)[((0 : Nat) : Int).toNat]? = some (.int 0 z0) := rfl
      (try k_fold)
      walk_at "go"
      obtain ⟨N₆, O₆, O₇⟩ := turn_out (X := []) (by assumption) (by assumption) A₂ oX
      exact ⟨_, _, _, _, rfl, fr_upd [("name", some _), ("place", some _), ("self", some (.ref m))] (by assumption) (by walk_at "eqs") (by walk_at "nots"), N₆, O₆, (fun q hq => Or.inl (by rw [List.mem_singleton.mp hq]; exact G.s _ _ hmf)), _, _, _, _, rfl, O₇, rfl, _, _, _, _, rfl, by assumption, _, _, rfl⟩
    | 1 =>
      cases hv
      obtain ⟨z0, z1, po, kvs, rfl, hpo, ⟨q1, q2, rfl⟩⟩ := hX
      obtain ⟨N₂, O₂, A₂, oX⟩ := turn_in N₁ ho O₁ (as := [ul, pl]) OffA.nil
      clear N₁ ho O₁
      refine wpAny_assign_Name ?_
      (try k_fold)
      walk_at "go"
      obtain ⟨N₆, O₆, O₇⟩ := turn_out (X := []) (by assumption) (by assumption) A₂ oX
      exact ⟨_, _, _, _, rfl, fr_upd [("name", some _), ("place", some _), ("self", some (.ref m))] (by assumption) (by walk_at "eqs") (by walk_at "nots"), N₆, O₆, (fun q hq => Or.inl (by rw [List.mem_singleton.mp hq]; exact G.s _ _ hmf)), _, _, _, _, rfl, O₇, rfl, z0, z1, po, _, rfl, hpo, q1, q2, rfl⟩
    | 2 =>
      cases hv
      obtain ⟨z0, z1, po, kvs, rfl, hpo, ⟨q1, q2, rfl⟩⟩ := hX
      obtain ⟨N₂, O₂, A₂, oX⟩ := turn_in N₁ ho O₁ (as := [ul, pl]) OffA.nil
      clear N₁ ho O₁
      refine wpAny_assign_Name ?_
      (try k_fold)
      walk_at "go"
      obtain ⟨N₆, O₆, O₇⟩ := turn_out (X := []) (by assumption) (by assumption) A₂ oX
      exact k _ [(ul, _), (pl, _)] _ _ _ (Fr.keep (by assumption)) (fun p hp => of_news N₆ p (List.mem_append_right _ hp)) O₇ (by rw [eX]; rfl) ⟨rfl, z0, z1, po, _, rfl, hpo, q1, q2, rfl⟩
    | i + 3 => cases hv
  · rintro m₁ n₁ h tk ⟨pt, nv, X, n', rfl, O₁, rfl, hX⟩ F₁ N₁
    (try k_fold)
    walk_at "go"
    (try dsimp only)
    obtain ⟨z0, z1, po, kvs, rfl, hpo, hk⟩ := hX
    exact k _ _ _ _ _ (Fr.keep F₁) (of_news N₁) O₁ (by rw [eX]; rfl) ⟨rfl, z0, z1, po, kvs, rfl, hpo, hk⟩


theorem positional_N (S : Store) (m md fl tl ul pl : Addr) (tags fvs : List Value) (a1 a2 a3 a4 : Tok) (kf kt : Nat) (hM : MatS w S m md fl tl ul pl tags fvs a1 a2 a3 a4 kf kt) (f1 f2 f3 ty : Tok) (ku : Nat) (X0 : Led) (hX0 : PosN w ul pl ku 0 X0) (lo : (pl == sysModules) = false) (hne : ul ≠ pl) (e : tags = [.none, .none]) (ef : fvs = xyN f1 f2 f3) :
    MutT w 4 119 [.ref m] S X0 (fun X' tl r => r = .none ∧ PosN w ul pl ku 3 X') := by
  unfold MutT
  intro dp un fr gd base g s Q E hdp G Bl hg hz hX k
  obtain ⟨mean, mg, mb, T⟩ := G.t
  have X := G.In
  obtain ⟨hmi, hmd, hmf, hmt⟩ := id hM
  subst e
  subst ef
  have eX : X0.map (·.1) = [ul, pl] := by obtain ⟨z0, z1, po, kvs, rfl, hpo, hk⟩ := id hX0; rfl
  refine wpAny_call ?_
  k_dflt (refine' enterM (binds := [("self", Value.ref m)]) ?k1 ?k2 hg hz hX ?k6 ?k7 ?k8 ?k9 ?kB ?_ ?c5 ?c2 ?c3 ?c4; (case k1 => assumption); (case k2 => assumption); (case k6 => k_is); (case k7 => k_is); (case k8 => first | exact room_lt (by assumption) | omega | (dsimp only [Around.deeper]; omega)); (case k9 => first | exact BindsTo.of_eq rfl | exact binds_K (X.keeps hg) rfl (by k_is) rfl rfl rfl); (case c5 => decide); (case kB => exact locs rfl); (case c2 => exact rfl); (case c3 => exact rfl); (case c4 => exact rfl); k_whole)
  intro h₁ F N
  have O : Off (X0) [] := Off.nilR
  walk_at "clean"
  walk_at "go"
  refine wpAny_For ?_
  walk_at "go"
  refine for_list (vs := xyN f1 f2 f3) (PoJ (PosN w ul pl ku) m (fun i => if i ≤ 1 then 0 else 1)) (Or.inl (G.s _ _ hmf)) rfl (by assumption) (by assumption) ⟨_, none, _, _, rfl, O, by walk_at "upd", hX0⟩ ?_ ?_
  · rintro i v m₁ n₁ X' h tk hv ⟨pt, nv, X, n', rfl, O₁, rfl, hX⟩ hsrc ho F₁ N₁
    match i with
    | 0 =>
      cases hv
      obtain ⟨z0, z1, po, kvs, rfl, hpo, rfl⟩ := hX
      obtain ⟨N₂, O₂, A₂, oX⟩ := turn_in N₁ ho O₁ (as := [ul, pl]) OffA.nil
      clear N₁ ho O₁
      refine wpAny_assign_Name ?_
      (try k_fold)
      walk_at "go"
      refine While_inv2 (WhJ (X' ++ []) [(ul, lisO [.int 0 z0, .int 0 z1] ku), (pl, po)] _ m (.str "x" f1) 0) (n₀ := 0) (by assumption) (by assumption) ⟨0, pt, _, rfl, rfl, by assumption, by walk_at "upd", fun q h => h⟩ ?_ PassesOwn.never
      rintro kk m₁ n₁ h tk F₁ N₁ ⟨p, pt2, n2, hpk, rfl, O₃, rfl, hsub⟩
      have hup : ul ≠ pl := hne
      obtain rfl : p = 0 := by exact om_150 _ _ hpk
      have hg : ([.none, .none] : List Value)[((0 : Nat) : Int).toNat]? = some .none := rfl
      have hu : ([.int 0 z0, .int 0 z1] : List Value)[((0 : Nat) : Int).toNat]? = some (.int 0 z0) := rfl
      (try k_fold)
      walk_at "go"
      obtain ⟨N₆, O₆, O₇⟩ := turn_out (X := []) (by assumption) (by assumption) A₂ oX
      exact ⟨_, _, _, _, rfl, fr_upd [("name", some _), ("place", some _), ("self", some (.ref m))] (by assumption) (by walk_at "eqs") (by walk_at "nots"), N₆, O₆, (fun q hq => Or.inl (by rw [List.mem_singleton.mp hq]; exact G.s _ _ hmf)), _, _, _, _, rfl, O₇, rfl, _, _, _, _, rfl, by assumption, _, rfl⟩
    | 1 =>
      cases hv
      obtain ⟨z0, z1, po, kvs, rfl, hpo, ⟨q1, rfl⟩⟩ := hX
      obtain ⟨N₂, O₂, A₂, oX⟩ := turn_in N₁ ho O₁ (as := [ul, pl]) OffA.nil
      clear N₁ ho O₁
      refine wpAny_assign_Name ?_
      (try k_fold)
      walk_at "go"
      refine While_inv2 (WhJ (X' ++ []) [(ul, lisO [.int 2 z0, .int 0 z1] ku), (pl, po)] _ m (.str "y" f2) 1) (n₀ := 1) (by assumption) (by assumption) ⟨0, pt, _, rfl, rfl, by assumption, by walk_at "upd", fun q h => h⟩ ?_ PassesOwn.never
      rintro kk m₁ n₁ h tk F₁ N₁ ⟨p, pt2, n2, hpk, rfl, O₃, rfl, hsub⟩
      have hup : ul ≠ pl := hne
      have hp2 : p = 0 ∨ p = 1 := by exact om_151 _ _ hpk
      rcases hp2 with rfl | rfl
      · have hg : ([.none, .none] : List Value)[((0 : Nat) : Int).toNat]? = some .none := rfl
        have hu : ([.int 2 z0, .int 0 z1] : List Value)[((0 : Nat) : Int).toNat]? = some (.int 2 z0) := rfl
        (try k_fold)
        walk_at "go"
        exact ⟨_, _, _, _, 0, rfl, fr_upd [("name", some _), ("place", some (.int ((1 : Nat) : Int) _)), ("self", some (.ref m))] (by assumption) (by walk_at "eqs") (by walk_at "nots"), by assumption, by exact om_152 _ hpk, 1, _, _, rfl, rfl, by assumption, rfl, fun q hq => List.mem_append_left _ (hsub q hq)⟩
      · have hg : ([.none, .none] : List Value)[((1 : Nat) : Int).toNat]? = some .none := rfl
        have hu : ([.int 2 z0, .int 0 z1] : List Value)[((1 : Nat) : Int).toNat]? = some (.int 0 z1) := rfl
        (try k_fold)
        walk_at "go"
        obtain ⟨N₆, O₆, O₇⟩ := turn_out (X := []) (by assumption) (by assumption) A₂ oX
        exact ⟨_, _, _, _, rfl, fr_upd [("name", some _), ("place", some _), ("self", some (.ref m))] (by assumption) (by walk_at "eqs") (by walk_at "nots"), N₆, O₆, (fun q hq => Or.inl (by rw [List.mem_singleton.mp hq]; exact G.s _ _ hmf)), _, _, _, _, rfl, O₇, rfl, _, _, _, _, rfl, by assumption, _, _, rfl⟩
    | 2 =>
      cases hv
      obtain ⟨z0, z1, po, kvs, rfl, hpo, ⟨q1, q2, rfl⟩⟩ := hX
      obtain ⟨N₂, O₂, A₂, oX⟩ := turn_in N₁ ho O₁ (as := [ul, pl]) OffA.nil
      clear N₁ ho O₁
      refine wpAny_assign_Name ?_
      (try k_fold)
      walk_at "go"
      obtain ⟨N₆, O₆, O₇⟩ := turn_out (X := []) (by assumption) (by assumption) A₂ oX
      exact k _ [(ul, _), (pl, _)] _ _ _ (Fr.keep (by assumption)) (fun p hp => of_news N₆ p (List.mem_append_right _ hp)) O₇ (by rw [eX]; rfl) ⟨rfl, z0, z1, po, _, rfl, hpo, q1, q2, rfl⟩
    | i + 3 => cases hv
  · rintro m₁ n₁ h tk ⟨pt, nv, X, n', rfl, O₁, rfl, hX⟩ F₁ N₁
    (try k_fold)
    walk_at "go"
    (try dsimp only)
    obtain ⟨z0, z1, po, kvs, rfl, hpo, hk⟩ := hX
    exact k _ _ _ _ _ (Fr.keep F₁) (of_news N₁) O₁ (by rw [eX]; rfl) ⟨rfl, z0, z1, po, kvs, rfl, hpo, hk⟩

theorem rows_V11_1 : True := by
  k_with "o binaryOp Mult ref int" => (first | ((k_here; k_dflt (refine' mulTwoL ?F_54 ?N_54 ?O_54 ?l_54 ?c_54 ?_; (case F_54 => assumption); (case N_54 => assumption); (case O_54 => assumption); (case l_54 => k_extra "o at"); (case c_54 => rfl)); intro _ _ _ _ _ _ _ _; (try k_sweep))) | fail "-")
  trivial

theorem two_tags : ∀ {tags : List Value}, tags.length = 2 → ∃ a b, tags = [a, b]
  | l, h => by
    obtain ⟨a, t, rfl⟩ := List.exists_cons_of_length_eq_add_one h
    obtain ⟨b, u, rfl⟩ := List.exists_cons_of_length_eq_add_one (Nat.succ.inj h)
    exact ⟨a, b, by rw [List.eq_nil_of_length_eq_zero (Nat.succ.inj (Nat.succ.inj h))]⟩
inductive MatMade (w : World) (fl tl : Addr) (tl' : Led) (r : Value) : Prop
  | mk (m md ul pl a1 a2 a3 a4 z ku po n' : _) (h1_ : r = .ref m) (h2_ : tl' = [(ul, lisO [.int 0 z, .int 0 z] ku), (pl, po)] ++ n') (h3_ : OffA n' [ul, pl]) (h4_ : ul ≠ pl) (h5_ : (pl == sysModules) = false) (h6_ : po.IsDictOf (strK w) []) (h7_ : (m, instObj 134 md) ∈ n') (h8_ : (md, dictOf [de w "formals" a1 (.ref fl), de w "tags" a2 (.ref tl), de w "used" a3 (.ref ul), de w "places" a4 (.ref pl)] 4) ∈ n') : MatMade w fl tl tl' r
theorem mat_new (S : Store) (fl tl : Addr) (tags : List Value) (kt : Nat) (ht : S tl (lisO tags kt)) (h2 : tags.length = 2) : PureT w 4 134 [.ref fl, .ref tl] S (MatMade w fl tl) := by
  unfold PureT
  intro dp un fr gd base s Q E hdp G Bl k
  obtain ⟨mean, mg, mb, T⟩ := G.t
  have X := G.In
  obtain ⟨tg0, tg1, rfl⟩ := two_tags h2
  refine wpAny_call ?_
  k_dflt (refine' newP (binds := [("self", Value.ref (s.heap.objs.size + 1)), ("formals", Value.ref fl), ("tags", Value.ref tl)]) ?k1 ?k2 ?m1 ?m2 ?m3 ?k6 ?k7 ?k8 ?k9 ?kB ?_ ?c5 ?c2 ?c3 ?c4; (case k1 => assumption); (case k2 => assumption); (case m1 => k_is); (case m2 => k_is); (case m3 => k_is); (case k6 => k_is); (case k7 => k_is); (case k8 => first | exact room_lt (by assumption) | exact om_79 _ hdp | (dsimp only [Around.deeper]; exact om_79 _ hdp)); (case k9 => intro s' X'; first | exact BindsTo.of_eq rfl | exact binds_K X' rfl (by k_is) rfl rfl rfl); (case c5 => decide); (case kB => exact locs rfl); (case c2 => exact rfl); (case c3 => exact rfl); (case c4 => exact rfl); k_whole)
  intro h₁ tk₁ F N
  have O : Off [(s.heap.objs.size + 1, instObj 134 s.heap.objs.size), (s.heap.objs.size, dictOf [] 0)] [] := fun _ _ _ h => nomatch h
  walk_at "clean"
  walk_at "go"
  (rename Obj.IsDictOf _ _ _ => hdd)
  (rename (_ == sysModules) = false => lo)
  rename_i ld _ _ _ Ff Nf Of
  exact k _ _ _ _ (Fr.keep Ff) (mat_led Nf) ⟨_, _, _, _, _, _, _, _, _, _, _, _, rfl, rfl, mat_off Of, mat_ne ld, lo, hdd, .head _, .tail _ (.head _)⟩

theorem match_N (S : Store) (fl al t1 t2 : Addr) (ka kf : Nat) (f1 f2 f3 ty : Tok) (xv yv : Value) (hal : S al (lisO [.ref t1, .ref t2] ka)) (h1 : S t1 (tupO [.none, xv])) (h2 : S t2 (tupO [.none, yv])) (hfl : S fl (lisO (xyN f1 f2 f3) kf)) : Pure w 10 163 [.ref fl, .ref al, .none] S (fun S' r => MatchP w S' r) := by
  (try unfold Pure)
  unfold PureT
  intro dp un fr gd base s Q E hdp G Bl k
  obtain ⟨mean, mg, mb, T⟩ := G.t
  have X := G.In
  (refine wpAny_call ?_; k_dflt (refine' enterP (binds := [("formals", Value.ref fl), ("args", Value.ref al), ("show", Value.none)]) ?k1 ?k2 ?k6 ?k7 ?k8 ?k9 ?kB ?_ ?c5 ?c2 ?c3 ?c4; k_extra "ktr"))
  intro h₁ F
  have N : News s.heap s.heap.objs.size h₁ ([] ++ []) := News.nil
  have O : Off [] [] := fun _ h => nomatch h
  walk_at "clean"
  walk_at "go"
  refine eval_comp rfl rfl (by decide) ?_
  walk_at "go"
  refine comp_list (vs := [.ref t1, .ref t2]) (TagJ [.none, .none]) (Or.inl (G.s _ _ hal)) rfl (Nat.le_of_ble_eq_true rfl) (by assumption) (by assumption) rfl (by decide) rfl rfl ?_ (fin_eval ?_)
  · rintro i vv hv' ys n₁ Z C oC m₂ h tk rfl hs oZ hCm nsC hm₂ F₁ N₁
    match i with
    | 0 =>
      cases hv'
      refine tests_nil ?_
      (try k_fold)
      walk_at "go"
      exact ⟨_, _, _, rfl, by assumption, by assumption, by assumption, hs, rfl⟩
    | 1 =>
      cases hv'
      refine tests_nil ?_
      (try k_fold)
      walk_at "go"
      exact ⟨_, _, _, rfl, by assumption, by assumption, by assumption, hs, rfl⟩
    | i + 2 => cases hv'
  · rintro D ys n₁ kk h tk rfl F₁ N₁ o1
    obtain ⟨N₂, O₂⟩ := led_push (Y := []) N₁ (Off.nilL _) o1
    clear N₁ o1
    (try k_fold)
    walk_at "go"
    (k_dflt (refine' PureT.use (mat_new _ fl D [.none, .none] kk (Kn.r (.head _)) rfl) ?kG ?kF ?kN ?kO rfl ?kB rfl rfl rfl ?kd ?_; k_extra "kt"))
    rintro r tl h' tk' F' N' O' o' ⟨m, md, ul, pl, a1, a2, a3, a4, z, ku, po, n', rfl, rfl, oA, hne, lo, hpo, hm, hmd⟩
    obtain ⟨N₃, O₃⟩ := led_joinN N' o' oA rfl
    clear N' O' o' oA
    have A₃ : OffA [] [ul, pl] := OffA.nil
    have hM : MatS w (Kn S ((D, lisO (List.take 2 [.none, .none]) kk) :: n₁ ++ n')) m md fl D ul pl [.none, .none] (xyN f1 f2 f3) a1 a2 a3 a4 kf kk := ⟨Kn.r (List.mem_append_right _ hm), Kn.r (List.mem_append_right _ hmd), Kn.l hfl, Kn.r (.head _)⟩
    (try k_sweep)
    walk_at "go"
    (try dsimp only)
    (k_dflt (refine' MutT.use (exact_N _ m md fl D ul pl [.none, .none] (xyN f1 f2 f3) a1 a2 a3 a4 kf kk hM.nil0 z z f1 f2 f3 ty ku po hpo lo hne rfl rfl) ?kG ?kF ?kN ?kO ?kA rfl ?kB rfl rfl rfl ?kd ?_; k_extra "km"))
    rintro r X2 tl2 h2 tk2 F2 N2 O2 o2 ea2 ⟨rfl, hX⟩
    obtain rfl : X2 = [(ul, lisO [.int 0 z, .int 0 z] ku), (pl, po)] := hX
    have hM2 := MatS.mono (Kn.appR (n' := tl2)) hM
    (try k_sweep)
    walk_at "go"
    (try dsimp only)
    (k_dflt (refine' PureT.useY (partial_ok _ m md fl D ul pl [.none, .none] (xyN f1 f2 f3) a1 a2 a3 a4 kf kk (hM2.y (Y := [] ++ [(ul, lisO [.int 0 z, .int 0 z] ku), (pl, po)])) _ _ _ _ f1 f2 f3 ku .none _ _ (Kn.r (by walk_at "mem")) (Kn.r (by walk_at "mem")) hpo lo rfl rfl (.inl rfl)) ?kG ?kF ?kN ?kO rfl ?kB rfl rfl rfl ?kd ?_; k_extra "kt"))
    rintro r tl3 h3 tk3 F3 N3 O3 o3 rfl
    have hM3 := MatS.mono (Kn.appR (n' := tl3)) hM2
    (try k_sweep)
    walk_at "go"
    (try dsimp only)
    (k_dflt (refine' MutT.use (positional_N _ m md fl D ul pl [.none, .none] (xyN f1 f2 f3) a1 a2 a3 a4 kf kk hM3.nil0 f1 f2 f3 ty ku _ ⟨_, _, po, _, rfl, hpo, rfl⟩ lo hne rfl rfl) ?kG ?kF ?kN ?kO ?kA rfl ?kB rfl rfl rfl ?kd ?_; k_extra "km"))
    rintro r X4 tl4 h4 tk4 F4 N4 O4 o4 ea4 ⟨rfl, z0, z1, po4, kvs4, rfl, hpo4, q1, q2, rfl⟩
    have hM4 := MatS.mono (Kn.appR (n' := tl4)) hM3
    (try k_sweep)
    walk_at "go"
    (try dsimp only)
    (k_dflt (refine' PureT.useY (rest_ok _ m md fl D ul pl [.none, .none] (xyN f1 f2 f3) a1 a2 a3 a4 kf kk (hM4.y (Y := [] ++ [(ul, lisO [.int 2 z0, .int 2 z1] ku), (pl, po4)])) _ _ ku .none (Kn.r (by walk_at "mem")) rfl) ?kG ?kF ?kN ?kO rfl ?kB rfl rfl rfl ?kd ?_; k_extra "kt"))
    rintro r tl5 h5 tk5 F5 N5 O5 o5 ⟨R, c, rfl, hR⟩
    have hM5 := MatS.mono (Kn.appR (n' := tl5)) hM4
    (try k_sweep)
    walk_at "go"
    (try dsimp only)
    exact k _ _ _ _ (Fr.keep (by assumption)) (of_news (by assumption)) ⟨_, pl, po4, R, c, _, _, _, rfl, Kn.r (by walk_at "mem"), Kn.r (by walk_at "mem"), hpo4, lo, rfl, rfl, Kn.r (by walk_at "mem")⟩


theorem match_Y (S : Store) (fl al t1 t2 : Addr) (ka kf : Nat) (f1 f2 f3 ty : Tok) (xv yv : Value) (hal : S al (lisO [.ref t1, .ref t2] ka)) (h1 : S t1 (tupO [.none, xv])) (h2 : S t2 (tupO [(.str "y" ty), yv])) (hfl : S fl (lisO (xyN f1 f2 f3) kf)) : Pure w 10 163 [.ref fl, .ref al, .none] S (fun S' r => MatchP w S' r) := by
  (try unfold Pure)
  unfold PureT
  intro dp un fr gd base s Q E hdp G Bl k
  obtain ⟨mean, mg, mb, T⟩ := G.t
  have X := G.In
  (refine wpAny_call ?_; k_dflt (refine' enterP (binds := [("formals", Value.ref fl), ("args", Value.ref al), ("show", Value.none)]) ?k1 ?k2 ?k6 ?k7 ?k8 ?k9 ?kB ?_ ?c5 ?c2 ?c3 ?c4; k_extra "ktr"))
  intro h₁ F
  have N : News s.heap s.heap.objs.size h₁ ([] ++ []) := News.nil
  have O : Off [] [] := fun _ h => nomatch h
  walk_at "clean"
  walk_at "go"
  refine eval_comp rfl rfl (by decide) ?_
  walk_at "go"
  refine comp_list (vs := [.ref t1, .ref t2]) (TagJ [.none, (.str "y" ty)]) (Or.inl (G.s _ _ hal)) rfl (Nat.le_of_ble_eq_true rfl) (by assumption) (by assumption) rfl (by decide) rfl rfl ?_ (fin_eval ?_)
  · rintro i vv hv' ys n₁ Z C oC m₂ h tk rfl hs oZ hCm nsC hm₂ F₁ N₁
    match i with
    | 0 =>
      cases hv'
      refine tests_nil ?_
      (try k_fold)
      walk_at "go"
      exact ⟨_, _, _, rfl, by assumption, by assumption, by assumption, hs, rfl⟩
    | 1 =>
      cases hv'
      refine tests_nil ?_
      (try k_fold)
      walk_at "go"
      exact ⟨_, _, _, rfl, by assumption, by assumption, by assumption, hs, rfl⟩
    | i + 2 => cases hv'
  · rintro D ys n₁ kk h tk rfl F₁ N₁ o1
    obtain ⟨N₂, O₂⟩ := led_push (Y := []) N₁ (Off.nilL _) o1
    clear N₁ o1
    (try k_fold)
    walk_at "go"
    (k_dflt (refine' PureT.use (mat_new _ fl D [.none, (.str "y" ty)] kk (Kn.r (.head _)) rfl) ?kG ?kF ?kN ?kO rfl ?kB rfl rfl rfl ?kd ?_; k_extra "kt"))
    rintro r tl h' tk' F' N' O' o' ⟨m, md, ul, pl, a1, a2, a3, a4, z, ku, po, n', rfl, rfl, oA, hne, lo, hpo, hm, hmd⟩
    obtain ⟨N₃, O₃⟩ := led_joinN N' o' oA rfl
    clear N' O' o' oA
    have A₃ : OffA [] [ul, pl] := OffA.nil
    have hM : MatS w (Kn S ((D, lisO (List.take 2 [.none, (.str "y" ty)]) kk) :: n₁ ++ n')) m md fl D ul pl [.none, (.str "y" ty)] (xyN f1 f2 f3) a1 a2 a3 a4 kf kk := ⟨Kn.r (List.mem_append_right _ hm), Kn.r (List.mem_append_right _ hmd), Kn.l hfl, Kn.r (.head _)⟩
    (try k_sweep)
    walk_at "go"
    (try dsimp only)
    (k_dflt (refine' MutT.use (exact_Y _ m md fl D ul pl [.none, (.str "y" ty)] (xyN f1 f2 f3) a1 a2 a3 a4 kf kk hM.nil0 z z f1 f2 f3 ty ku po hpo lo hne rfl rfl) ?kG ?kF ?kN ?kO ?kA rfl ?kB rfl rfl rfl ?kd ?_; k_extra "km"))
    rintro r X2 tl2 h2 tk2 F2 N2 O2 o2 ea2 ⟨rfl, hX⟩
    obtain ⟨s1, s2, po2, rfl, hd2⟩ := hX
    have hM2 := MatS.mono (Kn.appR (n' := tl2)) hM
    (try k_sweep)
    walk_at "go"
    (try dsimp only)
    (k_dflt (refine' PureT.useY (partial_ok _ m md fl D ul pl [.none, (.str "y" ty)] (xyN f1 f2 f3) a1 a2 a3 a4 kf kk (hM2.y (Y := [] ++ [(ul, lisO [.int 0 z, .int 2 s1] ku), (pl, po2)])) _ _ _ _ f1 f2 f3 ku (.str "y" ty) _ _ (Kn.r (by walk_at "mem")) (Kn.r (by walk_at "mem")) hd2 lo rfl rfl (.inr ⟨⟨ty, rfl⟩, rfl⟩)) ?kG ?kF ?kN ?kO rfl ?kB rfl rfl rfl ?kd ?_; k_extra "kt"))
    rintro r tl3 h3 tk3 F3 N3 O3 o3 rfl
    have hM3 := MatS.mono (Kn.appR (n' := tl3)) hM2
    (try k_sweep)
    walk_at "go"
    (try dsimp only)
    (k_dflt (refine' MutT.use (positional_Y _ m md fl D ul pl [.none, (.str "y" ty)] (xyN f1 f2 f3) a1 a2 a3 a4 kf kk hM3.nil0 f1 f2 f3 ty ku _ ⟨_, _, po2, _, rfl, hd2, _, rfl⟩ lo hne rfl rfl) ?kG ?kF ?kN ?kO ?kA rfl ?kB rfl rfl rfl ?kd ?_; k_extra "km"))
    rintro r X4 tl4 h4 tk4 F4 N4 O4 o4 ea4 ⟨rfl, z0, z1, po4, kvs4, rfl, hpo4, q1, q2, rfl⟩
    have hM4 := MatS.mono (Kn.appR (n' := tl4)) hM3
    (try k_sweep)
    walk_at "go"
    (try dsimp only)
    (k_dflt (refine' PureT.useY (rest_ok _ m md fl D ul pl [.none, (.str "y" ty)] (xyN f1 f2 f3) a1 a2 a3 a4 kf kk (hM4.y (Y := [] ++ [(ul, lisO [.int 2 z0, .int 2 z1] ku), (pl, po4)])) _ _ ku (.str "y" ty) (Kn.r (by walk_at "mem")) rfl) ?kG ?kF ?kN ?kO rfl ?kB rfl rfl rfl ?kd ?_; k_extra "kt"))
    rintro r tl5 h5 tk5 F5 N5 O5 o5 ⟨R, c, rfl, hR⟩
    have hM5 := MatS.mono (Kn.appR (n' := tl5)) hM4
    (try k_sweep)
    walk_at "go"
    (try dsimp only)
    exact k _ _ _ _ (Fr.keep (by assumption)) (of_news (by assumption)) ⟨_, pl, po4, R, c, _, _, _, rfl, Kn.r (by walk_at "mem"), Kn.r (by walk_at "mem"), hpo4, lo, rfl, rfl, Kn.r (by walk_at "mem")⟩


theorem match_ok (S : Store) (fl al t1 t2 : Addr) (ka kf : Nat) (f1 f2 f3 : Tok) (xv yv tv : Value) (hv : tv = .none ∨ ∃ ty, tv = .str "y" ty) (hal : S al (lisO [.ref t1, .ref t2] ka)) (h1 : S t1 (tupO [.none, xv])) (h2 : S t2 (tupO [tv, yv])) (hfl : S fl (lisO (xyN f1 f2 f3) kf)) : Pure w 10 163 [.ref fl, .ref al, .none] S (fun S' r => MatchP w S' r) := by
  rcases hv with rfl | ⟨ty, rfl⟩
  · exact match_N S fl al t1 t2 ka kf f1 f2 f3 0 xv yv hal h1 h2 hfl
  · exact match_Y S fl al t1 t2 ka kf f1 f2 f3 ty xv yv hal h1 h2 hfl

theorem take_ok (S : Store) (fl al t1 t2 : Addr) (ka kf : Nat) (f1 f2 f3 : Tok) (xv yv tv : Value) (hv : tv = .none ∨ ∃ ty, tv = .str "y" ty) (hal : S al (lisO [.ref t1, .ref t2] ka)) (h1 : S t1 (tupO [.none, xv])) (h2 : S t2 (tupO [tv, yv])) (hfl : S fl (lisO (xyN f1 f2 f3) kf)) : Pure w 12 169 [.ref al, .ref fl] S (fun S' r => ∃ D c R c2, r = .ref D ∧ S' D (lisO [xv, yv, .ref R] c) ∧ S' R (lisO [] c2)) := by
  (try unfold Pure)
  unfold PureT
  intro dp un fr gd base s Q E hdp G Bl k
  obtain ⟨mean, mg, mb, T⟩ := G.t
  have X := G.In
  (refine wpAny_call ?_; k_dflt (refine' enterPC (binds := [("args", Value.ref al), ("formals", Value.ref fl), ("show", Value.none)]) ?k1 ?k2 ?k6 ?k7 ?k8 ?k9 ?kB ?kD ?_ ?c2 ?c3 ?c4; k_extra "ktc"))
  intro h₁ tk₁ co F N hco
  replace F : Fr s.heap s.heap.objs.size h₁ (upd (fun _ => none) [("show", some .none), ("formals", some (.ref fl))]) := F
  replace N : News s.heap s.heap.objs.size h₁ ([(s.heap.objs.size + 1, co "args")] ++ []) := N
  have O : Off [(s.heap.objs.size + 1, co "args")] [] := fun _ _ _ h => nomatch h
  have c0 : (co "args").data = .cell (some (.ref al)) := hco ("args", s.heap.objs.size + 1) (.head _)
  clear hco
  walk_at "clean"
  generalize co "args" = oa at *
  walk_at "go"
  rename_i D c _ _ _ _ _ _ lt
  (k_dflt (refine' Pure.use (match_ok _ D al t1 t2 ka c f1 f2 f3 xv yv tv hv (Kn.l hal) (Kn.l h1) (Kn.l h2) (Kn.r (.head _))) ?kG ?kF ?kN ?kO rfl ?kB rfl rfl rfl ?kd ?_; k_extra "kt"))
  rintro r tl h2' tk2 F2 N2 O2 o2 ⟨T, pl, po, R, cr, kvs, x1, x2, rfl, hT, hpl, hpo, lo, vx, vy, hR⟩
  (try k_sweep)
  walk_at "go"
  have vxs : (valueAt kvs (Str.ofString "x")).isSome = true := by rw [vx]; rfl
  have vys : (valueAt kvs (Str.ofString "y")).isSome = true := by rw [vy]; rfl
  rename_i D2 _ _ _ Oh lt2 _ _ _ Fh Nh
  have g1 : @Ne Addr D2 (s.heap.objs.size + 1) := Nat.ne_of_gt (lt2 (s.heap.objs.size + 1, oa) (.head _))
  obtain ⟨N₃, O₃, A₃⟩ := led_in2 (Z := []) (Y := [(s.heap.objs.size + 1, oa)]) (as := [s.heap.objs.size + 1]) Nh Oh lt2 OffA.nil
  refine wpAny_For ?_
  walk_at "go"
  refine for_list (vs := xyN f1 f2 f3) (TakJ S D2 (s.heap.objs.size + 1) fl pl R oa _ xv yv) (Or.inl (G.s _ _ hfl)) rfl (by assumption) (by assumption) ⟨none, [], 0, _, rfl, by assumption, by walk_at "upd", fun q h => h, rfl⟩ ?_ ?_
  · rintro i v m₁ n₁ X' h tk hv' ⟨nv, vs, kk, n', rfl, O₁, rfl, hsub, hvs⟩ hsrc ho F₁ N₁
    obtain ⟨N₂, O₂, A₂, oX⟩ := turn_in N₁ ho O₁ (as := [D2, s.heap.objs.size + 1]) OffA.nil
    clear N₁ ho O₁
    have hplt : Kn S n' pl po := Kn.sub hsub _ _ hpl
    have hRt : Kn S n' R (lisO [] cr) := Kn.sub hsub _ _ hR
    have ha0 : ([.ref t1, .ref t2] : List Value)[(0 : Int).toNat]? = some (.ref t1) := rfl
    have ha1 : ([.ref t1, .ref t2] : List Value)[(1 : Int).toNat]? = some (.ref t2) := rfl
    match i with
    | 0 =>
      cases hv'
      obtain rfl : vs = [] := hvs
      refine wpAny_assign_Name ?_
      (try k_fold)
      walk_at "go"
      obtain ⟨N₆, O₆, O₇⟩ := turn_out (X := []) (by assumption) (by assumption) A₂ oX
      exact ⟨_, _, _, _, rfl, fr_upd [("name", some _), ("values", some (.ref D2)), ("rest", some (.ref R)), ("places", some (.ref pl)), ("show", some .none), ("formals", some (.ref fl))] (by assumption) (by walk_at "eqs") (by walk_at "nots"), N₆, O₆, (fun q hq => Or.inl (by rw [List.mem_singleton.mp hq]; exact G.s _ _ hfl)), _, _, _, _, rfl, O₇, rfl, (fun q hq => hsub q hq), rfl⟩
    | 1 =>
      cases hv'
      obtain rfl : vs = [xv] := hvs
      refine wpAny_assign_Name ?_
      (try k_fold)
      walk_at "go"
      obtain ⟨N₆, O₆, O₇⟩ := turn_out (X := []) (by assumption) (by assumption) A₂ oX
      exact ⟨_, _, _, _, rfl, fr_upd [("name", some _), ("values", some (.ref D2)), ("rest", some (.ref R)), ("places", some (.ref pl)), ("show", some .none), ("formals", some (.ref fl))] (by assumption) (by walk_at "eqs") (by walk_at "nots"), N₆, O₆, (fun q hq => Or.inl (by rw [List.mem_singleton.mp hq]; exact G.s _ _ hfl)), _, _, _, _, rfl, O₇, rfl, (fun q hq => hsub q hq), rfl⟩
    | 2 =>
      cases hv'
      obtain rfl : vs = [xv, yv] := hvs
      refine wpAny_assign_Name ?_
      (try k_fold)
      walk_at "go"
      refine eval_comp rfl rfl (by decide) ?_
      walk_at "go"
      refine comp_list (vs := []) (fun i ys n₁ => ∃ n, n₁ = ((X' ++ []) ++ [(D2, lisO [xv, yv] kk), (s.heap.objs.size + 1, oa)]) ++ n ∧ Off ((X' ++ []) ++ [(D2, lisO [xv, yv] kk), (s.heap.objs.size + 1, oa)]) n ∧ (∀ q ∈ n', q ∈ n) ∧ ys = []) (hRt.elim (fun h => Or.inl (G.s _ _ h)) fun h => Or.inr (List.mem_append_right _ h)) rfl (Nat.le_of_ble_eq_true rfl) (by assumption) (by assumption) ⟨_, rfl, by assumption, fun q h => h, rfl⟩ (by decide) rfl rfl (fun i v hv => by simp at hv) (fin_eval ?_)
      rintro E ys n₁ kE h tk ⟨n3, rfl, oY, hsub3, rfl⟩ F₁ N₁ o1
      obtain ⟨N₃, O₃⟩ := led_push N₁ oY o1
      clear N₁ oY o1
      (try k_fold)
      walk_at "go"
      obtain ⟨N₆, O₆, O₇⟩ := turn_out (X := []) (by assumption) (by assumption) A₂ oX
      exact ⟨_, _, _, _, rfl, fr_upd [("name", some _), ("values", some (.ref D2)), ("rest", some (.ref R)), ("places", some (.ref pl)), ("show", some .none), ("formals", some (.ref fl))] (by assumption) (by walk_at "eqs") (by walk_at "nots"), N₆, O₆, (fun q hq => Or.inl (by rw [List.mem_singleton.mp hq]; exact G.s _ _ hfl)), _, _, _, _, rfl, O₇, rfl, (fun q hq => .tail _ (hsub3 q (hsub q hq))), E, kE, rfl, .head _⟩
    | i + 3 => cases hv'
  · rintro m₁ n₁ h tk ⟨nv, vs, kk, n', rfl, O₁, rfl, hsub, E, cE, rfl, hE⟩ F₁ N₁
    (try k_fold)
    walk_at "go"
    (try dsimp only)
    exact k _ _ _ _ (Fr.keep F₁) (of_news N₁) ⟨D2, kk, E, cE, rfl, Kn.r (List.mem_append_left _ (.head _)), Kn.r (List.mem_append_right _ hE)⟩

theorem upd_back {m : Str → Option Value} : ∀ {l : List (Str × Option Value)}, AllEq m l → m = upd m l
  | [], _ => rfl
  | (x, v) :: r, h => by
    funext y
    show m y = if y = x then v else upd m r y
    by_cases e : y = x
    · rw [if_pos e, e]; exact h.1
    · rw [if_neg e]; exact congrFun (upd_back h.2) y
theorem FitOut.mono {w : World} {cols : List (List Rat)} {y : List Rat} {S S' : Store} {r : Value} (hs : ∀ a o, S a o → S' a o) (h : FitOut w cols y S r) : FitOut w cols y S' r :=
  let ⟨x, dx, t1, t2, t3, t4, t5, t6, t7, t8, t9, t10, t11, pv, bv, nv, sv, stv, cl, fiv, rev, wtv, u1, u2, kc, cvals, e, a, b, c, d, ⟨fa, fk, fvs, e1, a1, b1⟩, ⟨ra, rk, rvs, e2, a2, b2⟩⟩ := h
  ⟨x, dx, t1, t2, t3, t4, t5, t6, t7, t8, t9, t10, t11, pv, bv, nv, sv, stv, cl, fiv, rev, wtv, u1, u2, kc, cvals, e, hs _ _ a, hs _ _ b, hs _ _ c, OptsS.mono hs d, ⟨fa, fk, fvs, e1, hs _ _ a1, RatsS.mono hs b1⟩, ⟨ra, rk, rvs, e2, hs _ _ a2, RatsS.mono hs b2⟩⟩
/-- what stands when b_lm_fit has its fit and its names -/
inductive LmMid (w : World) (S : Store) (cols : List (List Rat)) (ys : List Rat) (nms : List Str) (s : Shared) (L : Addr) (s' : Shared) : Prop
  | mk (h' : Heap) (tk' : Nat) (m₁ : Str → Option Value) (n : Led) (r : Value) (NM : Addr) (NVS : List Value) (knm : Nat) (e : s' = { s with heap := h', toks := tk' }) (F : Fr s.heap L h' m₁) (N : News s.heap L h' ([] ++ n))
    (em : AllEq m₁ [("names", some (.ref NM)), ("found", some r)]) (hF : FitOut w cols ys (Kn S n) r) (hNM : Kn S n NM (lisO NVS knm)) (hst : StrsAre NVS nms) (hnv : NVS.length ≤ 64) : LmMid w S cols ys nms s L s'

theorem b_lm_fit_ok (S : Store) (ip en xv yv av sv lv dv kv2 av2 sv2 lv2 ay sy ly tv : Value) (al t1 t2 il dl yl : Addr) (ivs yvs : List Value) (ka ki kd ky tall wide : Nat) (kt d1 d2 kty : Tok) (kind : Str) (cols : List (List Rat)) (ys : List Rat) (hn : Option (List Value)) (nms : List Str) (hnm : HeadN wide nms hn)
    (hkind : [Str.ofString "logical", Str.ofString "integer", Str.ofString "double"].any (· == kind) = true) (hv : VecS w S xv (.str kind kt) (.ref il) av sv lv) (ha : AttrV w S av "dim" dv) (hd : VecS w S dv kv2 (.ref dl) av2 sv2 lv2) (hdl : S dl (lisO [.int (tall : Nat) d1, .int (wide : Nat) d2] kd)) (hdn : DimnS w S av hn)
    (hi : S il (lisO ivs ki)) (hq : ItemsS S kind ivs cols.flatten) (hw : cols.length = wide) (hc : ∀ c ∈ cols, c.length = tall) (h5 : tall ≤ 5) (h3 : wide ≤ 3) (hsc : ∀ c ∈ cols, ∀ q ∈ c, Sz q 3)
    (hy : VecS w S yv (.str "double" kty) (.ref yl) ay sy ly) (hyd : AttrV w S ay "dim" .none) (hyl : AttrV w S ay "levels" .none) (hyi : S yl (lisO yvs ky)) (hyq : RatsS S yvs ys) (hyt : ys.length = tall) (hys : ∀ q ∈ ys, Sz q 3)
    (htv : tv = .none ∨ ∃ ty, tv = .str "y" ty) (hal : S al (lisO [.ref t1, .ref t2] ka)) (h1 : S t1 (tupO [.none, xv])) (h2 : S t2 (tupO [tv, yv])) :
    Pure w 24 474 [ip, .ref al, en] S (fun S' r => ToldP w S' r cols ys nms) := by
  (try unfold Pure)
  unfold PureT
  intro dp un fr gd base s Q E hdp G Bl k
  obtain ⟨mean, mg, mb, T⟩ := G.t
  have X := G.In
  (refine wpAny_call ?_; k_dflt (refine' enterP (binds := [("interp", ip), ("args", Value.ref al), ("env", en)]) ?k1 ?k2 ?k6 ?k7 ?k8 ?k9 ?kB ?_ ?c5 ?c2 ?c3 ?c4; k_extra "ktr"))
  intro h₁ F
  have N : News s.heap s.heap.objs.size h₁ ([] ++ []) := News.nil
  have O : Off [] [] := fun _ h => nomatch h
  walk_at "clean"
  (try walk_at "lets")
  refine go_cut2 (pre := [_, _, _, _]) (LmMid w S cols ys nms s s.heap.objs.size) ?_ ?_
  · rintro s' ⟨h', tk', m₁, n₁, r, NM, NVS, knm, rfl, F₁, N₁, em, hF, hNM, hst, hnv⟩
    replace F₁ : Fr s.heap s.heap.objs.size h' (upd m₁ _) := upd_back em ▸ F₁
    clear F N O
    have O₁ : Off [] n₁ := Off.nilL _
    obtain ⟨fx, fdx, g1, g2, g3, g4, g5, g6, g7, g8, g9, g10, g11, pv, bv, nv, shv, stv, cl, fiv, rev, wtv, u1, u2, kcl, cvals, rfl, hfx, hfdx, hcl, hcc, ⟨fa, fk, fvs, rfl, hfa, hfq⟩, ⟨ra, rk, rvs, rfl, hra, hrq⟩⟩ := hF
    have lcc := hcc.length
    have lcf : (fCoef cols ys).length = cols.length := placeR_length _ _ _ _
    have lrq := hrq.length
    have lfq := hfq.length
    have lrr := fRest_len h5 hc hsc hyt hys
    have lsr : (subR ys (fRest cols ys)).length = tall := by rw [subR_length _ _ (by exact om_33 _ _ _ hyt lrr)]; exact hyt
    walk_at "go"
    (k_dflt (refine' PureT.use (named_doubles_ok _ cl NM kcl knm cvals NVS ?a1 ?a2 ?a3 ?a4) ?kG ?kF ?kN ?kO rfl ?kB rfl rfl rfl ?kd ?_; k_extra "kt"))
    case a1 => walk_at "kn"
    case a2 => walk_at "kn"
    case a3 => exact om_62 _ _ _ _ hw h3 lcc lcf
    case a4 => exact om_63 _ hnv
    rintro r tl6 h6' tk6 F6 N6 O6 o6 ⟨x1, d1, D1, ad, cx, cdx, cD, od, ci1, ci2, kt1, p1, p2, p3, p4, p5, q1, q2, q3, q4, q5, ut, n6, rfl, rfl, oA6, hx1, hD1, had, hod, lo1, hcx, hcdx, hcD⟩
    obtain ⟨N7, O7, nd1⟩ := led_vec (Y := []) N6 O6 o6 oA6 List.nodup_nil
    clear N6 O6 o6
    (try k_sweep)
    walk_at "go"
    (k_dflt (refine' PureT.use (double_ok _ ra rk rvs ?b1 ?b2) ?kG ?kF ?kN ?kO rfl ?kB rfl rfl rfl ?kd ?_; k_extra "kt"))
    case b1 => walk_at "kn"
    case b2 => exact om_64 _ _ _ h5 lrq lrr
    rintro r tl7 h7' tk7 F7 N7 O7 o7 ⟨kt2, x2, d2, D2r, ci3, n7, ⟨rfl, ⟨r1, r2, r3, r4, r5, rfl⟩, oA7, hx2⟩, hD2r⟩
    obtain ⟨N8, O8, nd2⟩ := led_vec N7 O7 o7 oA7 nd1
    clear N7 O7 o7
    (try k_sweep)
    walk_at "go"
    (k_dflt (refine' PureT.use (double_ok _ fa fk fvs ?b1 ?b2) ?kG ?kF ?kN ?kO rfl ?kB rfl rfl rfl ?kd ?_; k_extra "kt"))
    case b1 => walk_at "kn"
    case b2 => exact om_64 _ _ _ h5 lfq lsr
    rintro r tl8 h8' tk8 F8 N8 O8 o8 ⟨kt3, x3, d3, D3r, ci4, n8, ⟨rfl, ⟨s1, s2, s3, s4, s5, rfl⟩, oA8, hx3⟩, hD3r⟩
    obtain ⟨N9, O9, nd3⟩ := led_vec N8 O8 o8 oA8 nd2
    clear N8 O8 o8
    (try k_sweep)
    walk_at "go"
    (k_dflt (refine' PureT.use (whole_ok _ _) ?kG ?kF ?kN ?kO rfl ?kB rfl rfl rfl ?kd ?_; k_extra "kt"))
    rintro r tl9 h9' tk9 F9 N9 O9 o9 ⟨kt4, x4, d4, D4r, ci5, n9, ⟨rfl, ⟨v1, v2, v3, v4, v5, rfl⟩, oA9, hx4⟩, hD4r⟩
    obtain ⟨N10, O10, nd4⟩ := led_vec N9 O9 o9 oA9 nd3
    clear N9 O9 o9
    (try k_sweep)
    walk_at "go"
    (k_dflt (refine' PureT.use (whole_ok _ _) ?kG ?kF ?kN ?kO rfl ?kB rfl rfl rfl ?kd ?_; k_extra "kt"))
    rintro r tl10 h10' tk10 F10 N10 O10 o10 ⟨kt5, x5, d5, D5r, ci6, n10, ⟨rfl, ⟨w1, w2, w3, w4, w5, rfl⟩, oA10, hx5⟩, hD5r⟩
    obtain ⟨N11, O11, nd5'⟩ := led_vec N10 O10 o10 oA10 nd4
    clear N10 O10 o10
    (try k_sweep)
    walk_at "go"
    (rename News _ _ _ _ => Nf)
    (rename Off _ _ => Of)
    obtain ⟨VDS, Np, Op, A0, hnd, eM, hz5, eL0, hxs⟩ := vds_all (w := w) ⟨x1, d1, p1, p2, p3, p4, p5, .str "double" kt1, .ref D1, .ref ad⟩ ⟨x2, d2, r1, r2, r3, r4, r5, .str "double" kt2, .ref D2r, .none⟩ ⟨x3, d3, s1, s2, s3, s4, s5, .str "double" kt3, .ref D3r, .none⟩ ⟨x4, d4, v1, v2, v3, v4, v5, .str "integer" kt4, .ref D4r, .none⟩ ⟨x5, d5, w1, w2, w3, w4, w5, .str "integer" kt5, .ref D5r, .none⟩ Nf Of nd5' (by walk_at "mem") (by walk_at "mem") (by walk_at "mem") (by walk_at "mem") (by walk_at "mem")
    clear Nf Of
    (k_dflt (refine' MutT.use (list_of_ok _ _ _ _ _ VDS _ ?hi ?hn ?z1 hz5 ?hx hnd) ?kG ?kF ?kN ?kO ?kA rfl ?kB rfl rfl rfl ?kd ?_; k_extra "km"))
    case hi => rw [eM]; exact Kn.r (by walk_at "mem")
    case hn => exact Kn.r (by walk_at "mem")
    case z1 => exact Nat.le_of_ble_eq_true rfl
    case hx => exact fun d hd => Kn.r (hxs d hd)
    rintro r X' tl11 h11 tk11 F11 N11 O11 o11 ea11 ⟨tv1, tdv, DD, adL, ccL, ktl, z1, z2, z3, z4, z5, rfl, rfl, ht1, ht2, ht3, hnames⟩
    have eL : shL w VDS VDS.length = [(d1, vecD w p1 p2 p3 p4 p5 (.str "double" kt1) (.ref D1) (.ref ad) (.bool true) (.bool false)), (d2, vecD w r1 r2 r3 r4 r5 (.str "double" kt2) (.ref D2r) .none (.bool true) (.bool false)), (d3, vecD w s1 s2 s3 s4 s5 (.str "double" kt3) (.ref D3r) .none (.bool true) (.bool false)), (d4, vecD w v1 v2 v3 v4 v5 (.str "integer" kt4) (.ref D4r) .none (.bool true) (.bool false)), (d5, vecD w w1 w2 w3 w4 w5 (.str "integer" kt5) (.ref D5r) .none (.bool true) (.bool false))] := eL0
    rw [eL] at N11 O11
    rw [eM] at ht3
    (try k_sweep)
    walk_at "go"
    refine k _ _ _ _ (Fr.keep (by assumption)) (of_news (by assumption)) ?_
    refine ⟨x1, x2, x3, x4, x5, ?_, ?_, ?_, ?_, ?_, ?_⟩
    · exact named_mk (by walk_at "mem") (by walk_at "mem") (by walk_at "mem") (hnames.sub fun p hp => List.mem_append_right _ (List.mem_append_right _ hp)) (.cons _ _ (.cons _ _ (.cons _ _ (.cons _ _ (.cons _ _ .nil))))) (by decide) rfl (List.forall_mem_cons.mpr ⟨⟨_, rfl⟩, List.forall_mem_cons.mpr ⟨⟨_, rfl⟩, List.forall_mem_cons.mpr ⟨⟨_, rfl⟩, List.forall_mem_cons.mpr ⟨⟨_, rfl⟩, List.forall_mem_cons.mpr ⟨⟨_, rfl⟩, List.forall_mem_nil _⟩⟩⟩⟩⟩)
    · exact ⟨kt1, D1, ad, _, _, cvals, ci1, od, cx, .str "character" ut, .none, .bool false, .bool false, cD, NVS, ci2, vecS_mk (by walk_at "mem") (by walk_at "mem"), Kn.r (by walk_at "mem"), OptsS.mono (Kn.sub fun q hq => by walk_at "sub") hcc, Kn.r (by walk_at "mem"), hod, vecS_mk (by walk_at "mem") (by walk_at "mem"), Kn.r (by walk_at "mem"), hst⟩
    · exact ⟨kt2, D2r, _, _, rvs, ci3, vecS_mk (by walk_at "mem") (by walk_at "mem"), Kn.r (by walk_at "mem"), RatsS.mono (Kn.sub fun q hq => by walk_at "sub") hrq⟩
    · exact ⟨kt3, D3r, _, _, fvs, ci4, vecS_mk (by walk_at "mem") (by walk_at "mem"), Kn.r (by walk_at "mem"), RatsS.mono (Kn.sub fun q hq => by walk_at "sub") hfq⟩
    · exact ⟨kt4, D4r, _, _, _, ci5, vecS_mk (by walk_at "mem") (by walk_at "mem"), Kn.r (by walk_at "mem")⟩
    · exact ⟨kt5, D5r, _, _, _, ci6, vecS_mk (by walk_at "mem") (by walk_at "mem"), Kn.r (by walk_at "mem")⟩
  intro zC
  (try walk_at "lets")
  obtain ⟨xa, xdx, xt1, xt2, xt3, xt4, xt5, rfl, hxa, hxdx⟩ := id hv
  obtain ⟨ya, ydx, yt1, yt2, yt3, yt4, yt5, rfl, hya, hydx⟩ := id hy
  walk_at "go"
  rename_i D _ _ _ _ _ _ lt
  (k_dflt (refine' Pure.use (take_ok _ D al t1 t2 ka _ _ _ _ (.ref xa) (.ref ya) tv htv (Kn.l hal) (Kn.l h1) (Kn.l h2) (Kn.r (.head _))) ?kG ?kF ?kN ?kO rfl ?kB rfl rfl rfl ?kd ?_; k_extra "kt"))
  rintro r tl h2' tk2 F2 N2 O2 o2 ⟨D2, c2, R, cr, rfl, hD2, hR⟩
  (try k_sweep)
  walk_at "go"
  (k_dflt (refine' Pure.use (matrix_columns_ok _ (.ref xa) av sv lv dv kv2 av2 sv2 lv2 il dl ivs ki kd tall wide kt d1 d2 kind cols hn hkind hv.l ha.l hd.l (Kn.l hdl) (hdn.mono fun _ _ => Kn.l) (Kn.l hi) (L2.mono (fun _ _ => ItemS.mono fun _ _ => Kn.l) hq) hw hc h5 h3) ?kG ?kF ?kN ?kO rfl ?kB rfl rfl rfl ?kd ?_; k_extra "kt"))
  rintro r tl3 h3' tk3 F3 N3 O3 o3 ⟨T, CL, hdv, cvs, kc, rfl, hT, hCL, hcv, hH⟩
  (try k_sweep)
  walk_at "go"
  have hyv := hyq.length
  (k_dflt (refine' Pure.use (number_column_ok _ (.ref ya) .none ay sy ly yl ky yvs ys kty _ _ hy.l hyd.l hyl.l (Kn.l hyi) hyq.l (by exact om_65 _ _ _ h5 hyt hyv)) ?kG ?kF ?kN ?kO rfl ?kB rfl rfl rfl ?kd ?_; k_extra "kt"))
  rintro r tl4 h4' tk4 F4 N4 O4 o4 ⟨Yl, yk, yvs', rfl, hYl, hYq⟩
  (try k_sweep)
  walk_at "go"
  (k_dflt (refine' Pure.use (fit_ok _ CL Yl kc yk cvs yvs' cols ys tall ?a1 ?a2 ?a3 ?a4 h5 (by exact om_66 _ _ hw h3) hc hsc hyt hys) ?kG ?kF ?kN ?kO rfl ?kB rfl rfl rfl ?kd ?_; k_extra "kt"))
  case a1 => walk_at "kn"
  case a2 => walk_at "kn"
  case a3 => walk_at "kn"
  case a4 => walk_at "kn"
  rintro r tl5 h5' tk5 F5 N5 O5 o5 hF
  (try k_sweep)
  walk_at "go"
  have lcv := hcv.length
  cases hn with
  | none =>
    obtain rfl : hdv = .none := hH
    walk_at "go"
    refine assign_comp rfl rfl rfl (by decide) ?_
    walk_at "go"
    refine comp_range cvs.length (NamJ [] _) (by assumption) rfl (small_up (by exact om_67 _ _ _ hw h3 lcv)) size_up (Nat.le_trans (by exact om_68 _ _ _ hw h3 lcv : cvs.length ≤ 3) (by decide)) (by assumption) (by assumption) ⟨_, rfl, by assumption, fun q h => h, .nil⟩ (by decide) rfl rfl ?_ (fin_assign2 rfl rfl rfl ?_)
    · rintro i t hi ys' n₁ Z C oC m₂ h tk ⟨n, rfl, oY, hsub, hst⟩ hs oZ hCm nsC hm₂ F₁ N₁
      have N₂ : News s.heap s.heap.objs.size h (Z ++ n₁) := N₁
      have O₂ : Off Z n₁ := oZ
      clear N₁ oZ
      have hi3 : i < 3 := by exact om_69 _ _ _ _ hw h3 lcv hi
      simp only [Int.zero_add, Int.mul_one] at hm₂
      refine tests_nil ?_
      (try k_fold)
      (try walk_at "lets")
      walk_at "go"
      exact ⟨_, _, _, rfl, by assumption, by assumption, by assumption, Src.nil, _, rfl, Off.nilL _, hsub, by rw [take_succ' _ _ (show i < xNames.length from hi3), xName_at hi3]; exact StrsAre.snoc1 hst⟩
    · rintro NM NVS n₁ knm h tk ⟨n, rfl, oY, hsub, hst⟩ F₁ N₁ o1
      have hnv : NVS.length ≤ 64 := by rw [strs_length hst, List.length_take]; exact Nat.le_trans (Nat.min_le_right _ _) (by decide)
      rw [show xNames.take cvs.length = nms by rw [show nms = xNames.take wide from hnm, ← hw, lcv]] at hst
      walk_at "go"
      exact ⟨h, _, _, (NM, lisO NVS knm) :: n₁, _, NM, NVS, knm, rfl, F₁, N₁, ⟨rfl, rfl, trivial⟩, (hF.mono (Kn.sub hsub)).mono (Kn.sub fun q hq => List.mem_cons_of_mem _ hq), Kn.r (.head _), hst, hnv⟩
  | some nvs =>
    obtain ⟨NM, knm, rfl, hNM⟩ := hH
    have hst : StrsAre nvs nms := hnm
    have hnv : nvs.length ≤ 64 := by obtain ⟨_, _, _, _, _, _, _, _, _, _, _, _, _, _, _, _, _, _, _, _, _, _, _, _, _, _, z⟩ := hdn; exact z
    walk_at "go"
    exact ⟨_, _, _, _, _, NM, nvs, knm, rfl, by assumption, by assumption, ⟨rfl, rfl, trivial⟩, hF, by walk_at "kn", hst, hnv⟩

theorem law_sum_ok (S : Store) (a : Addr) (ka : Nat) (vs : List Value) (ps : List (Rat × Rat)) (Bp Bq : Nat) (ha : S a (lisO vs ka)) (hps : L2 (PairS S) vs ps) (h5 : ps.length ≤ 5) (hp : ∀ pq ∈ ps, Sz pq.1 Bp) (hq : ∀ pq ∈ ps, Sz pq.2 Bq) (hB : Bp + Bq ≤ 8000100) : Pure w 3 516 [.ref a] S (fun S' r => ∃ T n d t1 t2, r = .ref T ∧ S' T (tupO [.int n t1, .int d t2]) ∧ SumAt (Bp + Bq) ps.length ps n d) := by
  (try unfold Pure)
  unfold PureT
  intro dp un fr gd base s Q E hdp G Bl k
  obtain ⟨mean, mg, mb, T⟩ := G.t
  have X := G.In
  (refine wpAny_call ?_; k_dflt (refine' enterP (binds := [("pairs", Value.ref a)]) ?k1 ?k2 ?k6 ?k7 ?k8 ?k9 ?kB ?_ ?c5 ?c2 ?c3 ?c4; k_extra "ktr"))
  intro h₁ F
  have N : News s.heap s.heap.objs.size h₁ ([] ++ []) := News.nil
  have O : Off [] [] := fun _ h => nomatch h
  walk_at "clean"
  have el := hps.length
  walk_at "go"
  refine wpAny_For ?_
  walk_at "go"
  refine for_listT (vs := vs) (SumJ a (Bp + Bq) ps) (Or.inl (G.s _ _ ha)) rfl (by assumption) (by assumption) ⟨none, none, 0, 1, _, _, by walk_at "upd", sum_zero⟩ ?_ ?_ (fun v hv => by obtain ⟨i, hi, e⟩ := List.getElem_of_mem hv; obtain ⟨pa, u1, u2, e', _⟩ := hps.app1 i (by exact om_18 _ _ _ el hi) (by rw [List.getElem?_eq_getElem hi]); exact ⟨pa, e ▸ e'⟩)
  · rintro i v m₁ n₁ X' h tk hv ⟨ov, otv, n, d, tn, td, rfl, hS⟩ hsrc ho F₁ N₁
    have hi : i < ps.length := by rw [← el]; exact (List.getElem?_eq_some_iff.mp hv).1
    obtain ⟨pa, u1, u2, rfl, hpa, ⟨b1, x1, x2, rfl, hb1⟩, ⟨b2, y1, y2, rfl, hb2⟩⟩ := hps.app1 i hi hv
    have hp' := hp _ (List.getElem_mem hi)
    have hq' := hq _ (List.getElem_mem hi)
    obtain ⟨m1, m2, m3, m4, m5, m6⟩ := sum_mul hS (by exact om_153 _ _ h5 hi) hp' hq' (Nat.le_refl _) hB
    have hS' := sum_step hS hi hp' hq' (Nat.le_refl _)
    (try k_fold)
    walk_at "go"
    exact ⟨_, _, _, _, rfl, fr_upd [("other", some _), ("one", some _), ("d", some _), ("n", some _), ("pairs", some (.ref a))] (by assumption) (by walk_at "eqs") (by walk_at "nots"), by assumption, by assumption, hsrc.sub (fun q hq => by walk_at "sub"), _, _, _, _, _, _, rfl, hS'⟩
  · rintro m₁ n₁ h tk ⟨ov, otv, n, d, tn, td, rfl, hS⟩ F₁ N₁
    (try k_fold)
    walk_at "go"
    exact k _ _ _ _ (Fr.keep (by assumption)) (of_news (by assumption)) ⟨_, n, d, _, _, rfl, Kn.r (by walk_at "mem"), by rw [← el]; exact hS⟩

theorem toNat_lt {a : Int} {b : Nat} (h1 : 0 ≤ a) (h2 : a < (b : Int)) : a.toNat < b := (Int.toNat_lt h1).mpr h2
/-- what stands when the source is filled -/
inductive TkMid (src inn : Addr) (h₀ : Heap) (L : Addr) (m : Str → Option Value) (s s' : Shared) : Prop
  | mk (h' : Heap) (tk' : Nat) (X' n : Led) (e : s' = { s with heap := h', toks := tk' }) (F : Fr h₀ L h' m) (N : News h₀ L h' (X' ++ n)) (O : Off X' n) (Z : SrcAt src inn X') : TkMid src inn h₀ L m s s'
open PySem.Builtin.Int in
theorem law_take_ok (S : Store) (src inn : Addr) (X0 : Led) (most : Nat) (tm : Tok) (hS : SrcAt src inn X0) (hne : src ≠ inn) (hm : 0 < most) (hm2 : most ≤ 64) :
    MutU w 2 509 [.ref src, .int (most : Nat) tm] S X0 (fun X' tl r => SrcAt src inn X' ∧ ∃ (k : Nat) (t : Tok), r = .int (k : Nat) t ∧ k < most) := by
  unfold MutU
  obtain ⟨s1, s2, t1, t2, ks, ki, ivs, ns, rfl, b1, b2, b3, b4, b5, b6, b7⟩ := hS
  intro dp un fr gd base g s Q E hdp hun G Bl hg hz hX k
  obtain ⟨mean, mg, mb, T⟩ := G.t
  have X := G.In
  refine wpAny_call ?_
  k_dflt (refine' enterM (binds := [("source", Value.ref src), ("most", Value.int (most : Nat) tm)]) ?k1 ?k2 hg hz hX ?k6 ?k7 ?k8 ?k9 ?kB ?_ ?c5 ?c2 ?c3 ?c4; (case k1 => assumption); (case k2 => assumption); (case k6 => k_is); (case k7 => k_is); (case k8 => first | exact room_lt (by assumption) | omega | (dsimp only [Around.deeper]; omega)); (case k9 => first | exact BindsTo.of_eq rfl | exact binds_K (X.keeps hg) rfl (by k_is) rfl rfl rfl); (case c5 => decide); (case kB => exact locs rfl); (case c2 => exact rfl); (case c3 => exact rfl); (case c4 => exact rfl); k_whole)
  intro h₁ F N
  have O : Off ([(src, lisO [.ref inn, .int s1 t1, .int s2 t2] ks), (inn, lisO ivs ki)]) [] := Off.nilR
  walk_at "clean"
  refine go_cut2 (pre := [_]) (TkMid src inn g s.heap.objs.size (upd (fun _ => none) [("most", some (.int (most : Nat) tm)), ("source", some (.ref src))]) s) ?_ ?_
  · clear F N O b1 b2 b3 b4 b5 b6 b7
    rintro s' ⟨h', tk', X', n, rfl, F, N, O, Z⟩
    obtain ⟨s1, s2, t1, t2, ks, ki, ivs, ns, rfl, b1, b2, b3, b4, b5, b6, b7⟩ := Z
    have hup : src ≠ inn := hne
    have hx1 : ([.ref inn, .int s1 t1, .int s2 t2] : List Value)[(1 : Int).toNat]? = some (.int s1 t1) := rfl
    have f1 := PySem.W.fmod_lo s1 (n := (most : Int)) (by exact om_46 _ hm)
    have f2 := PySem.W.fmod_hi s1 (n := (most : Int)) (by exact om_46 _ hm)
    walk_at "go"
    (try dsimp only)
    exact k _ _ _ _ _ (Fr.keep (by assumption)) (of_news (by assumption)) (by assumption) rfl ⟨⟨_, s2, _, t2, ks, ki, ivs, ns, rfl, Int.fdiv_nonneg b1 (by exact om_44 _), intBits_fdiv_le b2, b3, b4, b5, b6, b7⟩, (s1.fmod (most : Int)).toNat, _, by rw [Int.toNat_of_nonneg f1], toNat_lt f1 f2⟩
  intro zC
  have hup : src ≠ inn := hne
  have hb4 : IntMulOk s2 40014 := IntMulOk.of_right (by decide)
  have hx0 : ([.ref inn, .int s1 t1, .int s2 t2] : List Value)[(0 : Int).toNat]? = some (.ref inn) := rfl
  have hx1 : ([.ref inn, .int s1 t1, .int s2 t2] : List Value)[(1 : Int).toNat]? = some (.int s1 t1) := rfl
  have hx2 : ([.ref inn, .int s1 t1, .int s2 t2] : List Value)[(2 : Int).toNat]? = some (.int s2 t2) := rfl
  have e1 := PySem.W.fmod_lo (s2 * 40014) (n := 2147483563) (by decide)
  have e2 := PySem.W.fmod_hi (s2 * 40014) (n := 2147483563) (by decide)
  have e3 : intBits ((s2 * 40014).fmod 2147483563) ≤ 1048600 := Nat.le_trans (PySem.intBits_le_64 (by exact om_41 _ e1) (by exact om_42 _ e2)) (by decide)
  by_cases h0 : s1 = 0
  · subst h0
    cases b5 with
    | nil =>
      walk_at "go"
      · exact ⟨_, _, _, _, rfl, by assumption, by assumption, by assumption, ⟨_, ((s2 * 40014).fmod 2147483563), _, _, ks, ki, [], [], rfl, Int.fdiv_nonneg e1 (by exact om_43), intBits_fdiv_le e3, e1, by exact om_45 _ e2, .nil, b6, b7⟩⟩
      · exfalso
        exact absurd (Int.fdiv_nonneg (b := 11) e1 (by exact om_43)) (by assumption)
    | cons n0 tn hr =>
      have hlr := hr.length
      have hz6 : _ ≤ 64 := b7
      simp only [List.length_cons] at hz6
      have hb0 := b6 n0 (.head _)
      walk_at "go"
      · exact ⟨_, _, _, _, rfl, by assumption, by assumption, by assumption, ⟨_, ((s2 * 40014).fmod 2147483563), _, _, ks, _, _, _, rfl, by assumption, Nat.le_trans hb0 (by decide), e1, by exact om_45 _ e2, hr, fun n hn => b6 n (.tail _ hn), by exact om_47 _ hz6⟩⟩
      · exact ⟨_, _, _, _, rfl, by assumption, by assumption, by assumption, ⟨_, ((s2 * 40014).fmod 2147483563), _, _, ks, _, _, _, rfl, by exact om_48 _ (by assumption), intBits_neg_le (Nat.le_trans hb0 (by decide)), e1, by exact om_45 _ e2, hr, fun n hn => b6 n (.tail _ hn), by exact om_47 _ hz6⟩⟩
      · exfalso; simp_all
      · exfalso; simp_all
  · walk_at "go"
    exact ⟨_, _, _, _, rfl, by assumption, by assumption, by assumption, ⟨s1, s2, t1, t2, ks, ki, ivs, ns, rfl, b1, b2, b3, b4, b5, b6, b7⟩⟩
-- the law's own lines
theorem rows_pre2_1 : True := by
  k_with "o zsub" => (first | (exact fun q hq => List.mem_append_left _ (List.mem_append_right _ hq)) | fail "-")
  k_with "o eval Name" => (first | ((k_here; (with_reducible show wpAny _ _ (eval (Expr.Name _ _) (envOfC _ _ _ _ _)) _ _ _); k_dflt (first | (refine' nameX_L ?F_181 ?v_181 ?_ ?a_181 ?b_181; (case F_181 => assumption); (case a_181 => rfl); (case b_181 => rfl); (case v_181 => exact rfl); k_whole) | (refine' readZ ?N_181 ?z_181 ?s_181 ?c_181 ?v_181 ?_ ?a_181 ?d_181; (case a_181 => rfl); (case d_181 => rfl); (case N_181 => assumption); (case z_181 => assumption); (case s_181 => k_extra "o zsub"); (case c_181 => exact rfl); (case v_181 => exact rfl); k_whole) | (refine' nameX_K ?F_181 ?X_181 ?T_181 ?e_181 ?_ ?a_181 ?b_181; (case F_181 => assumption); (case X_181 => assumption); (case T_181 => k_asm); (case a_181 => rfl); (case b_181 => rfl); (case e_181 => k_is); k_whole)))) | fail "-")
  k_with "o eval Name" => (first | ((k_here; (with_reducible show wpAny _ _ (eval (Expr.Name _ _) (compEnvC _ _ _ _)) _ _ _); k_dflt (first | (refine' cn_local ?N_182 ?m_182 ?s_182 ?v_182 ?_ ?a_182 ?b_182 ?c_182; (case a_182 => rfl); (case b_182 => rfl); (case c_182 => decide); (case N_182 => assumption); (case m_182 => k_extra "o mem"); (case s_182 => assumption); (case v_182 => assumption); k_whole) | (refine' readZC ?N_182 ?z_182 ?s_182 ?c_182 ?l_182 ?v_182 ?_ ?a_182 ?b_182 ?d_182; (case a_182 => rfl); (case b_182 => rfl); (case d_182 => rfl); (case N_182 => assumption); (case z_182 => assumption); (case s_182 => k_extra "o zsub"); (case c_182 => exact rfl); (case l_182 => exact rfl); (case v_182 => exact rfl); k_whole) | (refine' nameG_K ?F_182 ?X_182 ?T_182 ?e_182 ?_ ?a_182 ?b_182 ?c_182 ?d_182; (case a_182 => rfl); (case b_182 => rfl); (case c_182 => rfl); (case d_182 => decide); (case F_182 => assumption); (case X_182 => assumption); (case T_182 => k_asm); (case e_182 => k_is); k_whole)))) | fail "-")
  k_with "o storeName" => (first | ((k_here; (with_reducible show wpAny _ _ (storeName (envOfC _ _ _ _ _) _ _) _ _ _); k_dflt (first | (refine' localYL ?F_183 ?N_183 ?_ ?a_183 ?b_183; (case F_183 => assumption); (case N_183 => assumption); (case a_183 => rfl); (case b_183 => rfl); k_whole; intro _ _ _ _ _) | (refine' storeZ ?F_183 ?N_183 ?O_183 ?P_183 ?z_183 ?c_183 ?_ ?a_183; (case a_183 => rfl); (case F_183 => assumption); (case N_183 => assumption); (case O_183 => assumption); (case z_183 => assumption); (case P_183 => assumption); (case c_183 => exact rfl); k_whole; intro _ _ _ _ _ _ _)); (try k_sweep))) | fail "-")
  k_with "o call ref" => (first | (((with_reducible show wpAny _ _ (call (Value.ref 509) _) _ _ _); k_dflt (refine' takeZL ?G_184 ?F_184 ?N_184 ?O_184 ?P_184 ?z_184 ?ne_184 law_take_ok ?B_184 ?m1_184 ?m2_184 ?_; (case G_184 => assumption); (case F_184 => assumption); (case N_184 => assumption); (case O_184 => assumption); (case z_184 => assumption); (case P_184 => assumption); (case ne_184 => assumption); (case B_184 => assumption); (case m1_184 => decide); (case m2_184 => decide)); intro _ _ _ _ _ _ _ _ _ _ _ _ _ _; (try k_sweep))) | fail "-")
  k_with "o stop" => (first | ((with_reducible show wpAny _ _ (call (Value.ref 509) _) _ _ _)) | fail "-")
  k_with "o any item" => (first | ((k_here; (with_reducible show wpAny _ _ (subscriptTail _ _ (Value.ref _) (Value.int (Nat.cast _) _)) _ _ _); k_dflt (refine' itemAny ?l_186 ?k_186 ?z_186 ?_; (case l_186 => k_extra "o at"); (case k_186 => first | assumption | k_extra "o om" | (simp only [List.length_cons, List.length_nil]; k_extra "o om")); (case z_186 => first | exact Nat.le_of_ble_eq_true rfl | k_extra "o om"); k_whole); intro _ _)) | fail "-")
  k_with "o subscriptTail List cons Call ref int" => (first | (k_extra "o any item") | fail "-")
  k_with "o subscriptTail List cons Name ref int" => (first | (k_extra "o any item") | fail "-")
  k_with "o subscriptTail Name Call ref int" => (first | (k_extra "o any item") | fail "-")
  k_with "o subscriptTail Name Name ref int" => (first | (k_extra "o any item") | fail "-")
  k_with "o call builtin:list.append" => (first | ((k_here; k_dflt (show wpAny _ _ (call (Value.builtin _) [Value.ref _, _]) _ _ _); k_dflt (refine' appendZL ?F_191 ?N_191 ?O_191 ?P_191 ?U_191 ?_ ?z_191; (case F_191 => assumption); (case N_191 => assumption); (case O_191 => assumption); (case P_191 => assumption); (case U_191 => k_upd); (case z_191 => k_extra "o short"); k_whole); intro _ _ _ _ _ _ _; (try k_sweep))) | fail "-")
  k_with "o setItem ref int" => (first | ((k_here; (with_reducible show wpAny _ _ (setItem (Value.ref _) (Value.int _ _) _) _ _ _); k_dflt (refine' setItemZL ?F_192 ?N_192 ?O_192 ?P_192 ?U_192 ?a_192 ?b_192 ?c_192 ?_; (case F_192 => assumption); (case N_192 => assumption); (case O_192 => assumption); (case P_192 => assumption); (case U_192 => k_upd); (case a_192 => k_extra "o om"); (case b_192 => first | k_extra "o om" | (simp only [List.length_set, List.length_cons, List.length_nil]; k_extra "o om")); (case c_192 => k_extra "o om"); k_whole); intro _ _ _ _ _ _ _; (try k_sweep))) | fail "-")
  k_with "o cut3" => (first | ((k_here; k_dflt (refine' sliceYL ?F_193 ?N_193 ?O_193 ?l_193 ?pl_193 ?pu_193 ?e_193 ?_ ?hs_193 ?ht_193 ?hz_193; (case F_193 => assumption); (case N_193 => assumption); (case O_193 => assumption); (case l_193 => k_extra "o at"); (case pl_193 => first | exact .none | exact .int _ _); (case pu_193 => first | exact .none | exact .int _ _); (case e_193 => exact slice3 (by k_extra "o om") (by k_extra "o om")); (case hs_193 => with_unfolding_all rfl); (case ht_193 => (intro _; with_unfolding_all rfl)); (case hz_193 => k_extra "o short")); intro _ _ _ _ _ _ _ _; (try k_sweep))) | fail "-")
  k_with "o subscriptTail List cons Slice ref ref" => (first | (k_extra "o cut3") | fail "-")
  k_with "o subscriptTail Name Slice ref ref" => (first | (k_extra "o cut3") | fail "-")
  k_with "o setAttr ref" => (first | ((k_here; k_dflt ( (refine' setAttrZL ?k1_196 ?k2_196 ?k3_196 ?kO_196 ?kP_196 ?k4_196 ?k5_196 ?k6_196 ?k7_196 ?k8_196 ?k9_196 ?k10_196 ?k11_196 ?k12_196 ?k13_196 ?_; (case k1_196 => k_asm); (case k2_196 => k_asm); (case k3_196 => k_asm); (case kO_196 => assumption); (case kP_196 => assumption); (case k4_196 => k_inst); (case k5_196 => exact rfl); (case k6_196 => k_is); (case k7_196 => k_is); (case k8_196 => k_is); (case k9_196 => k_is); (case k10_196 => k_get); (case k11_196 => k_put); (case k12_196 => k_upd); (case k13_196 => exact Nat.le_of_ble_eq_true rfl); k_whole; intro _ _ _ _ _ _ _; (try k_sweep))))) | fail "-")
  k_with "o setItem ref str" => (first | ((k_here; k_dflt (refine' setDictZ ?F_197 ?N_197 ?O_197 ?P_197 ?d_197 ?z_197 ?_; (case F_197 => assumption); (case N_197 => assumption); (case O_197 => assumption); (case P_197 => assumption); (case d_197 => assumption); (case z_197 => exact Nat.le_of_ble_eq_true rfl); k_whole); intro _ _ _ _ _ _ _; (try k_sweep); (try dsimp only))) | fail "-")
  k_with "o call type:list" => (first | ((k_here; (with_reducible show wpAny _ _ (call (Value.type _) [Value.ref _]) _ _ _); k_dflt (refine' lis_copyL ?F_198 ?N_198 ?O_198 ?l_198 ?_ ?z_198; (case F_198 => assumption); (case N_198 => assumption); (case O_198 => assumption); (case l_198 => k_extra "o at"); (case z_198 => first | exact take3_short | exact Nat.le_trans (by k_extra "o om" : _ ≤ 64) (by decide) | exact Nat.le_of_ble_eq_true rfl)); intro _ _ _ _ _ _ _ _ _; (try k_sweep))) | fail "-")
  k_with "o compareOp NotEq ref ref" => (first | ((k_here; (with_reducible show wpAny _ _ (compareOp CmpOp.NotEq (Value.ref _) (Value.ref _)) _ _ _); k_dflt (refine' ne_strs_same ?a_199 ?b_199 ?i_199 ?j_199 ?x_199 ?u_199 ?_; (case a_199 => k_extra "o at"); (case b_199 => k_extra "o at"); (case i_199 => assumption); (case j_199 => assumption); (case x_199 => assumption); (case u_199 => exact Nat.le_of_ble_eq_true rfl)); k_whole)) | fail "-")
  trivial
theorem rows_pre2_1_1 : True := by
  k_with "o subscriptTail Name Constant ref str" => (first | ((k_here; k_dflt (refine' dictItem ?l_200 ?d_200 ?r_200 ?_; (case d_200 => assumption); (case r_200 => assumption); (case l_200 => k_extra "o at"); k_whole))) | fail "-")
  k_with "o subscriptTail Attribute Name ref int" => (first | (k_extra "o any item") | fail "-")
  k_with "o kn1" => (first | ((first | (with_reducible assumption) | ((with_reducible apply Kn.app1); k_extra "o kn1") | ((with_reducible apply Kn.cons1); k_extra "o kn1"))) | fail "-")
  trivial

theorem rows_V20_1 : True := by
  k_with "o go3" => (first | (repeat' ((fail_if_success (with_reducible show wpAny _ _ (setAttr _ _ _) _ _ _)); k_extra "o stop"; k_extra "o step")) | fail "-")
  trivial
theorem ref_tail : tailIn (k0.heap_1 w.params) excT (.ref 55 :: excT) = true := by kernel_rfl
theorem ref_ns : nsOkIn (k0.heap_1 w.params) 74 = true := by kernel_rfl
theorem ref_pass (self : Value) : refuseLoop self (Str.ofString "__setattr__") (.ref 75 :: .ref 55 :: excT) = pure () := by
  rw [refuseLoop_ref, refuseLoop_ref]; kernel_rfl
theorem refusal_ok (S : Store) (x : Str) (xt : Tok) : PureT w 8 75 [.str x xt] S (MadeE (.str x xt)) := by
  unfold PureT
  intro dp un fr gd base s Q E hdp G Bl k
  obtain ⟨mean, mg, mb, T⟩ := G.t
  have X := G.In
  have e1 : (k0.heap_1 w.params).lookup 75 = some refC := by k_is
  have e3 : nsIn (k0.heap_1 w.params) 74 (Str.ofString "__init__") = some (some (.ref 72)) := by k_is
  have e6 : findIn (k0.heap_1 w.params) (.ref 75) (Str.ofString "__setattr__") = some (some (.builtin "object.__setattr__")) := by k_is
  have e7 : takerIn (k0.heap_1 w.params) 75 (Str.ofString "message") = some none := by k_is
  have e8 : mroIn (k0.heap_1 w.params) 75 (.type "object") = some true := by k_is
  have hN := Heap.Ns.of_isNs (isNs_of_in X (ref_ns))
  have hi := ns_some_of X hN e3
  have hT := tail_of_in X (ref_tail)
  have hC := X _ _ e1
  have hcd : ∃ cd, clsIn (k0.heap_1 w.params) 75 = some cd ∧ cd.mro = .ref 75 :: .ref 55 :: excT ∧ cd.hasDict = true := by
    unfold clsIn
    rw [e1]
    exact ⟨_, rfl, rfl, rfl⟩
  obtain ⟨cd, hcd, hmro, hdct⟩ := hcd
  obtain ⟨h, g, d, t, os⟩ := s
  refine call_initU PySem.F.excBase_Exception hT hC hN hi (X _ _ (by k_is : (k0.heap_1 w.params).lookup 72 = some _)) rfl (fun h' e hm => ?_)
  obtain ⟨kp, hnew, t1, he, htn, ht⟩ := hm
  replace X := Frag.In.keeps X kp
  have T' := T.keeps kp
  clear T G
  refine wpAny_call ?_; k_dflt (refine' enterP (binds := [("self", Value.ref e), ("message", Value.str x xt)]) ?k1 ?k2 ?k6 ?k7 ?k8 ?k9 ?kB ?_ ?c5 ?c2 ?c3 ?c4; (case k1 => assumption); (case k2 => assumption); (case k6 => k_is); (case k7 => k_is); (case k8 => show dp + 1 < recursionLimit; exact om_200 _ hdp); (case k9 => first | exact BindsTo.of_eq rfl | exact binds_K (by assumption) rfl (by k_is) rfl rfl rfl); (case c5 => decide); (case kB => exact locs rfl); (case c2 => exact rfl); (case c3 => exact rfl); (case c4 => exact rfl); k_whole)
  intro h₁ F
  have N : News h' h'.objs.size h₁ ([] ++ []) := News.nil
  walk_at "go3"
  refine exc_set (cd := cd) (vs := #[.ref t1, .none, .none, .none, .bool false, .none]) (sl := #[]) (Frag.In.keeps X (Fr.keep F)) hcd hdct (by rw [hmro]; rfl) (by rw [hmro]; exact ref_pass _) e8 e6 e7 (F.keep _ _ he) ?_
  intro h2 tk2 D od a1 a2 a3 a4 a5 a6
  walk_at "go3"
  have kk : ∀ b o, h.get? b = some o → h2.get? b = some o := fun b o hb => a6 b o (fun q => by rw [q, hnew] at hb; cases hb) (F.keep _ _ (kp _ _ hb))
  have fr0 : ∀ b o, h₁.get? b = none → h.get? b = some o → False := fun b o h1 h2 => by rw [F.keep _ _ (kp _ _ h2)] at h1; cases h1
  refine k _ [(e, excO t1 D), (D, od), (t1, tupO [.str x xt])] _ _ kk (fun p hp => ?_) ⟨e, t1, D, od, rfl, rfl, a3⟩
  rcases List.mem_cons.mp hp with rfl | hp
  · exact ⟨a1, hnew⟩
  · rcases List.mem_cons.mp hp with rfl | hp
    · refine ⟨a2, ?_⟩
      cases q : h.get? D with
      | none => rfl
      | some o => exact (fr0 D o a5 q).elim
    · rw [List.mem_singleton.mp hp]
      exact ⟨a6 _ _ (fun q => by have q' : t1 = e := q; rw [q', he] at ht; cases ht) (F.keep _ _ ht), htn⟩
theorem rows_V21_1 : True := by
  k_with "o go4" => (first | (repeat' ((fail_if_success (with_reducible show wpAny _ _ (exec (Stmt.Raise _ _ _) _) _ _ _)); (fail_if_success (with_reducible show wpAny _ _ (call (Value.ref 75) _) _ _ _)); k_extra "o stop"; k_extra "o step")) | fail "-")
  trivial
noncomputable abbrev msgX : Str := Str.ofString "'x' must be a matrix"
theorem mat_raise (S : Store) (v kv iv av sv lv : Value) (hv : VecS w S v kv iv av sv lv) (ha : AttrV w S av "dim" .none) : RaiseT w 12 469 [v] S (fun m => ∃ t, m = .str msgX t) := by
  unfold RaiseT
  intro dp un fr gd base s Q E hdp G Bl k
  obtain ⟨mean, mg, mb, T⟩ := G.t
  have X := G.In
  refine wpAny_call ?_; k_dflt (refine' enterPCX (binds := [("v", v)]) ?k1 ?k2 ?k6 ?k7 ?k8 ?k9 ?kB ?kD ?_ ?c2 ?c3 ?c4; (case k1 => assumption); (case k2 => assumption); (case k6 => k_is); (case k7 => k_is); (case k8 => first | exact room_lt (by assumption) | omega | (dsimp only [Around.deeper]; omega)); (case k9 => first | exact BindsTo.of_eq rfl | exact binds_K (by assumption) rfl (by k_is) rfl rfl rfl); (case kB => exact rfl); (case kD => decide +kernel); (case c2 => exact rfl); (case c3 => exact rfl); (case c4 => exact rfl); k_whole)
  intro h₁ tk₁ co F N hco
  replace F : Fr s.heap s.heap.objs.size h₁ (upd (fun _ => none) []) := F
  replace N : News s.heap s.heap.objs.size h₁ ([(s.heap.objs.size + 1 + 1 + 1, co "values"), (s.heap.objs.size + 1 + 1, co "dims"), (s.heap.objs.size + 1, co "v")] ++ []) := N
  have O : Off [(s.heap.objs.size + 1 + 1 + 1, co "values"), (s.heap.objs.size + 1 + 1, co "dims"), (s.heap.objs.size + 1, co "v")] [] := fun _ _ _ h => nomatch h
  have c0 : (co "v").data = .cell (some v) := hco ("v", s.heap.objs.size + 1) (.tail _ (.tail _ (.head _)))
  have c1 : (co "dims").data = .cell (none) := hco ("dims", s.heap.objs.size + 1 + 1) (.tail _ (.head _))
  have c2 : (co "values").data = .cell (none) := hco ("values", s.heap.objs.size + 1 + 1 + 1) (.head _)
  clear hco
  have e1 : @Ne Addr (s.heap.objs.size + 1) (s.heap.objs.size + 1 + 1) := (by exact om_70 _ : (s.heap.objs.size + 1 : Nat) ≠ s.heap.objs.size + 1 + 1)
  have e2 : @Ne Addr (s.heap.objs.size + 1) (s.heap.objs.size + 1 + 1 + 1) := (by exact om_71 _ : (s.heap.objs.size + 1 : Nat) ≠ s.heap.objs.size + 1 + 1 + 1)
  have e3 : @Ne Addr (s.heap.objs.size + 1 + 1) (s.heap.objs.size + 1 + 1 + 1) := (by exact om_72 _ : (s.heap.objs.size + 1 + 1 : Nat) ≠ s.heap.objs.size + 1 + 1 + 1)
  generalize co "v" = ov at *
  generalize co "dims" = od at *
  generalize co "values" = ow at *
  walk_at "clean"
  walk_at "go4"
  (k_dflt (refine' Pure.use (dim_none _ _ _ _ _ _ _ ?k0 ?k1) ?kG ?kF ?kN ?kO rfl ?kB rfl rfl rfl ?kd ?_; k_extra "kt"))
  case k0 => walk_at "vec"
  case k1 => walk_at "vec"
  rintro r tl h' tk' F' N' O' o' rfl
  (try k_sweep)
  walk_at "go4"
  have hC : (k0.heap_1 w.params).lookup 75 = some refC := by k_is
  refine raise_ref rfl ?_
  (try k_fold)
  walk_at "go4"
  (k_dflt (refine' PureT.use (refusal_ok _ _ _) ?kG ?kF ?kN ?kO rfl ?kB rfl rfl rfl ?kd ?_; k_extra "kt"))
  rintro r tl h' tk' F' N' O' o' ⟨e, t, D, od, rfl, rfl, hlk⟩
  have ne := N' (e, excO t D) (List.mem_append_right _ (List.mem_append_right _ (.head _)))
  have nD := N' (D, od) (List.mem_append_right _ (List.mem_append_right _ (.tail _ (.head _))))
  refine ⟨e, t, D, rfl, Fr.keep F' _ _ (X _ _ hC), ne.1, ?_⟩
  exact leave_E Bl F' rfl rfl rfl ne.1 ne.2.2 nD.1 nD.2.2 nD.2.1 (made_ne ne.1 nD.1 hlk) hlk fun h2 fl up => k e _ h2 _ ⟨_, rfl⟩ fl up

theorem lm_raise (S : Store) (ip en xv yv kv iv av sv lv tv : Value) (al t1 t2 : Addr) (ka : Nat) (hv : VecS w S xv kv iv av sv lv) (ha : AttrV w S av "dim" .none)
    (htv : tv = .none ∨ ∃ ty, tv = .str "y" ty) (hal : S al (lisO [.ref t1, .ref t2] ka)) (h1 : S t1 (tupO [.none, xv])) (h2 : S t2 (tupO [tv, yv])) :
    RaiseT w 24 474 [ip, .ref al, en] S (fun m => ∃ t, m = .str (Str.ofString "'x' must be a matrix") t) := by
  unfold RaiseT
  intro dp un fr gd base s Q E hdp G Bl k
  obtain ⟨mean, mg, mb, T⟩ := G.t
  have X := G.In
  refine wpAny_call ?_; k_dflt (refine' enterPX (binds := [("interp", ip), ("args", Value.ref al), ("env", en)]) ?k1 ?k2 ?k6 ?k7 ?k8 ?k9 ?kB ?_ ?c5 ?c2 ?c3 ?c4; (case k1 => assumption); (case k2 => assumption); (case k6 => k_is); (case k7 => k_is); (case k8 => first | exact room_lt (by assumption) | omega | (dsimp only [Around.deeper]; omega)); (case k9 => first | exact BindsTo.of_eq rfl | exact binds_K (by assumption) rfl (by k_is) rfl rfl rfl); (case c5 => decide); (case kB => exact locs rfl); (case c2 => exact rfl); (case c3 => exact rfl); (case c4 => exact rfl); k_whole)
  intro h₁ F
  replace F : Fr s.heap s.heap.objs.size h₁ (upd (fun _ => none) [("env", some en), ("args", some (Value.ref al)), ("interp", some ip)]) := F
  have N : News s.heap s.heap.objs.size h₁ ([] ++ []) := News.nil
  have O : Off [] [] := fun _ h => nomatch h
  obtain ⟨xa, xdx, xt1, xt2, xt3, xt4, xt5, rfl, hxa, hxdx⟩ := id hv
  walk_at "clean"
  walk_at "go"
  rename_i D _ _ _ _ _ _ lt
  (k_dflt (refine' Pure.use (take_ok _ D al t1 t2 ka _ _ _ _ (.ref xa) yv tv htv (Kn.l hal) (Kn.l h1) (Kn.l h2) (Kn.r (.head _))) ?kG ?kF ?kN ?kO rfl ?kB rfl rfl rfl ?kd ?_; k_extra "kt"))
  rintro r tl h2' tk2 F2 N2 O2 o2 ⟨D2, c2, R, cr, rfl, hD2, hR⟩
  (try k_sweep)
  walk_at "go"
  refine RaiseT.use (mat_raise _ (.ref xa) kv iv av sv lv hv.l ha.l) G (by assumption) (by assumption) rfl Bl rfl rfl rfl (by first | exact room_le (by assumption) rfl | omega | (dsimp only [Around.deeper]; omega)) ?_
  intro e msg h' tk' hm fl up
  exact leave_onE (by assumption) rfl rfl fl up fun h2 fl2 up2 => k e msg h2 _ hm fl2 up2

theorem rows_W0_1 : True := by
  k_with "o go2" => (first | (repeat' ((fail_if_success (with_reducible show wpAny _ _ (storeName _ _ _) _ _ _)); k_extra "o stop"; k_extra "o step")) | fail "-")
  trivial
theorem seg0 (S : Store) (s : Shared) (Q : Flow → Shared → Prop) (E : Value → Shared → Prop) (h₀ : Heap) (L ax : Addr) (Y : Led) (co : Str → Obj) (rest : List PySem.Stmt) (G : Gr w S h₀) (F : Fr h₀ L s.heap (upd (fun _ => none) [("script", some (.ref ax))])) (N : News h₀ L s.heap (([] ++ Y) ++ []))
    (hYe : Y = cellLed (lawCells L) co) (hco : ∀ q ∈ lawCells L, (co q.1).data = .cell none) (vs : List Value) (ns : List Int) (hl : h₀.IsList ax vs.toArray) (hi : IntsAre vs ns) (hb : ∀ n ∈ ns, PySem.Builtin.Int.intBits n ≤ 1048576) (h63 : ns.length ≤ 63)
    (k : ∀ (h' : Heap) (tk' : Nat) (src inn : Addr) (n : Led), src ≠ inn → LSt h₀ L src inn [] [("source", some (.ref src))] [] n h' → wpAny (model prog0 w) (lawA L) (execs rest (lawEnv L)) Q E { s with heap := h', toks := tk' }) :
    wpAny (model prog0 w) (lawA L) (execs (lawSt 0 :: rest) (lawEnv L)) Q E s := by
  obtain ⟨mean, mg, mb, T⟩ := G.t
  have X := G.In
  have hY : ∀ p ∈ Y, ∃ v, p.2.data = .cell v := fun p hp => by
    rw [hYe] at hp
    obtain ⟨q, hq, rfl⟩ := List.mem_map.mp hp
    exact ⟨_, hco q hq⟩
  have O : Off ([] ++ Y) [] := Off.nilR
  show wpAny _ _ (execs (.Assign _ _ _ :: _) _) _ _ _
  refine eta_wp ?_
  refine go_cut (pre := [_]) ?_
  intro zC
  (try k_fold)
  walk_at "go2"
  (rename News _ _ _ _ => Nf)
  (rename Fr _ _ _ _ => Ff)
  have N0 := src_take (Y := [] ++ Y) Nf
  have hXl := offA_cells (X := [] ++ _) (Y := Y) (n := []) N0 (List.forall_mem_cons.mpr ⟨⟨_, _, rfl⟩, List.forall_mem_cons.mpr ⟨⟨_, _, rfl⟩, List.forall_mem_nil _⟩⟩) hY
  clear Nf
  have f1 := PySem.W.fmod_lo (ns.take 40).sum (n := 9973) (by decide)
  have f2 := PySem.W.fmod_hi (ns.take 40).sum (n := 9973) (by decide)
  (rename _ ∧ _ ∧ _ ∧ AllLt _ _ => l1)
  have hne := Nat.ne_of_gt l1.2.1
  obtain ⟨X0, N1, A1, hS⟩ := src_gen N0 hXl ⟨0, _, _, _, _, _, _, ns.take 40, rfl, by decide, by decide, by exact om_147 _ f1, by exact om_148 _ f2, by assumption, fun n hn => hb n (List.mem_of_mem_take hn), by rw [List.length_take]; exact om_149 _ _ _ h63 (by assumption) (by assumption)⟩
  clear N0 hXl
  have hZ : ZAt L _ _ (fun _ => none) (X0 ++ Y) := ⟨X0, co, by rw [hYe], hS, hco, by rw [hYe, cellLed_adr] at A1; exact A1⟩
  refine storeZ (P := []) (n := []) Ff (by simpa only [List.append_assoc, List.nil_append] using N1) Off.nilR (fun _ h => nomatch h) hZ rfl (fun h' Z' F' N' O' oP' hZ' => ?_) rfl
  (try k_fold)
  walk_at "go2"
  exact k _ _ _ _ _ hne (LSt.mk' F' hZ' N' O' oP' trivial ⟨rfl, trivial⟩)

theorem segA (S : Store) (s : Shared) (Q : Flow → Shared → Prop) (E : Value → Shared → Prop) (h₀ : Heap) (L src inn : Addr) (n : Led) (rest : List PySem.Stmt) (G : Gr w S h₀) (B : Below callerA h₀ [] h₀) (hne : src ≠ inn)
    (St : LSt h₀ L src inn [] [("source", some (.ref src))] [] n s.heap)
    (k : ∀ (h' : Heap) (tk' : Nat) (n' : Led) (tall wide : Nat) (ti wi : Int) (kind : Str) (cA : Addr) (kt t1 t2 : Tok), LSt h₀ L src inn [("columns", some (.ref cA)), ("doubled", some (.bool false)), ("wide", some (.int wi t2)), ("tall", some (.int ti t1))] [("kind", some (.str kind kt)), ("source", some (.ref src))] [(cA, lisO [] 0)] n' h' → (∀ q ∈ n, q ∈ n') → (ti = tall ∧ wi = wide ∧ 1 ≤ tall ∧ tall ≤ 5 ∧ 1 ≤ wide ∧ wide ≤ 3 ∧ (kind = Str.ofString "integer" ∨ kind = Str.ofString "double" ∨ kind = Str.ofString "logical")) → wpAny (model prog0 w) (lawA L) (execs rest (lawEnv L)) Q E { s with heap := h', toks := tk' }) :
    wpAny (model prog0 w) (lawA L) (execs (lawSt 1 :: lawSt 2 :: lawSt 3 :: lawSt 4 :: lawSt 5 :: rest) (lawEnv L)) Q E s := by
  obtain ⟨mean, mg, mb, T⟩ := G.t
  have X := G.In
  obtain ⟨m, cv, Z, F, hZ, N, O, oP⟩ := St.open
  clear St
  show wpAny _ _ (execs (.Assign _ _ _ :: .Assign _ _ _ :: .Assign _ _ _ :: .Assign _ _ _ :: .Assign _ _ _ :: _) _) _ _ _
  refine eta_wp ?_
  refine go_cut (pre := [_, _, _, _, _]) ?_
  intro zC
  walk_at "go"
  (rename ([_, _, _] : List Value)[_]? = some _ => hkd)
  (rename (_ : Int) < 5 => h5)
  (rename (_ : Int) < 3 => h3k); clear h3k
  (rename (_ : Int) < 3 => h3)
  obtain ⟨N1, O1, P1⟩ := toP (by assumption) (by assumption) (by assumption)
  obtain ⟨kd, kt, rfl, hkd'⟩ := kind3 hkd
  exact k _ _ _ (1 + natOf h5) (1 + natOf h3) _ _ kd _ kt _ _ (LSt.mk' (by assumption) (by assumption) N1 O1 P1 ⟨rfl, rfl, rfl, rfl, trivial⟩ ⟨rfl, rfl, trivial⟩) (fun q hq => by walk_at "sub") ⟨by simp only [natOf]; exact om_155 _, by simp only [natOf]; exact om_155 _, by exact om_156 _, by simp only [natOf]; exact om_157 _ h5, by exact om_156 _, by simp only [natOf]; exact om_158 _ h3, hkd'⟩

theorem segB (S : Store) (s : Shared) (Q : Flow → Shared → Prop) (E : Value → Shared → Prop) (h₀ : Heap) (L src inn : Addr) (n : Led) (rest : List PySem.Stmt) (G : Gr w S h₀) (B : Below callerA h₀ [] h₀) (hne : src ≠ inn) (tall wide : Nat) (kind : Str) (cA : Addr) (kt t1 t2 : Tok) (h5 : tall ≤ 5) (h3 : wide ≤ 3) (hkd : kind = Str.ofString "integer" ∨ kind = Str.ofString "double" ∨ kind = Str.ofString "logical")
    (St : LSt h₀ L src inn [("columns", some (.ref cA)), ("doubled", some (.bool false)), ("wide", some (.int (wide : Nat) t2)), ("tall", some (.int (tall : Nat) t1))] [("kind", some (.str kind kt)), ("source", some (.ref src))] [(cA, lisO [] 0)] n s.heap)
    (k : ∀ (h' : Heap) (tk' : Nat) (n' : Led) (cvs : List Value) (kk : Nat) (cols : List (List Rat)), LSt h₀ L src inn [("columns", some (.ref cA)), ("doubled", some (.bool false)), ("wide", some (.int (wide : Nat) t2)), ("tall", some (.int (tall : Nat) t1))] [("kind", some (.str kind kt)), ("source", some (.ref src))] [(cA, lisO cvs kk)] n' h' → (∀ q ∈ n, q ∈ n') → ColsS (Kn S n') kind (bK kind) tall cvs cols ∧ cols.length = wide → wpAny (model prog0 w) (lawA L) (execs rest (lawEnv L)) Q E { s with heap := h', toks := tk' }) :
    wpAny (model prog0 w) (lawA L) (execs (lawSt 6 :: rest) (lawEnv L)) Q E s := by
  obtain ⟨mean, mg, mb, T⟩ := G.t
  have X := G.In
  obtain ⟨m, cv, Z, F, hZ, N, O, oP⟩ := St.open
  clear St
  show wpAny _ _ (execs (.For _ _ _ _ _ :: _) _) _ _ _
  refine eta_wp ?_
  refine go_cut (pre := [_]) ?_
  intro zC
  walk_at "go"
  refine wpAny_For ?_
  walk_at "go"
  refine forZ_range (S := S) (N := wide) (by exact om_140 _ h3) (ColR kind tall cA kt t1 t2 wide src) (by assumption) (by assumption) (by assumption) (by assumption) oP hZ ⟨[], 0, [], ⟨rfl, rfl, rfl, rfl, trivial⟩, ⟨rfl, rfl, trivial⟩, rfl, trivial, rfl⟩ ?_ ?_
  · rintro i t hi m₁ cv₁ P₁ Z₁ n₁ X₁ h tk ⟨cvs, kk, cols, e1, e2, rfl, hC, hl⟩ ea hn₁ oA F₁ N₁ O₁ oP₁ hZ₁
    replace F₁ : Fr h₀ L h (upd m₁ _) := (upd_self e1).symm ▸ F₁
    replace hZ₁ : ZAt L src inn (upd cv₁ _) Z₁ := (upd_self e2).symm ▸ hZ₁
    clear O oP hZ; (try k_sweep)
    (try k_fold)
    walk_at "go"
    replace oA : OffA X₁ [cA] := oA
    refine assign_comp rfl rfl rfl (by decide) ?_
    walk_at "go"
    refine compZ_range (S := S) (N := tall) (by exact om_49 _ h5) (fun j ys _ => PickR j ys) (by assumption) (by assumption) (by assumption) (by assumption) oP₁ hZ₁ PickR.nil (by decide) rfl rfl ?_ (finZ_assign rfl rfl rfl ?_)
    · rintro j tj hj ys Z₂ n₂ P₂ C oC m₂ h₂ tk₂ hR hn₂ hCm nsC hm₂ F₂ N₂ O₂ oP₂ hZ₂
      refine tests_nil ?_
      (try k_fold)
      clear hZ₁
      walk_at "go"
      exact ⟨_, _, _, _, rfl, by assumption, by assumption, by assumption, by assumption, by assumption, fun q hq => by walk_at "sub", hR.snoc (by assumption)⟩
    · rintro D ys Z₂ n₂ kD h₂ tk₂ hR hn₂ F₂ N₂ O₂ oP₂ hZ₂
      clear hZ₁
      (try k_fold)
      have hlc := hC.length
      rcases hkd with rfl | rfl | rfl
      · walk_at "go"
        refine eval_comp rfl rfl (by decide) ?_
        walk_at "go"
        refine compZ_list (S := S) (k₀ := kD) (vs := ys) G (by rw [hR.length]; exact om_49 _ h5) (ItemR (Str.ofString "integer") 2) ?hs0 (by assumption) (by assumption) (by assumption) oP₂ hZ₂ ItemR.nil (by decide) rfl rfl ?_ (finZ_eval ?_)
        case hs0 =>  walk_at "kn"
        · rintro i' v' hv' ys' Z₃ n₃ P₃ C' oC' m₃ h₃ tk₃ hI hn₃ hCm' nsC' hm₃ F₃ N₃ O₃ oP₃ hZ₃
          obtain ⟨kp, tp, rfl, hkp⟩ := hR.at hv'
          refine tests_nil ?_
          (try k_fold)
          clear hZ₂
          walk_at "go"
          (rename ([_, _, _, _] : List Value)[_]? = some _ => hm4)
          exact ⟨_, _, _, _, rfl, by assumption, by assumption, by assumption, by assumption, by assumption, fun q hq => by walk_at "sub", (hI.mono (Kn.sub' fun q hq => by walk_at "sub")).snocI (by decide +kernel) (by decide) (by decide +kernel) (by decide +kernel) (by decide +kernel) (by decide +kernel) hm4⟩
        · rintro D' ys' Z₃ n₃ kD' h₃ tk₃ hI hn₃ F₃ N₃ O₃ oP₃ hZ₃
          clear hZ₂
          (try k_fold)
          walk_at "go"
          obtain ⟨col, hcol⟩ := (hR.length ▸ hI.mono (Kn.sub' (n' := (D', lisO ys' kD') :: n₃) (fun q hq => .tail _ hq)) : ItemR (Str.ofString "integer") 2 tall ys' (Kn S ((D', lisO ys' kD') :: n₃))).colB bK_i.symm (Kn.r (.head _))
          exact ⟨_, _, _, _, [(cA, lisO (cvs ++ [.ref D']) (kk + 1))], _, _, rfl, by assumption, by assumption, by assumption, by assumption, by assumption, fun q hq => .tail _ (hn₃ _ (.tail _ (hn₂ q hq))), rfl, _, _, cols ++ [col], ⟨rfl, rfl, rfl, rfl, trivial⟩, ⟨rfl, rfl, trivial⟩, rfl, L2.snoc (hC.mono (Kn.sub' fun q hq => .tail _ (hn₃ _ (.tail _ (hn₂ q hq))))) hcol, by simp [hl]⟩
      · walk_at "go"
        refine eval_comp rfl rfl (by decide) ?_
        walk_at "go"
        refine compZ_list (S := S) (k₀ := kD) (vs := ys) G (by rw [hR.length]; exact om_49 _ h5) (ItemR (Str.ofString "double") 3) ?hs1 (by assumption) (by assumption) (by assumption) oP₂ hZ₂ ItemR.nil (by decide) rfl rfl ?_ (finZ_eval ?_)
        case hs1 =>  walk_at "kn"
        · rintro i' v' hv' ys' Z₃ n₃ P₃ C' oC' m₃ h₃ tk₃ hI hn₃ hCm' nsC' hm₃ F₃ N₃ O₃ oP₃ hZ₃
          obtain ⟨kp, tp, rfl, hkp⟩ := hR.at hv'
          refine tests_nil ?_
          (try k_fold)
          clear hZ₂
          walk_at "go"
          (rename ([_, _, _, _] : List Value)[_]? = some _ => hm4)
          exact ⟨_, _, _, _, rfl, by assumption, by assumption, by assumption, by assumption, by assumption, fun q hq => by walk_at "sub", (hI.mono (Kn.sub' fun q hq => by walk_at "sub")).snocR (qa := q11) (qb := q12) (qc := qm2) (qd := q01) hm4 (rat11 (by walk_at "kn")) (rat12 (by walk_at "kn")) (ratm2 (by walk_at "kn")) (rat01 (by walk_at "kn")) sz11 sz12 szm2 sz01⟩
        · rintro D' ys' Z₃ n₃ kD' h₃ tk₃ hI hn₃ F₃ N₃ O₃ oP₃ hZ₃
          clear hZ₂
          (try k_fold)
          walk_at "go"
          obtain ⟨col, hcol⟩ := (hR.length ▸ hI.mono (Kn.sub' (n' := (D', lisO ys' kD') :: n₃) (fun q hq => .tail _ hq)) : ItemR (Str.ofString "double") 3 tall ys' (Kn S ((D', lisO ys' kD') :: n₃))).colB bK_d.symm (Kn.r (.head _))
          exact ⟨_, _, _, _, [(cA, lisO (cvs ++ [.ref D']) (kk + 1))], _, _, rfl, by assumption, by assumption, by assumption, by assumption, by assumption, fun q hq => .tail _ (hn₃ _ (.tail _ (hn₂ q hq))), rfl, _, _, cols ++ [col], ⟨rfl, rfl, rfl, rfl, trivial⟩, ⟨rfl, rfl, trivial⟩, rfl, L2.snoc (hC.mono (Kn.sub' fun q hq => .tail _ (hn₃ _ (.tail _ (hn₂ q hq))))) hcol, by simp [hl]⟩
      · walk_at "go"
        refine eval_comp rfl rfl (by decide) ?_
        walk_at "go"
        refine compZ_list (S := S) (k₀ := kD) (vs := ys) G (by rw [hR.length]; exact om_49 _ h5) (ItemR (Str.ofString "logical") 3) ?hs2 (by assumption) (by assumption) (by assumption) oP₂ hZ₂ ItemR.nil (by decide) rfl rfl ?_ (finZ_eval ?_)
        case hs2 =>  walk_at "kn"
        · rintro i' v' hv' ys' Z₃ n₃ P₃ C' oC' m₃ h₃ tk₃ hI hn₃ hCm' nsC' hm₃ F₃ N₃ O₃ oP₃ hZ₃
          obtain ⟨kp, tp, rfl, hkp⟩ := hR.at hv'
          refine tests_nil ?_
          (try k_fold)
          clear hZ₂
          walk_at "go"
          exact ⟨_, _, _, _, rfl, by assumption, by assumption, by assumption, by assumption, by assumption, fun q hq => by walk_at "sub", (hI.mono (Kn.sub' fun q hq => by walk_at "sub")).snoc (item_int (by decide +kernel)) (sz_int (bits2 (PySem.W.fmod_lo _ (by decide)) (Int.lt_trans (PySem.W.fmod_hi (kp : Int) (n := 2) (by decide)) (by decide))) (by decide))⟩
        · rintro D' ys' Z₃ n₃ kD' h₃ tk₃ hI hn₃ F₃ N₃ O₃ oP₃ hZ₃
          clear hZ₂
          (try k_fold)
          walk_at "go"
          obtain ⟨col, hcol⟩ := (hR.length ▸ hI.mono (Kn.sub' (n' := (D', lisO ys' kD') :: n₃) (fun q hq => .tail _ hq)) : ItemR (Str.ofString "logical") 3 tall ys' (Kn S ((D', lisO ys' kD') :: n₃))).colB bK_l.symm (Kn.r (.head _))
          exact ⟨_, _, _, _, [(cA, lisO (cvs ++ [.ref D']) (kk + 1))], _, _, rfl, by assumption, by assumption, by assumption, by assumption, by assumption, fun q hq => .tail _ (hn₃ _ (.tail _ (hn₂ q hq))), rfl, _, _, cols ++ [col], ⟨rfl, rfl, rfl, rfl, trivial⟩, ⟨rfl, rfl, trivial⟩, rfl, L2.snoc (hC.mono (Kn.sub' fun q hq => .tail _ (hn₃ _ (.tail _ (hn₂ q hq))))) hcol, by simp [hl]⟩
  · rintro m₁ cv₁ P₁ Z₁ n₁ h tk ⟨cvs, kk, cols, e1, e2, rfl, hC, hl⟩ hn₁ F₁ N₁ O₁ oP₁ hZ₁
    (try k_fold)
    walk_at "go"
    exact k _ _ _ cvs kk cols (LSt.mk' F₁ hZ₁ N₁ O₁ oP₁ e1 e2) hn₁ ⟨hC, hl⟩

theorem segC (S : Store) (s : Shared) (Q : Flow → Shared → Prop) (E : Value → Shared → Prop) (h₀ : Heap) (L src inn : Addr) (n : Led) (rest : List PySem.Stmt) (G : Gr w S h₀) (B : Below callerA h₀ [] h₀) (hne : src ≠ inn) (tall wide : Nat) (kind : Str) (cA : Addr) (kt t1 t2 : Tok) (h5 : tall ≤ 5) (h3 : wide ≤ 3) (hkd : kind = Str.ofString "integer" ∨ kind = Str.ofString "double" ∨ kind = Str.ofString "logical") (cvs : List Value) (kk : Nat) (cols : List (List Rat)) (hC : ColsS (Kn S n) kind (bK kind) tall cvs cols) (hl : cols.length = wide)
    (St : LSt h₀ L src inn [("columns", some (.ref cA)), ("doubled", some (.bool false)), ("wide", some (.int (wide : Nat) t2)), ("tall", some (.int (tall : Nat) t1))] [("kind", some (.str kind kt)), ("source", some (.ref src))] [(cA, lisO cvs kk)] n s.heap)
    (k : ∀ (h' : Heap) (tk' : Nat) (n' : Led) (db : Bool) (cvs : List Value) (kk : Nat) (cols : List (List Rat)), LSt h₀ L src inn [("columns", some (.ref cA)), ("doubled", some (.bool db)), ("wide", some (.int (wide : Nat) t2)), ("tall", some (.int (tall : Nat) t1))] [("kind", some (.str kind kt)), ("source", some (.ref src))] [] n' h' → (∀ q ∈ n, q ∈ n') → Kn S n' cA (lisO cvs kk) ∧ ColsS (Kn S n') kind 3 tall cvs cols ∧ cols.length = wide ∧ (db = true → ∃ c cs, cols = c :: (c.map fun x => 2 * x) :: cs) → wpAny (model prog0 w) (lawA L) (execs rest (lawEnv L)) Q E { s with heap := h', toks := tk' }) :
    wpAny (model prog0 w) (lawA L) (execs (lawSt 7 :: rest) (lawEnv L)) Q E s := by
  obtain ⟨mean, mg, mb, T⟩ := G.t
  have X := G.In
  obtain ⟨m, cv, Z, F, hZ, N, O, oP⟩ := St.open
  clear St
  show wpAny _ _ (execs (.If _ _ _ _ :: _) _) _ _ _
  refine eta_wp ?_
  refine go_cut (pre := [_]) ?_
  intro zC
  have hlc := hC.length
  rcases hkd with rfl | rfl | rfl
  · by_cases hw : wide ≤ 1
    · walk_at "go"
      obtain ⟨Ne, Oe, Pe⟩ := fromP (by assumption) (by assumption) (by assumption)
      exact k _ _ _ false cvs _ cols (LSt.mk' (by assumption) (by assumption) Ne Oe Pe ⟨rfl, rfl, rfl, rfl, trivial⟩ ⟨rfl, rfl, trivial⟩) (fun q hq => List.mem_cons_of_mem _ (by walk_at "sub")) ⟨Kn.r (.head _), (hC.up (bK_le _)).mono (Kn.sub' fun q hq => List.mem_cons_of_mem _ (by walk_at "sub")), hl, fun h => nomatch h⟩
    · obtain ⟨c0, c1, cs, rfl⟩ := two_of (by exact om_85 _ _ hl hw : 2 ≤ cols.length)
      obtain ⟨v0, v1, vs, rfl⟩ := two_of (by exact om_86 _ _ _ hw hl hlc : 2 ≤ cvs.length)
      obtain ⟨a0, vs0, k0, rfl, ha0, hi0, hl0, hz0⟩ := id hC.1
      have hlt : (0 : Int) < (Value.ref a0 :: v1 :: vs).length := by simp only [List.length_cons]; exact om_87 _
      have hlt1 : (1 : Int) < (Value.ref a0 :: v1 :: vs).length := by simp only [List.length_cons]; exact om_88 _
      have hli := hi0.length
      walk_at "go"
      · refine wpAny_Assign_Subscript ?_ ?_
        rotate_left
        · with_unfolding_all rfl
        (try k_fold)
        refine eval_comp rfl rfl (by decide) ?_
        walk_at "go"
        refine compZ_list (S := S) (k₀ := k0) (vs := vs0) G (by exact om_65 _ _ _ h5 hl0 hli) (DblR (Str.ofString "integer") c0) ?hs (by assumption) (by assumption) (by assumption) (by assumption) (by assumption) (show DblR _ _ 0 [] _ from trivial) (by decide) rfl rfl ?_ (finZ_eval ?_)
        case hs => exact Kn.sub' (fun q hq => by walk_at "sub") _ _ ha0
        · rintro i' v' hv' ys' Z₃ n₃ P₃ C' oC' m₃ h₃ tk₃ hI hn₃ hCm' nsC' hm₃ F₃ N₃ O₃ oP₃ hZ₃
          have hi' : i' < c0.length := by rw [← hli]; exact (List.getElem?_eq_some_iff.mp hv').1
          obtain ⟨n, hn, hn2⟩ := items_ints (by decide +kernel) hi0 hz0 _ (List.getElem_mem hi')
          obtain ⟨nv, tv, rfl⟩ : ∃ t : Tok, ∃ u : Unit, v' = .int n t := by
            rcases hi0.app1 i' hi' hv' with ⟨e, _⟩ | ⟨_, n', t, e, e'⟩
            · exact absurd e (by decide +kernel)
            · rw [hn] at e'; rw [Rat.intCast_inj] at e'; exact ⟨t, (), e' ▸ e⟩
          have hmul : IntMulOk 2 n := IntMulOk.of_left (by decide)
          refine tests_nil ?_
          (try k_fold)
          walk_at "go"
          exact ⟨_, _, _, _, rfl, by assumption, by assumption, by assumption, by assumption, by assumption, fun q hq => by walk_at "sub", hI.snoc (by decide +kernel) (Kn.sub' fun q hq => by walk_at "sub") hi' hn⟩
        · rintro D' ys' Z₃ n₃ kD' h₃ tk₃ hI hn₃ F₃ N₃ O₃ oP₃ hZ₃
          (try k_fold)
          walk_at "go"
          (try dsimp only)
          obtain ⟨Ne, Oe, Pe⟩ := fromP (by assumption) (by assumption) (by assumption)
          have hcol := col_dbl (k := kD') (D := D') (S := Kn S ((D', lisO ys' kD') :: n₃)) (hli.trans hl0 ▸ L2.mono (fun _ _ => ItemS.mono (Kn.sub' fun q hq => List.mem_cons_of_mem _ hq)) hI) (Kn.r (.head _)) hl0 (items_ints (by decide +kernel) hi0 hz0)
          have hC' : ColsS (Kn S ((D', lisO ys' kD') :: n₃)) (Str.ofString "integer") 3 tall (Value.ref a0 :: .ref D' :: vs) (c0 :: (c0.map fun x => 2 * x) :: cs) :=
            ⟨(hC.up (bK_le _)).1.mono (Kn.sub' fun q hq => List.mem_cons_of_mem _ (hn₃ _ (by walk_at "sub"))), hcol, ColsS.mono (Kn.sub' fun q hq => List.mem_cons_of_mem _ (hn₃ _ (by walk_at "sub"))) (hC.up (bK_le _)).2.2⟩
          exact k _ _ _ true (Value.ref a0 :: .ref D' :: vs) kk (c0 :: (c0.map fun x => 2 * x) :: cs) (LSt.mk' (by assumption) (by assumption) Ne Oe Pe ⟨rfl, rfl, rfl, rfl, trivial⟩ ⟨rfl, rfl, trivial⟩) (fun q hq => List.mem_cons_of_mem _ (List.mem_cons_of_mem _ (hn₃ _ (by walk_at "sub")))) ⟨Kn.r (.head _), hC'.mono (Kn.sub' fun q hq => List.mem_cons_of_mem _ hq), hl, fun _ => ⟨_, _, rfl⟩⟩
      · (try dsimp only)
        obtain ⟨Ne, Oe, Pe⟩ := fromP (by assumption) (by assumption) (by assumption)
        exact k _ _ _ false _ _ _ (LSt.mk' (by assumption) (by assumption) Ne Oe Pe ⟨rfl, rfl, rfl, rfl, trivial⟩ ⟨rfl, rfl, trivial⟩) (fun q hq => List.mem_cons_of_mem _ (by walk_at "sub")) ⟨Kn.r (.head _), (hC.up (bK_le _)).mono (Kn.sub' fun q hq => List.mem_cons_of_mem _ (by walk_at "sub")), hl, fun h => nomatch h⟩
  · walk_at "go"
    all_goals (try dsimp only)
    · skip
      obtain ⟨Ne, Oe, Pe⟩ := fromP (by assumption) (by assumption) (by assumption)
      exact k _ _ _ false cvs _ cols (LSt.mk' (by assumption) (by assumption) Ne Oe Pe ⟨rfl, rfl, rfl, rfl, trivial⟩ ⟨rfl, rfl, trivial⟩) (fun q hq => List.mem_cons_of_mem _ (by walk_at "sub")) ⟨Kn.r (.head _), (hC.up (bK_le _)).mono (Kn.sub' fun q hq => List.mem_cons_of_mem _ (by walk_at "sub")), hl, fun h => nomatch h⟩
    · skip
      obtain ⟨Ne, Oe, Pe⟩ := fromP (by assumption) (by assumption) (by assumption)
      exact k _ _ _ false cvs _ cols (LSt.mk' (by assumption) (by assumption) Ne Oe Pe ⟨rfl, rfl, rfl, rfl, trivial⟩ ⟨rfl, rfl, trivial⟩) (fun q hq => List.mem_cons_of_mem _ (by walk_at "sub")) ⟨Kn.r (.head _), (hC.up (bK_le _)).mono (Kn.sub' fun q hq => List.mem_cons_of_mem _ (by walk_at "sub")), hl, fun h => nomatch h⟩
  · walk_at "go"
    all_goals (try dsimp only)
    · skip
      obtain ⟨Ne, Oe, Pe⟩ := fromP (by assumption) (by assumption) (by assumption)
      exact k _ _ _ false cvs _ cols (LSt.mk' (by assumption) (by assumption) Ne Oe Pe ⟨rfl, rfl, rfl, rfl, trivial⟩ ⟨rfl, rfl, trivial⟩) (fun q hq => List.mem_cons_of_mem _ (by walk_at "sub")) ⟨Kn.r (.head _), (hC.up (bK_le _)).mono (Kn.sub' fun q hq => List.mem_cons_of_mem _ (by walk_at "sub")), hl, fun h => nomatch h⟩
    · skip
      obtain ⟨Ne, Oe, Pe⟩ := fromP (by assumption) (by assumption) (by assumption)
      exact k _ _ _ false cvs _ cols (LSt.mk' (by assumption) (by assumption) Ne Oe Pe ⟨rfl, rfl, rfl, rfl, trivial⟩ ⟨rfl, rfl, trivial⟩) (fun q hq => List.mem_cons_of_mem _ (by walk_at "sub")) ⟨Kn.r (.head _), (hC.up (bK_le _)).mono (Kn.sub' fun q hq => List.mem_cons_of_mem _ (by walk_at "sub")), hl, fun h => nomatch h⟩

theorem segD (S : Store) (s : Shared) (Q : Flow → Shared → Prop) (E : Value → Shared → Prop) (h₀ : Heap) (L src inn : Addr) (n : Led) (rest : List PySem.Stmt) (G : Gr w S h₀) (B : Below callerA h₀ [] h₀) (hne : src ≠ inn) (tall wide : Nat) (kind : Str) (cA : Addr) (kt t1 t2 : Tok) (db : Bool) (h5 : tall ≤ 5)
    (St : LSt h₀ L src inn [("columns", some (.ref cA)), ("doubled", some (.bool db)), ("wide", some (.int (wide : Nat) t2)), ("tall", some (.int (tall : Nat) t1))] [("kind", some (.str kind kt)), ("source", some (.ref src))] [] n s.heap)
    (k : ∀ (h' : Heap) (tk' : Nat) (n' : Led) (yl : Addr) (yvs : List Value) (ky : Nat) (ys : List Rat), LSt h₀ L src inn [("y", some (.ref yl)), ("columns", some (.ref cA)), ("doubled", some (.bool db)), ("wide", some (.int (wide : Nat) t2)), ("tall", some (.int (tall : Nat) t1))] [("kind", some (.str kind kt)), ("source", some (.ref src))] [] n' h' → (∀ q ∈ n, q ∈ n') → Kn S n' yl (lisO yvs ky) ∧ RatsS (Kn S n') yvs ys ∧ ys.length = tall ∧ (∀ q ∈ ys, Sz q 3) → wpAny (model prog0 w) (lawA L) (execs rest (lawEnv L)) Q E { s with heap := h', toks := tk' }) :
    wpAny (model prog0 w) (lawA L) (execs (lawSt 8 :: rest) (lawEnv L)) Q E s := by
  obtain ⟨mean, mg, mb, T⟩ := G.t
  have X := G.In
  obtain ⟨m, cv, Z, F, hZ, N, O, oP⟩ := St.open
  clear St
  show wpAny _ _ (execs (.Assign _ _ _ :: _) _) _ _ _
  refine eta_wp ?_
  refine go_cut (pre := [_]) ?_
  intro zC
  walk_at "go"
  refine assign_comp rfl rfl rfl (by decide) ?_
  walk_at "go"
  refine compZ_range (S := S) (N := tall) (by omega) YR (by assumption) (by assumption) (by assumption) (by assumption) oP hZ YR.nil (by decide) rfl rfl ?_ (finZ_assign rfl rfl rfl ?_)
  · rintro j tj hj ys Z₂ n₂ P₂ C oC m₂ h₂ tk₂ hR hn₂ hCm nsC hm₂ F₂ N₂ O₂ oP₂ hZ₂
    refine tests_nil ?_
    (try k_fold)
    clear hZ
    walk_at "go"
    (rename ([_, _, _, _] : List Value)[_]? = some _ => hm4)
    exact ⟨_, _, _, _, rfl, by assumption, by assumption, by assumption, by assumption, by assumption, fun q hq => by walk_at "sub", hR.snocR (qa := q11) (qb := q01) (qc := qm12) (qd := q41) (Kn.sub' fun q hq => by walk_at "sub") hm4 (rat11 (by walk_at "kn")) (rat01 (by walk_at "kn")) (ratm12 (by walk_at "kn")) (rat41 (by walk_at "kn")) sz11 sz01 szm12 sz41⟩
  · rintro D yvs Z₂ n₂ kD h₂ tk₂ ⟨ys, hq, hl, hs⟩ hn₂ F₂ N₂ O₂ oP₂ hZ₂
    clear hZ
    (try k_fold)
    walk_at "go"
    exact k _ _ _ D yvs kD ys (LSt.mk' F₂ hZ₂ N₂ O₂ oP₂ ⟨rfl, rfl, rfl, rfl, rfl, trivial⟩ ⟨rfl, rfl, trivial⟩) (fun q hq => List.mem_cons_of_mem _ (hn₂ _ (by walk_at "sub"))) ⟨Kn.r (.head _), RatsS.mono (Kn.sub' fun q hq => List.mem_cons_of_mem _ hq) hq, hl, hs⟩

theorem segE (S : Store) (s : Shared) (Q : Flow → Shared → Prop) (E : Value → Shared → Prop) (h₀ : Heap) (L src inn : Addr) (n : Led) (rest : List PySem.Stmt) (G : Gr w S h₀) (B : Below callerA h₀ [] h₀) (hne : src ≠ inn) (tall wide : Nat) (kind : Str) (cA yl : Addr) (kt t1 t2 : Tok) (db : Bool) (h5 : tall ≤ 5) (h3 : wide ≤ 3) (cvs : List Value) (kk : Nat) (cols : List (List Rat)) (hcA : Kn S n cA (lisO cvs kk)) (hC : ColsS (Kn S n) kind 3 tall cvs cols) (hl : cols.length = wide)
    (St : LSt h₀ L src inn [("y", some (.ref yl)), ("columns", some (.ref cA)), ("doubled", some (.bool db)), ("wide", some (.int (wide : Nat) t2)), ("tall", some (.int (tall : Nat) t1))] [("kind", some (.str kind kt)), ("source", some (.ref src))] [] n s.heap)
    (k : ∀ (h' : Heap) (tk' : Nat) (n' : Led) (xa xdx il : Addr) (u1 u2 u3 u4 u5 : Tok) (ivs : List Value) (ki : Nat), LSt h₀ L src inn [("x", some (.ref xa)), ("y", some (.ref yl)), ("columns", some (.ref cA)), ("doubled", some (.bool db)), ("wide", some (.int (wide : Nat) t2)), ("tall", some (.int (tall : Nat) t1))] [("kind", some (.str kind kt)), ("source", some (.ref src))] [(xdx, vecD w u1 u2 u3 u4 u5 (.str kind kt) (.ref il) .none (.bool false) (.bool false))] n' h' → (∀ q ∈ n, q ∈ n') → Kn S n' xa (instObj 222 xdx) ∧ Kn S n' il (lisO ivs ki) ∧ ItemsS (Kn S n') kind ivs cols.flatten → wpAny (model prog0 w) (lawA L) (execs rest (lawEnv L)) Q E { s with heap := h', toks := tk' }) :
    wpAny (model prog0 w) (lawA L) (execs (lawSt 9 :: rest) (lawEnv L)) Q E s := by
  obtain ⟨mean, mg, mb, T⟩ := G.t
  have X := G.In
  obtain ⟨m, cv, Z, F, hZ, N, O, oP⟩ := St.open
  clear St
  show wpAny _ _ (execs (.Assign _ _ _ :: _) _) _ _ _
  refine eta_wp ?_
  refine go_cut (pre := [_]) ?_
  intro zC
  obtain ⟨wss, e1, e2, e3, e4⟩ := cols_inner hC
  have hz : wss.flatten.length ≤ 64 := by rw [e4]; have := Nat.mul_le_mul (show cols.length ≤ 3 by exact om_50 _ _ h3 hl) h5; exact Nat.le_trans this (by decide)
  walk_at "go"
  refine eval_comp2 rfl rfl (by decide) ?_
  walk_at "go"
  refine comp2_list (wss := wss) rfl (by assumption) (by assumption) (by walk_at "at") (inner_of G (by assumption) (by assumption) e1 e2) hz (by decide) rfl rfl rfl rfl rfl ?_
  intro D ki h' tk' F' N' hD
  obtain ⟨N1, O1⟩ := made_in N' O hD
  clear N'
  (try k_sweep)
  (try k_fold)
  walk_at "go"
  (k_dflt (refine' PureT.use (vec2_ok _ _ _) ?kG ?kF ?kN ?kO rfl ?kB rfl rfl rfl ?kd ?_; k_extra "kt"))
  rintro r tl h2 tk2 F2 N2 O2 o2 ⟨xa, xdx, u1, u2, u3, u4, u5, hlt, rfl, rfl⟩
  obtain ⟨N3, O3, P3⟩ := toP2 hlt N2 O2 o2
  clear N2 O2 o2
  (try k_sweep)
  walk_at "go"
  exact k _ _ _ xa xdx D u1 u2 u3 u4 u5 wss.flatten ki (LSt.mk' (by assumption) hZ (by assumption) O3 P3 ⟨rfl, rfl, rfl, rfl, rfl, rfl, trivial⟩ ⟨rfl, rfl, trivial⟩) (fun q hq => by walk_at "sub") ⟨Kn.r (by walk_at "memr"), Kn.r (by walk_at "mem"), L2.mono (fun _ _ => ItemS.mono (Kn.sub' fun q hq => by walk_at "sub")) e3⟩

theorem segF (S : Store) (s : Shared) (Q : Flow → Shared → Prop) (E : Value → Shared → Prop) (h₀ : Heap) (L src inn : Addr) (n : Led) (rest : List PySem.Stmt) (G : Gr w S h₀) (B : Below callerA h₀ [] h₀) (hne : src ≠ inn) (tall wide : Nat) (kind : Str) (cA yl xa xdx il : Addr) (kt t1 t2 u1 u2 u3 u4 u5 : Tok) (db : Bool) (h1 : 1 ≤ wide) (h3 : wide ≤ 3) (hxa : Kn S n xa (instObj 222 xdx))
    (St : LSt h₀ L src inn [("x", some (.ref xa)), ("y", some (.ref yl)), ("columns", some (.ref cA)), ("doubled", some (.bool db)), ("wide", some (.int (wide : Nat) t2)), ("tall", some (.int (tall : Nat) t1))] [("kind", some (.str kind kt)), ("source", some (.ref src))] [(xdx, vecD w u1 u2 u3 u4 u5 (.str kind kt) (.ref il) .none (.bool false) (.bool false))] n s.heap)
    (k : ∀ (h' : Heap) (tk' : Nat) (n' : Led) (nl ad dv ddx dl : Addr) (od : Obj) (v1 v2 v3 v4 v5 dt d1 d2 : Tok) (nvs : List Value) (kn kd : Nat), LSt h₀ L src inn [("names", some (.ref nl)), ("x", some (.ref xa)), ("y", some (.ref yl)), ("columns", some (.ref cA)), ("doubled", some (.bool db)), ("wide", some (.int (wide : Nat) t2)), ("tall", some (.int (tall : Nat) t1))] [("kind", some (.str kind kt)), ("source", some (.ref src))] [(ad, od)] n' h' → (∀ q ∈ n, q ∈ n') → od.IsDictOf (strK w) [(Str.ofString "dim", .ref dv)] ∧ (ad == sysModules) = false ∧ Kn S n' xdx (vecD w u1 u2 u3 u4 u5 (.str kind kt) (.ref il) (.ref ad) (.bool false) (.bool false)) ∧ Kn S n' dv (instObj 222 ddx) ∧ Kn S n' ddx (vecD w v1 v2 v3 v4 v5 (.str "integer" dt) (.ref dl) .none (.bool false) (.bool false)) ∧ Kn S n' dl (lisO [.int (tall : Nat) d1, .int (wide : Nat) d2] kd) ∧ Kn S n' nl (lisO nvs kn) ∧ StrsAre nvs (xNames.take wide) → wpAny (model prog0 w) (lawA L) (execs rest (lawEnv L)) Q E { s with heap := h', toks := tk' }) :
    wpAny (model prog0 w) (lawA L) (execs (lawSt 10 :: lawSt 11 :: rest) (lawEnv L)) Q E s := by
  obtain ⟨mean, mg, mb, T⟩ := G.t
  have X := G.In
  obtain ⟨m, cv, Z, F, hZ, N, O, oP⟩ := St.open
  clear St
  show wpAny _ _ (execs (.Assign _ _ _ :: .Assign _ _ _ :: _) _) _ _ _
  refine eta_wp ?_
  refine go_cut (pre := [_, _]) ?_
  intro zC
  walk_at "go"
  (k_dflt (refine' PureT.use (vec2_ok _ _ _) ?kG ?kF ?kN ?kO rfl ?kB rfl rfl rfl ?kd ?_; k_extra "kt"))
  rintro r tl h2 tk2 F2 N2 O2 o2 ⟨dv, ddx, v1, v2, v3, v4, v5, hlt, rfl, rfl⟩
  (try k_sweep)
  walk_at "go"
  obtain ⟨Ne, Oe, Pe⟩ := toP3 (by assumption) (by assumption) (by assumption) (by assumption)
  exact k _ _ _ _ _ dv ddx _ _ v1 v2 v3 v4 v5 _ _ _ _ _ _ (LSt.mk' (by assumption) hZ Ne Oe Pe ⟨rfl, rfl, rfl, rfl, rfl, rfl, rfl, trivial⟩ ⟨rfl, rfl, trivial⟩) (fun q hq => by walk_at "sub") ⟨by assumption, by assumption, Kn.r (.head _), Kn.r (by walk_at "memr"), Kn.r (by walk_at "memr"), Kn.r (by walk_at "memr"), Kn.r (by walk_at "memr"), StrsAre.take wide (.cons _ _ (.cons _ _ (.cons _ _ .nil)))⟩

theorem segF2 (S : Store) (s : Shared) (Q : Flow → Shared → Prop) (E : Value → Shared → Prop) (h₀ : Heap) (L src inn : Addr) (n : Led) (rest : List PySem.Stmt) (G : Gr w S h₀) (B : Below callerA h₀ [] h₀) (hne : src ≠ inn) (tall wide : Nat) (kind : Str) (cA yl xa xdx il nl ad dv : Addr) (kt t1 t2 u1 u2 u3 u4 u5 : Tok) (db : Bool) (od : Obj) (nvs : List Value) (kn : Nat) (h1 : 1 ≤ wide) (h3 : wide ≤ 3) (hxa : Kn S n xa (instObj 222 xdx)) (hxd : Kn S n xdx (vecD w u1 u2 u3 u4 u5 (.str kind kt) (.ref il) (.ref ad) (.bool false) (.bool false))) (hod : od.IsDictOf (strK w) [(Str.ofString "dim", .ref dv)]) (lo : (ad == sysModules) = false) (hnl : Kn S n nl (lisO nvs kn)) (hst : StrsAre nvs (xNames.take wide))
    (St : LSt h₀ L src inn [("names", some (.ref nl)), ("x", some (.ref xa)), ("y", some (.ref yl)), ("columns", some (.ref cA)), ("doubled", some (.bool db)), ("wide", some (.int (wide : Nat) t2)), ("tall", some (.int (tall : Nat) t1))] [("kind", some (.str kind kt)), ("source", some (.ref src))] [(ad, od)] n s.heap)
    (k : ∀ (h' : Heap) (tk' : Nat) (n' : Led) (nl : Addr) (nvs : List Value) (kn : Nat) (nms : List Str) (hn : Option (List Value)), LSt h₀ L src inn [("names", some (.ref nl)), ("x", some (.ref xa)), ("y", some (.ref yl)), ("columns", some (.ref cA)), ("doubled", some (.bool db)), ("wide", some (.int (wide : Nat) t2)), ("tall", some (.int (tall : Nat) t1))] [("kind", some (.str kind kt)), ("source", some (.ref src))] [] n' h' → (∀ q ∈ n, q ∈ n') → AttrV w (Kn S n') (.ref ad) "dim" (.ref dv) ∧ DimnS w (Kn S n') (.ref ad) hn ∧ HeadN wide nms hn ∧ Kn S n' nl (lisO nvs kn) ∧ StrsAre nvs nms ∧ nms.length = wide ∧ (nms = xNames.take wide ∨ nms = pqr.take wide) → wpAny (model prog0 w) (lawA L) (execs rest (lawEnv L)) Q E { s with heap := h', toks := tk' }) :
    wpAny (model prog0 w) (lawA L) (execs (lawSt 12 :: rest) (lawEnv L)) Q E s := by
  obtain ⟨mean, mg, mb, T⟩ := G.t
  have X := G.In
  obtain ⟨m, cv, Z, F, hZ, N, O, oP⟩ := St.open
  clear St
  show wpAny _ _ (execs (.If _ _ _ _ :: _) _) _ _ _
  refine eta_wp ?_
  refine go_cut (pre := [_]) ?_
  intro zC
  (try walk_at "lets")
  walk_at "go"
  · (k_dflt (refine' PureT.use (null0_ok _) ?kG ?kF ?kN ?kO rfl ?kB rfl rfl rfl ?kd ?_; k_extra "kt"))
    rintro r tl g2 tk2 F2 N2 O2 o2 ⟨nu, ndx, n1, n2, n3, hlt1, rfl, rfl⟩
    (try k_sweep)
    walk_at "go"
    (k_dflt (refine' PureT.use (vec2_ok _ _ _) ?kG ?kF ?kN ?kO rfl ?kB rfl rfl rfl ?kd ?_; k_extra "kt"))
    rintro r tl g3 tk3 F3 N3 O3 o3 ⟨nv, nvx, w1, w2, w3, w4, w5, hlt2, rfl, rfl⟩
    (try k_sweep)
    walk_at "go"
    (k_dflt (refine' PureT.use (vec2_ok _ _ _) ?kG ?kF ?kN ?kO rfl ?kB rfl rfl rfl ?kd ?_; k_extra "kt"))
    rintro r tl g4 tk4 F4 N4 O4 o4 ⟨dm, dmx, y1, y2, y3, y4, y5, hlt3, rfl, rfl⟩
    (try k_sweep)
    walk_at "go"
    (try dsimp only)
    obtain ⟨Ne, Oe, Pe⟩ := fromP (by assumption) (by assumption) (by assumption)
    exact k _ _ _ _ _ _ ([Str.ofString "p", Str.ofString "q", Str.ofString "r"].take wide) (some _) (LSt.mk' (by assumption) (by assumption) Ne Oe Pe ⟨rfl, rfl, rfl, rfl, rfl, rfl, rfl, trivial⟩ ⟨rfl, rfl, trivial⟩) (fun q hq => by walk_at "sub") ⟨.inr ⟨ad, _, _, rfl, Kn.r (.head _), by assumption, rfl, lo⟩,
      ⟨.ref dm, _, _, _, _, .ref nv, _, _, _, _, nu, ndx, _, _, _, n1, n2, n3, _, .inr ⟨ad, _, _, rfl, Kn.r (.head _), by assumption, rfl, lo⟩, vecS_mk (by walk_at "memr") (by walk_at "memr"), Kn.r (by walk_at "memr"), Kn.r (by walk_at "memr"), Kn.r (by walk_at "memr"), vecS_mk (by walk_at "memr") (by walk_at "memr"), Kn.r (by walk_at "memr"), take3_len _ _ _ _⟩,
      StrsAre.take wide (.cons _ _ (.cons _ _ (.cons _ _ .nil))), Kn.r (by walk_at "memr"), StrsAre.take wide (.cons _ _ (.cons _ _ (.cons _ _ .nil))), by rw [List.length_take]; exact Nat.min_eq_left h3, .inr rfl⟩
  · (try dsimp only)
    obtain ⟨Ne, Oe, Pe⟩ := fromP (by assumption) (by assumption) (by assumption)
    exact k _ _ _ nl nvs kn (xNames.take wide) none (LSt.mk' (by assumption) (by assumption) Ne Oe Pe ⟨rfl, rfl, rfl, rfl, rfl, rfl, rfl, trivial⟩ ⟨rfl, rfl, trivial⟩) (fun q hq => by walk_at "sub") ⟨.inr ⟨ad, od, _, rfl, Kn.r (.head _), hod, rfl, lo⟩, .inr ⟨ad, od, _, rfl, Kn.r (.head _), hod, rfl, lo⟩, rfl, Kn.sub' (fun q hq => by walk_at "sub") _ _ hnl, hst, by rw [List.length_take]; exact Nat.min_eq_left h3, .inl rfl⟩

theorem segG (S : Store) (s : Shared) (Q : Flow → Shared → Prop) (E : Value → Shared → Prop) (h₀ : Heap) (L src inn : Addr) (n : Led) (rest : List PySem.Stmt) (G : Gr w S h₀) (B : Below callerA h₀ [] h₀) (hne : src ≠ inn) (tall wide : Nat) (kind : Str) (cA yl xa xdx il nl ad dv ddx dl : Addr) (kt t1 t2 u1 u2 u3 u4 u5 v1 v2 v3 v4 v5 dt d1 d2 : Tok) (db : Bool) (cols : List (List Rat)) (ivs yvs : List Value) (ki ky kd : Nat) (ys : List Rat) (nms : List Str) (hn : Option (List Value)) (h5 : tall ≤ 5) (h3 : wide ≤ 3) (hkd : kind = Str.ofString "integer" ∨ kind = Str.ofString "double" ∨ kind = Str.ofString "logical")
    (hl : cols.length = wide) (hct : ∀ c ∈ cols, c.length = tall) (hcs : ∀ c ∈ cols, ∀ q ∈ c, Sz q 3) (hyl : Kn S n yl (lisO yvs ky)) (hyq : RatsS (Kn S n) yvs ys) (hyt : ys.length = tall) (hys : ∀ q ∈ ys, Sz q 3) (hxa : Kn S n xa (instObj 222 xdx)) (hxd : Kn S n xdx (vecD w u1 u2 u3 u4 u5 (.str kind kt) (.ref il) (.ref ad) (.bool false) (.bool false)))
    (hil : Kn S n il (lisO ivs ki)) (hiq : ItemsS (Kn S n) kind ivs cols.flatten) (hdv : Kn S n dv (instObj 222 ddx)) (hdd : Kn S n ddx (vecD w v1 v2 v3 v4 v5 (.str "integer" dt) (.ref dl) .none (.bool false) (.bool false))) (hdl : Kn S n dl (lisO [.int (tall : Nat) d1, .int (wide : Nat) d2] kd)) (hdim : AttrV w (Kn S n) (.ref ad) "dim" (.ref dv)) (hdn : DimnS w (Kn S n) (.ref ad) hn) (hnm : HeadN wide nms hn)
    (St : LSt h₀ L src inn [("names", some (.ref nl)), ("x", some (.ref xa)), ("y", some (.ref yl)), ("doubled", some (.bool db)), ("columns", some (.ref cA)), ("wide", some (.int (wide : Nat) t2)), ("tall", some (.int (tall : Nat) t1))] [("kind", some (.str kind kt)), ("source", some (.ref src))] [] n s.heap)
    (k : ∀ (h' : Heap) (tk' : Nat) (n' : Led) (tv : Value), LSt h₀ L src inn [("names", some (.ref nl)), ("x", some (.ref xa)), ("y", some (.ref yl)), ("doubled", some (.bool db)), ("columns", some (.ref cA)), ("wide", some (.int (wide : Nat) t2)), ("tall", some (.int (tall : Nat) t1))] [("told", some tv), ("kind", some (.str kind kt)), ("source", some (.ref src))] [] n' h' → (∀ q ∈ n, q ∈ n') → ToldP w (Kn S n') tv cols ys nms → wpAny (model prog0 w) (lawA L) (execs rest (lawEnv L)) Q E { s with heap := h', toks := tk' }) :
    wpAny (model prog0 w) (lawA L) (execs (lawSt 13 :: rest) (lawEnv L)) Q E s := by
  obtain ⟨mean, mg, mb, T⟩ := G.t
  have X := G.In
  obtain ⟨m, cv, Z, F, hZ, N, O, oP⟩ := St.open
  clear St
  show wpAny _ _ (execs (.Assign _ _ _ :: _) _) _ _ _
  refine eta_wp ?_
  refine go_cut (pre := [_]) ?_
  intro zC
  have hlt : yvs.length ≤ 64 := by rw [hyq.length, hyt]; exact om_49 _ h5
  walk_at "go"
  (k_dflt (refine' PureT.use (vec2_ok _ _ _) ?kG ?kF ?kN ?kO rfl ?kB rfl rfl rfl ?kd ?_; k_extra "kt"))
  rintro r tl g2 tk2 F2 N2 O2 o2 ⟨ya, yx, w1, w2, w3, w4, w5, hlt2, rfl, rfl⟩
  (try k_sweep)
  walk_at "go"
  have hkk : [Str.ofString "logical", Str.ofString "integer", Str.ofString "double"].any (· == kind) = true := by rcases hkd with rfl | rfl | rfl <;> decide +kernel
  refine Pure.useL G (by assumption) (by assumption) (by assumption) B (b_lm_fit_ok _ _ _ (.ref xa) (.ref ya) (.ref ad) (.bool false) (.bool false) (.ref dv) _ _ _ _ .none (.bool false) (.bool false) _ _ _ _ il dl _ ivs yvs _ ki kd _ tall wide kt d1 d2 _ kind cols ys hn nms hnm hkk ⟨xa, xdx, u1, u2, u3, u4, u5, rfl, Kn.sub' (fun q hq => by walk_at "sub") _ _ hxa, Kn.sub' (fun q hq => by walk_at "sub") _ _ hxd⟩ (AttrV.mono (Kn.sub' (fun q hq => by walk_at "sub")) hdim) ⟨dv, ddx, v1, v2, v3, v4, v5, rfl, Kn.sub' (fun q hq => by walk_at "sub") _ _ hdv, Kn.sub' (fun q hq => by walk_at "sub") _ _ hdd⟩ (Kn.sub' (fun q hq => by walk_at "sub") _ _ hdl) (DimnS.mono (Kn.sub' (fun q hq => by walk_at "sub")) hdn) (Kn.sub' (fun q hq => by walk_at "sub") _ _ hil) (L2.mono (fun _ _ => ItemS.mono (Kn.sub' (fun q hq => by walk_at "sub"))) hiq) hl hct h5 h3 hcs (vecS_mk (by walk_at "memr") (by walk_at "memr")) (.inl ⟨rfl, rfl⟩) (.inl ⟨rfl, rfl⟩) (Kn.r (by walk_at "memr")) (RatsS.mono (Kn.sub' (fun q hq => by walk_at "sub")) hyq) hyt hys (.inr ⟨_, rfl⟩) (Kn.r (by walk_at "memr")) (Kn.r (by walk_at "memr")) (Kn.r (by walk_at "memr"))) (Nat.le_of_ble_eq_true rfl) ?_
  rintro tv tl g3 tk3 F3 N3 O3 o3 hT
  (try k_sweep)
  walk_at "go"
  exact k _ _ _ tv (LSt.mk' (by assumption) (by assumption) (by assumption) (by assumption) (Off.nilL _) ⟨rfl, rfl, rfl, rfl, rfl, rfl, rfl, trivial⟩ ⟨rfl, rfl, rfl, trivial⟩) (fun q hq => by walk_at "sub") hT

theorem segH (S : Store) (s : Shared) (Q : Flow → Shared → Prop) (E : Value → Shared → Prop) (h₀ : Heap) (L src inn : Addr) (n : Led) (rest : List PySem.Stmt) (G : Gr w S h₀) (B : Below callerA h₀ [] h₀) (hne : src ≠ inn) (tall wide : Nat) (kind : Str) (cA yl nl : Addr) (kt t1 t2 : Tok) (db : Bool) (tv : Value) (cols : List (List Rat)) (ys : List Rat) (nms : List Str)
    (hT : ToldP w (Kn S n) tv cols ys nms)
    (St : LSt h₀ L src inn [("names", some (.ref nl)), ("y", some (.ref yl)), ("doubled", some (.bool db)), ("columns", some (.ref cA)), ("wide", some (.int (wide : Nat) t2)), ("tall", some (.int (tall : Nat) t1))] [("told", some tv), ("kind", some (.str kind kt)), ("source", some (.ref src))] [] n s.heap)
    (k : ∀ (h' : Heap) (tk' : Nat) (n' : Led) (cx cdx cil rl fl al ta ad x6 d6 cD : Addr) (od : Obj) (cvals rvs fvs nvs : List Value) (c1 c2 c3 c4 c5 ckt f1 f2 f3 f4 f5 : Tok) (csv clv nk na ns nl1 : Value) (ki kr kf ka kn1 : Nat), LSt h₀ L src inn [("names", some (.ref nl)), ("args", some (.ref al)), ("fitted", some (.ref fl)), ("y", some (.ref yl)), ("doubled", some (.bool db)), ("columns", some (.ref cA)), ("wide", some (.int (wide : Nat) t2)), ("tall", some (.int (tall : Nat) t1))] [("coefficients", some (.ref cx)), ("residuals", some (.ref rl)), ("told", some tv), ("kind", some (.str kind kt)), ("source", some (.ref src))] [] n' h' → (∀ q ∈ n, q ∈ n') → ToldP w (Kn S n') tv cols ys nms ∧ Kn S n' al (lisO [.ref ta] ka) ∧ Kn S n' ta (tupO [.none, tv]) ∧ Kn S n' cx (instObj 222 cdx) ∧ Kn S n' cdx (vecD w c1 c2 c3 c4 c5 (.str "double" ckt) (.ref cil) (.ref ad) csv clv) ∧ Kn S n' cil (lisO cvals ki) ∧ OptsS (Kn S n') cvals (fCoef cols ys) ∧ Kn S n' rl (lisO rvs kr) ∧ RatsS (Kn S n') rvs (fRest cols ys) ∧ Kn S n' fl (lisO fvs kf) ∧ RatsS (Kn S n') fvs (subR ys (fRest cols ys)) ∧ Kn S n' ad od ∧ od.IsDictOf (strK w) [(Str.ofString "names", Value.ref x6)] ∧ Kn S n' x6 (instObj 222 d6) ∧ Kn S n' d6 (vecD w f1 f2 f3 f4 f5 nk (.ref cD) na ns nl1) ∧ Kn S n' cD (lisO nvs kn1) ∧ StrsAre nvs nms → wpAny (model prog0 w) (lawA L) (execs rest (lawEnv L)) Q E { s with heap := h', toks := tk' }) :
    wpAny (model prog0 w) (lawA L) (execs (lawSt 14 :: lawSt 15 :: lawSt 16 :: lawSt 17 :: rest) (lawEnv L)) Q E s := by
  obtain ⟨mean, mg, mb, T⟩ := G.t
  have X := G.In
  obtain ⟨m, cv, Z, F, hZ, N, O, oP⟩ := St.open
  clear St
  show wpAny _ _ (execs (.Assign _ _ _ :: .Assign _ _ _ :: .Assign _ _ _ :: .Assign _ _ _ :: _) _) _ _ _
  refine eta_wp ?_
  refine go_cut (pre := [_, _, _, _]) ?_
  intro zC
  (try walk_at "lets")
  obtain ⟨c1, c2, c3, c4, c5, hN, ⟨k1, i1, ad, s1, l1, cvals, ki1, od, cx, nk, na, ns, nl1, cD, nvs1, kn1, ⟨x1, d1, a1, a2, a3, a4, a5, e1, hx1, hd1⟩, hi1, hq1, had, hod, ⟨x6, d6, f1, f2, f3, f4, f5, e6, hx6, hd6⟩, hcD, hst1⟩, ⟨k2, i2, s2, l2, rvs, ki2, ⟨x2, d2, b1, b2, b3, b4, b5, e2, hx2, hd2⟩, hi2, hq2⟩, ⟨k3, i3, s3, l3, fvs, ki3, ⟨x3, d3, g1, g2, g3, g4, g5, e3, hx3, hd3⟩, hi3, hq3⟩, h4, h5'⟩ := id hT
  injection e1 with e1; subst e1
  injection e2 with e2; subst e2
  injection e3 with e3; subst e3
  injection e6 with e6; subst e6
  walk_at "go"
  refine Pure.useL G (by assumption) (by assumption) (by assumption) B (b_coef_ok _ _ _ .none tv _ _ _ names5 _ (Kn.r (by walk_at "memr")) (Kn.r (by walk_at "memr")) (NamedS.mono (Kn.sub' fun q hq => by walk_at "sub") hN)) (Nat.le_of_ble_eq_true rfl) ?_
  rintro r tl g tk F N O o hW
  obtain rfl := want_at hW (by decide +kernel) 0 (by decide +kernel) rfl
  clear hW o
  (try k_sweep)
  walk_at "go"
  refine Pure.useL G (by assumption) (by assumption) (by assumption) B (b_res_ok _ _ _ .none tv _ _ _ names5 _ (Kn.r (by walk_at "memr")) (Kn.r (by walk_at "memr")) (NamedS.mono (Kn.sub' fun q hq => by walk_at "sub") hN)) (Nat.le_of_ble_eq_true rfl) ?_
  rintro r tl g tk F N O o hW
  obtain rfl := want_at hW (by decide +kernel) 1 (by decide +kernel) rfl
  clear hW o
  (try k_sweep)
  walk_at "go"
  refine Pure.useL G (by assumption) (by assumption) (by assumption) B (b_fit_ok _ _ _ .none tv _ _ _ names5 _ (Kn.r (by walk_at "memr")) (Kn.r (by walk_at "memr")) (NamedS.mono (Kn.sub' fun q hq => by walk_at "sub") hN)) (Nat.le_of_ble_eq_true rfl) ?_
  rintro r tl g tk F N O o hW
  obtain rfl := want_at hW (by decide +kernel) 2 (by decide +kernel) rfl
  clear hW o
  (try k_sweep)
  walk_at "go"
  (rename News h₀ L _ _ => Nf)
  have sb := subN (n := n) Nf (fun q hq => by walk_at "sub")
  have sk := Kn.sub' (S := S) sb
  exact k _ _ _ _ _ _ _ _ _ _ _ _ _ _ _ _ _ _ _ _ _ _ _ _ _ _ _ _ _ _ _ _ _ _ _ _ _ _ _ _ _ (LSt.mk' (by assumption) (by assumption) (by assumption) (by assumption) (Off.nilL _) ⟨rfl, rfl, rfl, rfl, rfl, rfl, rfl, rfl, trivial⟩ ⟨rfl, rfl, rfl, rfl, rfl, trivial⟩) sb ⟨ToldP.mono sk hT, Kn.r (by walk_at "memr"), Kn.r (by walk_at "memr"), sk _ _ hx1, sk _ _ hd1, sk _ _ hi1, OptsS.mono sk hq1, sk _ _ hi2, RatsS.mono sk hq2, sk _ _ hi3, RatsS.mono sk hq3, sk _ _ had, hod, sk _ _ hx6, sk _ _ hd6, sk _ _ hcD, hst1⟩

theorem segH2 (S : Store) (s : Shared) (Q : Flow → Shared → Prop) (E : Value → Shared → Prop) (h₀ : Heap) (L src inn : Addr) (n : Led) (rest : List PySem.Stmt) (G : Gr w S h₀) (B : Below callerA h₀ [] h₀) (hne : src ≠ inn) (tall wide : Nat) (kind : Str) (cA yl nl cx cdx cil rl fl al ad x6 d6 cD : Addr) (kt t1 t2 c1 c2 c3 c4 c5 ckt f1 f2 f3 f4 f5 : Tok) (db : Bool) (tv csv clv nk na ns nl1 : Value) (od : Obj) (rvs fvs nvs nvs0 : List Value) (nms : List Str) (kr kf kn1 kn0 : Nat) (h5 : tall ≤ 5)
    (hcx : Kn S n cx (instObj 222 cdx)) (hcd : Kn S n cdx (vecD w c1 c2 c3 c4 c5 (.str "double" ckt) (.ref cil) (.ref ad) csv clv)) (hrl : Kn S n rl (lisO rvs kr)) (hfl : Kn S n fl (lisO fvs kf)) (had : Kn S n ad od) (hod : od.IsDictOf (strK w) [(Str.ofString "names", Value.ref x6)]) (hx6 : Kn S n x6 (instObj 222 d6)) (hd6 : Kn S n d6 (vecD w f1 f2 f3 f4 f5 nk (.ref cD) na ns nl1)) (hcD : Kn S n cD (lisO nvs kn1)) (hst1 : StrsAre nvs nms)
    (hnl : Kn S n nl (lisO nvs0 kn0)) (hst : StrsAre nvs0 nms) (hok : ∀ x ∈ nms, PyData.strOk x = true) (hlr : rvs.length = tall) (hlf : fvs.length = tall)
    (St : LSt h₀ L src inn [("names", some (.ref nl)), ("args", some (.ref al)), ("fitted", some (.ref fl)), ("y", some (.ref yl)), ("doubled", some (.bool db)), ("columns", some (.ref cA)), ("wide", some (.int (wide : Nat) t2)), ("tall", some (.int (tall : Nat) t1))] [("coefficients", some (.ref cx)), ("residuals", some (.ref rl)), ("told", some tv), ("kind", some (.str kind kt)), ("source", some (.ref src))] [] n s.heap)
    (k : ∀ (h' : Heap) (tk' : Nat) (n' : Led), LSt h₀ L src inn [("args", some (.ref al)), ("fitted", some (.ref fl)), ("y", some (.ref yl)), ("doubled", some (.bool db)), ("columns", some (.ref cA)), ("wide", some (.int (wide : Nat) t2)), ("tall", some (.int (tall : Nat) t1))] [("coefficients", some (.ref cx)), ("residuals", some (.ref rl)), ("told", some tv), ("kind", some (.str kind kt)), ("source", some (.ref src))] [] n' h' → (∀ q ∈ n, q ∈ n') → True → wpAny (model prog0 w) (lawA L) (execs rest (lawEnv L)) Q E { s with heap := h', toks := tk' }) :
    wpAny (model prog0 w) (lawA L) (execs (lawSt 18 :: rest) (lawEnv L)) Q E s := by
  obtain ⟨mean, mg, mb, T⟩ := G.t
  have X := G.In
  obtain ⟨m, cv, Z, F, hZ, N, O, oP⟩ := St.open
  clear St
  show wpAny _ _ (execs (.If _ _ _ _ :: _) _) _ _ _
  refine eta_wp ?_
  refine go_cut (pre := [_]) ?_
  intro zC
  have hva : valueAt [(Str.ofString "names", Value.ref x6)] (Str.ofString "names") = some (Value.ref x6) := rfl
  walk_at "go"
  exact k _ _ _ (LSt.mk' (by assumption) (by assumption) (by assumption) (by assumption) (Off.nilL _) ⟨rfl, rfl, rfl, rfl, rfl, rfl, rfl, trivial⟩ ⟨rfl, rfl, rfl, rfl, rfl, trivial⟩) (fun q hq => by walk_at "sub") trivial

theorem segI (S : Store) (s : Shared) (Q : Flow → Shared → Prop) (E : Value → Shared → Prop) (h₀ : Heap) (L src inn : Addr) (n : Led) (rest : List PySem.Stmt) (G : Gr w S h₀) (B : Below callerA h₀ [] h₀) (hne : src ≠ inn) (tall wide : Nat) (kind : Str) (cA yl fl al cx rl : Addr) (kt t1 t2 : Tok) (db : Bool) (tv : Value) (h5 : tall ≤ 5) (h3 : wide ≤ 3) (hkd : kind = Str.ofString "integer" ∨ kind = Str.ofString "double" ∨ kind = Str.ofString "logical") (cvs : List Value) (kk : Nat) (cols : List (List Rat)) (hcA : Kn S n cA (lisO cvs kk)) (hC : ColsS (Kn S n) kind 3 tall cvs cols) (hl : cols.length = wide)
    (St : LSt h₀ L src inn [("args", some (.ref al)), ("fitted", some (.ref fl)), ("y", some (.ref yl)), ("doubled", some (.bool db)), ("columns", some (.ref cA)), ("wide", some (.int (wide : Nat) t2)), ("tall", some (.int (tall : Nat) t1))] [("coefficients", some (.ref cx)), ("residuals", some (.ref rl)), ("told", some tv), ("kind", some (.str kind kt)), ("source", some (.ref src))] [] n s.heap)
    (k : ∀ (h' : Heap) (tk' : Nat) (n' : Led) (xl : Addr) (xvs : List Value) (kx : Nat), LSt h₀ L src inn [("args", some (.ref al)), ("fitted", some (.ref fl)), ("y", some (.ref yl)), ("doubled", some (.bool db)), ("columns", some (.ref cA)), ("wide", some (.int (wide : Nat) t2)), ("tall", some (.int (tall : Nat) t1))] [("exact", some (.ref xl)), ("coefficients", some (.ref cx)), ("residuals", some (.ref rl)), ("told", some tv), ("kind", some (.str kind kt)), ("source", some (.ref src))] [] n' h' → (∀ q ∈ n, q ∈ n') → Kn S n' xl (lisO xvs kx) ∧ RatLs (Kn S n') xvs cols → wpAny (model prog0 w) (lawA L) (execs rest (lawEnv L)) Q E { s with heap := h', toks := tk' }) :
    wpAny (model prog0 w) (lawA L) (execs (lawSt 19 :: rest) (lawEnv L)) Q E s := by
  obtain ⟨mean, mg, mb, T⟩ := G.t
  have X := G.In
  obtain ⟨m, cv, Z, F, hZ, N, O, oP⟩ := St.open
  clear St
  show wpAny _ _ (execs (.Assign _ _ _ :: _) _) _ _ _
  refine eta_wp ?_
  refine go_cut (pre := [_]) ?_
  intro zC
  have elc := hC.length
  walk_at "go"
  refine wpAny_Assign_Name ?_ rfl
  refine eval_comp rfl rfl (by decide) ?_
  walk_at "go"
  refine compZ_list (S := S) (k₀ := kk) (vs := cvs) G (by exact om_202 _ _ _ h3 hl elc) (fun i ys S' => OxR cols i ys S') hcA (by assumption) (by assumption) (by assumption) oP hZ trivial (by decide) rfl rfl ?_ (finZ_eval ?_)
  · rintro i v hv ys Z₂ n₂ P₂ C oC m₂ h₂ tk₂ hR hn₂ hCm nsC hm₂ F₂ N₂ O₂ oP₂ hZ₂
    have hi : i < cols.length := by rw [← elc]; exact (List.getElem?_eq_some_iff.mp hv).1
    obtain ⟨ca, ws, kc, rfl, hca, hws, hcl, hcz⟩ := hC.app1 i hi hv
    have ewl := hws.length
    replace hca : Kn S n₂ ca (lisO ws kc) := Kn.sub' hn₂ _ _ hca
    refine tests_nil ?_
    (try k_fold)
    clear hZ
    refine eval_comp rfl rfl (by decide) ?_
    walk_at "go"
    refine compZ_list (S := S) (k₀ := kc) (vs := ws) G (by exact om_65 _ _ _ h5 hcl ewl) (fun j ys S' => ExR cols[i] j ys S') hca (by assumption) (by assumption) (by assumption) oP₂ hZ₂ trivial (by decide) rfl rfl ?_ (finZ_eval ?_)
    · rintro j u hu ys' Z₃ n₃ P₃ C' oC' m₃ h₃ tk₃ hI hn₃ hCm' nsC' hm₃ F₃ N₃ O₃ oP₃ hZ₃
      have hi2 : j < cols[i].length := by rw [← ewl]; exact (List.getElem?_eq_some_iff.mp hu).1
      have hit := hws.app1 j hi2 hu
      replace hit : ItemS (Kn S n₃) kind u cols[i][j] := hit.mono (Kn.sub' fun q hq => hn₃ _ (hn₂ _ hq))
      refine tests_nil ?_
      (try k_fold)
      clear hZ₂
      rcases hit with ⟨rfl, a, q1, q2, rfl, ha⟩ | ⟨hne, nn, q1, rfl, e⟩
      · walk_at "go"
        exact ⟨_, _, _, _, rfl, by assumption, by assumption, by assumption, by assumption, by assumption, fun q hq => by walk_at "sub", hI.snoc (Kn.sub' fun q hq => by walk_at "sub") hi2 ⟨a, q1, q2, rfl, Kn.sub' (fun q hq => by walk_at "sub") _ _ ha⟩⟩
      · rcases hkd with rfl | rfl | rfl
        · walk_at "go"
          exact ⟨_, _, _, _, rfl, by assumption, by assumption, by assumption, by assumption, by assumption, fun q hq => by walk_at "sub", hI.snoc (Kn.sub' fun q hq => by walk_at "sub") hi2 (e ▸ rat_int (Kn.r (by walk_at "memr")))⟩
        · exact absurd rfl hne
        · walk_at "go"
          exact ⟨_, _, _, _, rfl, by assumption, by assumption, by assumption, by assumption, by assumption, fun q hq => by walk_at "sub", hI.snoc (Kn.sub' fun q hq => by walk_at "sub") hi2 (e ▸ rat_int (Kn.r (by walk_at "memr")))⟩
    · rintro D ys' Z₃ n₃ kD h₃ tk₃ hI hn₃ F₃ N₃ O₃ oP₃ hZ₃
      clear hZ₂
      (try k_fold)
      walk_at "go"
      exact ⟨_, _, _, _, rfl, by assumption, by assumption, by assumption, by assumption, by assumption, fun q hq => List.mem_cons_of_mem _ (hn₃ _ hq), OxR.snoc hR (Kn.sub' fun q hq => List.mem_cons_of_mem _ (hn₃ _ hq)) hi (Kn.r (.head _)) (ewl ▸ ExR.mono (Kn.sub' fun q hq => List.mem_cons_of_mem _ hq) hI)⟩
  · rintro D xvs Z₂ n₂ kD h₂ tk₂ hR hn₂ F₂ N₂ O₂ oP₂ hZ₂
    clear hZ
    (try k_fold)
    walk_at "go"
    refine k _ _ _ D xvs kD (LSt.mk' (by assumption) (by assumption) (by assumption) (by assumption) (Off.nilL _) ⟨rfl, rfl, rfl, rfl, rfl, rfl, rfl, trivial⟩ ⟨rfl, rfl, rfl, rfl, rfl, rfl, trivial⟩) (fun q hq => List.mem_cons_of_mem _ (hn₂ _ (by walk_at "sub"))) ⟨Kn.r (.head _), ?_⟩
    unfold OxR at hR
    rw [elc, List.take_length] at hR
    exact RatLs.mono (Kn.sub' fun q hq => List.mem_cons_of_mem _ hq) hR

theorem segJ (S : Store) (s : Shared) (Q : Flow → Shared → Prop) (E : Value → Shared → Prop) (h₀ : Heap) (L src inn : Addr) (n : Led) (rest : List PySem.Stmt) (G : Gr w S h₀) (B : Below callerA h₀ [] h₀) (hne : src ≠ inn) (tall wide : Nat) (yl fl al cx cdx cil rl xl : Addr) (t1 t2 c1 c2 c3 c4 c5 ckt : Tok) (db : Bool) (tv cav csv clv : Value) (h3 : wide ≤ 3) (cvals : List Value) (ki : Nat) (cs : List (Option Rat)) (hcx : Kn S n cx (instObj 222 cdx)) (hcd : Kn S n cdx (vecD w c1 c2 c3 c4 c5 (.str "double" ckt) (.ref cil) cav csv clv)) (hci : Kn S n cil (lisO cvals ki)) (hO : OptsS (Kn S n) cvals cs) (hl : cs.length = wide)
    (St : LSt h₀ L src inn [("args", some (.ref al)), ("fitted", some (.ref fl)), ("y", some (.ref yl)), ("doubled", some (.bool db)), ("wide", some (.int (wide : Nat) t2)), ("tall", some (.int (tall : Nat) t1))] [("exact", some (.ref xl)), ("coefficients", some (.ref cx)), ("residuals", some (.ref rl)), ("told", some tv), ("source", some (.ref src))] [] n s.heap)
    (k : ∀ (h' : Heap) (tk' : Nat) (n' : Led) (ul : Addr) (uvs : List Value) (ku : Nat), LSt h₀ L src inn [("used", some (.ref ul)), ("args", some (.ref al)), ("fitted", some (.ref fl)), ("y", some (.ref yl)), ("doubled", some (.bool db)), ("wide", some (.int (wide : Nat) t2)), ("tall", some (.int (tall : Nat) t1))] [("exact", some (.ref xl)), ("coefficients", some (.ref cx)), ("residuals", some (.ref rl)), ("told", some tv), ("source", some (.ref src))] [] n' h' → (∀ q ∈ n, q ∈ n') → Kn S n' ul (lisO uvs ku) ∧ L2 NatV uvs (usedN cs wide) → wpAny (model prog0 w) (lawA L) (execs rest (lawEnv L)) Q E { s with heap := h', toks := tk' }) :
    wpAny (model prog0 w) (lawA L) (execs (lawSt 20 :: rest) (lawEnv L)) Q E s := by
  obtain ⟨mean, mg, mb, T⟩ := G.t
  have X := G.In
  obtain ⟨m, cv, Z, F, hZ, N, O, oP⟩ := St.open
  clear St
  show wpAny _ _ (execs (.Assign _ _ _ :: _) _) _ _ _
  refine eta_wp ?_
  refine go_cut (pre := [_]) ?_
  intro zC
  have elc := hO.length
  walk_at "go"
  refine assign_comp rfl rfl rfl (by decide) ?_
  walk_at "go"
  refine compZ_range (S := S) (N := wide) (by exact om_140 _ h3) (fun i ys S' => UseR cs i ys S') (by assumption) (by assumption) (by assumption) (by assumption) oP hZ trivial (by decide) rfl rfl ?_ (finZ_assign rfl rfl rfl ?_)
  · rintro i tj hi ys Z₂ n₂ P₂ C oC m₂ h₂ tk₂ hR hn₂ hCm nsC hm₂ F₂ N₂ O₂ oP₂ hZ₂
    have hi2 : i < cs.length := by exact om_24 _ _ _ hl hi
    have hi3 : i < cvals.length := by exact om_24 _ _ _ elc hi2
    replace hcx : Kn S n₂ cx (instObj 222 cdx) := Kn.sub' (fun q hq => hn₂ _ (by walk_at "sub")) _ _ hcx
    replace hcd : Kn S n₂ cdx (vecD w c1 c2 c3 c4 c5 (.str "double" ckt) (.ref cil) cav csv clv) := Kn.sub' (fun q hq => hn₂ _ (by walk_at "sub")) _ _ hcd
    replace hci : Kn S n₂ cil (lisO cvals ki) := Kn.sub' (fun q hq => hn₂ _ (by walk_at "sub")) _ _ hci
    refine tests_one ?_
    (try k_fold)
    clear hZ
    walk_at "go"
    (rename cvals[_]? = some _ => hv4)
    have hopt := hO.app1 i hi2 hv4
    generalize hce : cs[i] = ce at hopt
    cases ce with
    | none =>
      obtain rfl := (show _ = _ from hopt)
      walk_at "go"
      exact ⟨_, _, _, _, rfl, by assumption, by assumption, by assumption, by assumption, by assumption, fun q hq => by walk_at "sub", hR.no hi2 hce⟩
    | some q =>
      obtain ⟨a, q1, q2, rfl, ha⟩ := (show RatS _ _ _ from hopt)
      walk_at "go"
      exact ⟨_, _, _, _, rfl, by assumption, by assumption, by assumption, by assumption, by assumption, fun q hq => by walk_at "sub", hR.yes hi2 hce⟩
  · rintro D uvs Z₂ n₂ kD h₂ tk₂ hR hn₂ F₂ N₂ O₂ oP₂ hZ₂
    clear hZ
    (try k_fold)
    walk_at "go"
    exact k _ _ _ D uvs kD (LSt.mk' F₂ hZ₂ N₂ O₂ oP₂ ⟨rfl, rfl, rfl, rfl, rfl, rfl, rfl, trivial⟩ ⟨rfl, rfl, rfl, rfl, rfl, trivial⟩) (fun q hq => List.mem_cons_of_mem _ (hn₂ _ (by walk_at "sub"))) ⟨Kn.r (.head _), hR⟩

theorem rows_W12_1 : True := by
  k_with "o subscriptTail Name Name ref int" => (first | (first | k_extra "o my item2" | k_extra "o my item") | fail "-")
  k_with "o my item2" => (first | ((k_here; (with_reducible show wpAny _ _ (subscriptTail _ _ (Value.ref _) (Value.int _ _)) _ _ _); k_dflt (refine' itemL ?l_78 ?a_78 ?b_78 ?c_78 ?_; (case l_78 => k_extra "o at"); (case c_78 => assumption); (case a_78 => exact Int.natCast_nonneg _); (case b_78 => first | (with_reducible assumption) | k_extra "o om"); k_whole))) | fail "-")
  trivial

theorem segK (S : Store) (s : Shared) (Q : Flow → Shared → Prop) (E : Value → Shared → Prop) (h₀ : Heap) (L src inn : Addr) (n : Led) (rest : List PySem.Stmt) (G : Gr w S h₀) (B : Below callerA h₀ [] h₀) (hne : src ≠ inn) (tall wide : Nat) (yl fl al cx cdx cil rl xl ul : Addr) (t1 t2 c1 c2 c3 c4 c5 ckt : Tok) (db : Bool) (tv cav csv clv : Value) (h5 : tall ≤ 5) (h3 : wide ≤ 3) (cols : List (List Rat)) (ys : List Rat) (xvs cvals uvs rvs fvs yvs : List Value) (kx ki ku kr kf ky : Nat)
    (hl : cols.length = wide) (hct : ∀ c ∈ cols, c.length = tall) (hcs : ∀ c ∈ cols, ∀ q ∈ c, Sz q 3) (hyt : ys.length = tall) (hys : ∀ q ∈ ys, Sz q 3)
    (hxl : Kn S n xl (lisO xvs kx)) (hX : RatLs (Kn S n) xvs cols) (hcx : Kn S n cx (instObj 222 cdx)) (hcd : Kn S n cdx (vecD w c1 c2 c3 c4 c5 (.str "double" ckt) (.ref cil) cav csv clv)) (hci : Kn S n cil (lisO cvals ki)) (hO : OptsS (Kn S n) cvals (fCoef cols ys))
    (hul : Kn S n ul (lisO uvs ku)) (hU : L2 NatV uvs (usedN (fCoef cols ys) wide)) (hrl : Kn S n rl (lisO rvs kr)) (hR : RatsS (Kn S n) rvs (fRest cols ys)) (hfl : Kn S n fl (lisO fvs kf)) (hF : RatsS (Kn S n) fvs (subR ys (fRest cols ys))) (hyl : Kn S n yl (lisO yvs ky)) (hY : RatsS (Kn S n) yvs ys)
    (St : LSt h₀ L src inn [("used", some (.ref ul)), ("args", some (.ref al)), ("fitted", some (.ref fl)), ("y", some (.ref yl)), ("doubled", some (.bool db)), ("wide", some (.int (wide : Nat) t2)), ("tall", some (.int (tall : Nat) t1))] [("exact", some (.ref xl)), ("coefficients", some (.ref cx)), ("residuals", some (.ref rl)), ("told", some tv), ("source", some (.ref src))] [] n s.heap)
    (k : ∀ (h' : Heap) (tk' : Nat) (n' : Led), LSt h₀ L src inn [("used", some (.ref ul)), ("args", some (.ref al)), ("fitted", some (.ref fl)), ("y", some (.ref yl)), ("doubled", some (.bool db)), ("wide", some (.int (wide : Nat) t2)), ("tall", some (.int (tall : Nat) t1))] [("exact", some (.ref xl)), ("coefficients", some (.ref cx)), ("residuals", some (.ref rl)), ("told", some tv), ("source", some (.ref src))] [] n' h' → (∀ q ∈ n, q ∈ n') → True → wpAny (model prog0 w) (lawA L) (execs rest (lawEnv L)) Q E { s with heap := h', toks := tk' }) :
    wpAny (model prog0 w) (lawA L) (execs (lawSt 21 :: rest) (lawEnv L)) Q E s := by
  obtain ⟨mean, mg, mb, T⟩ := G.t
  have X := G.In
  obtain ⟨m, cv, Z, F, hZ, N, O, oP⟩ := St.open
  clear St
  show wpAny _ _ (execs (.For _ _ _ _ _ :: _) _) _ _ _
  refine eta_wp ?_
  refine go_cut (pre := [_]) ?_
  intro zC
  (try walk_at "lets")
  have lR := fRest_len h5 hct hcs hyt hys
  have lF : (subR ys (fRest cols ys)).length = tall := by rw [subR_length _ _ (by exact om_33 _ _ _ hyt lR)]; exact hyt
  have lC := fCoef_len cols ys
  have lX := hX.length
  have lO := hO.length
  have lu := hU.length
  have lu3 := usedN_len (cs := fCoef cols ys) (i := wide)
  walk_at "go"
  refine wpAny_For ?_
  walk_at "go"
  refine forZ_range (S := S) (N := tall) (by exact om_49 _ h5) (RowR [("used", some (.ref ul)), ("args", some (.ref al)), ("fitted", some (.ref fl)), ("y", some (.ref yl)), ("doubled", some (.bool db)), ("wide", some (.int (wide : Nat) t2)), ("tall", some (.int (tall : Nat) t1))] [("exact", some (.ref xl)), ("coefficients", some (.ref cx)), ("residuals", some (.ref rl)), ("told", some tv), ("source", some (.ref src))]) (by assumption) (by assumption) (by assumption) (by assumption) oP hZ ⟨⟨rfl, rfl, rfl, rfl, rfl, rfl, rfl, trivial⟩, ⟨rfl, rfl, rfl, rfl, rfl, trivial⟩, rfl⟩ ?_ ?_
  · rintro i t hi m₁ cv₁ P₁ Z₁ n₁ X₁ h tk ⟨e1, e2, rfl⟩ ea hn₁ oA F₁ N₁ O₁ oP₁ hZ₁
    replace F₁ : Fr h₀ L h (upd m₁ _) := (upd_self e1).symm ▸ F₁
    replace hZ₁ : ZAt L src inn (upd cv₁ _) Z₁ := (upd_self e2).symm ▸ hZ₁
    clear O oP hZ; (try k_sweep)
    have sk := Kn.sub' (S := S) hn₁
    replace hxl := sk _ _ hxl
    replace hX := RatLs.mono sk hX
    replace hcx := sk _ _ hcx
    replace hcd := sk _ _ hcd
    replace hci := sk _ _ hci
    replace hO := OptsS.mono sk hO
    replace hul := sk _ _ hul
    replace hrl := sk _ _ hrl
    replace hfl := sk _ _ hfl
    replace hyl := sk _ _ hyl
    obtain ⟨fa, fu, fv, hf1, hf2⟩ := rats_at (RatsS.mono sk hF) (i := i) (by exact om_24 _ _ _ lF hi)
    obtain ⟨ra, ru, rv, hr1, hr2⟩ := rats_at (RatsS.mono sk hR) (i := i) (by exact om_24 _ _ _ lR hi)
    obtain ⟨ya, yu, yv, hy1, hy2⟩ := rats_at (RatsS.mono sk hY) (i := i) (by exact om_24 _ _ _ hyt hi)
    generalize hfq : (subR ys (fRest cols ys)).getD i 0 = fq at hf2
    generalize hrq : (fRest cols ys).getD i 0 = rq at hr2
    generalize hyq : ys.getD i 0 = yq at hy2
    have zf : Sz fq 38539 := hfq ▸ fit_sz h5 (by exact om_50 _ _ h3 hl) hct hcs hyt hys _ (getD_mem (by exact om_24 _ _ _ lF hi))
    have zr : Sz rq 38535 := hrq ▸ rest_sz h5 (by exact om_50 _ _ h3 hl) hct hcs hyt hys _ (getD_mem (by exact om_24 _ _ _ lR hi))
    have zy : Sz yq 3 := hyq ▸ hys _ (getD_mem (by exact om_24 _ _ _ hyt hi))
    have hi0 : (0 : Int) ≤ ((i : Nat) : Int) := Int.natCast_nonneg _
    have hi63 : ((i : Nat) : Int) < 2 ^ 63 := by exact om_51 _ _ h5 hi
    (try k_fold)
    (try walk_at "lets")
    walk_at "go"
    refine eval_comp rfl rfl (by decide) ?_
    walk_at "go"
    refine compZ_list (S := S) (k₀ := ku) (vs := uvs) G (by exact om_52 _ _ _ h3 lu lu3) (PuR (puR cols ys wide i)) hul (by assumption) (by assumption) (by assumption) (by assumption) (by assumption) PuR.nil (by decide) rfl rfl ?_ (finZ_eval ?_)
    · rintro j v hv vs' Z₂ n₂ P₂ C oC m₂ h₂ tk₂ hP hn₂ hCm nsC hm₂ F₂ N₂ O₂ oP₂ hZ₂
      have hj : j < (usedN (fCoef cols ys) wide).length := by rw [← lu]; exact (List.getElem?_eq_some_iff.mp hv).1
      obtain ⟨tu, rfl⟩ := hU.app1 j hj hv
      obtain ⟨u, q, eu, g1, g2, g3, g4, g5⟩ := puR_at (i := i) hj (by exact om_34 _ _ hl)
      rw [eu] at hm₂
      have sk2 := Kn.sub' (S := S) hn₂
      obtain ⟨ca, kc, ws, v1, x1, x2, x3, x4, x5⟩ := ratl_at (RatLs.mono sk2 hX) g1 (i := i) (by rw [hct _ (List.getElem_mem g1)]; exact hi)
      obtain ⟨v2, y1, y2⟩ := opts_at (OptsS.mono sk2 hO) g2 g4
      replace hxl := sk2 _ _ hxl
      replace hcx := sk2 _ _ hcx
      replace hcd := sk2 _ _ hcd
      replace hci := sk2 _ _ hci
      refine tests_nil ?_
      (try k_fold)
      (try walk_at "lets")
      clear hZ₁
      walk_at "go"
      have hj2 : j < (puR cols ys wide i).length := by rw [puR_len]; exact hj
      exact ⟨_, _, _, _, rfl, by assumption, by assumption, by assumption, by assumption, by assumption, fun q hq => by walk_at "sub", PuR.snoc hP (Kn.sub' fun q hq => by walk_at "sub") hj2 (g5 hj2 ▸ pair_mk (Kn.r (by walk_at "memr")) (x5.mono (Kn.sub' fun q hq => by walk_at "sub")) (y2.mono (Kn.sub' fun q hq => by walk_at "sub")))⟩
    · rintro D vs' Z₂ n₂ kD h₂ tk₂ hP hn₂ F₂ N₂ O₂ oP₂ hZ₂
      have sk2 := Kn.sub' (S := S) hn₂
      replace hfl := sk2 _ _ hfl
      replace hrl := sk2 _ _ hrl
      replace hyl := sk2 _ _ hyl
      replace hf2 := sk2 _ _ hf2
      replace hr2 := sk2 _ _ hr2
      replace hy2 := sk2 _ _ hy2
      clear sk2 sk
      (try k_fold)
      (try walk_at "lets")
      have hP' : L2 (PairS (Kn S ((D, lisO vs' kD) :: n₂))) vs' (puR cols ys wide i) := L2.mono (fun _ _ => PairS.mono (Kn.sub' fun q hq => List.mem_cons_of_mem _ hq)) (PuR.all (by rw [puR_len, ← lu]; exact hP))
      walk_at "go"
      refine Pure.useL G (by assumption) (by assumption) (by assumption) B (law_sum_ok _ D kD vs' (puR cols ys wide i) 3 8000000 (Kn.r (.head _)) hP' (by rw [puR_len]; exact om_53 _ _ h3 lu3) (hl ▸ puR_p hct hcs hi) (hl ▸ puR_q h5 (by exact om_50 _ _ h3 hl) hct hcs hyt hys) (by exact om_54)) (Nat.le_of_ble_eq_true rfl) ?_
      rintro r tl h3' tk3 F₃ N₃ O₃ o₃ ⟨T1, n1, d1, u1, u2, rfl, hT1, hS1⟩
      have e1 := sum_asked hS1 (Nat.le_refl _) ((show sumP (puR cols ys wide i) = _ from hl ▸ puR_sum h5 (by exact om_50 _ _ h3 hl) hct hcs hyt hys i).trans hfq)
      obtain ⟨mo1, mo2⟩ := sum_ok (C := 38539) hS1 zf (by rw [puR_len]; exact om_53 _ _ h3 lu3) (by exact om_54) (by exact om_55)
      clear hS1 o₃
      (try k_sweep)
      walk_at "go"
      have e3 : fq + rq = yq := by rw [← hfq, ← hrq, ← hyq]; exact fit_parts h5 hct hcs hyt hys i
      refine Pure.useL G (by assumption) (by assumption) (by assumption) B (law_sum_ok _ _ _ [_, _] [(fq, q11), (rq, q11)] 38539 3 (Kn.r (by walk_at "memr")) (And.intro (pair_mk (Kn.r (by walk_at "memr")) ⟨fa, fu, fv, rfl, by walk_at "kn"⟩ (rat11 (Kn.r (by walk_at "memr")))) (And.intro (pair_mk (Kn.r (by walk_at "memr")) ⟨ra, ru, rv, rfl, by walk_at "kn"⟩ (rat11 (Kn.r (by walk_at "memr")))) trivial)) (show 2 ≤ 5 by decide) (two_p zf (zr.le (by exact om_56))) two_q (by exact om_57)) (Nat.le_of_ble_eq_true rfl) ?_
      rintro r tl h4' tk4 F₄ N₄ O₄ o₄ ⟨T2, n2, d2, u3, u4, rfl, hT2, hS2⟩
      have e4 := sum_asked hS2 (Nat.le_refl _) (sum_two.trans e3)
      obtain ⟨mo3, mo4⟩ := sum_ok (C := 3) hS2 zy (show 2 ≤ 5 by decide) (by exact om_57) (by exact om_58)
      clear hS2 o₄
      (try k_sweep)
      walk_at "go"
      exact ⟨_, _, _, _, [], _, _, rfl, by assumption, by assumption, by assumption, by assumption, by assumption, fun q hq => by have hq := hn₂ q hq; walk_at "sub", rfl, ⟨rfl, rfl, rfl, rfl, rfl, rfl, rfl, trivial⟩, ⟨rfl, rfl, rfl, rfl, rfl, trivial⟩, rfl⟩
  · rintro m₁ cv₁ P₁ Z₁ n₁ h tk ⟨e1, e2, rfl⟩ hn₁ F₁ N₁ O₁ oP₁ hZ₁
    (try k_fold)
    (try walk_at "lets")
    walk_at "go"
    exact k _ _ _ (LSt.mk' F₁ hZ₁ N₁ O₁ oP₁ e1 e2) hn₁ trivial


theorem segL (S : Store) (s : Shared) (Q : Flow → Shared → Prop) (E : Value → Shared → Prop) (h₀ : Heap) (L src inn : Addr) (n : Led) (rest : List PySem.Stmt) (G : Gr w S h₀) (B : Below callerA h₀ [] h₀) (hne : src ≠ inn) (tall wide : Nat) (al cx rl xl ul : Addr) (t1 t2 : Tok) (db : Bool) (tv : Value) (h5 : tall ≤ 5) (h3 : wide ≤ 3) (cols : List (List Rat)) (ys : List Rat) (xvs rvs : List Value) (kx kr : Nat)
    (hl : cols.length = wide) (hct : ∀ c ∈ cols, c.length = tall) (hcs : ∀ c ∈ cols, ∀ q ∈ c, Sz q 3) (hyt : ys.length = tall) (hys : ∀ q ∈ ys, Sz q 3)
    (hxl : Kn S n xl (lisO xvs kx)) (hX : RatLs (Kn S n) xvs cols) (hrl : Kn S n rl (lisO rvs kr)) (hR : RatsS (Kn S n) rvs (fRest cols ys))
    (St : LSt h₀ L src inn [("used", some (.ref ul)), ("args", some (.ref al)), ("doubled", some (.bool db)), ("wide", some (.int (wide : Nat) t2)), ("tall", some (.int (tall : Nat) t1))] [("exact", some (.ref xl)), ("coefficients", some (.ref cx)), ("residuals", some (.ref rl)), ("told", some tv), ("source", some (.ref src))] [] n s.heap)
    (k : ∀ (h' : Heap) (tk' : Nat) (n' : Led), LSt h₀ L src inn [("used", some (.ref ul)), ("args", some (.ref al)), ("doubled", some (.bool db)), ("wide", some (.int (wide : Nat) t2)), ("tall", some (.int (tall : Nat) t1))] [("coefficients", some (.ref cx)), ("residuals", some (.ref rl)), ("told", some tv), ("source", some (.ref src))] [] n' h' → (∀ q ∈ n, q ∈ n') → True → wpAny (model prog0 w) (lawA L) (execs rest (lawEnv L)) Q E { s with heap := h', toks := tk' }) :
    wpAny (model prog0 w) (lawA L) (execs (lawSt 22 :: rest) (lawEnv L)) Q E s := by
  obtain ⟨mean, mg, mb, T⟩ := G.t
  have X := G.In
  obtain ⟨m, cv, Z, F, hZ, N, O, oP⟩ := St.open
  clear St
  show wpAny _ _ (execs (.For _ _ _ _ _ :: _) _) _ _ _
  refine eta_wp ?_
  refine go_cut (pre := [_]) ?_
  intro zC
  have lR := fRest_len h5 hct hcs hyt hys
  have lX := hX.length
  walk_at "go"
  refine wpAny_For ?_
  walk_at "go"
  refine forZ_list (S := S) (k₀ := kx) (vs := xvs) G (RowR [("used", some (.ref ul)), ("args", some (.ref al)), ("doubled", some (.bool db)), ("wide", some (.int (wide : Nat) t2)), ("tall", some (.int (tall : Nat) t1))] [("coefficients", some (.ref cx)), ("residuals", some (.ref rl)), ("told", some tv), ("source", some (.ref src))]) hxl (by assumption) (by assumption) (by assumption) oP hZ ⟨⟨rfl, rfl, rfl, rfl, rfl, trivial⟩, ⟨rfl, rfl, rfl, rfl, trivial⟩, rfl⟩ ?_ ?_
  · rintro c v hv m₁ cv₁ P₁ Z₁ n₁ X₁ h tk ⟨e1, e2, rfl⟩ ea hn₁ oA F₁ N₁ O₁ oP₁ hZ₁
    have hc : c < cols.length := by rw [← lX]; exact (List.getElem?_eq_some_iff.mp hv).1
    have sk := Kn.sub' (S := S) hn₁
    obtain ⟨ca, kc, ws, rfl, hca, hws⟩ := (RatLs.mono sk hX).app1 c hc hv
    have hcm := List.getElem_mem hc
    have lw := hct _ hcm
    generalize hcol : cols[c] = col at hws lw
    have zc : ∀ q ∈ col, Sz q 3 := hcol ▸ hcs _ hcm
    have zd : dotR (fRest cols ys) col = 0 := hcol ▸ rest_across h5 hct hcs hyt hys _ hcm
    replace F₁ : Fr h₀ L h (upd m₁ _) := (upd_self e1).symm ▸ F₁
    replace hZ₁ : ZAt L src inn (upd cv₁ _) Z₁ := (upd_self e2).symm ▸ hZ₁
    clear O oP hZ; (try k_sweep)
    replace hrl := sk _ _ hrl
    replace hR := RatsS.mono sk hR
    (try k_fold)
    walk_at "go"
    refine eval_comp rfl rfl (by decide) ?_
    walk_at "go"
    refine compZ_range (S := S) (N := tall) (by exact om_49 _ h5) (PuR (puC (fRest cols ys) col tall)) (by assumption) (by assumption) (by assumption) (by assumption) (by assumption) (by assumption) PuR.nil (by decide) rfl rfl ?_ (finZ_eval ?_)
    · rintro j tj hj vs' Z₂ n₂ P₂ C oC m₂ h₂ tk₂ hP hn₂ hCm nsC hm₂ F₂ N₂ O₂ oP₂ hZ₂
      have sk2 := Kn.sub' (S := S) hn₂
      obtain ⟨v1, x1, x2⟩ := RatsS.get j (RatsS.mono sk2 hR) (by exact om_24 _ _ _ lR hj)
      obtain ⟨v2, y1, y2⟩ := RatsS.get j (RatsS.mono sk2 hws) (by exact om_24 _ _ _ lw hj)
      replace hrl := sk2 _ _ hrl
      replace hca := sk2 _ _ hca
      have hj63 : ((j : Nat) : Int) < 2 ^ 63 := by exact om_51 _ _ h5 hj
      refine tests_nil ?_
      (try k_fold)
      clear hZ₁
      walk_at "go"
      have hj2 : j < (puC (fRest cols ys) col tall).length := by rw [puC_len]; exact hj
      have ej := puC_at hj2
      rw [getD_get (by exact om_24 _ _ _ lR hj), getD_get (by exact om_24 _ _ _ lw hj)] at ej
      exact ⟨_, _, _, _, rfl, by assumption, by assumption, by assumption, by assumption, by assumption, fun q hq => by walk_at "sub", PuR.snoc hP (Kn.sub' fun q hq => by walk_at "sub") hj2 (ej ▸ pair_mk (Kn.r (by walk_at "memr")) (x2.mono (Kn.sub' fun q hq => by walk_at "sub")) (y2.mono (Kn.sub' fun q hq => by walk_at "sub")))⟩
    · rintro D vs' Z₂ n₂ kD h₂ tk₂ hP hn₂ F₂ N₂ O₂ oP₂ hZ₂
      (try k_fold)
      have hP' : L2 (PairS (Kn S ((D, lisO vs' kD) :: n₂))) vs' (puC (fRest cols ys) col tall) := L2.mono (fun _ _ => PairS.mono (Kn.sub' fun q hq => List.mem_cons_of_mem _ hq)) (PuR.all (by rw [puC_len]; exact hP))
      walk_at "go"
      refine Pure.useL G (by assumption) (by assumption) (by assumption) B (law_sum_ok _ D kD vs' (puC (fRest cols ys) col tall) 38535 3 (Kn.r (.head _)) hP' (by rw [puC_len]; exact h5) (puC_p lR (rest_sz h5 (by exact om_50 _ _ h3 hl) hct hcs hyt hys)) (puC_q lw zc) (by exact om_139)) (Nat.le_of_ble_eq_true rfl) ?_
      rintro r tl h3' tk3 F₃ N₃ O₃ o₃ ⟨T1, n1, d1, u1, u2, rfl, hT1, hS1⟩
      obtain rfl := sum_zero_asked hS1 (Nat.le_refl _) (puC_zero lR lw zd)
      clear hS1 o₃
      (try k_sweep)
      walk_at "go"
      exact ⟨_, _, _, _, [], _, _, rfl, by assumption, by assumption, by assumption, by assumption, by assumption, fun q hq => by have hq := hn₂ q hq; walk_at "sub", rfl, ⟨rfl, rfl, rfl, rfl, rfl, trivial⟩, ⟨rfl, rfl, rfl, rfl, trivial⟩, rfl⟩
  · rintro m₁ cv₁ P₁ Z₁ n₁ h tk ⟨e1, e2, rfl⟩ hn₁ F₁ N₁ O₁ oP₁ hZ₁
    (try k_fold)
    walk_at "go"
    exact k _ _ _ (LSt.mk' F₁ hZ₁ N₁ O₁ oP₁ e1 e2) hn₁ trivial

theorem rows_W14_1 : True := by
  k_with "o compareOp NotEq ref ref" => (first | ((k_here; (with_reducible show wpAny _ _ (compareOp CmpOp.NotEq (Value.ref _) (Value.ref _)) _ _ _); k_dflt (refine' ne_int1 ?a_81 ?b_81 ?e_81 ?u_81 ?_; (case a_81 => k_extra "o at"); (case b_81 => k_extra "o at"); (case e_81 => with_reducible assumption); (case u_81 => exact Nat.le_of_ble_eq_true rfl)); k_whole)) | fail "-")
  k_with "o go2" => (first | (repeat' ((fail_if_success (with_reducible show wpAny _ _ (compareOp CmpOp.In (Value.int _ _) (Value.ref _)) _ _ _)); k_extra "o stop"; k_extra "o step")) | fail "-")
  trivial

theorem segM (S : Store) (s : Shared) (Q : Flow → Shared → Prop) (E : Value → Shared → Prop) (h₀ : Heap) (L src inn : Addr) (n : Led) (rest : List PySem.Stmt) (G : Gr w S h₀) (B : Below callerA h₀ [] h₀) (hne : src ≠ inn) (tall wide : Nat) (al ta cx rl ul : Addr) (t1 t2 : Tok) (db : Bool) (tv : Value) (h3 : wide ≤ 3) (h5 : tall ≤ 5) (cols : List (List Rat)) (ys : List Rat) (nms : List Str) (uvs : List Value) (ku ka : Nat)
    (hl : cols.length = wide) (hct : ∀ c ∈ cols, c.length = tall) (hcs : ∀ c ∈ cols, ∀ q ∈ c, Sz q 3) (hyt : ys.length = tall) (hdb : db = true → ∃ c cs, cols = c :: (c.map fun x => 2 * x) :: cs)
    (hT : ToldP w (Kn S n) tv cols ys nms) (hal : Kn S n al (lisO [.ref ta] ka)) (hta : Kn S n ta (tupO [.none, tv])) (hul : Kn S n ul (lisO uvs ku)) (hU : L2 NatV uvs (usedN (fCoef cols ys) wide))
    (St : LSt h₀ L src inn [("used", some (.ref ul)), ("args", some (.ref al)), ("doubled", some (.bool db)), ("wide", some (.int (wide : Nat) t2)), ("tall", some (.int (tall : Nat) t1))] [("coefficients", some (.ref cx)), ("residuals", some (.ref rl)), ("told", some tv), ("source", some (.ref src))] [] n s.heap)
    (k : ∀ (h' : Heap) (tk' : Nat) (n' : Led), LSt h₀ L src inn [] [("told", some tv), ("source", some (.ref src))] [] n' h' → (∀ q ∈ n, q ∈ n') → True → wpAny (model prog0 w) (lawA L) (execs rest (lawEnv L)) Q E { s with heap := h', toks := tk' }) :
    wpAny (model prog0 w) (lawA L) (execs (lawSt 23 :: lawSt 24 :: rest) (lawEnv L)) Q E s := by
  obtain ⟨mean, mg, mb, T⟩ := G.t
  have X := G.In
  obtain ⟨m, cv, Z, F, hZ, N, O, oP⟩ := St.open
  clear St
  show wpAny _ _ (execs (.Assign _ _ _ :: .If _ _ _ _ :: _) _) _ _ _
  refine eta_wp ?_
  refine go_cut (pre := [_, _]) ?_
  intro zC
  obtain ⟨c1, c2, c3, c4, c5, hN, -, -, -, ⟨k4, i4, s4, l4, u4, ki4, ⟨x4, d4, f1, f2, f3, f4, f5, e4, hx4, hd4⟩, hi4⟩, ⟨k5, i5, s5, l5, u5, ki5, ⟨x5, d5, g1, g2, g3, g4, g5, e5, hx5, hd5⟩, hi5⟩⟩ := id hT
  injection e4 with e4; subst e4
  injection e5 with e5; subst e5
  obtain ⟨⟨kt, ii, ni, av, sv, lv, nv, nk, na, ns, nl, kii, kn, nvs, ⟨x0, d0, a1, a2, a3, a4, a5, e0, hx0, hd0⟩, -, hna, ⟨x6, d6, b1, b2, b3, b4, b5, e6, hx6, hd6⟩, hni, hii, hst⟩, hz, hlen, -⟩ := id hN
  subst e6
  obtain ⟨ad, od, kvs, rfl, had, hod, hva⟩ := hna.some
  have hj : names5.idxOf (Str.ofString "rank") = 3 := by decide +kernel
  have hjl : 3 < names5.length := by decide +kernel
  have lu := hU.length
  have hrk : fRank cols = uvs.length := by
    rw [lu, usedN_count wide (by rw [fCoef_len]; exact om_34 _ _ hl), List.take_of_length_le (by rw [fCoef_len]; exact om_39 _ _ hl)]
    exact (fit_count h5 hct hcs).symm
  have he1 : ((fRank cols : Nat) : Int) = ((uvs.length : Nat) : Int) := congrArg _ hrk
  have he2 : ((ys.length : Int) - (fRank cols : Nat)) = ((tall : Nat) : Int) - ((uvs.length : Nat) : Int) := by rw [he1, hyt]
  have hno : db = true → ((usedN (fCoef cols ys) wide).map fun k : Nat => (k : Int)).any (· == 1) = false := fun e => by
    obtain ⟨c, cs, ec⟩ := hdb e
    exact used_no1 (fit_double h5 ec hct hcs)
  have lu64 : uvs.length ≤ 64 := Nat.le_trans (Nat.le_of_eq lu) (Nat.le_trans usedN_len (Nat.le_trans h3 (by decide)))
  subst e0
  walk_at "go2"
  refine Pure.useL G (by assumption) (by assumption) (by assumption) B (b_df_ok _ _ _ .none _ al ta _ names5 _ (Kn.sub' (fun q hq => by walk_at "sub") _ _ hal) (Kn.sub' (fun q hq => by walk_at "sub") _ _ hta) (NamedS.mono (Kn.sub' fun q hq => by walk_at "sub") hN)) (Nat.le_of_ble_eq_true rfl) ?_
  rintro r tl g tk F N O o hW
  obtain rfl := want_at hW (by decide +kernel) 4 (by decide +kernel) rfl
  clear hW o
  (try k_sweep)
  walk_at "go2"
  · refine in_no (getN (by assumption) (by assumption) (by assumption) (Kn.sub' (fun q hq => by walk_at "sub") _ _ hul)) hU (hno (by assumption)) ?_
    walk_at "go2"
    (try dsimp only)
    exact k _ _ _ (LSt.mk' (by assumption) (by assumption) (by assumption) (by assumption) (Off.nilL _) trivial ⟨rfl, rfl, trivial⟩) (fun q hq => by walk_at "sub") trivial
  · (try dsimp only)
    exact k _ _ _ (LSt.mk' (by assumption) (by assumption) (by assumption) (by assumption) (Off.nilL _) trivial ⟨rfl, rfl, trivial⟩) (fun q hq => by walk_at "sub") trivial

theorem segN (S : Store) (s : Shared) (Q : Flow → Shared → Prop) (E : Value → Shared → Prop) (h₀ : Heap) (L src inn : Addr) (n : Led) (rest : List PySem.Stmt) (G : Gr w S h₀) (B : Below callerA h₀ [] h₀) (hne : src ≠ inn) (tv : Value)
    (St : LSt h₀ L src inn [] [("told", some tv), ("source", some (.ref src))] [] n s.heap)
    (k : ∀ (h' : Heap) (tk' : Nat) (n' : Led) (wl : Addr) (k₀ : Nat) (lt : Tok) (wvs : List Value) (kw : Nat), LSt h₀ L src inn [] [("words", some (.ref wl)), ("lost", some (.int (k₀ : Nat) lt)), ("told", some tv), ("source", some (.ref src))] [] n' h' → (∀ q ∈ n, q ∈ n') → k₀ < 4 ∧ Kn S n' wl (lisO wvs kw) ∧ StrsAre wvs words4 → wpAny (model prog0 w) (lawA L) (execs rest (lawEnv L)) Q E { s with heap := h', toks := tk' }) :
    wpAny (model prog0 w) (lawA L) (execs (lawSt 25 :: lawSt 26 :: rest) (lawEnv L)) Q E s := by
  obtain ⟨mean, mg, mb, T⟩ := G.t
  have X := G.In
  obtain ⟨m, cv, Z, F, hZ, N, O, oP⟩ := St.open
  clear St
  show wpAny _ _ (execs (.Assign _ _ _ :: .Assign _ _ _ :: _) _) _ _ _
  refine eta_wp ?_
  refine go_cut (pre := [_, _]) ?_
  intro zC
  walk_at "go"
  (rename (_ : Int) < 4 => h4)
  exact k _ _ _ _ (natOf h4) _ _ _ (LSt.mk' (by assumption) (by assumption) (by assumption) (by assumption) (by assumption) trivial ⟨rfl, rfl, rfl, rfl, trivial⟩) (fun q hq => by walk_at "sub") ⟨by simp only [natOf]; exact om_137 _ h4, Kn.r (by walk_at "memr"), .cons _ _ (.cons _ _ (.cons _ _ (.cons _ _ .nil)))⟩

theorem rows_W16_1 : True := by
  k_with "o subscriptTail Attribute Call ref int" => (first | (k_extra "o my item2") | fail "-")
  k_with "o compareOp NotEq str str" => (first | ((k_here; k_dflt (refine' ne_w4 ?a_86 ?b_86 ?_; (case a_86 => assumption); (case b_86 => assumption)))) | fail "-")
  trivial

theorem segO (S : Store) (s : Shared) (Q : Flow → Shared → Prop) (E : Value → Shared → Prop) (h₀ : Heap) (L src inn : Addr) (n : Led) (rest : List PySem.Stmt) (G : Gr w S h₀) (B : Below callerA h₀ [] h₀) (hne : src ≠ inn) (tv : Value) (wl : Addr) (k₀ : Nat) (lt : Tok) (wvs : List Value) (kw : Nat) (h4 : k₀ < 4) (hwl : Kn S n wl (lisO wvs kw)) (hws : StrsAre wvs words4) (x0 d0 ii ad x6 d6 ni : Addr) (a1 a2 a3 a4 a5 b1 b2 b3 b4 b5 : Tok) (kv nk na ns nl sv lv : Value) (od : Obj) (kvs : List (Str × Value)) (ivs nvs : List Value) (kii kn : Nat) (htv : tv = .ref x0) (hx0 : Kn S n x0 (instObj 222 d0)) (hd0 : Kn S n d0 (vecD w a1 a2 a3 a4 a5 kv (.ref ii) (.ref ad) sv lv)) (had : Kn S n ad od) (hod : od.IsDictOf (strK w) kvs) (hva : valueAt kvs (Str.ofString "names") = some (.ref x6)) (hx6 : Kn S n x6 (instObj 222 d6)) (hd6 : Kn S n d6 (vecD w b1 b2 b3 b4 b5 nk (.ref ni) na ns nl)) (hni : Kn S n ni (lisO nvs kn)) (hii : Kn S n ii (lisO ivs kii)) (hst : StrsAre nvs names5) (hil : ivs.length = 5)
    (St : LSt h₀ L src inn [] [("words", some (.ref wl)), ("lost", some (.int (k₀ : Nat) lt)), ("told", some tv), ("source", some (.ref src))] [] n s.heap)
    (k : ∀ (h' : Heap) (tk' : Nat) (n' : Led) (pa pdx il : Addr) (u1 u2 u3 u4 u5 ut : Tok) (pvs : List Value) (kp : Nat), LSt h₀ L src inn [("piece", some (.ref pa))] [("words", some (.ref wl)), ("lost", some (.int (k₀ : Nat) lt)), ("told", some tv), ("source", some (.ref src))] [(pdx, vecD w u1 u2 u3 u4 u5 (.str "list" ut) (.ref il) .none (.bool false) (.bool false))] n' h' → (∀ q ∈ n, q ∈ n') → Kn S n' pa (instObj 222 pdx) ∧ Kn S n' il (lisO pvs kp) ∧ PieR ivs k₀ 4 pvs S → wpAny (model prog0 w) (lawA L) (execs rest (lawEnv L)) Q E { s with heap := h', toks := tk' }) :
    wpAny (model prog0 w) (lawA L) (execs (lawSt 27 :: rest) (lawEnv L)) Q E s := by
  obtain ⟨mean, mg, mb, T⟩ := G.t
  have X := G.In
  obtain ⟨m, cv, Z, F, hZ, N, O, oP⟩ := St.open
  clear St
  show wpAny _ _ (execs (.Assign _ _ _ :: _) _) _ _ _
  refine eta_wp ?_
  refine go_cut (pre := [_]) ?_
  intro zC
  subst htv
  have lw := strs_length hws
  have lw4 : wvs.length = 4 := lw
  have hk63 : ((k₀ : Nat) : Int) < 2 ^ 63 := by exact om_80 _ h4
  obtain ⟨tk₀, ek⟩ := strs_get k₀ hws (List.getElem?_eq_getElem (by exact om_81 _ _ h4 lw4))
  have hwk : wvs[k₀]? = some (.str (word4 k₀) tk₀) := by rw [List.getElem?_eq_getElem (by exact om_81 _ _ h4 lw4), ek]; rfl
  walk_at "go"
  refine eval_comp rfl rfl (by decide) ?_
  walk_at "go"
  refine compZ_list (S := S) (k₀ := kw) (vs := wvs) G (by exact om_82 _ lw4) (PieR ivs k₀) hwl (by assumption) (by assumption) (by assumption) (by assumption) (by assumption) (show PieR ivs k₀ 0 [] _ from rfl) (by decide) rfl rfl ?_ (finZ_eval ?_)
  · rintro i v hv vs' Z₂ n₂ P₂ C oC m₂ h₂ tk₂ hP hn₂ hCm nsC hm₂ F₂ N₂ O₂ oP₂ hZ₂
    have hi : i < 4 := by rw [← lw4]; exact (List.getElem?_eq_some_iff.mp hv).1
    obtain ⟨ti, rfl⟩ := strs_get i hws hv
    replace hm₂ : m₂ _ = some (.str (word4 i) ti) := hm₂
    have sk2 := Kn.sub' (S := S) hn₂
    replace hwl := sk2 _ _ hwl
    replace hx0 := sk2 _ _ hx0
    replace hd0 := sk2 _ _ hd0
    replace had := sk2 _ _ had
    replace hx6 := sk2 _ _ hx6
    replace hd6 := sk2 _ _ hd6
    replace hni := sk2 _ _ hni
    replace hii := sk2 _ _ hii
    clear sk2
    have hj := word4_idx hi
    have hjl := pos5_lt hi
    have hz5 : names5.length ≤ 64 := by decide +kernel
    have hl5 : names5.length = 5 := by decide +kernel
    have hp63 : ((pos5 i : Nat) : Int) < 2 ^ 63 := om_212 _ _ hjl hl5
    have hpv : ivs[pos5 i]? = some (ivs[pos5 i]'(om_211 _ _ _ hil hjl hl5)) := List.getElem?_eq_getElem (om_211 _ _ _ hil hjl hl5)
    refine tests_one ?_
    (try k_fold)
    clear hZ
    by_cases hik : i = k₀
    · subst hik
      walk_at "go"
      exact ⟨_, _, _, _, rfl, by assumption, by assumption, by assumption, by assumption, by assumption, fun q hq => by walk_at "sub", PieR.no hP⟩
    · walk_at "go"
      exact ⟨_, _, _, _, rfl, by assumption, by assumption, by assumption, by assumption, by assumption, fun q hq => by walk_at "sub", PieR.yes hP hik hpv⟩
  · rintro D vs' Z₂ n₂ kD h₂ tk₂ hP hn₂ F₂ N₂ O₂ oP₂ hZ₂
    clear hZ
    (try k_fold)
    walk_at "go"
    (k_dflt (refine' PureT.use (vec2_ok _ _ _) ?kG ?kF ?kN ?kO rfl ?kB rfl rfl rfl ?kd ?_; k_extra "kt"))
    rintro r tl h2 tk2 F2 N2 O2 o2 ⟨pa, pdx, u1, u2, u3, u4, u5, hlt, rfl, rfl⟩
    obtain ⟨N3, O3, P3⟩ := toP2 hlt N2 O2 o2
    clear N2 O2 o2
    (try k_sweep)
    walk_at "go"
    exact k _ _ _ pa pdx D u1 u2 u3 u4 u5 _ vs' kD (LSt.mk' (by assumption) (by assumption) (by assumption) O3 P3 ⟨rfl, trivial⟩ ⟨rfl, rfl, rfl, rfl, trivial⟩) (fun q hq => by have hq := hn₂ q hq; walk_at "sub") ⟨Kn.r (by walk_at "memr"), Kn.r (by walk_at "memr"), by rw [← lw4]; exact hP⟩


theorem segP (S : Store) (s : Shared) (Q : Flow → Shared → Prop) (E : Value → Shared → Prop) (h₀ : Heap) (L src inn : Addr) (n : Led) (rest : List PySem.Stmt) (G : Gr w S h₀) (B : Below callerA h₀ [] h₀) (hne : src ≠ inn) (tv : Value) (wl pa pdx il : Addr) (k₀ : Nat) (lt u1 u2 u3 u4 u5 ut : Tok) (wvs ivs pvs : List Value) (kw kp : Nat) (h4 : k₀ < 4) (hwl : Kn S n wl (lisO wvs kw)) (hws : StrsAre wvs words4) (hpa : Kn S n pa (instObj 222 pdx)) (hli : Kn S n il (lisO pvs kp)) (hP0 : PieR ivs k₀ 4 pvs (Kn S n)) (hil : ivs.length = 5) (hir : ∀ u ∈ ivs, ∃ a, u = .ref a)
    (St : LSt h₀ L src inn [("piece", some (.ref pa))] [("words", some (.ref wl)), ("lost", some (.int (k₀ : Nat) lt)), ("told", some tv), ("source", some (.ref src))] [(pdx, vecD w u1 u2 u3 u4 u5 (.str "list" ut) (.ref il) .none (.bool false) (.bool false))] n s.heap)
    (k : ∀ (h' : Heap) (tk' : Nat) (n' : Led), LSt h₀ L src inn [("piece", some (.ref pa))] [("lost", some (.int (k₀ : Nat) lt)), ("source", some (.ref src))] [] n' h' → (∀ q ∈ n, q ∈ n') → NamedS w (Kn S n') (.ref pa) ((keptI k₀ 4).map word4) pvs → wpAny (model prog0 w) (lawA L) (execs rest (lawEnv L)) Q E { s with heap := h', toks := tk' }) :
    wpAny (model prog0 w) (lawA L) (execs (lawSt 28 :: rest) (lawEnv L)) Q E s := by
  obtain ⟨mean, mg, mb, T⟩ := G.t
  have X := G.In
  obtain ⟨m, cv, Z, F, hZ, N, O, oP⟩ := St.open
  clear St
  show wpAny _ _ (execs (.Assign _ _ _ :: _) _) _ _ _
  refine eta_wp ?_
  refine go_cut (pre := [_]) ?_
  intro zC
  have lw := strs_length hws
  have lw4 : wvs.length = 4 := lw
  have hk63 : ((k₀ : Nat) : Int) < 2 ^ 63 := by exact om_80 _ h4
  obtain ⟨tk₀, ek⟩ := strs_get k₀ hws (List.getElem?_eq_getElem (by exact om_81 _ _ h4 lw4))
  have hwk : wvs[k₀]? = some (.str (word4 k₀) tk₀) := by rw [List.getElem?_eq_getElem (by exact om_81 _ _ h4 lw4), ek]; rfl
  walk_at "go"
  refine eval_comp rfl rfl (by decide) ?_
  obtain ⟨N1, O1, P1, hd1⟩ := consP (by assumption) (by assumption) (by assumption) oP
  clear O oP
  (try k_sweep)
  (try k_fold)
  walk_at "go"
  refine compZ_list (S := S) (k₀ := kw) (vs := wvs) G (by exact om_82 _ lw4) (KwR k₀) hwl (by assumption) (by assumption) (by assumption) (by assumption) (by assumption) (show KwR k₀ 0 [] _ from .nil) (by decide) rfl rfl ?_ (finZ_eval ?_)
  · rintro i v hv vs' Z₂ n₂ P₂ C oC m₂ h₂ tk₂ hP hn₂ hCm nsC hm₂ F₂ N₂ O₂ oP₂ hZ₂
    have hi : i < 4 := by rw [← lw4]; exact (List.getElem?_eq_some_iff.mp hv).1
    obtain ⟨ti, rfl⟩ := strs_get i hws hv
    replace hm₂ : m₂ _ = some (.str (word4 i) ti) := hm₂
    have sk2 := Kn.sub' (S := S) hn₂
    replace hwl := sk2 _ _ hwl
    clear sk2
    refine tests_one ?_
    (try k_fold)
    clear hZ
    by_cases hik : i = k₀
    · subst hik
      walk_at "go"
      exact ⟨_, _, _, _, rfl, by assumption, by assumption, by assumption, by assumption, by assumption, fun q hq => by walk_at "sub", KwR.no hP⟩
    · walk_at "go"
      exact ⟨_, _, _, _, rfl, by assumption, by assumption, by assumption, by assumption, by assumption, fun q hq => by walk_at "sub", KwR.yes hP hik⟩
  · rintro D vs' Z₂ n₂ kD h₂ tk₂ hP hn₂ F₂ N₂ O₂ oP₂ hZ₂
    have sk2 := Kn.sub' (S := S) hn₂
    replace hpa := sk2 _ _ hpa
    replace hli := sk2 _ _ hli
    clear hZ sk2
    obtain ⟨N1, O1, hd2, P1'⟩ := consP_back N₂ O₂ oP₂ hd1
    clear O₂ oP₂
    (try k_sweep)
    (try k_fold)
    walk_at "go"
    (k_dflt (refine' PureT.use (vec2_ok _ _ _) ?kG ?kF ?kN ?kO rfl ?kB rfl rfl rfl ?kd ?_; k_extra "kt"))
    rintro r tl h3 tk3 F3 N3 O3 o3 ⟨dv, ddx, v1, v2, v3, v4, v5, hlt, rfl, rfl⟩
    (try k_sweep)
    walk_at "go"
    obtain ⟨Ne, Oe, Pe⟩ := toP3 (by assumption) (by assumption) (by assumption) (by assumption)
    obtain ⟨Nf, Of, Pf⟩ := fromP Ne Oe Pe
    exact k _ _ _ (LSt.mk' (by assumption) (by assumption) Nf Of Pf ⟨rfl, trivial⟩ ⟨rfl, rfl, trivial⟩) (fun q hq => by have hq := hn₂ q hq; walk_at "sub") (piece_mk (Kn.sub' (fun q hq => by walk_at "sub") _ _ hpa) (Kn.r (by walk_at "memr")) (Kn.sub' (fun q hq => by walk_at "sub") _ _ hli) (Kn.r (by walk_at "memr")) (by assumption) (by assumption) (Kn.r (by walk_at "memr")) (Kn.r (by walk_at "memr")) (Kn.r (by walk_at "memr")) (show StrsAre vs' _ from by rw [← lw4]; exact hP) hP0 hil hir)

theorem kind_get (S : Store) (s : Shared) (Q E : Value → Shared → Prop) (h₀ : Heap) (L : Addr) (m : Str → Option Value) (Y n : Led) (r : Value) (kd : Str) (G : Gr w S h₀) (F : Fr h₀ L s.heap m) (N : News h₀ L s.heap (Y ++ n)) (h : KindV w (Kn S n) r kd) (k : ∀ t, Q (.str kd t) { s with toks := s.toks + 1 }) : wpAny (model prog0 w) (lawA L) (getAttr r (Str.ofString "kind") true) Q E s := by
  obtain ⟨mean, mg, mb, T⟩ := G.t
  have X := G.In
  rcases h with ⟨x, dx, t1, t2, t3, t4, t5, kt, iv, av, sv, lv, rfl, a, b⟩ | ⟨rfl, x, dx, t1, t2, t3, rfl, a, b⟩
  · walk_at "go"
    exact k _
  · walk_at "go"
    exact k _

theorem segQ (S : Store) (s : Shared) (Q : Flow → Shared → Prop) (E : Value → Shared → Prop) (h₀ : Heap) (L src inn : Addr) (n : Led) (rest : List PySem.Stmt) (G : Gr w S h₀) (B : Below callerA h₀ [] h₀) (hne : src ≠ inn) (pa : Addr) (k₀ : Nat) (lt : Tok) (ivs pvs : List Value) (S0 : Store) (h4 : k₀ < 4) (hP : PieR ivs k₀ 4 pvs S0) (hpk : PartsK w (Kn S n) ivs) (hN : NamedS w (Kn S n) (.ref pa) ((keptI k₀ 4).map word4) pvs)
    (St : LSt h₀ L src inn [("piece", some (.ref pa))] [("lost", some (.int (k₀ : Nat) lt)), ("source", some (.ref src))] [] n s.heap)
    (k : ∀ (h' : Heap) (tk' : Nat) (n' : Led) (kl : Addr) (kvs : List Value) (kk : Nat), LSt h₀ L src inn [("kinds", some (.ref kl))] [("lost", some (.int (k₀ : Nat) lt)), ("source", some (.ref src))] [] n' h' → (∀ q ∈ n, q ∈ n') → Kn S n' kl (lisO kvs kk) ∧ KindsS k₀ kvs → wpAny (model prog0 w) (lawA L) (execs rest (lawEnv L)) Q E { s with heap := h', toks := tk' }) :
    wpAny (model prog0 w) (lawA L) (execs (lawSt 29 :: rest) (lawEnv L)) Q E s := by
  obtain ⟨mean, mg, mb, T⟩ := G.t
  have X := G.In
  obtain ⟨m, cv, Z, F, hZ, N, O, oP⟩ := St.open
  clear St
  show wpAny _ _ (execs (.Assign _ _ _ :: _) _) _ _ _
  refine eta_wp ?_
  refine go_cut (pre := [_]) ?_
  intro zC
  (try walk_at "lets")
  walk_at "go"
  refine Pure.useL G (by assumption) (by assumption) (by assumption) B (b_coef_ok _ _ _ _ _ _ _ _ _ _ (Kn.r (by walk_at "memr")) (Kn.r (by walk_at "memr")) (NamedS.mono (Kn.sub' fun q hq => by walk_at "sub") hN)) (Nat.le_of_ble_eq_true rfl) ?_
  rintro r0 tl g tk F N O o hW
  obtain ⟨kd0, hK, e0⟩ := want_kind h4 (show 0 < 4 by decide) hP hpk (Kn.sub' fun q hq => by walk_at "sub") hW
  clear hW o
  (try k_sweep)
  refine kind_get S _ _ _ _ _ _ _ _ _ _ G (by assumption) (by assumption) hK ?_
  intro kt0
  clear hK
  walk_at "go"
  refine Pure.useL G (by assumption) (by assumption) (by assumption) B (b_res_ok _ _ _ _ _ _ _ _ _ _ (Kn.r (by walk_at "memr")) (Kn.r (by walk_at "memr")) (NamedS.mono (Kn.sub' fun q hq => by walk_at "sub") hN)) (Nat.le_of_ble_eq_true rfl) ?_
  rintro r1 tl g tk F N O o hW
  obtain ⟨kd1, hK, e1⟩ := want_kind h4 (show 1 < 4 by decide) hP hpk (Kn.sub' fun q hq => by walk_at "sub") hW
  clear hW o
  (try k_sweep)
  refine kind_get S _ _ _ _ _ _ _ _ _ _ G (by assumption) (by assumption) hK ?_
  intro kt1
  clear hK
  walk_at "go"
  refine Pure.useL G (by assumption) (by assumption) (by assumption) B (b_fit_ok _ _ _ _ _ _ _ _ _ _ (Kn.r (by walk_at "memr")) (Kn.r (by walk_at "memr")) (NamedS.mono (Kn.sub' fun q hq => by walk_at "sub") hN)) (Nat.le_of_ble_eq_true rfl) ?_
  rintro r2 tl g tk F N O o hW
  obtain ⟨kd2, hK, e2⟩ := want_kind h4 (show 2 < 4 by decide) hP hpk (Kn.sub' fun q hq => by walk_at "sub") hW
  clear hW o
  (try k_sweep)
  refine kind_get S _ _ _ _ _ _ _ _ _ _ G (by assumption) (by assumption) hK ?_
  intro kt2
  clear hK
  walk_at "go"
  refine Pure.useL G (by assumption) (by assumption) (by assumption) B (b_df_ok _ _ _ _ _ _ _ _ _ _ (Kn.r (by walk_at "memr")) (Kn.r (by walk_at "memr")) (NamedS.mono (Kn.sub' fun q hq => by walk_at "sub") hN)) (Nat.le_of_ble_eq_true rfl) ?_
  rintro r3 tl g tk F N O o hW
  obtain ⟨kd3, hK, e3⟩ := want_kind h4 (show 3 < 4 by decide) hP hpk (Kn.sub' fun q hq => by walk_at "sub") hW
  clear hW o
  (try k_sweep)
  refine kind_get S _ _ _ _ _ _ _ _ _ _ G (by assumption) (by assumption) hK ?_
  intro kt3
  clear hK
  walk_at "go"
  exact k _ _ _ _ _ _ (LSt.mk' (by assumption) (by assumption) (by assumption) (by assumption) (by assumption) ⟨rfl, trivial⟩ ⟨rfl, rfl, trivial⟩) (fun q hq => by walk_at "sub") ⟨Kn.r (by walk_at "memr"), kindsS_mk e0 e1 e2 e3⟩

theorem rows_W19_1 : True := by
  k_with "o go2" => (first | (repeat' ((fail_if_success (with_reducible show wpAny _ _ (compareOp CmpOp.NotEq (Value.ref _) (Value.ref _)) _ _ _)); k_extra "o stop"; k_extra "o step")) | fail "-")
  trivial

theorem segR (S : Store) (s : Shared) (Q : Flow → Shared → Prop) (E : Value → Shared → Prop) (h₀ : Heap) (L src inn : Addr) (n : Led) (rest : List PySem.Stmt) (G : Gr w S h₀) (B : Below callerA h₀ [] h₀) (hne : src ≠ inn) (kl : Addr) (k₀ : Nat) (lt : Tok) (kvs : List Value) (kk : Nat) (h4 : k₀ < 4) (hkl : Kn S n kl (lisO kvs kk)) (hK : KindsS k₀ kvs)
    (St : LSt h₀ L src inn [("kinds", some (.ref kl))] [("lost", some (.int (k₀ : Nat) lt)), ("source", some (.ref src))] [] n s.heap)
    (k : ∀ (h' : Heap) (tk' : Nat) (n' : Led), LSt h₀ L src inn [] [("source", some (.ref src))] [] n' h' → (∀ q ∈ n, q ∈ n') → True → wpAny (model prog0 w) (lawA L) (execs rest (lawEnv L)) Q E { s with heap := h', toks := tk' }) :
    wpAny (model prog0 w) (lawA L) (execs (lawSt 30 :: rest) (lawEnv L)) Q E s := by
  obtain ⟨mean, mg, mb, T⟩ := G.t
  have X := G.In
  obtain ⟨m, cv, Z, F, hZ, N, O, oP⟩ := St.open
  clear St
  show wpAny _ _ (execs (.If _ _ _ _ :: _) _) _ _ _
  refine eta_wp ?_
  refine go_cut (pre := [_]) ?_
  intro zC
  obtain ⟨lk, hat⟩ := hK
  walk_at "go"
  refine eval_comp rfl rfl (by decide) ?_
  walk_at "go"
  refine compZ_list (S := S) (k₀ := kk) (vs := kvs) G (by exact om_82 _ lk) (BoL (bsK k₀)) hkl (by assumption) (by assumption) (by assumption) oP hZ (show BoL (bsK k₀) 0 [] _ from trivial) (by decide) rfl rfl ?_ (finZ_eval ?_)
  · rintro i v hv vs' Z₂ n₂ P₂ C oC m₂ h₂ tk₂ hP hn₂ hCm nsC hm₂ F₂ N₂ O₂ oP₂ hZ₂
    obtain ⟨kd, kt, rfl, hek⟩ := hat i v hv
    have hi : i < (bsK k₀).length := by rw [bsK_len, ← lk]; exact (List.getElem?_eq_some_iff.mp hv).1
    refine tests_nil ?_
    (try k_fold)
    clear hZ
    walk_at "go"
    exact ⟨_, _, _, _, rfl, by assumption, by assumption, by assumption, by assumption, by assumption, fun q hq => by walk_at "sub", BoL.snoc hP hi (hek.trans (bsK_at hi).symm)⟩
  · rintro D vs' Z₂ n₂ kD h₂ tk₂ hP hn₂ F₂ N₂ O₂ oP₂ hZ₂
    clear hZ
    (try k_fold)
    walk_at "go"
    refine eval_comp rfl rfl (by decide) ?_
    walk_at "go"
    refine compZ_range (S := S) (N := 4) (by exact om_203) (BoL (bsK k₀)) (by assumption) (by assumption) (by assumption) (by assumption) oP₂ hZ₂ (show BoL (bsK k₀) 0 [] _ from trivial) (by decide) rfl rfl ?_ (finZ_eval ?_)
    · rintro i ti hi ws Z₃ n₃ P₃ C oC m₃ h₃ tk₃ hI hn₃ hCm nsC hm₃ F₃ N₃ O₃ oP₃ hZ₃
      have hi2 : i < (bsK k₀).length := by rw [bsK_len]; exact hi
      have e : (((i : Nat) : Int) == ((k₀ : Nat) : Int)) = (bsK k₀)[i] := by
        rw [bsK_at hi2]
        by_cases h : i = k₀
        · subst h; simp
        · have : ((i : Nat) : Int) ≠ k₀ := by exact om_204 _ _ h
          simp [h, this]
      refine tests_nil ?_
      (try k_fold)
      clear hZ₂
      walk_at "go"
      exact ⟨_, _, _, _, rfl, by assumption, by assumption, by assumption, by assumption, by assumption, fun q hq => by walk_at "sub", BoL.snoc hI hi2 e⟩
    · rintro D2 ws Z₃ n₃ kD2 h₃ tk₃ hI hn₃ F₃ N₃ O₃ oP₃ hZ₃
      clear hZ₂
      (try k_fold)
      have hA : L2 BoolV vs' (bsK k₀) := by have h := hP; unfold BoL at h; rw [lk, List.take_of_length_le (by rw [bsK_len]; exact Nat.le_refl _)] at h; exact h
      have hB : L2 BoolV ws (bsK k₀) := by have h := hI; unfold BoL at h; rw [List.take_of_length_le (by rw [bsK_len]; exact Nat.le_refl _)] at h; exact h
      walk_at "go2"
      refine ne_bools (getN (by assumption) (by assumption) (by assumption) (Kn.sub' (fun q hq => .tail _ (hn₃ _ hq)) D (lisO vs' kD) (Kn.r (.head _)))) (getN (by assumption) (by assumption) (by assumption) (Kn.r (.head _))) hA hB (Nat.le_of_ble_eq_true rfl) ?_
      rw [decide_eq_true (Eq.refl (bsK k₀))]
      walk_at "go2"
      (try dsimp only)
      exact k _ _ _ (LSt.mk' (by assumption) (by assumption) (by assumption) (by assumption) (by assumption) trivial ⟨rfl, trivial⟩) (fun q hq => .tail _ (hn₃ _ (.tail _ (hn₂ _ hq)))) trivial

theorem rows_W20_1 : True := by
  k_with "o go2" => (first | (repeat' ((fail_if_success (with_reducible show wpAny _ _ (call (Value.ref 222) _) _ _ _)); k_extra "o stop"; k_extra "o step")) | fail "-")
  trivial

theorem segS (S : Store) (s : Shared) (Q : Flow → Shared → Prop) (E : Value → Shared → Prop) (h₀ : Heap) (L src inn : Addr) (n : Led) (rest : List PySem.Stmt) (G : Gr w S h₀) (B : Below callerA h₀ [] h₀) (hne : src ≠ inn)
    (St : LSt h₀ L src inn [] [("source", some (.ref src))] [] n s.heap)
    (k : ∀ (h' : Heap) (tk' : Nat) (m' : Str → Option Value) (t : Tok), Fr h₀ L h' m' → Q (.ret (.bool true)) { s with heap := h', toks := tk' }) :
    wpAny (model prog0 w) (lawA L) (execs (lawSt 31 :: rest) (lawEnv L)) Q E s := by
  obtain ⟨mean, mg, mb, T⟩ := G.t
  have X := G.In
  obtain ⟨m, cv, Z, F, hZ, N, O, oP⟩ := St.open
  clear St
  show wpAny _ _ (execs (.Try _ _ _ _ _ :: _) _) _ _ _
  refine eta_wp ?_
  have hC : (k0.heap_1 w.params).lookup 75 = some refC := by k_is
  have hR : nsIn (k0.heap_1 w.params) mainGlobals (Str.ofString "Refusal") = some (some (.ref 75)) := by k_is
  refine wpAny_execs_cons (wpAny_Try_except ?_)
  (try k_fold)
  walk_at "go2"
  (k_dflt (refine' PureT.use (vec2_ok _ _ _) ?kG ?kF ?kN ?kO rfl ?kB rfl rfl rfl ?kd ?_; k_extra "kt"))
  rintro r tl h2 tk2 F2 N2 O2 o2 ⟨xa, xdx, u1, u2, u3, u4, u5, hlt, rfl, rfl⟩
  (try k_sweep)
  walk_at "go2"
  (k_dflt (refine' PureT.use (vec2_ok _ _ _) ?kG ?kF ?kN ?kO rfl ?kB rfl rfl rfl ?kd ?_; k_extra "kt"))
  rintro r tl h2 tk2 F2 N2 O2 o2 ⟨ya, ydx, v1, v2, v3, v4, v5, hlt, rfl, rfl⟩
  (try k_sweep)
  walk_at "go2"
  rename_i D1 _ _ _ _ _
  (rename News _ _ _ _ => Nf)
  (rename Fr _ _ _ _ => Ff)
  refine RaiseT.use (Y := [] ++ _) (C := lm_raise _ .none .none (.ref xa) (.ref ya) _ _ .none _ _ .none _ _ _ 0 (vecS_mk (by walk_at "memr") (by walk_at "memr")) (.inl ⟨rfl, rfl⟩) (.inl rfl) (Kn.r (by walk_at "memr")) (Kn.r (by walk_at "memr")) (Kn.r (by walk_at "memr"))) (G := G) (F := Ff) (N := Nf) rfl B rfl rfl rfl (Nat.le_of_ble_eq_true rfl) ?_
  intro e msg h' tk' hm fl up
  refine caught_law X T Ff up fl rfl hR hC ?_
  intro h₆ tk₆ oe od E' F₆ I hlk
  obtain ⟨t, rfl⟩ := hm
  (try k_fold)
  walk_at "go2"
  refine exc_msg (K := k0.heap_1 w.params) (fun a o q => F₆.keep _ _ (X a o q)) I (by k_is) (by k_is) (by k_is) (findObj_own (attr := none) (by k_is) (by k_is) rfl hlk) rfl ?_
  (try k_fold)
  walk_at "go2"
  refine wpAny_nameGoes_keeps rfl F₆.ns rfl fun h₇ v hn hs => ?_
  exact k h₇ _ _ t (F₆.set hn hs)

theorem law_segs (S : Store) (s : Shared) (Q : Flow → Shared → Prop) (E : Value → Shared → Prop) (h₀ : Heap) (L src inn : Addr) (n : Led) (G : Gr w S h₀) (B : Below callerA h₀ [] h₀) (hne : src ≠ inn) (St : LSt h₀ L src inn [] [("source", some (.ref src))] [] n s.heap)
    (k : ∀ (h' : Heap) (tk' : Nat) (m' : Str → Option Value), Fr h₀ L h' m' → Q (.ret (.bool true)) { s with heap := h', toks := tk' }) :
    wpAny (model prog0 w) (lawA L) (execs [lawSt 1, lawSt 2, lawSt 3, lawSt 4, lawSt 5, lawSt 6, lawSt 7, lawSt 8, lawSt 9, lawSt 10, lawSt 11, lawSt 12, lawSt 13, lawSt 14, lawSt 15, lawSt 16, lawSt 17, lawSt 18, lawSt 19, lawSt 20, lawSt 21, lawSt 22, lawSt 23, lawSt 24, lawSt 25, lawSt 26, lawSt 27, lawSt 28, lawSt 29, lawSt 30, lawSt 31] (lawEnv L)) Q E s := by
  refine segA S s _ _ h₀ L src inn n _ G B hne St ?_
  clear St
  rintro h1 tk1 n1 tall wide ti wi kind cA kt t1 t2 St1 hs1 ⟨e1, e2, ha1, ha5, hb1, hb3, hkd⟩
  subst e1 e2
  refine segB S ({ s with heap := h1, toks := tk1 }) _ _ h₀ L src inn n1 _ G B hne tall wide kind cA kt t1 t2 ha5 hb3 hkd St1 ?_
  clear St1
  rintro h2 tk2 n2 cvs0 kk0 cols0 St2 hs2 ⟨hC0, hl0⟩
  refine segC S ({ s with heap := h2, toks := tk2 }) _ _ h₀ L src inn n2 _ G B hne tall wide kind cA kt t1 t2 ha5 hb3 hkd cvs0 kk0 cols0 hC0 hl0 St2 ?_
  clear St2
  rintro h3 tk3 n3 db cvs kk cols St3 hs3 ⟨hcA, hC, hl, hdb⟩
  obtain ⟨hct, hcs⟩ := cols_facts hC
  refine segD S ({ s with heap := h3, toks := tk3 }) _ _ h₀ L src inn n3 _ G B hne tall wide kind cA kt t1 t2 db ha5 St3 ?_
  clear St3
  rintro h4 tk4 n4 yl yvs ky ys St4 hs4 ⟨hyl, hyq, hyt, hys⟩
  have sk := Kn.sub' (S := S) hs4
  replace hcA := sk _ _ hcA
  replace hC := hC.mono sk
  clear sk
  refine segE S ({ s with heap := h4, toks := tk4 }) _ _ h₀ L src inn n4 _ G B hne tall wide kind cA yl kt t1 t2 db ha5 hb3 cvs kk cols hcA hC hl St4 ?_
  clear St4
  rintro h5 tk5 n5 xa xdx il u1 u2 u3 u4 u5 ivs ki St5 hs5 ⟨hxa, hil, hiq⟩
  have sk := Kn.sub' (S := S) hs5
  replace hcA := sk _ _ hcA
  replace hC := hC.mono sk
  replace hyl := sk _ _ hyl
  replace hyq := RatsS.mono sk hyq
  clear sk
  refine segF S ({ s with heap := h5, toks := tk5 }) _ _ h₀ L src inn n5 _ G B hne tall wide kind cA yl xa xdx il kt t1 t2 u1 u2 u3 u4 u5 db hb1 hb3 hxa St5 ?_
  clear St5
  rintro h6 tk6 n6 nl0 ad dv ddx dl od0 v1 v2 v3 v4 v5 dt d1 d2 nvs0 kn0 kd St6 hs6 ⟨hod0, lo, hxd, hdv, hdd, hdl, hnl0, hst0⟩
  have sk := Kn.sub' (S := S) hs6
  replace hcA := sk _ _ hcA
  replace hC := hC.mono sk
  replace hyl := sk _ _ hyl
  replace hyq := RatsS.mono sk hyq
  replace hxa := sk _ _ hxa
  replace hil := sk _ _ hil
  replace hiq := L2.mono (fun _ _ => ItemS.mono sk) hiq
  clear sk
  refine segF2 S ({ s with heap := h6, toks := tk6 }) _ _ h₀ L src inn n6 _ G B hne tall wide kind cA yl xa xdx il nl0 ad dv kt t1 t2 u1 u2 u3 u4 u5 db od0 nvs0 kn0 hb1 hb3 hxa hxd hod0 lo hnl0 hst0 St6 ?_
  clear St6
  rintro h7 tk7 n7 nl nvs kn nms hn St7 hs7 ⟨hdim, hdn, hnm, hnl, hst, hnml, hnms⟩
  have sk := Kn.sub' (S := S) hs7
  replace hcA := sk _ _ hcA
  replace hC := hC.mono sk
  replace hyl := sk _ _ hyl
  replace hyq := RatsS.mono sk hyq
  replace hxa := sk _ _ hxa
  replace hil := sk _ _ hil
  replace hiq := L2.mono (fun _ _ => ItemS.mono sk) hiq
  replace hxd := sk _ _ hxd
  replace hdv := sk _ _ hdv
  replace hdd := sk _ _ hdd
  replace hdl := sk _ _ hdl
  clear sk
  refine segG S ({ s with heap := h7, toks := tk7 }) _ _ h₀ L src inn n7 _ G B hne tall wide kind cA yl xa xdx il nl ad dv ddx dl kt t1 t2 u1 u2 u3 u4 u5 v1 v2 v3 v4 v5 dt d1 d2 db cols ivs yvs ki ky kd ys nms hn ha5 hb3 hkd hl hct hcs hyl hyq hyt hys hxa hxd hil hiq hdv hdd hdl hdim hdn hnm (St7.weak (by walk_at "memall") (by walk_at "memall")) ?_
  clear St7
  intro h8 tk8 n8 tv St8 hs8 hT
  have sk := Kn.sub' (S := S) hs8
  replace hcA := sk _ _ hcA
  replace hC := hC.mono sk
  replace hyl := sk _ _ hyl
  replace hyq := RatsS.mono sk hyq
  replace hnl := sk _ _ hnl
  clear sk
  refine segH S ({ s with heap := h8, toks := tk8 }) _ _ h₀ L src inn n8 _ G B hne tall wide kind cA yl nl kt t1 t2 db tv cols ys nms hT (St8.weak (by walk_at "memall") (by walk_at "memall")) ?_
  clear St8
  rintro h9 tk9 n9 cx cdx cil rl fl al ta ad x6 d6 cD od cvals rvs fvs nvs1 c1 c2 c3 c4 c5 ckt f1 f2 f3 f4 f5 csv clv nk na ns2 nl1 ki2 kr kf ka kn1 St9 hs9 ⟨hT, hal, hta, hcx, hcd, hci, hO, hrl, hR, hfl, hF, had, hod, hx6, hd6, hcD, hst1⟩
  have sk := Kn.sub' (S := S) hs9
  replace hcA := sk _ _ hcA
  replace hC := hC.mono sk
  replace hyl := sk _ _ hyl
  replace hyq := RatsS.mono sk hyq
  replace hnl := sk _ _ hnl
  clear sk
  have lrr := fRest_len ha5 hct hcs hyt hys
  have lsr : (subR ys (fRest cols ys)).length = tall := by rw [subR_length _ _ (by exact om_33 _ _ _ hyt lrr)]; exact hyt
  refine segH2 S ({ s with heap := h9, toks := tk9 }) _ _ h₀ L src inn n9 _ G B hne tall wide kind cA yl nl cx cdx cil rl fl al ad x6 d6 cD kt t1 t2 c1 c2 c3 c4 c5 ckt f1 f2 f3 f4 f5 db tv csv clv nk na ns2 nl1 od rvs fvs nvs1 nvs nms kr kf kn1 kn ha5 hcx hcd hrl hfl had hod hx6 hd6 hcD hst1 hnl hst (drawn_ok hnms) (hR.length.trans lrr) (hF.length.trans lsr) St9 ?_
  clear St9
  intro h10 tk10 n10 St10 hs10 _
  have sk := Kn.sub' (S := S) hs10
  replace hcA := sk _ _ hcA
  replace hC := hC.mono sk
  replace hyl := sk _ _ hyl
  replace hyq := RatsS.mono sk hyq
  replace hT := hT.mono sk
  replace hal := sk _ _ hal
  replace hta := sk _ _ hta
  replace hcx := sk _ _ hcx
  replace hcd := sk _ _ hcd
  replace hci := sk _ _ hci
  replace hO := OptsS.mono sk hO
  replace hrl := sk _ _ hrl
  replace hR := RatsS.mono sk hR
  replace hfl := sk _ _ hfl
  replace hF := RatsS.mono sk hF
  clear sk
  refine segI S ({ s with heap := h10, toks := tk10 }) _ _ h₀ L src inn n10 _ G B hne tall wide kind cA yl fl al cx rl kt t1 t2 db tv ha5 hb3 hkd cvs kk cols hcA hC hl St10 ?_
  clear St10
  rintro h11 tk11 n11 xl xvs kx St11 hs11 ⟨hxl, hX⟩
  have sk := Kn.sub' (S := S) hs11
  replace hyl := sk _ _ hyl
  replace hyq := RatsS.mono sk hyq
  replace hT := hT.mono sk
  replace hal := sk _ _ hal
  replace hta := sk _ _ hta
  replace hcx := sk _ _ hcx
  replace hcd := sk _ _ hcd
  replace hci := sk _ _ hci
  replace hO := OptsS.mono sk hO
  replace hrl := sk _ _ hrl
  replace hR := RatsS.mono sk hR
  replace hfl := sk _ _ hfl
  replace hF := RatsS.mono sk hF
  clear sk
  refine segJ S ({ s with heap := h11, toks := tk11 }) _ _ h₀ L src inn n11 _ G B hne tall wide yl fl al cx cdx cil rl xl t1 t2 c1 c2 c3 c4 c5 ckt db tv (.ref ad) csv clv hb3 cvals ki2 (fCoef cols ys) hcx hcd hci hO ((fCoef_len cols ys).trans hl) (St11.weak (by walk_at "memall") (by walk_at "memall")) ?_
  clear St11
  rintro h12 tk12 n12 ul uvs ku St12 hs12 ⟨hul, hU⟩
  have sk := Kn.sub' (S := S) hs12
  replace hyl := sk _ _ hyl
  replace hyq := RatsS.mono sk hyq
  replace hT := hT.mono sk
  replace hal := sk _ _ hal
  replace hta := sk _ _ hta
  replace hcx := sk _ _ hcx
  replace hcd := sk _ _ hcd
  replace hci := sk _ _ hci
  replace hO := OptsS.mono sk hO
  replace hrl := sk _ _ hrl
  replace hR := RatsS.mono sk hR
  replace hfl := sk _ _ hfl
  replace hF := RatsS.mono sk hF
  replace hxl := sk _ _ hxl
  replace hX := RatLs.mono sk hX
  clear sk
  refine segK S ({ s with heap := h12, toks := tk12 }) _ _ h₀ L src inn n12 _ G B hne tall wide yl fl al cx cdx cil rl xl ul t1 t2 c1 c2 c3 c4 c5 ckt db tv (.ref ad) csv clv ha5 hb3 cols ys xvs cvals uvs rvs fvs yvs kx ki2 ku kr kf ky hl hct hcs hyt hys hxl hX hcx hcd hci hO hul hU hrl hR hfl hF hyl hyq St12 ?_
  clear St12
  intro h13 tk13 n13 St13 hs13 _
  have sk := Kn.sub' (S := S) hs13
  replace hT := hT.mono sk
  replace hal := sk _ _ hal
  replace hta := sk _ _ hta
  replace hrl := sk _ _ hrl
  replace hR := RatsS.mono sk hR
  replace hxl := sk _ _ hxl
  replace hX := RatLs.mono sk hX
  replace hul := sk _ _ hul
  clear sk
  refine segL S ({ s with heap := h13, toks := tk13 }) _ _ h₀ L src inn n13 _ G B hne tall wide al cx rl xl ul t1 t2 db tv ha5 hb3 cols ys xvs rvs kx kr hl hct hcs hyt hys hxl hX hrl hR (St13.weak (by walk_at "memall") (by walk_at "memall")) ?_
  clear St13
  intro h14 tk14 n14 St14 hs14 _
  have sk := Kn.sub' (S := S) hs14
  replace hT := hT.mono sk
  replace hal := sk _ _ hal
  replace hta := sk _ _ hta
  replace hul := sk _ _ hul
  clear sk
  refine segM S ({ s with heap := h14, toks := tk14 }) _ _ h₀ L src inn n14 _ G B hne tall wide al ta cx rl ul t1 t2 db tv hb3 ha5 cols ys nms uvs ku ka hl hct hcs hyt hdb hT hal hta hul hU St14 ?_
  clear St14
  intro h15 tk15 n15 St15 hs15 _
  have sk := Kn.sub' (S := S) hs15
  replace hT := hT.mono sk
  clear sk
  refine segN S ({ s with heap := h15, toks := tk15 }) _ _ h₀ L src inn n15 _ G B hne tv St15 ?_
  clear St15
  rintro h16 tk16 n16 wl k₀ lt wvs kw St16 hs16 ⟨h4, hwl, hws⟩
  have sk := Kn.sub' (S := S) hs16
  replace hT := hT.mono sk
  clear sk
  obtain ⟨x0, d0, ii, ad2, y6, e6, ni, a1, a2, a3, a4, a5, b1, b2, b3, b4, b5, kv, nk2, na2, ns3, nl2, sv2, lv2, od2, kvs2, ivs2, nvs2, kii, kn2, htv, hx0, hd0, had2, hod2, hva, hy6, he6, hni, hii, hst2, hil5, hir, hpk⟩ := told_open hT
  refine segO S ({ s with heap := h16, toks := tk16 }) _ _ h₀ L src inn n16 _ G B hne tv wl k₀ lt wvs kw h4 hwl hws x0 d0 ii ad2 y6 e6 ni a1 a2 a3 a4 a5 b1 b2 b3 b4 b5 kv nk2 na2 ns3 nl2 sv2 lv2 od2 kvs2 ivs2 nvs2 kii kn2 htv hx0 hd0 had2 hod2 hva hy6 he6 hni hii hst2 hil5 St16 ?_
  clear St16
  rintro h17 tk17 n17 pa pdx il2 p1 p2 p3 p4 p5 put pvs kp St17 hs17 ⟨hpa, hli, hP⟩
  replace hpk := hpk.mono (Kn.sub' hs17)
  have sk := Kn.sub' (S := S) hs17
  replace hwl := sk _ _ hwl
  clear sk
  refine segP S ({ s with heap := h17, toks := tk17 }) _ _ h₀ L src inn n17 _ G B hne tv wl pa pdx il2 k₀ lt p1 p2 p3 p4 p5 put wvs ivs2 pvs kw kp h4 hwl hws hpa hli hP hil5 hir St17 ?_
  clear St17
  intro h18 tk18 n18 St18 hs18 hN
  replace hpk := hpk.mono (Kn.sub' hs18)
  refine segQ S ({ s with heap := h18, toks := tk18 }) _ _ h₀ L src inn n18 _ G B hne pa k₀ lt ivs2 pvs S h4 hP hpk hN St18 ?_
  clear St18
  rintro h19 tk19 n19 kl kvs kk3 St19 hs19 ⟨hkl, hK⟩
  refine segR S ({ s with heap := h19, toks := tk19 }) _ _ h₀ L src inn n19 _ G B hne kl k₀ lt kvs kk3 h4 hkl hK St19 ?_
  clear St19
  intro h20 tk20 n20 St20 hs20 _
  exact segS S ({ s with heap := h20, toks := tk20 }) _ _ _ _ src inn _ _ G B hne St20 fun h' tk' m' _ F => k h' tk' m' F

theorem law_ok (s : Shared) (ax : Addr) (vs : List Value) (ns : List Int) (hl : s.heap.IsList ax vs.toArray) (hi : IntsAre vs ns) (hb : ∀ n ∈ ns, PySem.Builtin.Int.intBits n ≤ 1048576) (h63 : ns.length ≤ 63) (G : Gr w (AllS s.heap) s.heap) (B : Below callerA s.heap [] s.heap) (R : Result → Shared → Prop)
    (k : ∀ h' tk', (∀ b o, s.heap.get? b = some o → h'.get? b = some o) → R (.ok (.ret (.bool true))) { s with heap := h', toks := tk' }) : codeAny (model PySem.Challenge.rw_pq1326_01.prog w) callerA (.call (.ref 521) ⟨[.ref ax], []⟩) R s := by
  obtain ⟨mean, mg, mb, T⟩ := G.t
  have X := G.In
  k_dflt (refine' enterPC (binds := [("script", Value.ref ax)]) ?k1 ?k2 ?k6 ?k7 ?k8 ?k9 ?kB ?kD ?_ ?c2 ?c3 ?c4; (case k1 => assumption); (case k2 => assumption); (case k6 => k_is); (case k7 => k_is); (case k8 => decide); (case k9 => first | exact BindsTo.of_eq rfl | exact binds_K (by assumption) rfl (by k_is) rfl rfl rfl); (case kB => exact rfl); (case kD => decide +kernel); (case c2 => exact rfl); (case c3 => exact rfl); (case c4 => exact rfl); k_whole)
  intro h₁ tk₁ co F N hco
  replace F : Fr s.heap s.heap.objs.size h₁ (upd (fun _ => none) [("script", some (.ref ax))]) := F
  replace hco : ∀ q ∈ lawCells s.heap.objs.size, (co q.1).data = .cell none := fun q hq => (hco q hq).trans (by
    rw [lawCells_eq] at hq
    simp only [List.mem_cons, List.not_mem_nil, or_false] at hq
    rcases hq with rfl | rfl | rfl | rfl | rfl | rfl | rfl | rfl | rfl | rfl <;> rfl)
  replace N : News s.heap s.heap.objs.size h₁ (([] ++ cellLed (lawCells s.heap.objs.size) co) ++ []) := fun p hp => N p (by rw [List.append_nil, List.nil_append] at hp; exact hp)
  refine seg0 (AllS s.heap) ({ s with heap := h₁, toks := tk₁ }) _ _ s.heap s.heap.objs.size ax _ co _ G F N rfl hco vs ns hl hi hb h63 ?_
  intro h' tk' src inn n hne St
  refine law_segs (AllS s.heap) ({ s with heap := h', toks := tk' }) _ _ s.heap s.heap.objs.size src inn n G B hne St ?_
  intro h'' tk'' m' F''
  exact k h'' tk'' F''.keep

theorem ints_bits {ns : List Int} (h : PyData.layable0 (.list (ns.map PyData.int)) = true) : ∀ n ∈ ns, PySem.Builtin.Int.intBits n ≤ 1048576 := fun n hn => PyData.bits_item_of_ints h hn
theorem law_good {c : ClaimW} {cl : Str → Option Addr} {mean : ExcName → Option Value} {args : List WData} {s₁ : Shared} {h : Heap} {tk : Nat} (hg : s₁.gens = #[]) (hk : ∀ b o, s₁.heap.get? b = some o → h.get? b = some o) (hr : ∀ cls, c.raises args cls = false) (hp : c.post args (.bool true) args = true) :
    GoodW c cl mean args s₁ (.ok (.ret (.bool true))) { s₁ with heap := h, toks := tk } :=
  ⟨.inl ⟨_, _, [], rfl, hr, ReadsW.bool true, hp, fun _ => ⟨List.nodup_nil, fun _ hm => (nomatch hm)⟩⟩, hk, rfl, hg⟩
theorem hdx.tw16286876664219943258 : True := trivial
theorem hdx.tw347545360391822463 : True := trivial
theorem hdx.tw549711235211712834 : True := trivial
theorem hdx.tw16253362753593719779 : True := trivial
theorem hdx.tw15042332034325960718 : True := trivial
theorem hdx.tw14531365210256918122 : True := trivial
theorem hdx.tw4904516898885561357 : True := trivial
theorem hdx.tw13643438856615710283 : True := trivial
theorem hdx.tw7676166026698973523 : True := trivial
theorem hdx.tw9739498329565824639 : True := trivial
theorem hdx.tw14554661646721776809 : True := trivial
theorem hdx.tw17292223344690839085 : True := trivial
theorem hdx.tw17233892330436412615 : True := trivial
theorem hdx.tw17073587688187394439 : True := trivial
theorem hdx.tw3433789176290687875 : True := trivial
theorem hdx.tw3745256487264532980 : True := trivial
theorem hdx.tw983959705594079608 : True := trivial
theorem hdx.tw2103475244264289173 : True := trivial
theorem hdx.tw1276945570879339878 : True := trivial
theorem hdx.tw10518538433653634186 : True := trivial
theorem hdx.tw5841831902796037256 : True := trivial
theorem hdx.tw6953780354450899466 : True := trivial
theorem hdx.tw7121131041633636536 : True := trivial
theorem hdx.tw9337238921331946697 : True := trivial
theorem hdx.tw11175419437428041417 : True := trivial
theorem hdx.tw3416068452288525512 : True := trivial
theorem hdx.tw4967582798001087891 : True := trivial
theorem hdx.tw10297514276478950717 : True := trivial
theorem hdx.tw3056725880364335713 : True := trivial
theorem hdx.tw2541719386938028574 : True := trivial
theorem hdx.tw17410701255328271796 : True := trivial
theorem hdx.tw314759143075702307 : True := trivial
theorem hdx.tw11473167249597610227 : True := trivial
theorem hdx.tw6124584481519221591 : True := trivial
theorem hdx.tw16302159872891563146 : True := trivial
theorem hdx.tw752177461007384568 : True := trivial
theorem hdx.tw18390342758081890369 : True := trivial
theorem hdx.tw9409537567691438086 : True := trivial
theorem hdx.tw15181962153147992974 : True := trivial
theorem hdx.tw1995874101337085491 : True := trivial
theorem hdx.tw2753864228944199815 : True := trivial
theorem hdx.tw8516185388746235783 : True := trivial
theorem hdx.tw14228575590624932211 : True := trivial
theorem hdx.tw6417378638471410451 : True := trivial
theorem hdx.tw5008156392389439277 : True := trivial
theorem hdx.tw3047724923153992773 : True := trivial
theorem hdx.tw1301301611952875276 : True := trivial
theorem hdx.tw4192235915691096520 : True := trivial
theorem hdx.tw1226167070130839840 : True := trivial
theorem hdx.tw12529615375237876898 : True := trivial
theorem hdx.tw16694633086747645693 : True := trivial
theorem hdx.tw1017974057990222321 : True := trivial
theorem hdx.tw18400836527100259688 : True := trivial
theorem hdx.tw10767507937327032825 : True := trivial
theorem hdx.tw637591128139111178 : True := trivial
theorem hdx.tw12313045728619779818 : True := trivial
theorem hdx.tw4438100243816028883 : True := trivial
theorem hdx.tw17729327682716250715 : True := trivial
theorem hdx.tw13935753612304171169 : True := trivial
theorem hdx.tw18068904174802206907 : True := trivial
theorem hdx.tw14060117346847164662 : True := trivial
theorem hdx.tw10492940953153682118 : True := trivial
theorem hdx.tw11185148042668281505 : True := trivial
theorem hdx.tw12841369549841986740 : True := trivial
theorem hdx.tw1117122173126152056 : True := trivial
theorem hdx.tw18350826734470016196 : True := trivial
theorem hdx.tw17258631066955539169 : True := trivial
theorem hdx.tw10565359644913667529 : True := trivial
theorem hdx.tw4346060600591594223 : True := trivial
theorem hdx.tw6489065641804638096 : True := trivial
theorem hdx.tw1901344546337730168 : True := trivial
theorem hdx.tw4622647316577264954 : True := trivial
theorem hdx.tw16442587381078774434 : True := trivial
theorem hdx.tw3997858350130704898 : True := trivial
theorem hdx.tw14396167701775469794 : True := trivial
theorem hdx.tw13019106578233858662 : True := trivial
theorem hdx.tw17134451673777903396 : True := trivial
theorem hdx.tw3192341236944561261 : True := trivial
theorem hdx.tw6071306460606938908 : True := trivial
theorem hdx.tw4619951748407440113 : True := trivial
theorem hdx.tw14310578926822520241 : True := trivial
theorem hdx.tw14046126503405127149 : True := trivial
theorem hdx.tw16747530929944400022 : True := trivial
theorem hdx.tw1728778503900741014 : True := trivial
theorem hdx.tw13344463455011972175 : True := trivial
theorem hdx.tw17077628385286525834 : True := trivial
theorem hdx.tw7493400405481521187 : True := trivial
theorem hdx.tw13853881831057575859 : True := trivial
theorem hdx.tw7588148150464725741 : True := trivial
theorem hdx.tw12426778202675754560 : True := trivial
theorem hdx.tw16284999700036597817 : True := trivial
theorem hdx.tw3292066332434126222 : True := trivial
theorem hdx.tw16625122033094954414 : True := trivial
theorem hdx.tw15943666578977287789 : True := trivial
theorem hdx.tw5231109205170973173 : True := trivial
theorem hdx.tw12298186587672302238 : True := trivial
theorem hdx.tw14587561522913706892 : True := trivial
theorem hdx.tw17795344055291574978 : True := trivial
theorem hdx.tw11031618622515954054 : True := trivial
theorem hdx.tw3893663342687946865 : True := trivial
theorem hdx.tw665676548010448371 : True := trivial
theorem hdx.tw7904908634351195939 : True := trivial
theorem hdx.tw5165046168425032473 : True := trivial
theorem hdx.tw12634603101130419267 : True := trivial
theorem hdx.tw8536179944795569344 : True := trivial
theorem hdx.tw2021590716094956370 : True := trivial
theorem hdx.tw5672938064666031709 : True := trivial
theorem hdx.tw16548396513794135620 : True := trivial
theorem hdx.tw10393715042703082164 : True := trivial
theorem hdx.tw4334273201533730655 : True := trivial
theorem hdx.tw12559474926555100820 : True := trivial
theorem hdx.tw7767355764584403046 : True := trivial
theorem hdx.tw11813171326319645517 : True := trivial
theorem hdx.tw6442497058287005524 : True := trivial
theorem hdx.tw8184457609202030992 : True := trivial
theorem hdx.tw3299699113575154979 : True := trivial
theorem hdx.tw6253187992163815031 : True := trivial
theorem hdx.tw15315506500063428510 : True := trivial
theorem hdx.tw857393026579069334 : True := trivial
theorem hdx.tw7343337105669707364 : True := trivial
theorem hdx.tw5989147006930209765 : True := trivial
theorem hdx.tw17129738948143370946 : True := trivial
theorem hdx.tw3764027531234394611 : True := trivial
theorem hdx.tw7239578808068180993 : True := trivial
theorem hdx.tw10227702916350360140 : True := trivial
theorem hdx.tw5310904330300447732 : True := trivial
theorem hdx.tw2751376245015142808 : True := trivial
theorem hdx.tw9835677451396285755 : True := trivial
theorem hdx.tw4950585254653031142 : True := trivial
theorem hdx.tw17723654121137702211 : True := trivial
theorem hdx.tw10655919233723434686 : True := trivial
theorem hdx.tw17232792962541694011 : True := trivial
theorem hdx.tw17025480645992061100 : True := trivial
theorem hdx.tw4537693066537608264 : True := trivial
theorem hdx.tw16895206672942312801 : True := trivial
theorem hdx.tw8600207202693503665 : True := trivial
theorem hdx.tw11578074195871968587 : True := trivial
theorem hdx.tw12478788136511962927 : True := trivial
theorem hdx.tw10697293497772795115 : True := trivial
theorem hdx.tw12523354309584168661 : True := trivial
theorem hdx.tw15954137024335739287 : True := trivial
theorem hdx.tw11921755595414039708 : True := trivial
theorem hdx.tw3865062840064598990 : True := trivial
theorem hdx.tw10929981191077436332 : True := trivial
theorem hdx.tw12900576416758664460 : True := trivial
theorem hdx.tw27263645103538727 : True := trivial
theorem hdx.tw5938050268151306324 : True := trivial
theorem hdx.tw9840267665152315539 : True := trivial
theorem hdx.tw4913432917359815903 : True := trivial
theorem hdx.tw3547315504432945145 : True := trivial
theorem hdx.tw9593306784295756071 : True := trivial
theorem hdx.tw4126602148679785629 : True := trivial
theorem hdx.tw17601081035908215487 : True := trivial
theorem hdx.tw1371935854870039326 : True := trivial
theorem hdx.tw8020893750639294887 : True := trivial
theorem hdx.tw3564287663811300862 : True := trivial
theorem hdx.tw3916052703709344891 : True := trivial
theorem hdx.tw10283324217907189409 : True := trivial
theorem hdx.tw8119540684395119108 : True := trivial
theorem hdx.tw803973511626003325 : True := trivial
theorem hdx.tw9277130088594696219 : True := trivial
theorem hdx.tw4141054045944905157 : True := trivial
theorem hdx.tw205849958853153482 : True := trivial
theorem hdx.tw17129212331664630177 : True := trivial
theorem hdx.tw8335194943170384599 : True := trivial
theorem hdx.tw6697547145641553894 : True := trivial
theorem hdx.tw6748099376715480053 : True := trivial
theorem hdx.tw1082102485769527193 : True := trivial
theorem hdx.tw17675035837370099154 : True := trivial
theorem hdx.tw7662359130371279450 : True := trivial
theorem hdx.tw15031074178914213187 : True := trivial
theorem hdx.tw9896213848734680689 : True := trivial
theorem hdx.tw940491495621676967 : True := trivial
theorem hdx.tw12445566163321100736 : True := trivial
theorem hdx.tw1513042972267033221 : True := trivial
theorem hdx.tw3098200238673211559 : True := trivial
theorem hdx.tw17435241772864063569 : True := trivial
theorem hdx.tw2843142823915918097 : True := trivial
theorem hdx.tw15834383266715129711 : True := trivial
theorem hdx.tw3399416878058748289 : True := trivial
theorem hdx.tw16281044257968913310 : True := trivial
theorem hdx.tw14570875228864844752 : True := trivial
theorem hdx.tw4512557399437772770 : True := trivial
theorem hdx.tw8980818605159307037 : True := trivial
theorem hdx.tw14012388058838257954 : True := trivial
theorem hdx.tw15345905408385276938 : True := trivial
theorem hdx.tw12281017881881923306 : True := trivial
theorem hdx.tw16362415112987247143 : True := trivial
theorem hdx.tw10589443168317414825 : True := trivial
theorem hdx.tw10726290257276626454 : True := trivial
theorem hdx.tw3027028101811844097 : True := trivial
theorem hdx.tw4005153839263176976 : True := trivial
theorem hdx.tw8015430348058212607 : True := trivial
theorem hdx.tw15833562081031671975 : True := trivial
theorem hdx.tw11945260732277615545 : True := trivial
theorem hdx.tw5518913457677203722 : True := trivial
theorem hdx.tw9550864123062989849 : True := trivial
theorem hdx.tw13112909101138109313 : True := trivial
theorem hdx.tw17075150009419757640 : True := trivial
theorem hdx.tw7502298529269672243 : True := trivial
theorem hdx.tw10121793167571375384 : True := trivial
theorem hdx.tw11388591071182995016 : True := trivial
theorem hdx.tw5432043993808433227 : True := trivial
theorem hdx.tw2422354323177594152 : True := trivial
theorem hdx.tw16408230632488777019 : True := trivial
theorem hdx.tw14788442302693946358 : True := trivial
theorem hdx.tw280175094144319643 : True := trivial
theorem hdx.tw13584252402403289962 : True := trivial
theorem hdx.tw6909020301817934674 : True := trivial
theorem hdx.tw8772693229765227635 : True := trivial
theorem hdx.tw18033399713576134831 : True := trivial
theorem hdx.tw8441336199095553518 : True := trivial
theorem hdx.tw16252849800747116556 : True := trivial
theorem hdx.tw8670932509581228182 : True := trivial
theorem hdx.tw12331383661426589313 : True := trivial
theorem hdx.tw13129703820758474196 : True := trivial
theorem hdx.tw5630239216004255137 : True := trivial
theorem hdx.tw5406008801441316737 : True := trivial
theorem hdx.tw16596626063930379043 : True := trivial
theorem hdx.tw4838250552842157455 : True := trivial
theorem hdx.tw3901545759909005629 : True := trivial
theorem hdx.tw8858098354521700199 : True := trivial
theorem hdx.tw16535174256780669495 : True := trivial
theorem hdx.tw12206552368688933907 : True := trivial
theorem hdx.tw7486210639920459629 : True := trivial
theorem hdx.tw18415692690662700267 : True := trivial
theorem hdx.tw18431967259697351972 : True := trivial
theorem hdx.tw2496722450284120459 : True := trivial
theorem hdx.tw3960048001793525606 : True := trivial
theorem hdx.tw8022705790335907359 : True := trivial
theorem hdx.tw15020463454053328281 : True := trivial
theorem hdx.tw7451896852629062016 : True := trivial
theorem hdx.tw2876537673947529542 : True := trivial
theorem hdx.tw3709209062388683010 : True := trivial
theorem hdx.tw17499841780572447534 : True := trivial
theorem hdx.tw14606245878660997911 : True := trivial
theorem hdx.tw10244247566685197705 : True := trivial
theorem hdx.tw10641399845043899351 : True := trivial
theorem hdx.tw14171576231795867107 : True := trivial
theorem hdx.tw388008550899618516 : True := trivial
theorem hdx.tw13290664575460695550 : True := trivial
theorem hdx.tw239729948023750331 : True := trivial
theorem hdx.tw925623105258950868 : True := trivial
theorem hdx.tw15034822990241770971 : True := trivial
theorem hdx.tw10602026246152684568 : True := trivial
theorem hdx.tw11648436998082993521 : True := trivial
theorem hdx.tw9725065828219664647 : True := trivial
theorem hdx.tw10217665054196928255 : True := trivial
theorem hdx.tw15174282228005035574 : True := trivial
theorem hdx.tw3522473756258067556 : True := trivial
theorem hdx.tw1877876918177034313 : True := trivial
theorem hdx.tw12587353473578633142 : True := trivial
theorem hdx.tw3645669340912716563 : True := trivial
theorem hdx.tw16845448632455812324 : True := trivial
theorem hdx.tw3985868190832041663 : True := trivial
theorem hdx.tw14913751445013925080 : True := trivial
theorem hdx.tw3944584140546403621 : True := trivial
theorem hdx.tw17748507856745667594 : True := trivial
theorem hdx.tw11522366763458423193 : True := trivial
theorem hdx.tw15659053357762973569 : True := trivial
theorem hdx.tw9810292845843084826 : True := trivial
theorem hdx.tw12452461576265453900 : True := trivial
theorem hdx.tw3828815567933556792 : True := trivial
theorem hdx.tw16969194809569077371 : True := trivial
theorem hdx.tw1044675440534995279 : True := trivial
theorem hdx.tw8461092197124555767 : True := trivial
theorem hdx.tw18019414548722637370 : True := trivial
theorem hdx.tw11078440211413924588 : True := trivial
theorem hdx.tw12074549039828777048 : True := trivial
theorem hdx.tw14342960085353446968 : True := trivial
theorem hdx.tw12030032759238858242 : True := trivial
theorem hdx.tw373604258484869727 : True := trivial
theorem hdx.tw11371883911050253117 : True := trivial
theorem hdx.tw5348298441657156085 : True := trivial
theorem hdx.tw11233821810271452931 : True := trivial
theorem hdx.tw13776139538540017470 : True := trivial
theorem hdx.tw711315453752034009 : True := trivial
theorem hdx.tw14015681384436167552 : True := trivial
theorem hdx.tw3608922110835600088 : True := trivial
theorem hdx.tw1479831794059858176 : True := trivial
theorem hdx.tw12052765825483242615 : True := trivial
theorem hdx.tw11952018256116778510 : True := trivial
theorem hdx.tw8442850642371093264 : True := trivial
theorem hdx.tw9896070276289152950 : True := trivial
theorem hdx.tw13104435317923764781 : True := trivial
theorem hdx.tw370734680809381548 : True := trivial
theorem hdx.tw14478423609326988682 : True := trivial
theorem hdx.tw3603241132631158879 : True := trivial
theorem hdx.tw18322439672212781402 : True := trivial
theorem hdx.tw11584205359766472284 : True := trivial
theorem hdx.tw16382733332193901955 : True := trivial
theorem hdx.tw6433729911373238517 : True := trivial
theorem hdx.tw5962897292348685790 : True := trivial
theorem hdx.tw9128519100761775124 : True := trivial
theorem hdx.tw16021554855694623688 : True := trivial
theorem hdx.tw6894270970139632249 : True := trivial
theorem hdx.tw17847513712020367905 : True := trivial
theorem hdx.tw11841441347127782364 : True := trivial
theorem hdx.tw5065960381556720169 : True := trivial
theorem hdx.tw15431676669900571147 : True := trivial
theorem hdx.tw10602525772430000673 : True := trivial
theorem hdx.tw1552349599394581083 : True := trivial
theorem hdx.tw15687922160928513878 : True := trivial
theorem hdx.tw7604527684314998777 : True := trivial
theorem hdx.tw11697588484477342707 : True := trivial
theorem hdx.tw14779928052246003348 : True := trivial
theorem hdx.tw14575163931095405474 : True := trivial
theorem hdx.tw8265031287849458461 : True := trivial
theorem hdx.tw5032983482192344240 : True := trivial
theorem hdx.tw17901021365655696678 : True := trivial
theorem hdx.tw9146131063442480411 : True := trivial
theorem hdx.tw3492761726097555513 : True := trivial
theorem hdx.tw7654691229531048268 : True := trivial
theorem hdx.tw16473633714598866148 : True := trivial
theorem hdx.tw14988176743841305062 : True := trivial
theorem hdx.tw1153378650706184211 : True := trivial
theorem hdx.tw542136186996400314 : True := trivial
theorem hdx.tw6649976812566562612 : True := trivial
theorem hdx.tw733187150190197927 : True := trivial
theorem hdx.tw1761263280457242910 : True := trivial
theorem hdx.tw5350543311230756584 : True := trivial
theorem hdx.tw15655447965020286064 : True := trivial
theorem hdx.tw12234156127385616618 : True := trivial
theorem hdx.tw2804849314950835914 : True := trivial
theorem hdx.tw15831210970691702606 : True := trivial
theorem hdx.tw14557141412712100878 : True := trivial
theorem hdx.tw6663216703098371146 : True := trivial
theorem hdx.tw5733060583114533983 : True := trivial
theorem hdx.tw5150076709410974968 : True := trivial
theorem hdx.tw841801336619253232 : True := trivial
theorem hdx.tw10830873270671683514 : True := trivial
theorem hdx.tw2114286118478871553 : True := trivial
theorem hdx.tw10441041258344599749 : True := trivial
theorem hdx.tw7481493506872257172 : True := trivial
theorem hdx.tw7929344018686475116 : True := trivial
theorem hdx.tw1918623227336427407 : True := trivial
theorem hdx.tw13317072869070689844 : True := trivial
theorem hdx.tw8344658196378963514 : True := trivial
theorem hdx.tw1721904051972012981 : True := trivial
theorem hdx.tw12297376541529781043 : True := trivial
theorem hdx.tw743125714558725742 : True := trivial
theorem hdx.tw14815508001251243138 : True := trivial
theorem hdx.tw9992148659755696557 : True := trivial
theorem hdx.tw6392203597269669241 : True := trivial
theorem hdx.tw995775220138220913 : True := trivial
theorem hdx.tw15368086413713276134 : True := trivial
theorem hdx.tw3366843556557904476 : True := trivial
theorem hdx.tw15786365921260868098 : True := trivial
theorem hdx.tw8604352893467490280 : True := trivial
theorem hdx.tw13914514510331185930 : True := trivial
theorem hdx.tw16127838427017963456 : True := trivial
theorem hdx.tw10205543830944778134 : True := trivial
theorem hdx.tw7094753472643904059 : True := trivial
theorem hdx.tw11515147229649130612 : True := trivial
theorem hdx.tw7104158149199365954 : True := trivial
theorem hdx.tw8754884766819145787 : True := trivial
theorem hdx.tw5181138376618889655 : True := trivial
theorem hdx.tw12408425119642934642 : True := trivial
theorem hdx.tw9432352663938641985 : True := trivial
theorem hdx.tw2332179854472702555 : True := trivial
theorem hdx.tw4355560026944110611 : True := trivial
theorem hdx.tw1434740809948872380 : True := trivial
theorem hdx.tw11581373274737533026 : True := trivial
theorem hdx.tw14650242626018051126 : True := trivial
theorem hdx.tw1019153260373610705 : True := trivial
theorem hdx.tw3391634660313547014 : True := trivial
theorem hdx.tw13116041109664319721 : True := trivial
theorem hdx.tw3024545019654037646 : True := trivial
theorem hdx.tw14153556339064693154 : True := trivial
theorem hdx.tw13406769057357949175 : True := trivial
theorem hdx.tw1768644057870189812 : True := trivial
theorem hdx.tw6516647165060043897 : True := trivial
theorem hdx.tw14509752947792529248 : True := trivial
theorem hdx.tw14303011803390168540 : True := trivial
theorem hdx.tw12134989247200065487 : True := trivial
theorem hdx.tw16827486929542041072 : True := trivial
theorem hdx.tw17711619165454217612 : True := trivial
theorem hdx.tw5440806812661481989 : True := trivial
theorem hdx.tw17232349515195586196 : True := trivial
theorem hdx.tw2854212090634251903 : True := trivial
theorem hdx.tw12710407045204606515 : True := trivial
theorem hdx.tw4000503121920272289 : True := trivial
theorem hdx.tw6991466536931224953 : True := trivial
theorem hdx.tw12270482689491513466 : True := trivial
theorem hdx.tw3665795802926786903 : True := trivial
theorem hdx.tw682936352443621598 : True := trivial
theorem hdx.tw9956333594370837324 : True := trivial
theorem hdx.tw4290668688557327210 : True := trivial
theorem hdx.tw5512165072077216697 : True := trivial
theorem hdx.tw8816420661344716764 : True := trivial
theorem hdx.tw12801157613744815678 : True := trivial
theorem hdx.tw7318471463460347990 : True := trivial
theorem hdx.tw13903534762394701311 : True := trivial
theorem hdx.tw1862717869766461714 : True := trivial
theorem hdx.tw18066169103088537129 : True := trivial
theorem hdx.tw10951607000393433550 : True := trivial
theorem hdx.tw1141430249539269099 : True := trivial
theorem hdx.tw6377865646352278251 : True := trivial
theorem hdx.tw16155816024692220121 : True := trivial
theorem hdx.tw11364332641633417625 : True := trivial
theorem hdx.tw18427672949982962225 : True := trivial
theorem hdx.tw12504418809960602757 : True := trivial
theorem hdx.tw11602720935865930676 : True := trivial
theorem hdx.tw8352499636815896096 : True := trivial
theorem hdx.tw15398732277716625270 : True := trivial
theorem hdx.tw5638325719076014852 : True := trivial
theorem hdx.tw13764250393621081002 : True := trivial
theorem hdx.tw4826020606190435052 : True := trivial
theorem hdx.tw12053415283062446998 : True := trivial
theorem hdx.tw13987880881672528783 : True := trivial
theorem hdx.tw6967703748595865944 : True := trivial
theorem hdx.tw6982377764206668994 : True := trivial
theorem hdx.tw568015977243730729 : True := trivial
theorem hdx.tw2814366135791808946 : True := trivial
theorem hdx.tw5262276269443317064 : True := trivial
theorem hdx.tw11078147574864786731 : True := trivial
theorem hdx.tw16678223327191222261 : True := trivial
theorem hdx.tw3028743508504213235 : True := trivial
theorem hdx.tw11575508544117185540 : True := trivial
theorem hdx.tw12512269103224751706 : True := trivial
theorem hdx.tw113851431961856068 : True := trivial
theorem hdx.tw15717791139924200532 : True := trivial
theorem hdx.tw7190204759224369055 : True := trivial
theorem hdx.tw15388619720748698437 : True := trivial
theorem hdx.tw17849728736606728614 : True := trivial
theorem hdx.tw5985232166639502999 : True := trivial
theorem hdx.tw3952931942233925166 : True := trivial
theorem hdx.tw17595401478614777575 : True := trivial
theorem hdx.tw7251834755087763782 : True := trivial
theorem hdx.tw17701526787073945742 : True := trivial
theorem hdx.tw295011790522727527 : True := trivial
theorem hdx.tw13600512375935098893 : True := trivial
theorem hdx.tw15399983917080268093 : True := trivial
theorem hdx.tw13064175910620341095 : True := trivial
theorem hdx.tw4627526434441176054 : True := trivial
theorem hdx.tw4332073541344451168 : True := trivial
theorem hdx.tw1294143798949084492 : True := trivial
theorem hdx.tw17174540433398791919 : True := trivial
theorem hdx.tw7992554359472909536 : True := trivial
theorem hdx.tw17665737474999353408 : True := trivial
theorem hdx.tw13536076783097482858 : True := trivial
theorem hdx.tw1220838349044446691 : True := trivial
theorem hdx.tw15174859790031509801 : True := trivial
theorem hdx.tw12635588955759496997 : True := trivial
theorem hdx.tw5596014489341926746 : True := trivial
theorem hdx.tw7208240509209418578 : True := trivial
theorem hdx.tw14446847391066253762 : True := trivial
theorem hdx.tw16155006655965795993 : True := trivial
theorem hdx.tw2304138374814652540 : True := trivial
theorem hdx.tw245516377530447115 : True := trivial
theorem hdx.tw11883739141875908509 : True := trivial
theorem hdx.tw11660785440787077306 : True := trivial
theorem hdx.tw9412919941992487337 : True := trivial
theorem hdx.tw11014371466074393325 : True := trivial
theorem hdx.tw9932467486819991734 : True := trivial
theorem hdx.tw1632975157750022865 : True := trivial
theorem hdx.tw14175279773360419805 : True := trivial
theorem hdx.tw635593893913733454 : True := trivial
theorem hdx.tw17568867728482003588 : True := trivial
theorem hdx.tw3072020050476928665 : True := trivial
theorem hdx.tw17728282227100375583 : True := trivial
theorem hdx.tw17932080657437915628 : True := trivial
theorem hdx.tw4760098122569797523 : True := trivial
theorem hdx.tw2116277771065558145 : True := trivial
theorem hdx.tw7085692536553069320 : True := trivial
theorem hdx.tw398990832647445966 : True := trivial
theorem hdx.tw3997312034694123959 : True := trivial
theorem hdx.tw8984759374764534557 : True := trivial
theorem hdx.tw2432956855527770927 : True := trivial
theorem hdx.tw5424287682257916372 : True := trivial
theorem hdx.tw2853013744300066921 : True := trivial
theorem hdx.tw14586031539414160272 : True := trivial
theorem hdx.tw5150263924199064817 : True := trivial
theorem hdx.tw10599505467878662238 : True := trivial
theorem hdx.tw15608445591738812951 : True := trivial
theorem hdx.tw8087485324176767001 : True := trivial
theorem hdx.tw16196218814506653375 : True := trivial
theorem hdx.tw12178819382366083031 : True := trivial
theorem hdx.tw558471867837405187 : True := trivial
theorem hdx.tw16024769431262477413 : True := trivial
theorem hdx.tw10782033364253952957 : True := trivial
theorem hdx.tw7384631429328008645 : True := trivial
theorem hdx.tw10483683298503720317 : True := trivial
set_option maxHeartbeats 16000000
set_option Elab.async true in
theorem hdx : PySem.Challenge.rw_pq1326_01.Holds := by
  w_on
  o_law
  o_head (kHook k0.heap_1 [2, 3, 15, 17, 18, 20, 21, 22, 24, 25, 27, 28, 29, 32, 33, 34, 36, 37, 39, 40, 41, 44, 45, 46, 53, 54, 55, 56, 59, 66, 68, 69, 71, 72, 73, 74, 75, 85, 87, 88, 90, 91, 92, 94, 95, 97, 98, 99, 101, 102, 104, 105, 106, 108, 109, 111, 112, 113, 115, 116, 118, 119, 120, 122, 123, 125, 126, 127, 130, 131, 132, 133, 134, 135, 136, 139, 141, 142, 144, 145, 146, 148, 149, 151, 152, 153, 156, 157, 158, 159, 162, 163, 164, 165, 168, 169, 170, 172, 173, 175, 176, 184, 186, 187, 189, 190, 191, 192, 193, 194, 195, 205, 206, 208, 209, 211, 212, 213, 215, 216, 218, 219, 220, 221, 222, 223, 224, 227, 229, 230, 232, 233, 234, 236, 237, 239, 240, 241, 243, 244, 246, 247, 248, 250, 251, 253, 254, 255, 256, 259, 260, 261, 263, 264, 266, 267, 268, 270, 271, 273, 274, 275, 277, 278, 280, 281, 282, 284, 285, 287, 288, 289, 291, 292, 294, 295, 296, 299, 300, 301, 302, 304, 305, 307, 308, 309, 311, 312, 314, 315, 316, 318, 319, 321, 322, 323, 325, 326, 328, 329, 330, 332, 333, 335, 336, 337, 339, 340, 342, 343, 344, 346, 347, 349, 350, 351, 353, 354, 356, 357, 358, 360, 361, 363, 364, 365, 367, 368, 370, 371, 372, 380, 382, 383, 385, 386, 387, 388, 389, 390, 391, 394, 397, 398, 399, 401, 402, 404, 405, 406, 409, 410, 411, 413, 414, 416, 417, 418, 420, 421, 423, 424, 425, 427, 428, 430, 431, 432, 434, 435, 437, 438, 439, 442, 443, 444, 445, 448, 449, 450, 452, 453, 455, 456, 457, 458, 460, 461, 463, 464, 465, 468, 469, 470, 473, 474, 475, 477, 478, 480, 481, 482, 484, 485, 487, 488, 489, 491, 492, 494, 495, 496, 498, 499, 501, 502, 503, 505, 506, 508, 509, 510, 512, 513, 515, 516, 517, 520, 521] (fun _ => by kernel_rfl))
  case hw => w_witness2
  k_fill
  intro w s₀ s₁ mg mb G Y fa o pm cd doc dV kV ho hod hcd hD hmg hg args vals as hpre hlay hrd hwl hlo
  have KX := kIn_of Y
  refine Ground.open G ?_
  intro T B D TE TW
  try (refine guard_noD D (by decide +kernel) ?_; clear D)
  have e0 : mg "law" = some (.ref 521) := mg_of KX T.g (by k_is)
  have efa : fa = 521 := by
    have h := hmg
    rw [show mg _ = _ from e0] at h
    injection h with h; injection h with h; exact h.symm
  subst efa
  clear hod hcd hD hmg e0
  wrow_args hpre hlay hrd hwl hlo
  all_goals (
    first | refine callC_kw (enter_call ?_) | refine enter_call ?_
    w_top on
    try refine codeAny_mono ?_ (fun _ _ g => GoodW.toG g)
    have K0 := below_caller (Top.heap T))
  (rename IntsAre _ _ => hI)
  (rename (PyData.list _).layable0 = true => hLay)
  refine any_world law_ok w s₁ _ _ _ (by assumption) hI (ints_bits hLay) (by omega) (allG KX (loose_eq ▸ (show Top view (looseW view [Str.ofString "match_names", Str.ofString "take", Str.ofString "list_of", Str.ofString "fit", Str.ofString "first_argument"]) _ _ _ _ from T))) K0 _ ?_
  intro h' tk' hk
  refine law_good hg hk (fun _ => rfl) ?_
  first | rfl | wrow_post
end Mine
theorem PySem.Challenge.cw_pq1326_01_holds : PySem.Challenge.rw_pq1326_01.Holds :=
  Mine.hdx
