import PyProof.Rows.All
import Wide.All
import OpenK.AllK
import Wide.FinOn
import KE.KStateDown
import Lean
import HandS.ForMost
import HandS.ForExc
import HandS.Defaults
import HandS.Property
import HandS.IsInst
import HandS.Head0
import HandS.Head1
import HandS.Head2
import HandS.HeadEnd
import HandS.HeadHook1
import HandS.HeadHook2
import HandS.FStr
import HandS.Flow
import HandS.MakeKw
import HandS.MakeKwOnly
import HandS.ExcField
import HandS.ExcInit
import HandS.Star
import HandS.Evl
import HandS.TupAny
import HandS.TupMul
import HandS.Style
import HandS.Wide
import HandS.WideBits
import HandS.Strs
import HandS.StrMore
import HandS.CallSlots
import KE.KCallOwn
import PyProof.InstNe
import KE.KExcSuper
import HandS.TryOnly
import HandS.Steps
import HandS.ClsMeth
import HandS.Words
import KE.KExcIs
import HandS.ExcValue
import HandS.ExcIs
import PyProof.ReprLen
import OpenK.KMeth
import HandS.Lambda
import KE.SortKeyHeap
import KE.KSortKey
import HandS.SetBool
import HandS.SetKeys
import HandS.Conv
import KE.KDictSum
import KE.KDictList
import HandS.OwnEq
import HandS.EndTab
import HandS.HeadHook4
import HandS.DictComp
import KE.KOpsOwn
import KE.KTryMore
import KE.KDictPairs
import HandS.DictEq
import HandS.ListItems
import HandS.SetFor
import KE.GoesMore
import HandS.NoneIn
import HandS.Finally
import PyProof.EqKinds
import PyProof.P3In
import PyProof.FitsReplace
import PyProof.TupleOfSeq
import PySem.Challenge.RW_strayjoins_k44_weights_of_rows
set_option Elab.async false
set_option linter.all false
set_option maxRecDepth 100000
set_option maxHeartbeats 4000000
namespace SJ
open PySem PySem.Spec PyProof.Rows L2 He
/-- a def and the path to it -/
structure DD where
  ad : PySem.W.Frag → Addr
  name : Str
  qual : Str
  params : Arguments
  body : List Stmt
  scope : Scope
  dfl : List Dv := []
  kwd : List (Str × Dv) := []
def fnA (K : PySem.W.Frag) (a : Addr) : FnW := match K.lookup a with
  | some ⟨_, _, .func fd, _⟩ => some (fd.name, fd.qualname, fd.params, fd.body, fd.scope, fd.globals, fd.closure, fd.builtins)
  | _ => none
def DD.val (d : DD) : FnW := some (d.name, d.qual, d.params, .stmts d.body, d.scope, mainGlobals, [], builtinsNs)
def DD.dvs (K : PySem.W.Frag) (d : DD) : List V := d.dfl.map (Dv.v K)
def DD.kws (K : PySem.W.Frag) (d : DD) : List (Str × V) := d.kwd.map fun q => (q.1, q.2.v K)
def DD.ok (K : PySem.W.Frag) (d : DD) : Bool := PySem.W.keepIn K (.ref (d.ad K)) && (match K.lookup (d.ad K) with
  | some ⟨_, _, .func fd, _⟩ => PySem.W.codeIn K fd.code d.qual && (dflB K fd.defaults (d.dvs K) && kwdB K fd.kwdefaults (d.kws K))
  | _ => false)
theorem DD.funD {K : PySem.W.Frag} {d : DD} (e : fnA K (d.ad K) = d.val) (c : d.ok K = true) : ∃ fd, FunD K d.name d.qual d.params d.body d.scope (d.dvs K) (d.kws K) (d.ad K) fd := by
  obtain ⟨kp, c2⟩ := ba c
  unfold fnA at e
  cases q : K.lookup (d.ad K) with
  | none => rw [q] at c2; cases c2
  | some o =>
    obtain ⟨oc, od, dt, osl⟩ := o
    rw [q] at c2 e
    cases dt with
    | func fd =>
      obtain ⟨m1, m2, m3, m4, m5, m6, m7, m8, m9, m10, m11, m12, m13, m14, m15⟩ := fd
      have e2 : (some (m1, m2, m3, m4, m5, m6, m7, m15) : FnW) = some (d.name, d.qual, d.params, .stmts d.body, d.scope, mainGlobals, [], builtinsNs) := e
      simp only [Option.some.injEq, Prod.mk.injEq] at e2
      obtain ⟨g1, g2, g3, g4, g5, g6, g7, g8⟩ := e2
      subst g1 g2 g3 g4 g5 g6 g7 g8
      obtain ⟨k1, k2⟩ := ba (show (PySem.W.codeIn K m13 d.qual && (dflB K m8 (d.dvs K) && kwdB K m9 (d.kws K))) = true from c2)
      obtain ⟨k3, k4⟩ := ba k2
      exact ⟨_, ⟨oc, od, m8, m9, m10, m11, m12, m13, m14, osl, rfl, q, k1, dflB_ok k3, kwdB_ok k4⟩, kp⟩
    | _ => cases c2
abbrev Tst := PySem.W.Frag → Bool
abbrev AlS : Type := Bool × List FnW
def obsS (fa : List Tst) (fn : List DD) (K : PySem.W.Frag) : AlS := ((fa.all fun f => f K) && fn.all fun d => d.ok K, fn.map fun d => fnA K (d.ad K))
def valS (fn : List DD) : AlS := (true, fn.map DD.val)
def SaysS (fa : List Tst) (fn : List DD) (K : PySem.W.Frag) : Prop := obsS fa fn K = valS fn
section
variable {fa : List Tst} {fn : List DD} {K : PySem.W.Frag}
theorem SaysS.fact (c : SaysS fa fn K) (i : Nat) {f : Tst} (h : fa[i]? = some f := by rfl) : f K = true := by
  have c1 := (ba (show ((fa.all fun f => f K) && fn.all fun d => d.ok K) = true from congrArg (fun z : AlS => z.1) c)).1
  exact List.all_eq_true.mp c1 f (List.mem_of_getElem? h)
theorem SaysS.def_ (c : SaysS fa fn K) (i : Nat) {d : DD} (h : fn[i]? = some d := by rfl) : ∃ fd, FunD K d.name d.qual d.params d.body d.scope (d.dvs K) (d.kws K) (d.ad K) fd := by
  have c2 := (ba (show ((fa.all fun f => f K) && fn.all fun d => d.ok K) = true from congrArg (fun z : AlS => z.1) c)).2
  have e : fn.map (fun d => fnA K (d.ad K)) = fn.map DD.val := congrArg (fun z : AlS => z.2) c
  have e2 : (fn.map fun d => fnA K (d.ad K))[i]? = (fn.map DD.val)[i]? := by rw [e]
  rw [List.getElem?_map, List.getElem?_map, h] at e2
  exact DD.funD (Option.some.inj e2) (List.all_eq_true.mp c2 d (List.mem_of_getElem? h))
end
end SJ
namespace SJ
open PySem PySem.Spec PyProof.Rows L2 He
section
variable {K : PySem.W.Frag} {σ : L2.St} {H : Hp} {Q : VK} {QT : Bool → Hp → Prop} {QA : List V → Hp → Prop} {ta tb tc te : TE} {t u : TT} {D : Ends} {ts tu tz : TS} {r r' : R2} {x y v : V} {i j : Int} {n : Nat} {p : Addr} {tA : TA} {b c : Bool}
theorem x_var (h : σ[n]? = some (some v)) (k : Q v H) : tVar n σ H Q := ⟨v, h, k⟩
theorem x_c (k : Q v H) : tC v σ H Q := k
theorem x_op (k : ta σ H fun x H1 => tb σ H1 fun y H2 => r x y H2 Q) : tOp r ta tb σ H Q := k
theorem x_un {r : V → Hp → VK → Prop} (k : ta σ H fun x H1 => r x H1 Q) : tUn r ta σ H Q := k
theorem x_U {g : Int → V} (k : Q (g i) H) : rU g (.int i) H Q := ⟨i, rfl, k⟩
theorem x_nil (k : QA [] H) : tNil σ H QA := k
theorem x_cons (k : ta σ H fun x H1 => tA σ H1 fun xs H2 => QA (x :: xs) H2) : tCons ta tA σ H QA := k
theorem x_cb {r : List V → Hp → VK → Prop} (k : tA σ H fun vs H1 => r vs H1 Q) : tCB r tA σ H Q := k
theorem x_seq (k : ts { D with nx := tz D } σ H) : tSeq ts tz D σ H := k
theorem x_next (k : D.nx σ H) : tNext D σ H := k
theorem x_asg (k : te σ H fun x H1 => D.nx (σ.set n (some x)) H1) : tAsg te (gName n) D σ H := k
theorem x_asgG {g : TG} (k : te σ H fun x H1 => g x σ H1 D.nx) : tAsg te g D σ H := k
theorem x_ret (k : te σ H D.rt) : tRet te D σ H := k
theorem x_retN (k : D.rt .non H) : tRetN D σ H := k
theorem x_drop (k : te σ H fun _ H1 => D.nx σ H1) : tDrop te D σ H := k
theorem x_if (k : t σ H fun b H1 => if b = true then ts D σ H1 else tu D σ H1) : tIfS t ts tu D σ H := k
theorem x_ife (k : t σ H fun b H1 => if b = true then ta σ H1 Q else tb σ H1 Q) : tIf t ta tb σ H Q := k
theorem x_test (k : te σ H fun x H' => ∃ b, x = .bl b ∧ QT b H') : tTest te σ H QT := k
theorem x_B (k : te σ H fun x H' => ∃ b, x = .bl b ∧ QT b H') : tB te σ H QT := k
theorem x_and (k : t σ H fun c H1 => if c = true then u σ H1 QT else QT false H1) : tAnd t u σ H QT := k
theorem x_or (k : t σ H fun c H1 => if c = true then QT true H1 else u σ H1 QT) : tOr t u σ H QT := k
theorem x_not (k : t σ H fun c H1 => QT (!c) H1) : tNot t σ H QT := k
theorem x_andV (k : ta σ H fun x H1 => ∃ c, x = .bl c ∧ if c = true then tb σ H1 Q else Q (.bl false) H1) : tAndV ta tb σ H Q := k
theorem x_orV (k : ta σ H fun x H1 => ∃ c, x = .bl c ∧ if c = true then Q (.bl true) H1 else tb σ H1 Q) : tOrV ta tb σ H Q := k
theorem x_notV (k : ta σ H fun x H1 => ∃ c, x = .bl c ∧ Q (.bl (!c)) H1) : tNotV ta σ H Q := k
theorem x_tup (k : tA σ H fun xs H1 => xs.length ≤ sizeLine ∧ ∀ p, H1 p = none → Q (.ref p) (upd H1 p (.tup xs))) : tTup tA σ H Q := k
theorem x_lst (k : tA σ H fun xs H1 => xs.length ≤ sizeLine ∧ ∀ p, H1 p = none → Q (.ref p) (upd H1 p (.lst xs))) : tLst tA σ H Q := k
theorem x_new {q : Prop} (h : n ≤ 1000) (k : q) : n ≤ sizeLine ∧ q := ⟨Nat.le_trans h (by decide), k⟩
theorem x_ixL {xs : List V} (h : SqL K H p xs) (e : atI xs i = some v) (k : Q v H) : rIx K (.ref p) (.int i) H Q := .inl ⟨p, xs, i, v, rfl, rfl, h, e, k⟩
theorem x_ixT {xs : List V} (h : SqT K H p xs) (e : atI xs i = some v) (k : Q v H) : rIx K (.ref p) (.int i) H Q := .inr (.inl ⟨p, xs, i, v, rfl, rfl, h, e, k⟩)
theorem x_sub {to ti : TE} {s : TSet} {Qs : L2.St → Hp → Prop} (k : to σ H fun o H1 => ti σ H1 fun i H2 => s o i v H2 fun H3 => Qs σ H3) : gSub to ti s v σ H Qs := k
theorem x_setL {xs : List V} {k : Nat} {Qh : Hp → Prop} (h : H p = some (.lst xs)) (e : ixN xs.length i = some k) (q : Qh (upd H p (.lst (xs.set k v)))) : rSetL (.ref p) (.int i) v H Qh := ⟨p, xs, i, k, rfl, rfl, h, e, q⟩
end
theorem del_sub {H : Hp} {p a : Addr} {o : HO} (h : del H p a = some o) : H a = some o := by
  by_cases e : a = p
  · rw [e, del_same] at h; cases h
  · rw [del_ne e] at h; exact h
theorem del_some {H : Hp} {p a : Addr} {o : HO} (h : del H p a = some o) : a ≠ p := fun e => by rw [e, del_same] at h; cases h
theorem del_none {H : Hp} {p a : Addr} (h : H a = none) : del H p a = none := by
  by_cases e : a = p
  · rw [e, del_same]
  · rw [del_ne e]; exact h
theorem del_upd {H : Hp} {p : Addr} {o : HO} : del (upd H p o) p = del H p := by
  funext a
  by_cases e : a = p
  · rw [e, del_same, del_same]
  · rw [del_ne e, del_ne e, upd_ne e]
theorem del_upd_ne {H : Hp} {p q : Addr} {o : HO} (n : q ≠ p) : del (upd H q o) p = upd (del H p) q o := by
  funext a
  by_cases e : a = p
  · rw [e, del_same, upd_ne (Ne.symm n), del_same]
  · rw [del_ne e]
    by_cases f : a = q
    · rw [f, upd_same, upd_same]
    · rw [upd_ne f, upd_ne f, del_ne e]
theorem Same.upd {H H' : Hp} {p : Addr} {o : HO} (e : Same H H') (h : H' p = none) : Same H (L2.upd H' p o) := fun b u q => by
  rw [upd_ne (ne_of_none (e b u q) h)]; exact e b u q
theorem Same.mut {H H' : Hp} {p : Addr} {o : HO} (e : Same H H') (h : H p = none) : Same H (L2.upd H' p o) := fun b u q => by
  rw [upd_ne (ne_of_none q h)]; exact e b u q
theorem Same.del {H H' : Hp} {p : Addr} (e : Same H H') : Same (L2.del H p) (L2.del H' p) := fun b u q => by
  rw [del_ne (del_some q)]; exact e b u (del_sub q)
end SJ
namespace SJ
open PySem PySem.Spec PyProof.Rows L2 He
def rStr2 (g : Str → Str → V) : R2 := fun x y H Q => ∃ i j, x = .str i ∧ y = .str j ∧ Q (g i j) H
def rAddS' : R2 := fun x y H Q => ∃ i j, x = .str i ∧ y = .str j ∧ i.length + j.length ≤ sizeLine ∧ Q (.str (i ++ j)) H
def rAdd (K : PySem.W.Frag) : R2 := fun x y H Q => rI0 (fun i j => .int (i + j)) x y H Q ∨ (rAddS' x y H Q ∨ (rCat x y H Q ∨ rCatA K x y H Q))
def rSub : R2 := rI0 fun i j => .int (i - j)
def rMul (K : PySem.W.Frag) : R2 := fun x y H Q => rI CMul (fun i j => .int (i * j)) x y H Q ∨ (rI CMulX (fun i j => .int (i * j)) x y H Q ∨ (rRep x y H Q ∨ rRepT K x y H Q))
def rMod : R2 := rI (fun _ j => j ≠ 0) fun i j => .int (i.fmod j)
def rFdv : R2 := fun x y H Q => rI CDivN (fun i j => .int (i.fdiv j)) x y H Q ∨ rI CDivW (fun i j => .int (i / j)) x y H Q
def rPow : R2 := rI CPow fun i j => .int (i ^ j.toNat)
def rEqU (K : PySem.W.Frag) : R2 := fun x y H Q => rEq x y H Q ∨ rEqD K x y H Q
def rNeU (K : PySem.W.Frag) : R2 := fun x y H Q => rNe x y H Q ∨ rNeD K x y H Q
def rLtU : R2 := fun x y H Q => rI0 (fun i j => .bl (decide (i < j))) x y H Q ∨ rStr2 (fun i j => .bl (decide (i.cps.toList < j.cps.toList))) x y H Q
def rLeU : R2 := fun x y H Q => rI0 (fun i j => .bl (decide (i ≤ j))) x y H Q ∨ rStr2 (fun i j => .bl (!decide (j.cps.toList < i.cps.toList))) x y H Q
def rGtU : R2 := rI0 fun i j => .bl (decide (j < i))
def rGeU : R2 := rI0 fun i j => .bl (decide (j ≤ i))
def rInU (K : PySem.W.Frag) (neg : Bool) : R2 := fun x y H Q => rIn K neg x y H Q ∨ rStr2 (fun i j => .bl (if neg then !(!(Builtin.Str.occurrences j i 0 j.length 1).isEmpty) else !(Builtin.Str.occurrences j i 0 j.length 1).isEmpty)) x y H Q
def rIsU (neg : Bool) : R2 := fun x y H Q => (y = .non ∧ Q (.bl (if neg then !decide (x = .non) else decide (x = .non))) H) ∨ ∃ a b : Bool, x = .bl a ∧ y = .bl b ∧ Q (.bl (if neg then !decide (a = b) else decide (a = b))) H
section
variable {X : Cx}
theorem o_add : OpR X (binaryOp .Add) (rAdd X.K) := op_add.or (op_add_str.or (op_cat.or op_catA))
theorem o_sub : OpR X (binaryOp .Sub) rSub := op_sub
theorem o_mul : OpR X (binaryOp .Mult) (rMul X.K) := op_mul.or (op_mulX.or (op_rep.or op_repT))
theorem o_mod : OpR X (binaryOp .Mod) rMod := op_modN
theorem o_fdv : OpR X (binaryOp .FloorDiv) rFdv := op_fdivN.or op_fdivW
theorem o_pow : OpR X (binaryOp .Pow) rPow := op_pow
theorem o_eq (hu : X.A.units + 64 < cLine) : OpR X (compareOp .Eq) (rEqU X.K) := op_eq.or (op_eqD hu)
theorem o_ne (hu : X.A.units + 64 < cLine) : OpR X (compareOp .NotEq) (rNeU X.K) := op_ne.or (op_neD hu)
theorem o_lt : OpR X (compareOp .Lt) rLtU := op_lt.or op_lt_str
theorem o_gt : OpR X (compareOp .Gt) rGtU := op_gt
theorem o_ge : OpR X (compareOp .GtE) rGeU := op_ge
theorem o_is : OpR X (compareOp .Is) (rIsU false) := OpR.or (op_isN) (op_isBl)
theorem o_isn : OpR X (compareOp .IsNot) (rIsU true) := OpR.or (op_notN) (op_notBl)
end
def rLenU (K : PySem.W.Frag) : List V → Hp → VK → Prop := fun xs H Q => (∃ x n, xs = [x] ∧ LenV K x H n ∧ Q (.int n) H) ∨ ∃ a kvs, xs = [V.ref a] ∧ H a = some (.dK kvs) ∧ Q (.int kvs.length) H
def rAbs : List V → Hp → VK → Prop := fun xs H Q => ∃ i, xs = [.int i] ∧ Q (.int (if i < 0 then -i else i)) H
def rInt : List V → Hp → VK → Prop := fun xs H Q => (∃ i, xs = [.int i] ∧ Q (.int i) H) ∨ ∃ k, xs = [.bl k] ∧ Q (.int (if k then 1 else 0)) H
def rListU (K : PySem.W.Frag) : List V → Hp → VK → Prop := fun xs H Q => ∃ p ys, xs = [.ref p] ∧ (SqL K H p ys ∨ SqT K H p ys) ∧ ∀ l, H l = none → Q (.ref l) (upd H l (.lst ys))
def rTupU (K : PySem.W.Frag) : List V → Hp → VK → Prop := fun xs H Q => ∃ p ys, xs = [.ref p] ∧ ((SqL K H p ys ∧ ∀ l, H l = none → Q (.ref l) (upd H l (.tup ys))) ∨ (SqT K H p ys ∧ Q (.ref p) H))
def rSlU (K : PySem.W.Frag) : V → Option Int → Option Int → Hp → VK → Prop := fun x lo hi H Q => rSlL K x lo hi H Q ∨ rSlT K x lo hi H Q
section
variable {X : Cx}
theorem c_len : CallR X (.builtin "len") (rLenU X.K) := call_len.or call_lenD
theorem c_abs : CallR X (.builtin "abs") rAbs := call_abs
theorem c_int : CallR X (.type "int") rInt := call_int1
theorem c_list : CallR X (.type "list") (rListU X.K) := call_list_of
theorem c_tuple : CallR X (.type "tuple") (rTupU X.K) := call_tuple_of
theorem c_isi : CallR X (.builtin "isinstance") (rIsi X.K) := call_isi
theorem c_sum (hc : X.calm = true) : CallR X (.builtin "sum") (rSum X.K) := cr_sum hc
theorem sl_u : SlR X (rSlU X.K) := sl_list.or sl_tup
end
section
variable {K : PySem.W.Frag} {H : Hp} {Q : VK} {x y v : V} {i j : Int} {n : Nat} {p q : Addr} {b c : Bool} {s t : Str} {xs ys : List V}
theorem x_addI (k : Q (.int (i + j)) H) : rAdd K (.int i) (.int j) H Q := .inl ⟨i, j, rfl, rfl, k⟩
theorem x_sub' (k : Q (.int (i - j)) H) : rSub (.int i) (.int j) H Q := ⟨i, j, rfl, rfl, k⟩
theorem x_mulI (h : CMul i j) (k : Q (.int (i * j)) H) : rMul K (.int i) (.int j) H Q := .inl ⟨i, j, rfl, rfl, h, k⟩
theorem x_mod (h : 0 < j) (k : Q (.int (i % j)) H) : rMod (.int i) (.int j) H Q := ⟨i, j, rfl, rfl, by omega, by show Q (.int (i.fmod j)) H; rw [Int.fmod_eq_emod_of_nonneg _ (by omega)]; exact k⟩
theorem x_fdv (h : 0 < j) (h2 : j < 1073741824) (k : Q (.int (i / j)) H) : rFdv (.int i) (.int j) H Q := .inl ⟨i, j, rfl, rfl, ⟨by omega, by omega⟩, by show Q (.int (i.fdiv j)) H; rw [Int.fdiv_eq_ediv_of_nonneg _ (by omega)]; exact k⟩
theorem x_pow (h : 0 ≤ j ∧ j ≤ 1000000 ∧ i.natAbs < 2 ^ 64) (k : Q (.int (i ^ j.toNat)) H) : rPow (.int i) (.int j) H Q := ⟨i, j, rfl, rfl, h, k⟩
theorem x_eqI (k : Q (.bl (decide (i = j))) H) : rEqU K (.int i) (.int j) H Q := .inl ⟨rfl, by rw [show decide (V.int i = V.int j) = decide (i = j) from by simp only [V.int.injEq]]; exact k⟩
theorem x_neI (k : Q (.bl (!decide (i = j))) H) : rNeU K (.int i) (.int j) H Q := .inl ⟨rfl, by rw [show decide (V.int i = V.int j) = decide (i = j) from by simp only [V.int.injEq]]; exact k⟩
theorem x_eqT (k : Q (.bl (decide (s = t))) H) : rEqU K (.str s) (.str t) H Q := .inl ⟨rfl, by rw [show decide (V.str s = V.str t) = decide (s = t) from by simp only [V.str.injEq]]; exact k⟩
theorem x_neT (k : Q (.bl (!decide (s = t))) H) : rNeU K (.str s) (.str t) H Q := .inl ⟨rfl, by rw [show decide (V.str s = V.str t) = decide (s = t) from by simp only [V.str.injEq]]; exact k⟩
theorem x_neDD {d e : PyData} (h1 : Dp K H x d) (h2 : Dp K H y e) (s1 : SeqAt.shaped d = true) (s2 : SeqAt.shaped e = true) (k : Q (.bl (!PyData.eqv d e)) H) : rNeU K x y H Q := .inr ⟨d, e, h1, h2, s1, s2, k⟩
theorem x_ltI (k : Q (.bl (decide (i < j))) H) : rLtU (.int i) (.int j) H Q := .inl ⟨i, j, rfl, rfl, k⟩
theorem x_leI (k : Q (.bl (decide (i ≤ j))) H) : rLeU (.int i) (.int j) H Q := .inl ⟨i, j, rfl, rfl, k⟩
theorem x_gtI (k : Q (.bl (decide (j < i))) H) : rGtU (.int i) (.int j) H Q := ⟨i, j, rfl, rfl, k⟩
theorem x_geI (k : Q (.bl (decide (j ≤ i))) H) : rGeU (.int i) (.int j) H Q := ⟨i, j, rfl, rfl, k⟩
theorem x_inT (h : SqT K H p xs) (hx : flatV x = true) (ha : xs.all flatV = true) (k : Q (.bl (inV x xs)) H) : rInU K false x (.ref p) H Q := .inl ⟨p, xs, rfl, .inr h, hx, ha, k⟩
theorem x_ninT (h : SqT K H p xs) (hx : flatV x = true) (ha : xs.all flatV = true) (k : Q (.bl (!inV x xs)) H) : rInU K true x (.ref p) H Q := .inl ⟨p, xs, rfl, .inr h, hx, ha, k⟩
theorem x_inL (h : SqL K H p xs) (hx : flatV x = true) (ha : xs.all flatV = true) (k : Q (.bl (inV x xs)) H) : rInU K false x (.ref p) H Q := .inl ⟨p, xs, rfl, .inl h, hx, ha, k⟩
theorem x_isN (k : Q (.bl (decide (x = .non))) H) : rIsU false x .non H Q := .inl ⟨rfl, k⟩
theorem x_isnN (k : Q (.bl (!decide (x = .non))) H) : rIsU true x .non H Q := .inl ⟨rfl, k⟩
theorem x_lenL (h : SqL K H p xs) (k : Q (.int (xs.length : Int)) H) : rLenU K [.ref p] H Q := .inl ⟨_, _, rfl, .inl ⟨_, h, rfl⟩, k⟩
theorem x_lenT' (h : SqT K H p xs) (k : Q (.int (xs.length : Int)) H) : rLenU K [.ref p] H Q := .inl ⟨_, _, rfl, .inr ⟨_, h, rfl⟩, k⟩
theorem x_absI (k : Q (.int (if i < 0 then -i else i)) H) : rAbs [.int i] H Q := ⟨i, rfl, k⟩
theorem x_intI (k : Q (.int i) H) : rInt [.int i] H Q := .inl ⟨i, rfl, k⟩
theorem x_intBl (k : Q (.int (if b then 1 else 0)) H) : rInt [.bl b] H Q := .inr ⟨b, rfl, k⟩
theorem x_listL (h : SqL K H p xs) (k : ∀ l, H l = none → Q (.ref l) (upd H l (.lst xs))) : rListU K [.ref p] H Q := ⟨p, xs, rfl, .inl h, k⟩
theorem x_listT (h : SqT K H p xs) (k : ∀ l, H l = none → Q (.ref l) (upd H l (.lst xs))) : rListU K [.ref p] H Q := ⟨p, xs, rfl, .inr h, k⟩
end
end SJ
namespace SJ
open PySem PySem.Spec PyProof.Rows L2 He
/-- room, and no guard around -/
structure Rm (k : Nat) (A : Around) : Prop where
  r : Room k A
  g : A.guards = some []
theorem Rm.mono {j k : Nat} {A : Around} (h : Rm k A) (l : j ≤ k) : Rm j A := ⟨h.r.mono l, h.g⟩
theorem Rm.in1 {k : Nat} {A : Around} (h : Rm (k + 1) A) : Rm k A.in1 := ⟨h.r.in1, h.g⟩
theorem Rm.deeper {k : Nat} {A : Around} (h : Rm (k + 1) A) (env : Env) : Rm k (A.deeper env) := ⟨h.r.deeper env, h.g⟩
theorem Rm.units {k : Nat} {A : Around} (h : Rm k A) : A.units + 64 < cLine := h.r.units
structure Fk (P : Program) (w : World) (K : PySem.W.Frag) (mg : Str → Option Value) (base : Heap) (k : Nat) (f : Addr) (fd : FuncData) (ps : List Str) (sp : Sp) : Prop where
  len : ∀ vs H Q E, sp vs H Q E → vs.length = ps.length
  run : ∀ (A : Around) (outer : List Env) (s : Shared) (H : Hp) (args : Args) (us : List Value) (vs : List V) (Q : VK) (E : XK), Rm k A → Env0 P w K mg base A outer s H → BindsTo s fd args (ps.zip us) → Vals vs us → sp vs H Q E →
    codeAny (model P w) A (.call (.ref f) args) (CR (L2.CX P w) outer P w H s Q E) s
theorem Fk.mono {P : Program} {w : World} {K : PySem.W.Frag} {mg : Str → Option Value} {base : Heap} {j k : Nat} {f : Addr} {fd : FuncData} {ps : List Str} {sp : Sp} (F : Fk P w K mg base j f fd ps sp) (h : j ≤ k) : Fk P w K mg base k f fd ps sp :=
  ⟨F.len, fun A outer s H args us vs Q E hr => F.run A outer s H args us vs Q E (hr.mono h)⟩
theorem fk_of {P : Program} {w : World} {K : PySem.W.Frag} {mg : Str → Option Value} {base : Heap} {x qual : Str} {pa : Arguments} {bo : List Stmt} {sc : Scope} {dvs : List V} {kws : List (Str × V)} {f : Addr} {fd : FuncData} {N ps : List Str} {k : Nat} {sp : Sp}
    (F : FunD K x qual pa bo sc dvs kws f fd) (S : FnScope N ps sc) (len : ∀ vs H Q E, sp vs H Q E → vs.length = ps.length)
    (hb : ∀ (cdv : Value) (A : Around) (outer : List Env) (s : Shared) (H : Hp) (vs : List V) (Q : VK) (E : XK), Rm k (A.deeper (envOfC qual sc s.heap.objs.size f cdv)) → sp vs H Q E →
      ∃ t, PSs (cxOf (L2.CX P w) P w K mg base N qual sc f cdv A outer s H E) bo t ∧ t { nx := fun _ H2 => Q .non H2, rt := Q } (start N vs) H) : Fk P w K mg base (k + 1) f fd ps sp := by
  obtain ⟨oc, od, dV, kV, doc, pm, an, cdv, ct, osl, rfl, lk, hcd, _, _⟩ := F.ex
  refine ⟨len, fun A outer s H args us vs Q E hr e0 hbi rv hsp => ?_⟩
  have hl := len _ _ _ _ hsp
  have KX : K.In s.heap := e0.mod.kin.keeps fun b o z => (e0.bs b o z).1
  have lim : s.heap.NoLimit := e0.mod.nolimit.keeps fun b o z => (e0.bs b o z).1
  have kinds : ∀ y ∈ ps.zip us, sc.names.lookup y.1 = some .local ∨ (sc.names.lookup y.1 = some .cell ∧ ((cellsFrom (s.heap.objs.size + 1) sc.names []).lookup y.1).isSome = true) := fun ⟨n, v⟩ hy => by
    rcases S.par n (List.of_mem_zip hy).1 with z | z
    · exact .inl z
    · exact .inr ⟨z, PySem.W.cellsFrom_some _ _ _ (.inl z)⟩
  refine codeAny_call_function hr.r.depth (KX _ _ lk) rfl S.co S.gen rfl (PySem.W.codeRec_of KX hcd) (hbi _ _ _ _ (wpAny_newFunctionEnv_cells S.kind kinds fun env he s1 x1 => ?_))
  subst he
  refine ⟨lim.keeps x1.toInCall.keep, codeAny_func ?_⟩
  obtain ⟨t, ht, hq⟩ := hb cdv A outer s H vs Q E (hr.deeper _) hsp
  have I : Inv (cxOf (L2.CX P w) P w K mg base N qual sc f cdv A outer s H E) [] (start N vs) H s1 := inv_start S hr.r.hd e0 hl rv x1
  refine wpAny_mono (ht.run [] s1 (start N vs) H _ I hq) (fun fl s2 hs => ?_) fun _ _ z => z
  cases fl with
  | ret u => obtain ⟨v, σ2, H2, J, r2, q⟩ := hs; exact ⟨v, H2, J.os, J.bare, J.base, J.hok, r2, q⟩
  | next => obtain ⟨σ2, H2, J, q⟩ := hs; exact ⟨.non, H2, J.os, J.bare, J.base, J.hok, rfl, q⟩
  | brk => obtain ⟨_, _, _, q⟩ := hs; exact q.elim
  | cont => obtain ⟨_, _, _, q⟩ := hs; exact q.elim
/-- the law called behind the top -/
theorem law_at {P : Program} {w : World} {K : PySem.W.Frag} {mg mb : Str → Option Value} {k : Nat} {fa a : Addr} {fd : FuncData} {x : Str} {sp : Sp} {s1 : Shared} {us : List Value} {ns : List Int}
    (KX : K.In s1.heap) (hns : s1.heap.Ns mainGlobals mg) (hbn : s1.heap.Ns builtinsNs mb) (hbb : ∀ x : Str, x ≠ "__name__" → mb x = bootBuiltins x) (hlim : s1.heap.NoLimit) (hg : s1.gens = #[])
    (ha : s1.heap.get? a = some { cls := .type "list", data := .seq us.toArray }) (hi : IntsAre us ns) (hl : ns.length ≤ sizeLine) (hr : Rm k callerA)
    (F : ∀ base : Heap, K.In base → base.Ns mainGlobals mg → Fk P w K mg base k fa fd [x] sp) (hbind : ∀ (s : Shared) (u : Value), BindsTo s fd ⟨[u], []⟩ [(x, u)])
    (hsp : ∀ H : Hp, SqL K H a (ns.map V.int) → sp [.ref a] H (fun v _ => v = .bl true) fun _ _ _ => False) :
    codeAny (model P w) callerA (.call (.ref fa) ⟨[.ref a], []⟩) (fun rr s2 => rr = .ok (.ret (.bool true)) ∧ OldK s1.heap s2.heap ∧ s2.os = s1.os ∧ AllBare s2.gens) s1 := by
  have rv := vals_ints hi
  have go : ∀ H : Hp, Only H → SqL K H a (ns.map V.int) → HOk P w H s1.heap → (∀ b, H b ≠ none → b = a) → (H a ≠ none → K.lookup a = none) →
      codeAny (model P w) callerA (.call (.ref fa) ⟨[.ref a], []⟩) (fun rr s2 => rr = .ok (.ret (.bool true)) ∧ OldK s1.heap s2.heap ∧ s2.os = s1.os ∧ AllBare s2.gens) s1 := by
    intro H hO hS hok only noK
    have free : ∀ {b : Addr} {o : Obj} {es : Array DictEntry} {ep : Nat}, s1.heap.get? b = some o → o.data = .dict es ep → H b = none := fun {b o es ep} eo ed => by
      cases q : H b with
      | none => rfl
      | some u =>
        have eb : b = a := only b (by rw [q]; simp)
        rw [eb, ha] at eo
        cases eo
        exact nomatch (show Data.seq us.toArray _ = Data.dict es ep from ed)
    have nsK : ∀ {b : Addr} {m : Str → Option Value}, s1.heap.Ns b m → (hidT s1.heap H).Ns b m := fun {b m} ⟨o, es, ep, eo, ed, rr⟩ => ⟨o, es, ep, hidT_get eo (free eo ed), ed, rr⟩
    have Kb : K.In (hidT s1.heap H) := fun b o e => hidT_get (KX b o e) (by
      cases q : H b with
      | none => rfl
      | some u =>
        have eb : b = a := only b (by rw [q]; simp)
        rw [eb] at e q
        rw [noK (by rw [q]; simp)] at e
        cases e)
    have M : Mod K mg (hidT s1.heap H) := ⟨Kb, nsK hns, ⟨mb, nsK hbn, hbb⟩, let ⟨mc, z1, z2⟩ := hlim; ⟨mc, nsK z1, z2⟩⟩
    have e0 : Env0 P w K mg (hidT s1.heap H) callerA [] s1 H := ⟨rfl, M, fun b o e => of_hidT e, Nat.le_of_eq (hidT_size _ _), trivial, fun b z => absurd (show b ∈ ([] : List Addr) from z) (by simp), hok, .of_eq hg⟩
    refine codeAny_mono ((F _ Kb (nsK hns)).run callerA [] s1 H ⟨[.ref a], []⟩ [.ref a] [.ref a] _ _ hr e0 (hbind s1 (.ref a)) (.cons rfl .nil) (hsp H hS)) fun rr s2 h => ?_
    cases rr with
    | error e => obtain ⟨_, _, _, _, _, _, _, _, _, _, _, _, z⟩ := h; exact z.elim
    | ok fl =>
      cases fl with
      | next => exact h.elim
      | brk => exact h.elim
      | cont => exact h.elim
      | ret u =>
        obtain ⟨v, H2, os, bare, un, hok2, r2, q⟩ := h
        obtain rfl : v = .bl true := q
        obtain rfl : u = Value.bool true := r2
        refine ⟨rfl, OldK.of_keep fun b o e => ?_, os, bare⟩
        cases q : H b with
        | none => exact un.keep b o e q (fun z => absurd (show b ∈ ([] : List Addr) from z) (by simp)) (by simp)
        | some u =>
          rcases hO b with z | ⟨ob, xs, z⟩
          · rw [q] at z; cases z
          · obtain ⟨z1, _⟩ := hok b _ z
            obtain ⟨z2, _⟩ := hok2 b _ (un.frzs b ob _ z)
            rw [e] at z1; cases z1
            exact z2
  by_cases hk : K.lookup a = none
  · refine go (fun b => if b = a then some (.frz { cls := .type "list", data := .seq us.toArray } (.lst (ns.map V.int))) else none) (fun b => ?_) (.inl (.inr ⟨_, if_pos rfl⟩)) (fun b o e => ?_) (fun b hb => ?_) fun _ => hk
    · by_cases e : b = a
      · exact .inr ⟨_, _, if_pos e⟩
      · exact .inl (if_neg e)
    · by_cases eb : b = a
      · have e2 := (if_pos eb).symm.trans e
        subst eb
        cases e2
        exact ⟨ha, by rw [List.length_map]; exact hl, us, _, rv, ha⟩
      · exact nomatch ((if_neg eb).symm.trans e)
    · by_cases eb : b = a
      · exact eb
      · exact absurd (if_neg eb) hb
  · obtain ⟨o, ho⟩ : ∃ o, K.lookup a = some o := by
      cases q : K.lookup a with
      | none => exact absurd q hk
      | some o => exact ⟨o, rfl⟩
    have eo := KX _ _ ho
    rw [ha] at eo
    cases eo
    refine go (fun _ => none) (fun b => .inl rfl) (.inr ⟨_, us.toArray, _, ho, rfl, rfl, rfl, by rw [List.size_toArray, ← rv.length, List.length_map]; exact hl, rv⟩) (fun b o e => nomatch (show (none : Option HO) = some o from e)) (fun b hb => absurd rfl hb) fun z => absurd rfl z
theorem walk_law {l : PySem.W.OpenLaw} {n k : Nat} {q : Program} {loose : List Str} {XP : (Str → Option Value) → Heap → Prop} {YP : World → Heap → Prop} {d : DefRec} {x : Str}
    (hn : l.most = some n) (hn2 : n ≤ sizeLine) (hdf : d.params.defaults = []) (hr : Rm k callerA)
    (F : ∀ (w : World) (mg : Str → Option Value) (fa : Addr) (h : Heap), YP w h → h.Ns mainGlobals mg → mg d.name = some (.ref fa) →
      ∃ (K : PySem.W.Frag) (fd : FuncData) (sp : Sp), K.In h ∧ (∀ (s : Shared) (u : Value), BindsTo s fd ⟨[u], []⟩ [(x, u)]) ∧
        (∀ (H : Hp) (a : Addr) (ns : List Int), ns.length ≤ n → SqL K H a (ns.map V.int) → sp [.ref a] H (fun v _ => v = .bl true) fun _ _ _ => False) ∧
        ∀ base : Heap, K.In base → base.Ns mainGlobals mg → Fk l.prog w K mg base k fa fd [x] sp) :
    PySem.W.WalkO q loose XP YP l.row.toRowW d [] (fun f vs => PySem.call f vs) := by
  refine Att.attach_call hn hdf fun w s0 s1 mg mb fa o pm cd doc a vs ns G Y ho hd hcd hmg hobj hints hlen hg => ?_
  obtain ⟨K, fd, sp, KX, hb, hsp, hF⟩ := F w mg fa _ Y G.T.g hmg
  exact law_at KX G.T.g G.T.b G.T.builtins G.T.nolimit hg hobj hints (Nat.le_trans hlen hn2) hr hF hb fun H hS => hsp H a ns hlen hS
end SJ
namespace SJ
open PySem PySem.Spec PyProof.Rows L2 He
abbrev W0 : WX := fun _ _ _ _ => False
/-- f(a ..) -/
def tFn (sp : Sp) (dv : List V) (W : WX) (ta : TA) : TE := fun σ H Q => ta σ H fun vs H1 => sp (vs ++ dv) H1 Q (WE W σ)
/-- f(a .., k = b ..) -/
def tFnK (n m : Nat) (sp : Sp) (gV : List V → List V → List V) (W : WX) (ta tk : TA) : TE := fun σ H Q => ta σ H fun vs H1 => tk σ H1 fun zs H2 => vs.length = n ∧ zs.length = m ∧ sp (gV vs zs) H2 Q (WE W σ)
/-- C(a ..) -/
def tNw (C : Addr) (sp : Sp) (dv : List V) (W : WX) (ta : TA) : TE := fun σ H Q => ta σ H fun vs H1 => ∀ x dx, H1 x = none → H1 dx = none → dx ≠ x →
  sp (.ref x :: (vs ++ dv)) (upd (upd H1 dx (.own x)) x (.ins C dx [])) (fun v H2 => v = .non ∧ Q (.ref x) H2) (WE W σ)
/-- o.f, a property -/
def tPr (K : PySem.W.Frag) (f : Str) (g : Addr) (sp : Sp) (to : TE) : TE := fun σ H Q => to σ H fun x H1 => ∃ a C dx fs pp, x = .ref a ∧ H1 a = some (.ins C dx fs) ∧ Cls K C ∧ PropOf K C f pp g ∧ sp [x] H1 Q E0
section
variable {X : Cx} {k n : Nat} {f C : Addr} {fd : FuncData} {ps ks : List Str} {sp : Sp} {dv : List V} {ds : List Value} {W : WX} {x m : Str} {p pos apos : Pos} {e o : Expr} {es : List Expr} {kws : List Keyword} {to : TE} {ta tk : TA} {mm : Nat} {g : List Value → List Value → List Value} {gV : List V → List V → List V}
/-- the callee runs, arguments and keywords bound -/
theorem run_g {pins : List (Addr × Obj)} {σ : L2.St} {H : Hp} {s : Shared} {Q : VK} {args : Args} {us : List Value} {vs : List V} (F : Fk X.prog X.w X.K X.mg X.base k f fd ps sp) (hr : Rm k X.A) (tk : Takes X W)
    (I : Inv X pins σ H s) (hb : BindsTo s fd args (ps.zip us)) (rv : Vals vs us) (h : sp vs H Q (WE W σ)) : wpAny (model X.prog X.w) X.A (call (.ref f) args.pos args.kw) (EP X pins σ Q) X.xe s := by
  refine wpAny_call (codeAny_mono (F.run X.A X.stack s H args us vs Q (WE W σ) hr I.env0 hb rv h) fun rr s2 hq => ?_)
  cases rr with
  | error er => exact passAt tk σ pins H s er s2 I hq
  | ok fl =>
    cases fl with
    | ret u => exact I.after hq
    | next => exact hq.elim
    | brk => exact hq.elim
    | cont => exact hq.elim
/-- .. with the defaults behind -/
theorem run_d {pins : List (Addr × Obj)} {σ : L2.St} {H : Hp} {s : Shared} {Q : VK} {us : List Value} {vs : List V} (F : Fk X.prog X.w X.K X.mg X.base k f fd ps sp) (hr : Rm k X.A) (hb : Binds X.K fd ps ds) (hd : Vals dv ds) (tk : Takes X W)
    (I : Inv X pins σ H s) (rv : Vals vs us) (h : sp (vs ++ dv) H Q (WE W σ)) : wpAny (model X.prog X.w) X.A (call (.ref f) us) (EP X pins σ Q) X.xe s := by
  have r2 : Vals (vs ++ dv) (us ++ ds) := rv.append hd
  exact run_g (args := ⟨us, []⟩) F hr tk I (hb s us I.kIn (by rw [← r2.length]; exact F.len _ _ _ _ h)) r2 h
theorem pe_fn (F : Fk X.prog X.w X.K X.mg X.base k f fd ps sp) (hr : Rm k X.A) (hg : Gl X x) (hm : X.mg x = some (.ref f)) (hk : PySem.W.keepIn X.K (.ref f) = true) (hb : Binds X.K fd ps ds) (hd : Vals dv ds) (tk : Takes X W)
    (ha : PA X (e :: es) ta) (hdb : (x == ("__debug__" : Str)) = false := by decide) (he : starEach (e :: es) X.env = (false, eval e X.env) :: starEach es X.env := by rfl) (hpl : (backTo pos (starEach es X.env)).any (·.1) = false := by rfl) :
    PE X (.Call (.Name x p) (e :: es) [] pos) (tFn sp dv W ta) := by
  refine ⟨fun pins s σ H Q I h => wpAny_Call_Name_kw (ld_glob I hg hm ?_ hdb)⟩
  refine PySem.W.callWith_K (h₀ := X.base) I.ok.mod.kin hk (thn (ha.run pos pins s σ H _ I h) fun us s1 ⟨vs, H1, I1, r1, q1⟩ => ⟨I1.kIn, ?_⟩) he hpl
  exact run_d F hr hb hd tk I1 r1 q1
theorem pe_fnK0 (F : Fk X.prog X.w X.K X.mg X.base k f fd ps sp) (hr : Rm k X.A) (hg : Gl X x) (hm : X.mg x = some (.ref f)) (hk : PySem.W.keepIn X.K (.ref f) = true) (hb : KBn X.K fd ps 0 ks g gV) (tks : Takes X W)
    (hkw : PK X kws tk) (hall : (backToKw pos (keywordEach kws X.env)).all (·.1.isSome) = true := by rfl) (hks : (backToKw pos (keywordEach kws X.env)).filterMap (·.1) = ks := by rfl) (hmm : ks.length = mm := by rfl)
    (hdb : (x == ("__debug__" : Str)) = false := by decide) (hpl : ((backTo pos (starEach [] X.env)).any (·.1) || (backToKw pos (keywordEach kws X.env)).any (·.1.isNone)) = false := by rfl) :
    PE X (.Call (.Name x p) [] kws pos) (tFnK 0 mm sp gV W tNil tk) := by
  refine ⟨fun pins s σ H Q I h => wpAny_Call_Name_kw (ld_glob I hg hm ?_ hdb)⟩
  refine PySem.W.callWith_KW0 (h₀ := X.base) I.ok.mod.kin hk hall ?_ hpl
  refine thn (hkw.run pos pins s σ H _ I h) fun ws s2 ⟨zs, H2, I2, rz, l1, l2, q2⟩ => ⟨I2.kIn, ?_⟩
  rw [hks]
  subst hmm
  exact run_g (args := ⟨[], ks.zip ws⟩) F hr tks I2 (hb.to s2 [] ws I2.kIn rfl (rz.length.symm.trans l2)) (hb.rel .nil rz) q2
end
end SJ
namespace SJ
open PySem PySem.Spec PyProof.Rows L2 He
end SJ
namespace SJ
open PySem PySem.Spec PyProof.Rows L2 He
def rRepr (K : PySem.W.Frag) : List V → Hp → VK → Prop := fun xs H Q => ∃ (x : V) (d : PyData), xs = [x] ∧ Dp K H x d ∧ d.showable = true ∧ d.depth ≤ 100 ∧ d.shown.length ≤ sizeLine ∧ Q (.str d.shown) H
mutual
theorem Dp.noDict {K : PySem.W.Frag} {H : Hp} : ∀ (d : PyData) (x : V), Dp K H x d → d.hasDict = false
  | .none, _, _ => by simp only [PyData.hasDict]
  | .bool _, _, _ => by simp only [PyData.hasDict]
  | .int _, _, _ => by simp only [PyData.hasDict]
  | .str _, _, _ => by simp only [PyData.hasDict]
  | .list ds, _, h => by
    cases h with
    | lst _ ha => simp only [PyData.hasDict]; exact DpAll.noDict ds _ ha
  | .tuple ds, _, h => by
    cases h with
    | tup _ ha => simp only [PyData.hasDict]; exact DpAll.noDict ds _ ha
  | .dict _, _, h => by cases h
theorem DpAll.noDict {K : PySem.W.Frag} {H : Hp} : ∀ (ds : List PyData) (xs : List V), DpAll K H xs ds → PyData.hasDictAll ds = false
  | [], _, _ => by simp only [PyData.hasDictAll]
  | d :: ds, _, h => by
    cases h with
    | cons h1 h2 => simp only [PyData.hasDictAll, Dp.noDict d _ h1, DpAll.noDict ds _ h2, Bool.or_false]
end
section
variable {X : Cx} {k : Nat}
theorem c_repr (hr : Rm k X.A) : CallR X (.builtin "repr") (rRepr X.K) := by
  intro pins s σ H xs us Q I r h
  obtain ⟨x, d, rfl, hd, sh, dp, sz, q⟩ := h
  obtain ⟨u1, rfl, r1⟩ := vals1 r
  obtain ⟨as, rd⟩ := Dp.reads I d x u1 hd r1
  have hu : X.A.units + (d.depth + 1) < cLine := by have := hr.r.un; omega
  have fin : ∀ (h2 : Heap) (u : Tok) (tk : Nat), (∀ b o, s.heap.get? b = some o → h2.get? b = some o) → EP X pins σ Q (.str d.shown u) { s with heap := h2, toks := tk } := fun h2 u tk kp => ⟨.str d.shown, H, I.kept kp, ⟨u, rfl⟩, q⟩
  cases hd with
  | non => obtain rfl : u1 = Value.none := r1; exact P.repr_of_none (fin _ _ _ fun _ _ z => z)
  | bl b => obtain rfl : u1 = Value.bool b := r1; exact P.repr_of_bool (fin _ _ _ fun _ _ z => z)
  | int i => obtain ⟨t, rfl⟩ := r1; exact P.repr_of_int (of_decide_eq_true sh) (fin _ _ _ fun _ _ z => z)
  | str z => obtain ⟨t, rfl⟩ := r1; exact P.repr_of_str (fin _ _ _ fun _ _ z => z) (by simpa only [PyData.shown] using sz)
  | @lst a ys ds hs ha => obtain rfl : u1 = Value.ref a := r1; exact repr_of_reads' rd sh (PyData.noDict_hsm (Dp.noDict _ _ (.lst hs ha))) hr.g hu (fun _ _ z => z) fin sz
  | @tup a ys ds hs ha => obtain rfl : u1 = Value.ref a := r1; exact repr_of_reads' rd sh (PyData.noDict_hsm (Dp.noDict _ _ (.tup hs ha))) hr.g hu (fun _ _ z => z) fin sz
end
end SJ
namespace SJ
open PySem PySem.Spec PyProof.Rows L2 He
/-- an exception is made: its dict is new -/
def tX (C : Addr) (fs : List Str) (ta : TA) : L2.St → Hp → XK → Prop := fun σ H Q => ta σ H fun vs H1 => vs.length = fs.length ∧ ∀ d, H1 d = none → Q (.ref C) (some d) (upd H1 d (.xd (fs.zip vs).reverse))
end SJ
namespace SJ
open PySem PySem.Spec PyProof.Rows L2 He
/-- an __init__ with super(): its class's name, qualified name, parameters, body, scope -/
structure XD where
  cls : Str
  qual : Str
  params : Arguments
  body : List Stmt
  scope : Scope
abbrev FnX : Type := Option (Str × Str × Arguments × FuncBody × Scope × Addr × List Str × Addr)
def XD.ad (d : XD) (K : PySem.W.Frag) : Addr := ma K (ga K d.cls) "__init__"
def fnXA (K : PySem.W.Frag) (a : Addr) : FnX := match K.lookup a with
  | some ⟨_, _, .func fd, _⟩ => some (fd.name, fd.qualname, fd.params, fd.body, fd.scope, fd.globals, fd.closure.map (·.1), fd.builtins)
  | _ => none
def XD.val (d : XD) : FnX := some ("__init__", d.qual, d.params, .stmts d.body, d.scope, mainGlobals, ["__class__"], builtinsNs)
def isNoneV : Value → Bool
  | .none => true
  | _ => false
def cdaA (K : PySem.W.Frag) (a : Addr) : Addr := match K.lookup a with
  | some ⟨_, _, .func fd, _⟩ => (match fd.code with
    | .ref c => c
    | _ => 0)
  | _ => 0
def XD.ok (file : Str) (K : PySem.W.Frag) (d : XD) : Bool := match K.lookup (d.ad K) with
  | some ⟨_, _, .func fd, _⟩ => isNoneV fd.defaults && (decide (fd.code = .ref (cdaA K (d.ad K))) && (PySem.W.codeIn K fd.code d.qual && ((match K.lookup (cdaA K (d.ad K)) with
    | some ⟨_, _, .fields vs, _⟩ => (match (vs[2]? : Option Value) with
      | some (.str fi _) => file == fi
      | _ => false)
    | _ => false) && (match fd.closure with
      | [(_, c)] => (match K.lookup c with
        | some ⟨_, _, .cell (some (.ref D)), _⟩ => D == ga K d.cls
        | _ => false)
      | _ => false))))
  | _ => false
def asS (g : Addr → Option Obj) : Nat → List Addr
  | 0 => [mainGlobals, cStatics]
  | n + 1 => growD g (asS g n)
abbrev AlZ : Type := Bool × List FnW × List FnX
def obsZ (file : Str) (fa : List Tst) (fn : List DD) (fx : List XD) (K : PySem.W.Frag) : AlZ := ((fa.all fun f => f K) && ((fn.all fun d => d.ok K) && fx.all fun d => d.ok file K), fn.map (fun d => fnA K (d.ad K)), fx.map fun d => fnXA K (d.ad K))
def valZ (fn : List DD) (fx : List XD) : AlZ := (true, fn.map DD.val, fx.map XD.val)
def SaysZ (file : Str) (fa : List Tst) (fn : List DD) (fx : List XD) (K : PySem.W.Frag) : Prop := obsZ file fa fn fx K = valZ fn fx
def obsZG (n : Nat) (file : Str) (fa : List Tst) (fn : List DD) (fx : List XD) (g : Addr → Option Obj) : AlZ := obsZ file fa fn fx (frG g (sysModules :: asS g n))
def hookZ (n : Nat) (file : Str) (fa : List Tst) (fn : List DD) (fx : List XD) : PySem.W.Hook where
  α := AlZ
  obs := fun s => obsZG n file fa fn fx s.heap.get?
  val := fun _ => valZ fn fx
  says := fun _ h => ∃ K : PySem.W.Frag, K.In h ∧ SaysZ file fa fn fx K
  of := fun _ _ e => ⟨_, frG_in, e⟩
  keeps := fun _ _ _ ⟨K, hK, c⟩ k => ⟨K, PySem.W.Frag.In.keeps hK k, c⟩
theorem obsZG_eq {n : Nat} {file : Str} {fa : List Tst} {fn : List DD} {fx : List XD} {g : Addr → Option Obj} {s : Shared} (h : ∀ a, g a = s.heap.get? a) : obsZG n file fa fn fx g = (hookZ n file fa fn fx).obs s := by
  have e : g = s.heap.get? := funext h
  rw [e] <;> rfl
section
variable {file : Str} {fa : List Tst} {fn : List DD} {fx : List XD} {K : PySem.W.Frag}
theorem SaysZ.b (c : SaysZ file fa fn fx K) : (fa.all fun f => f K) = true ∧ (fn.all fun d => d.ok K) = true ∧ (fx.all fun d => d.ok file K) = true := by
  obtain ⟨h1, h2⟩ := ba (show ((fa.all fun f => f K) && ((fn.all fun d => d.ok K) && fx.all fun d => d.ok file K)) = true from congrArg (fun z : AlZ => z.1) c)
  obtain ⟨h3, h4⟩ := ba h2
  exact ⟨h1, h3, h4⟩
theorem SaysZ.fact (c : SaysZ file fa fn fx K) (i : Nat) {f : Tst} (h : fa[i]? = some f := by rfl) : f K = true := List.all_eq_true.mp c.b.1 f (List.mem_of_getElem? h)
theorem SaysZ.def_ (c : SaysZ file fa fn fx K) (i : Nat) {d : DD} (h : fn[i]? = some d := by rfl) : ∃ fd, FunD K d.name d.qual d.params d.body d.scope (d.dvs K) (d.kws K) (d.ad K) fd := by
  have e : fn.map (fun d => fnA K (d.ad K)) = fn.map DD.val := congrArg (fun z : AlZ => z.2.1) c
  have e2 : (fn.map fun d => fnA K (d.ad K))[i]? = (fn.map DD.val)[i]? := by rw [e]
  rw [List.getElem?_map, List.getElem?_map, h] at e2
  exact DD.funD (Option.some.inj e2) (List.all_eq_true.mp c.b.2.1 d (List.mem_of_getElem? h))
theorem SaysZ.exc (c : SaysZ file fa fn fx K) (i : Nat) {d : XD} (h : fx[i]? = some d := by rfl) : fnXA K (d.ad K) = d.val ∧ d.ok file K = true := by
  have e : fx.map (fun d => fnXA K (d.ad K)) = fx.map XD.val := congrArg (fun z : AlZ => z.2.2) c
  have e2 : (fx.map fun d => fnXA K (d.ad K))[i]? = (fx.map XD.val)[i]? := by rw [e]
  rw [List.getElem?_map, List.getElem?_map, h] at e2
  exact ⟨Option.some.inj e2, List.all_eq_true.mp c.b.2.2 d (List.mem_of_getElem? h)⟩
end
/-- the class of an own instance for isinstance -/
structure InT (K : PySem.W.Frag) (C : Addr) : Prop where
  cl : Cls K C
  ha : PySem.W.findIn K (.ref C) "__class__" = some (some (.builtin "object.__class__"))
  hn : PySem.W.specialIn K (.builtin "object.__class__") "__get__" = some (some (.builtin "getset_descriptor.__get__"))
  htk : PySem.W.takesIn K (.builtin "object.__class__") = some true
  hm : PySem.W.mroIn K C (.type "object") = some true
  kp : PySem.W.keepIn K (.ref C) = true
theorem InT.ty {K : PySem.W.Frag} {C : Addr} (T : InT K C) {H : Hp} {a dx : Addr} {fs : List (Str × V)} (e : H a = some (.ins C dx fs)) : TyX K H (.ref a) (.ref C) := .base (.ins e T.cl T.ha T.hn T.htk T.hm)
/-- an answer of isinstance, of a subclass, of an except clause -/
def kitT (t c : PySem.W.Frag → Value) (b : Bool) : Tst := fun K => decide (PySem.W.kitOne K (t K) (c K) = some b)
theorem kitT_ok {K : PySem.W.Frag} {t c : PySem.W.Frag → Value} {b : Bool} (h : kitT t c b K = true) : PySem.W.kitOne K (t K) (c K) = some b := of_decide_eq_true h
theorem kw_of {K : PySem.W.Frag} {x qual : Str} {pa : Arguments} {bo : List Stmt} {sc : Scope} {f : Addr} {fd : FuncData} {ps ks : List Str} {n : Nat} {g : List Value → List Value → List Value} {gV : List V → List V → List V} (F : FunD K x qual pa bo sc [] [] f fd)
    (h : ∀ (kV doc pm : Value) (an : Option Addr) (cdv ct : Value) (us ws : List Value), us.length = n → ws.length = ks.length → bindArgs (PySem.W.fnOf x qual pa bo sc .none kV doc pm an cdv ct) ⟨us, ks.zip ws⟩ = pure (ps.zip (g us ws)))
    (rel : ∀ {vs : List V} {us : List Value} {zs : List V} {ws : List Value}, Vals vs us → Vals zs ws → Vals (gV vs zs) (g us ws)) : KBn K fd ps n ks g gV := by
  obtain ⟨oc, od, dV, kV, doc, pm, an, cdv, ct, osl, rfl, lk, hcd, hD, hK⟩ := F.ex
  rcases hD with ⟨_, rfl⟩ | ⟨e, _⟩
  · exact ⟨fun s us ws _ l1 l2 => .of_eq (h kV doc pm an cdv ct us ws l1 l2), rel⟩
  · exact absurd rfl e
end SJ
namespace SJ
open PySem PySem.Spec PyProof.Rows L2 He
abbrev WO (E : XK) : WX := fun cls d _ H => E cls d H
def tRz (C : Addr) (fs : List Str) (W : WX) (ta : TA) : TS := fun _ σ H => tX C fs ta σ H fun cls d H2 => W cls d σ H2
def tFS (ts : List TE) : TE := fun σ H Q => tJs ts Str.empty σ H fun out H1 => Q (.str out) H1
def kwV (ix : List Nat) : List V → List V → List V := fun vs zs => ix.map fun i => (vs ++ zs).getD i .non
def kwW (ix : List Nat) : List Value → List Value → List Value := fun us ws => ix.map fun i => (us ++ ws).getD i .none
theorem kw_rel {ix : List Nat} {vs : List V} {us : List Value} {zs : List V} {ws : List Value} (r1 : Vals vs us) (r2 : Vals zs ws) : Vals (kwV ix vs zs) (kwW ix us ws) := by
  have r := r1.append r2
  unfold kwV kwW
  induction ix with
  | nil => exact .nil
  | cons i ix ih =>
    refine .cons ?_ ih
    show RelV ((vs ++ zs).getD i .non) ((us ++ ws).getD i .none)
    rw [List.getD_eq_getElem?_getD, List.getD_eq_getElem?_getD]
    cases q : (vs ++ zs)[i]? with
    | none => rw [r.none_of q]; rfl
    | some v => obtain ⟨u, e, rv⟩ := r.get q; rw [e]; exact rv
section
variable {K : PySem.W.Frag} {σ : L2.St} {H : Hp} {Q : VK} {QT : Bool → Hp → Prop} {ta tk : TA} {te to : TE} {D : Ends} {ts tu : TS} {sp : Sp} {dv : List V} {W : WX} {v : V} {a C dx p g : Addr} {fs : List (Str × V)} {f m : Str} {n : Nat} {b : Bool}
theorem x_fn (k : ta σ H fun vs H1 => sp (vs ++ dv) H1 Q (WE W σ)) : tFn sp dv W ta σ H Q := k
theorem x_nw (k : ta σ H fun vs H1 => ∀ x dx, H1 x = none → H1 dx = none → dx ≠ x → sp (.ref x :: (vs ++ dv)) (upd (upd H1 dx (.own x)) x (.ins C dx [])) (fun v H2 => v = .non ∧ Q (.ref x) H2) (WE W σ)) : tNw C sp dv W ta σ H Q := k
theorem x_rz {C : Addr} {fs : List Str} (k : ta σ H fun vs H1 => vs.length = fs.length ∧ ∀ d, H1 d = none → W (.ref C) (some d) σ (upd H1 d (.xd (fs.zip vs).reverse))) : tRz C fs W ta D σ H := k
theorem x_bm {T : String} {r : V → List V → Hp → VK → Prop} (k : to σ H fun x H1 => tyV K T x H1 ∧ ta σ H1 fun xs H2 => r x xs H2 Q) : tBM K T r to ta σ H Q := k
theorem x_par {i j : Nat} (k : ta σ H fun vs H1 => ∃ v w, vs = [v, w] ∧ D.nx ((σ.set i (some v)).set j (some w)) H1) : tPar i j ta D σ H := k
end
end SJ
namespace SJ
open PySem PySem.Spec PyProof.Rows L2 He
def gFld (K : PySem.W.Frag) (f : Str) (x : V) (H : Hp) (Q : VK) : Prop := ∃ a C dx fs v, x = .ref a ∧ H a = some (.ins C dx fs) ∧ Cls K C ∧ NoAttr K C f ∧ fs.lookup f = some v ∧ Q v H
def gCon (K : PySem.W.Frag) (f : Str) (x : V) (H : Hp) (Q : VK) : Prop := ∃ a C dx fs v u, x = .ref a ∧ H a = some (.ins C dx fs) ∧ Cls K C ∧ Con K C f v u ∧ fs.lookup f = none ∧ Q v H
def gPr (K : PySem.W.Frag) (f : Str) (g : Addr) (sp : Sp) (x : V) (H : Hp) (Q : VK) : Prop := ∃ a C dx fs pp, x = .ref a ∧ H a = some (.ins C dx fs) ∧ Cls K C ∧ PropOf K C f pp g ∧ sp [x] H Q E0
def gSt (K : PySem.W.Frag) (f : Str) (y x : V) (H : Hp) (N : Hp → Prop) : Prop := ∃ a C dx fs, x = .ref a ∧ H a = some (.ins C dx fs) ∧ Cls K C ∧ NoAttr K C f ∧ fs.length < 1000 ∧ N (upd H a (.ins C dx (putF f y fs)))
section
variable {K : PySem.W.Frag} {σ : L2.St} {H : Hp} {Q : VK} {QT : Bool → Hp → Prop} {QA : List V → Hp → Prop} {ta tk : TA} {te to tb tc : TE} {D : Ends} {ts tu : TS} {sp : Sp} {dv : List V} {W : WX} {v x y c : V} {a C dx p g : Addr} {fs : List (Str × V)} {f m : Str} {n : Nat} {b : Bool} {r r2 : R2} {t u : Value}
theorem x_fld0 (k : te σ H fun x H1 => gFld K f x H1 Q) : tFld K te f σ H Q := k
theorem x_con0 (k : te σ H fun x H1 => gCon K f x H1 Q) : tCon K te f σ H Q := k
theorem x_pr0 (k : te σ H fun x H1 => gPr K f g sp x H1 Q) : tPr K f g sp te σ H Q := k
theorem x_sfld (k : te σ H fun y H1 => to σ H1 fun x H2 => gSt K f y x H2 (D.nx σ)) : sFld K to te f D σ H := k
theorem x_chain (k : te σ H fun x H1 => tb σ H1 fun y H2 => r x y H2 fun z H3 => ∃ k, z = .bl k ∧ (if k = true then tc σ H3 fun w H4 => r2 y w H4 Q else Q (.bl false) H3)) : tChain r r2 te tb tc σ H Q := k
theorem x_isi {b : Bool} (hc : ClsV c u) (ht : TyX K H x t) (hk : PySem.W.kitOne K t u = some b) (k : Q (.bl b) H) : rIsi K [x, c] H Q := ⟨x, c, t, u, b, rfl, hc, ht, hk, k⟩
theorem x_inSg {c : Nat} {z : Str} (k : Q (.bl (decide (c ∈ z.cps.toList))) H) : rInS (.str ⟨#[c]⟩) (.str z) H Q := ⟨c, z, rfl, rfl, k⟩
theorem x_yes (k : QT true H) : tYes σ H QT := k
theorem x_fs {l : List TE} (k : tJs l Str.empty σ H fun out H1 => Q (.str out) H1) : tFS l σ H Q := k
theorem x_js {l : List TE} {acc : Str} {R : Str → Hp → Prop} (k : te σ H fun x H1 => ∃ y : Str, x = .str y ∧ (acc ++ y).length ≤ sizeLine ∧ tJs l (acc ++ y) σ H1 R) : tJs (te :: l) acc σ H R := k
theorem x_js0 {acc : Str} {R : Str → Hp → Prop} (k : R acc H) : tJs [] acc σ H R := k
end
end SJ
namespace SJ
open PySem PySem.Spec PyProof.Rows L2 He
theorem ite_t {A B : Prop} (h : A) : if (true : Bool) = true then A else B := by rw [if_pos rfl]; exact h
theorem ite_f {A B : Prop} (h : B) : if (false : Bool) = true then A else B := by rw [if_neg Bool.false_ne_true]; exact h
theorem ite_n {A B : Prop} {b : Bool} (h : if b = true then B else A) : if (!b) = true then A else B := by cases b <;> exact h
theorem x_bl2 {P : Bool → Prop} {b : Bool} (k : P b) : ∃ c, V.bl b = .bl c ∧ P c := ⟨b, rfl, k⟩
theorem x_st2 {P : Str → Prop} {b : Str} (k : P b) : ∃ c, V.str b = .str c ∧ P c := ⟨b, rfl, k⟩
def gFmt (x : V) (H1 : Hp) (Q : VK) : Prop := (∃ y : Str, x = .str y ∧ y.length ≤ sizeLine ∧ Q (.str y) H1) ∨ ∃ i : Int, x = .int i ∧ i.natAbs.log2 < 1920 ∧ Q (.str (toString i)) H1
section
variable {K : PySem.W.Frag} {σ : L2.St} {H : Hp} {Q : VK} {te : TE}
theorem x_fmtE (k : te σ H fun x H1 => gFmt x H1 Q) : tFmt te σ H Q := k
def gM0 (r : V → List V → Hp → VK → Prop) (x : V) (H : Hp) (Q : VK) : Prop := (∃ a, x = .str a) ∧ r x [] H Q
theorem x_m0 {r : V → List V → Hp → VK → Prop} (k : te σ H fun x H1 => gM0 r x H1 Q) : tM0 r te σ H Q := k
end
end SJ
namespace SJ
open PySem PySem.Spec PyProof.Rows L2 He
local macro_rules | `(tactic| walk_at "go") => `(tactic| (repeat (first
  | with_reducible apply x_seq | with_reducible apply x_asg | with_reducible apply x_ret | with_reducible apply x_if | with_reducible apply x_test | with_reducible apply x_B | with_reducible apply x_op | (with_reducible apply x_var rfl) | with_reducible apply x_c
  | with_reducible apply x_cb | with_reducible apply x_cons | with_reducible apply x_nil | with_reducible apply x_bl2 | with_reducible apply x_st2 | with_reducible apply ite_t | with_reducible apply ite_f | with_reducible apply ite_n | with_reducible apply x_and | with_reducible apply x_or | with_reducible apply x_not | with_reducible apply x_andV | with_reducible apply x_orV | with_reducible apply x_notV
  | with_reducible apply x_addI | with_reducible apply x_sub' | with_reducible apply x_eqI | with_reducible apply x_neI | with_reducible apply x_eqT | with_reducible apply x_neT | with_reducible apply x_ltI | with_reducible apply x_leI | with_reducible apply x_gtI | with_reducible apply x_geI
  | with_reducible apply x_intI | with_reducible apply x_intBl | with_reducible apply x_absI | with_reducible apply x_asgG | with_reducible apply x_sub | with_reducible apply x_lst | with_reducible apply x_tup | with_reducible apply x_next | with_reducible apply x_drop
  | with_reducible apply x_ife | with_reducible apply x_chain | with_reducible apply x_inSg | with_reducible apply x_yes | with_reducible apply x_fs | with_reducible apply x_js | with_reducible apply x_js0 | with_reducible apply x_fmtE | with_reducible apply x_m0 | with_reducible apply x_fld0 | with_reducible apply x_con0 | with_reducible apply x_pr0 | with_reducible apply x_sfld
  | (with_reducible refine x_new ?_ ?_; · exact Nat.le_of_ble_eq_true rfl)
  | with_reducible apply x_fn | with_reducible apply x_nw | with_reducible apply x_bm | with_reducible apply x_par | with_reducible apply x_rz | with_reducible apply x_retN | with_reducible apply x_un | with_reducible apply x_U)))
theorem dp_ints {K : PySem.W.Frag} {H : Hp} : ∀ ns : List Int, DpAll K H (ns.map V.int) (ns.map PyData.int)
  | [] => .nil
  | n :: ns => .cons (.int n) (dp_ints ns)
theorem lay_all : ∀ ds : List PyData, (∀ d ∈ ds, d.canLay0 = true) → PyData.canLayAll0 ds = true
  | [], _ => by simp only [PyData.canLayAll0]
  | d :: ds, h => by
    simp only [PyData.canLayAll0]
    rw [h d (List.mem_cons_self ..), lay_all ds fun e q => h e (List.mem_cons_of_mem _ q)]
    rfl
theorem dep_all {n : Nat} : ∀ ds : List PyData, (∀ d ∈ ds, d.depth ≤ n) → PyData.depthAll ds ≤ n
  | [], _ => by simp only [PyData.depthAll]; exact Nat.zero_le _
  | d :: ds, h => by
    simp only [PyData.depthAll]
    exact Nat.max_le.mpr ⟨h d (List.mem_cons_self ..), dep_all ds fun e q => h e (List.mem_cons_of_mem _ q)⟩
/-- may lie in an equation -/
def Lay (n : Nat) (d : PyData) : Prop := d.canLay0 = true ∧ d.depth ≤ n
theorem Lay.sh {n : Nat} {d : PyData} (h : Lay n d) (l : n ≤ 64) : SeqAt.shaped d = true := by
  unfold SeqAt.shaped
  rw [h.1, decide_eq_true (Nat.le_trans h.2 l)]
  rfl
theorem Lay.int {n : Nat} {i : Int} : Lay n (.int i) := ⟨by simp only [PyData.canLay0], by simp only [PyData.depth]; exact Nat.zero_le _⟩
theorem Lay.bl {n : Nat} {i : Bool} : Lay n (.bool i) := ⟨by simp only [PyData.canLay0], by simp only [PyData.depth]; exact Nat.zero_le _⟩
theorem Lay.non {n : Nat} : Lay n .none := ⟨by simp only [PyData.canLay0], by simp only [PyData.depth]; exact Nat.zero_le _⟩
theorem Lay.str {n : Nat} {z : Str} (h : PyData.strOk z = true) : Lay n (.str z) := ⟨by simp only [PyData.canLay0]; exact h, by simp only [PyData.depth]; exact Nat.zero_le _⟩
theorem Lay.lst {n : Nat} {ds : List PyData} (h : ∀ d ∈ ds, Lay n d) : Lay (n + 1) (.list ds) := ⟨by simp only [PyData.canLay0]; exact lay_all ds fun d q => (h d q).1, by simp only [PyData.depth]; exact Nat.succ_le_succ (dep_all ds fun d q => (h d q).2)⟩
theorem Lay.tup {n : Nat} {ds : List PyData} (h : ∀ d ∈ ds, Lay n d) : Lay (n + 1) (.tuple ds) := ⟨by simp only [PyData.canLay0]; exact lay_all ds fun d q => (h d q).1, by simp only [PyData.depth]; exact Nat.succ_le_succ (dep_all ds fun d q => (h d q).2)⟩
theorem lay_ints {n : Nat} {ns : List Int} : Lay (n + 1) (.list (ns.map PyData.int)) := .lst fun d q => by
  obtain ⟨i, _, rfl⟩ := List.mem_map.mp q
  exact .int
/-- xs != [] -/
theorem x_sl {K : PySem.W.Frag} {σ : L2.St} {H : Hp} {Q : VK} {te : TE} {tl th : TO} {r : V → Option Int → Option Int → Hp → VK → Prop} (k : te σ H fun x H1 => tl σ H1 fun l H2 => th σ H2 fun u H3 => r x l u H3 Q) : tSl r te tl th σ H Q := k
theorem x_noPart {σ : L2.St} {H : Hp} {P : Option Int → Hp → Prop} (k : P none H) : tNoPart σ H P := k
theorem x_part {σ : L2.St} {H : Hp} {te : TE} {P : Option Int → Hp → Prop} (k : te σ H fun x H1 => ∃ i, x = .int i ∧ P (some i) H1) : tPart te σ H P := k
theorem x_in2 {P : Int → Prop} {b : Int} (k : P b) : ∃ c, V.int b = .int c ∧ P c := ⟨b, rfl, k⟩
theorem x_neNil {K : PySem.W.Frag} {H : Hp} {a b : Addr} {xs : List V} {ds : List PyData} {Q : VK} (h : SqL K H a xs) (hd : DpAll K H xs ds) (hl : Lay 64 (.list ds)) (hb : H b = some (.lst [])) (k : Q (.bl (!decide (ds = []))) H) : rNeU K (.ref a) (.ref b) H Q := by
  refine x_neDD (.lst h hd) (.lst (SqL.of hb) .nil) (hl.sh (Nat.le_refl _)) rfl ?_
  have e : PyData.eqv (.list ds) (.list []) = decide (ds = []) := by
    cases ds with
    | nil => rfl
    | cons d ds => rfl
  rw [e]
  exact k
theorem del_ne_of {H : Hp} {p a : Addr} {o : HO} (h : L2.del H p a = some o) : a ≠ p := del_some h
theorem atI_in {α : Type} {xs : List α} {i : Int} (h0 : 0 ≤ i) (h1 : i < xs.length) : ∃ v, xs[i.toNat]? = some v ∧ atI xs i = some v := by
  have h2 : i.toNat < xs.length := by omega
  refine ⟨xs[i.toNat], List.getElem?_eq_getElem h2, ?_⟩
  unfold atI ixN
  rw [if_pos h0, if_pos h1]
  exact List.getElem?_eq_getElem h2
structure Pen where
  p : Addr
  c : Addr
  ns : List Int
/-- the pen P: at most n draws so far -/
def PenAt (H : Hp) (P : Pen) (n : Nat) : Prop := ∃ (a r : Int), H P.p = some (.lst [.ref P.c, .int a, .int r]) ∧ L2.del H P.p P.c = some (.lst (P.ns.map V.int)) ∧ 0 ≤ a ∧ a ≤ n ∧ 0 ≤ r ∧ P.ns.length ≤ 1000
def spPen (K : PySem.W.Frag) : Sp := fun vs H Q _ => ∃ (a : Addr) (ns : List Int), vs = [.ref a] ∧ SqL K H a (ns.map V.int) ∧ ns.length ≤ 63 ∧ ∀ P H2, H P.p = none → Same H H2 → PenAt H2 P 0 → Q (.ref P.p) H2
def spDraw : Sp := fun vs H Q _ => ∃ (P : Pen) (m : Int) (n : Nat), vs = [.ref P.p, .int m] ∧ PenAt H P n ∧ n < 100000 ∧ 0 < m ∧ m < 1073741824 ∧
  ∀ (H2 : Hp) (r : Int), 0 ≤ r → r < m → PenAt H2 P (n + 1) → Same (L2.del H P.p) (L2.del H2 P.p) → Q (.int r) H2
theorem PenAt.at {H : Hp} {P : Pen} {n : Nat} (h : PenAt H P n) : ∃ xs, H P.p = some (.lst xs) := by
  obtain ⟨a, r, h, _⟩ := h
  exact ⟨_, h⟩
theorem PenAt.cell {H : Hp} {P : Pen} {n : Nat} (h : PenAt H P n) : L2.del H P.p P.c = some (.lst (P.ns.map V.int)) := by
  obtain ⟨a, r, _, h, _⟩ := h
  exact h
theorem PenAt.ne {H : Hp} {P : Pen} {n : Nat} {l : Addr} (h : PenAt H P n) (e : H l = none) : l ≠ P.p ∧ l ≠ P.c := by
  obtain ⟨a, r, h1, h2, _⟩ := h
  exact ⟨(fun q => by rw [q, h1] at e; cases e), (fun q => by rw [q, del_sub h2] at e; cases e)⟩
theorem PenAt.mono {H H2 : Hp} {P : Pen} {n m : Nat} (h : PenAt H P n) (s : Same H H2) (l : n ≤ m) : PenAt H2 P m := by
  obtain ⟨a, r, h1, h2, h3, h4, h5, h6⟩ := h
  exact ⟨a, r, s _ _ h1, Same.del s _ _ h2, h3, by omega, h5, h6⟩
theorem PenAt.upd {H : Hp} {P : Pen} {l : Addr} {n : Nat} {o : HO} (h : PenAt H P n) (e : l ≠ P.p ∧ l ≠ P.c) : PenAt (L2.upd H l o) P n := by
  obtain ⟨a, r, h1, h2, h3, h4, h5, h6⟩ := h
  refine ⟨a, r, by rw [upd_ne (Ne.symm e.1)]; exact h1, ?_, h3, h4, h5, h6⟩
  rw [del_upd_ne e.1, upd_ne (Ne.symm e.2)]
  exact h2
def tPen (K : PySem.W.Frag) : TS := (tRet (tLst (tCons (tCB (rListU K) (tCons (tSl (rSlU K) (tVar 0) tNoPart (tPart (tC (.int 63)))) tNil)) (tCons (tC (.int 0)) (tCons (tC (.int 0)) tNil)))))
section
variable {K : PySem.W.Frag} {vs : List V} {H : Hp} {Q : VK} {E : XK} {n0 n1 n2 n3 n4 n5 n6 : Str} {D : Ends}
theorem len_pen (h : spPen K vs H Q E) : vs.length = 1 := by obtain ⟨a, ns, rfl, _⟩ := h; rfl
theorem mul_bd {a b A B : Int} (h0 : 0 ≤ a) (h1 : a ≤ A) (h2 : 0 ≤ b) (h3 : b ≤ B) : 0 ≤ a * b ∧ a * b ≤ A * B := ⟨Int.mul_nonneg h0 h2, Int.mul_le_mul h1 h3 h2 (by omega)⟩
theorem cut_ints {j : Int} {ns : List Int} (h : 0 ≤ j) : cutV (ns.map V.int) none (some j) = (ns.take (min j.toNat ns.length)).map V.int := by
  have e : ¬ j < 0 := by omega
  show ((ns.map V.int).drop 0).take ((if j < 0 then (j + ((ns.map V.int).length : Int)).toNat else min j.toNat (ns.map V.int).length) - 0) = _
  rw [if_neg e, List.drop_zero, List.length_map, Nat.sub_zero, List.map_take]
theorem pen_ok (h : spPen K vs H Q E) : tPen K { nx := fun _ H2 => Q .non H2, rt := Q } (start [n0] vs) H := by
  obtain ⟨a, ns, rfl, ha, hns, k⟩ := h
  unfold tPen
  walk_at "go"
  refine ⟨_, rfl, ?_⟩
  refine ⟨_, rfl, .inl ⟨a, _, rfl, ha, fun q hq => ?_⟩⟩
  rw [cut_ints (by omega)]
  walk_at "go"
  refine x_listL (SqL.of upd_same) fun q2 hq2 => ?_
  walk_at "go"
  intro p hp
  have e1 : q2 ≠ q := fun e => by rw [e, upd_same] at hq2; cases hq2
  have e2 : q2 ≠ p := fun e => by rw [← e, upd_same] at hp; cases hp
  have hp1 := hp
  rw [upd_ne (Ne.symm e2)] at hp1
  have e3 : p ≠ q := fun e => by rw [e, upd_same] at hp1; cases hp1
  have s1 : Same H (upd H q (.lst ((ns.take (min (Int.toNat 63) ns.length)).map V.int))) := Same.upd (Same.refl _) hq
  refine k ⟨p, q2, ns.take (min (Int.toNat 63) ns.length)⟩ _ (by rw [upd_ne e3] at hp1; exact hp1) (Same.upd (Same.upd s1 hq2) hp) ⟨0, 0, upd_same, ?_, by omega, by omega, by omega, ?_⟩
  · show L2.del _ p q2 = _; rw [del_ne e2, upd_ne e2, upd_same]
  · show (ns.take _).length ≤ 1000; rw [List.length_take]; omega
end
end SJ
namespace SJ
open PySem PySem.Spec PyProof.Rows L2 He
section
variable {K : PySem.W.Frag} {H H2 : Hp}
theorem sqt_same (s : Same H H2) {l : Addr} {xs : List V} (h : SqT K H l xs) : SqT K H2 l xs := by
  rcases h with (h | ⟨o, h⟩) | h
  · exact .inl (.inl (s _ _ h))
  · exact .inl (.inr ⟨o, s _ _ h⟩)
  · exact .inr h
end
end SJ
namespace SJ
open PySem PySem.Spec
end SJ
namespace SJ
open PySem PySem.Spec PyProof.Rows L2 He
end SJ
namespace SJ
open PySem PySem.Spec PyProof.Rows L2 He
def keyP : Key → PyData
  | .inl i => .int i
  | .inr z => .str z
mutual
/-- what a tracked value reads as, dicts among it -/
inductive Dq (K : PySem.W.Frag) (H : Hp) : V → PyData → Prop
  | non : Dq K H .non .none
  | bl (b : Bool) : Dq K H (.bl b) (.bool b)
  | int (i : Int) : Dq K H (.int i) (.int i)
  | str (x : Str) : Dq K H (.str x) (.str x)
  | lst {a : Addr} {xs : List V} {ds : List PyData} : H a = some (.lst xs) → DqAll K H xs ds → Dq K H (.ref a) (.list ds)
  | tup {a : Addr} {xs : List V} {ds : List PyData} : SqT K H a xs → DqAll K H xs ds → Dq K H (.ref a) (.tuple ds)
  | dic {a : Addr} {kvs : List (Key × V)} {ps : List (PyData × PyData)} : H a = some (.dK kvs) → ps.map (·.1) = kvs.map (fun q => keyP q.1) → DqAll K H (kvs.map (·.2)) (ps.map (·.2)) → Dq K H (.ref a) (.dict ps)
inductive DqAll (K : PySem.W.Frag) (H : Hp) : List V → List PyData → Prop
  | nil : DqAll K H [] []
  | cons {v : V} {vs : List V} {d : PyData} {ds : List PyData} : Dq K H v d → DqAll K H vs ds → DqAll K H (v :: vs) (d :: ds)
end
section
variable {X : Cx} {pins : List (Addr × Obj)} {σ : L2.St} {H : Hp} {s : Shared}
theorem not_sys (hk : (X.K.lookup sysModules).isSome = true) (I : Inv X pins σ H s) {a : Addr} {o : HO} (h : H a = some o) : sysModules ≠ a := fun e => by
  obtain ⟨o2, z2⟩ := Option.isSome_iff_exists.mp hk
  have z := (I.bs _ _ (I.ok.mod.kin _ _ z2)).2
  rw [e, h] at z
  cases z
theorem keys_read {P : Program} {w : World} {h : Heap} : ∀ {es : List DictEntry} {kvs : List (Key × V)} {vs : List (Key × Value)}, Pairs (mixKind P w) es vs → KV kvs vs → ReadsAll h (es.map (·.key)) (kvs.map fun q => keyP q.1) [] ∧ Vals (kvs.map (·.2)) (es.map (·.val))
  | _, _, _, .nil, .nil => ⟨.nil, .nil⟩
  | _, _, _, .cons (e := de) (kv := (k, v)) e1 e2 a, .cons (a := (k2, x)) ⟨r1, r2⟩ b => by
    obtain ⟨h1, h2⟩ := keys_read a b
    have r1 : k2 = k := r1
    subst r1
    refine ⟨?_, .cons (by show RelV x de.val; rw [e2]; exact r2) h2⟩
    have e1 : keyIs k2 _ = true := e1
    rcases keyIs_shape e1 with ⟨i, t, rfl, e⟩ | ⟨z, t, rfl, e⟩
    · show ReadsAll h (_ :: _) (.int i :: _) ([] ++ [])
      refine .cons ?_ h1
      show Reads h de.key (.int i) []
      rw [e]
      exact .int i t
    · show ReadsAll h (_ :: _) (.str z :: _) ([] ++ [])
      refine .cons ?_ h1
      show Reads h de.key (.str z) []
      rw [e]
      exact .str z t
mutual
theorem Dq.reads (hk : (X.K.lookup sysModules).isSome = true) (I : Inv X pins σ H s) : ∀ {v : V} {d : PyData} {u : Value}, Dq X.K H v d → RelV v u → ∃ as, Reads s.heap u d as ∧ sysModules ∉ as
  | _, _, _, .non, r => by
    cases r
    exact ⟨_, .none, List.not_mem_nil⟩
  | _, _, _, .bl b, r => by
    cases r
    exact ⟨_, .bool b, List.not_mem_nil⟩
  | _, _, _, .int i, r => by
    obtain ⟨t, rfl⟩ := r
    exact ⟨_, .int i t, List.not_mem_nil⟩
  | _, _, _, .str z, r => by
    obtain ⟨t, rfl⟩ := r
    exact ⟨_, .str z t, List.not_mem_nil⟩
  | _, _, _, .lst e q, r => by
    cases r
    obtain ⟨its, rv, ⟨o, n, ho, hc, _, hd⟩, _⟩ := I.list (SqL.of e)
    obtain ⟨as, hr, na⟩ := DqAll.reads hk I q rv
    refine ⟨_, .list ho hc hd hr, fun m => ?_⟩
    rcases List.mem_cons.mp m with m | m
    · exact not_sys hk I e m
    · exact na m
  | _, _, _, .tup e q, r => by
    cases r
    obtain ⟨its, rv, ⟨o, ho, hc, n, hd⟩, _⟩ := I.tuple e
    obtain ⟨as, hr, na⟩ := DqAll.reads hk I q rv
    exact ⟨_, .tuple ho hc hd hr, na⟩
  | _, _, _, .dic (kvs := kvs) (ps := ps) e k q, r => by
    cases r
    obtain ⟨_, ns, vs, kv, o, es, ep, ho, hx, hd, _, hes, _⟩ := dk_of I.hok e
    obtain ⟨r1, r2⟩ := keys_read (h := s.heap) hes kv
    obtain ⟨as, hr, na⟩ := DqAll.reads hk I q r2
    have rd : Reads s.heap (.ref _) (.dict ps) (_ :: [] ++ as) := .dict ho hx.1 hd (by rw [k]; exact r1) hr
    refine ⟨_, rd, fun m => ?_⟩
    rcases List.mem_append.mp m with m | m
    · rcases List.mem_cons.mp m with m | m
      · exact not_sys hk I e m
      · cases m
    · exact na m
theorem DqAll.reads (hk : (X.K.lookup sysModules).isSome = true) (I : Inv X pins σ H s) : ∀ {vs : List V} {ds : List PyData} {us : List Value}, DqAll X.K H vs ds → Vals vs us → ∃ as, ReadsAll s.heap us ds as ∧ sysModules ∉ as
  | _, _, _, .nil, r => by
    cases r
    exact ⟨_, .nil, List.not_mem_nil⟩
  | _, _, _, .cons h1 h2, r => by
    cases r with
    | cons r1 r2 =>
      obtain ⟨as, q1, n1⟩ := Dq.reads hk I h1 r1
      obtain ⟨bs, q2, n2⟩ := DqAll.reads hk I h2 r2
      refine ⟨_, .cons q1 q2, fun m => ?_⟩
      rcases List.mem_append.mp m with m | m
      · exact n1 m
      · exact n2 m
end
end
def rReprQ (K : PySem.W.Frag) : List V → Hp → VK → Prop := fun xs H Q => ∃ (x : V) (d : PyData), xs = [x] ∧ Dq K H x d ∧ d.showable = true ∧ d.depth ≤ 100 ∧ d.shown.length ≤ sizeLine ∧ Q (.str d.shown) H
section
variable {X : Cx} {k : Nat}
theorem c_reprQ (hk : (X.K.lookup sysModules).isSome = true) (hr : Rm k X.A) : CallR X (.builtin "repr") (rReprQ X.K) := by
  intro pins s σ H xs us Q I r h
  obtain ⟨x, d, rfl, hd, sh, dp, sz, q⟩ := h
  obtain ⟨u1, rfl, r1⟩ := vals1 r
  obtain ⟨as, rd, ns⟩ := Dq.reads hk I hd r1
  have hu : X.A.units + (d.depth + 1) < cLine := by have := hr.r.un; omega
  have fin : ∀ (h2 : Heap) (u : Tok) (tk : Nat), (∀ b o, s.heap.get? b = some o → h2.get? b = some o) → EP X pins σ Q (.str d.shown u) { s with heap := h2, toks := tk } := fun h2 u tk kp => ⟨.str d.shown, H, I.kept kp, ⟨u, rfl⟩, q⟩
  cases hd with
  | non => obtain rfl : u1 = Value.none := r1; exact P.repr_of_none (fin _ _ _ fun _ _ z => z)
  | bl b => obtain rfl : u1 = Value.bool b := r1; exact P.repr_of_bool (fin _ _ _ fun _ _ z => z)
  | int i => obtain ⟨t, rfl⟩ := r1; exact P.repr_of_int (of_decide_eq_true sh) (fin _ _ _ fun _ _ z => z)
  | str z => obtain ⟨t, rfl⟩ := r1; exact P.repr_of_str (fin _ _ _ fun _ _ z => z) (by simpa only [PyData.shown] using sz)
  | lst e ha => obtain rfl := (show u1 = Value.ref _ from r1); exact repr_of_reads' rd sh (fun _ => ns) hr.g hu (fun _ _ z => z) fin sz
  | tup e ha => obtain rfl := (show u1 = Value.ref _ from r1); exact repr_of_reads' rd sh (fun _ => ns) hr.g hu (fun _ _ z => z) fin sz
  | dic e k ha => obtain rfl := (show u1 = Value.ref _ from r1); exact repr_of_reads' rd sh (fun _ => ns) hr.g hu (fun _ _ z => z) fin sz
end
end SJ
namespace SJ
open PySem PySem.Spec PyProof.Rows L2 He
def rReprI : List V → Hp → VK → Prop := fun xs H Q => ∃ i : Int, xs = [.int i] ∧ i.natAbs.log2 < 1920 ∧ Q (.str (toString i)) H
theorem c_reprI {X : Cx} : CallR X (.builtin "repr") rReprI := by
  intro pins s σ H xs us Q I r h
  obtain ⟨i, rfl, sh, q⟩ := h
  obtain ⟨u1, rfl, t, rfl⟩ := vals1 r
  exact P.repr_of_int sh ⟨.str (toString i), H, I.tok _, ⟨_, rfl⟩, q⟩
def rReprU (K : PySem.W.Frag) : List V → Hp → VK → Prop := fun xs H Q => rRepr K xs H Q ∨ (rReprQ K xs H Q ∨ rReprI xs H Q)
theorem c_reprU {X : Cx} {k : Nat} (hk : (X.K.lookup sysModules).isSome = true) (hr : Rm k X.A) : CallR X (.builtin "repr") (rReprU X.K) := by
  intro pins s σ H xs us Q I r h
  rcases h with h | h | h
  · exact c_repr hr pins s σ H xs us Q I r h
  · exact c_reprQ hk hr pins s σ H xs us Q I r h
  · exact c_reprI pins s σ H xs us Q I r h
def sysT : Tst := fun K => (K.lookup sysModules).isSome
section
variable {K : PySem.W.Frag} {σ : L2.St} {H : Hp} {Q : VK} {ta tk : TA} {te : TE} {D : Ends} {C a : Addr} {fs : List Str} {vs zs ws : List V} {f : Str} {v : V}
theorem x_reprD {x : V} {d : PyData} (h : Dq K H x d) (sh : d.showable = true) (dp : d.depth ≤ 100) (sz : d.shown.length ≤ 100000) (k : Q (.str d.shown) H) : rReprU K [x] H Q := .inr (.inl ⟨x, d, rfl, h, sh, dp, Nat.le_trans sz (by decide), k⟩)
end
end SJ
namespace SJ
open PySem PySem.Spec PyProof.Rows L2 He
local macro_rules | `(tactic| walk_at "go") => `(tactic| (repeat (first
  | with_reducible apply x_seq | with_reducible apply x_asg | with_reducible apply x_ret | with_reducible apply x_if | with_reducible apply x_test | with_reducible apply x_B | with_reducible apply x_op | (with_reducible apply x_var rfl) | with_reducible apply x_c
  | with_reducible apply x_cb | with_reducible apply x_cons | with_reducible apply x_nil | with_reducible apply x_bl2 | with_reducible apply x_st2 | with_reducible apply ite_t | with_reducible apply ite_f | with_reducible apply ite_n | with_reducible apply x_and | with_reducible apply x_or | with_reducible apply x_not | with_reducible apply x_andV | with_reducible apply x_orV | with_reducible apply x_notV
  | with_reducible apply x_addI | with_reducible apply x_sub' | with_reducible apply x_eqI | with_reducible apply x_neI | with_reducible apply x_eqT | with_reducible apply x_neT | with_reducible apply x_ltI | with_reducible apply x_leI | with_reducible apply x_gtI | with_reducible apply x_geI
  | with_reducible apply x_intI | with_reducible apply x_intBl | with_reducible apply x_absI | with_reducible apply x_asgG | with_reducible apply x_sub | with_reducible apply x_lst | with_reducible apply x_tup | with_reducible apply x_next | with_reducible apply x_drop
  | with_reducible apply x_ife | with_reducible apply x_chain | with_reducible apply x_inSg | with_reducible apply x_yes | with_reducible apply x_sl | with_reducible apply x_noPart | with_reducible apply x_part | with_reducible apply x_in2 | with_reducible apply x_fs | with_reducible apply x_js | with_reducible apply x_js0 | with_reducible apply x_fmtE | with_reducible apply x_m0 | with_reducible apply x_fld0 | with_reducible apply x_con0 | with_reducible apply x_pr0 | with_reducible apply x_sfld
  | (with_reducible refine x_new ?_ ?_; · exact Nat.le_of_ble_eq_true rfl)
  | with_reducible apply x_fn | with_reducible apply x_nw | with_reducible apply x_bm | with_reducible apply x_par | with_reducible apply x_rz | with_reducible apply x_retN | with_reducible apply x_un | with_reducible apply x_U)))
end SJ
namespace SJ
open PySem PySem.Spec PyProof.Rows L2 He
/-- may be shown; depth, size -/
def Sh (n w : Nat) (d : PyData) : Prop := d.showable = true ∧ d.depth ≤ n ∧ d.shown.length ≤ w
theorem Sh.mono {n w n2 w2 : Nat} {d : PyData} (h : Sh n w d) (a : n ≤ n2) (b : w ≤ w2) : Sh n2 w2 d := ⟨h.1, Nat.le_trans h.2.1 a, Nat.le_trans h.2.2 b⟩
theorem sh_all : ∀ ds : List PyData, (∀ d ∈ ds, d.showable = true) → PyData.showableAll ds = true
  | [], _ => by simp only [PyData.showableAll]
  | d :: ds, h => by
    simp only [PyData.showableAll]
    rw [h d (List.mem_cons_self ..), sh_all ds fun e q => h e (List.mem_cons_of_mem _ q)]
    rfl
theorem sh_len : ∀ ds : List PyData, (PyData.shownAll ds).length = ds.length
  | [] => by simp only [PyData.shownAll, List.length_nil]
  | d :: ds => by simp only [PyData.shownAll, List.length_cons, sh_len ds]
theorem sh_sum {w : Nat} : ∀ ds : List PyData, (∀ d ∈ ds, d.shown.length ≤ w) → ((PyData.shownAll ds).map (·.length)).sum ≤ ds.length * w
  | [], _ => by simp only [PyData.shownAll, List.map_nil, List.sum_nil]; exact Nat.zero_le _
  | d :: ds, h => by
    simp only [PyData.shownAll, List.map_cons, List.sum_cons, List.length_cons]
    have h1 := h d (List.mem_cons_self ..)
    have h2 := sh_sum ds fun e q => h e (List.mem_cons_of_mem _ q)
    rw [Nat.add_mul, Nat.one_mul]
    omega
theorem sh_list {n w : Nat} {ds : List PyData} (h : ∀ d ∈ ds, Sh n w d) : Sh (n + 1) (ds.length * (w + 2) + 3) (.list ds) := by
  refine ⟨?_, ?_, ?_⟩
  · simp only [PyData.showable]; exact sh_all ds fun d q => (h d q).1
  · simp only [PyData.depth]; exact Nat.succ_le_succ (dep_all ds fun d q => (h d q).2.1)
  · simp only [PyData.shown]
    have h1 := PySem.listText_len_le (PyData.shownAll ds)
    have h2 := sh_sum ds fun d q => (h d q).2.2
    rw [sh_len] at h1
    rw [Nat.mul_add]
    omega
theorem join_len : ∀ ts : List Str, (Str.join ", " ts).length ≤ (ts.map (·.length)).sum + 2 * ts.length
  | [] => Nat.zero_le _
  | [x] => by show x.length ≤ _; simp only [List.map_cons, List.map_nil, List.sum_cons, List.sum_nil, List.length_cons, List.length_nil]; omega
  | x :: y :: r => by
    have ih := join_len (y :: r)
    have e : (Str.join ", " (x :: y :: r)).length = x.length + 2 + (Str.join ", " (y :: r)).length := by
      show (x ++ ", " ++ Str.join ", " (y :: r)).length = _
      rw [PySem.Str.length_append, PySem.Str.length_append]
      rfl
    rw [e]
    simp only [List.map_cons, List.sum_cons, List.length_cons] at ih ⊢
    omega
theorem sh_tup {n w : Nat} {ds : List PyData} (h : ∀ d ∈ ds, Sh n w d) : Sh (n + 1) (ds.length * (w + 2) + 3) (.tuple ds) := by
  refine ⟨?_, ?_, ?_⟩
  · simp only [PyData.showable]; exact sh_all ds fun d q => (h d q).1
  · simp only [PyData.depth]; exact Nat.succ_le_succ (dep_all ds fun d q => (h d q).2.1)
  · simp only [PyData.shown]
    unfold tupleText
    have h1 := join_len (PyData.shownAll ds)
    have h2 := sh_sum ds fun d q => (h d q).2.2
    rw [sh_len] at h1
    rw [Nat.mul_add, PySem.Str.length_append, PySem.Str.length_append]
    have e1 : (Str.ofString "(").length = 1 := rfl
    have e2 : (Str.ofString (if ((PyData.shownAll ds).length == 1) = true then ",)" else ")")).length ≤ 2 := by
      split
      · exact Nat.le_refl 2
      · exact Nat.le_of_ble_eq_true rfl
    omega
theorem x_reprS {K : PySem.W.Frag} {H : Hp} {Q : VK} {x : V} {d : PyData} {n w : Nat} (h : Dq K H x d) (s : Sh n w d) (hn : n ≤ 100) (hw : w ≤ 100000) (k : Q (.str d.shown) H) : rReprU K [x] H Q := x_reprD h s.1 (Nat.le_trans s.2.1 hn) (Nat.le_trans s.2.2 hw) k
end SJ
namespace SJ
open PySem PySem.Spec PyProof.Rows L2 He
def XW (a : Addr) (cls : Value) (d : Option Addr) : HO := .ext fun h => ∃ (oe : Obj) (vs : Array Value), h.get? a = some oe ∧ oe.cls = cls ∧ oe.dict = d ∧ oe.data = .fields vs
end SJ
namespace SJ
open PySem PySem.Spec PyProof.Rows L2 He
/-- the binder comes to making the tuple of what is left over -/
def BindS (s : Shared) (fd : FuncData) (args : Args) (l : List (Str × Value)) (pv : Str) (rest : List Value) : Prop :=
  ∀ (M : Model) (A : Around) (Q : List (Str × Value) → Shared → Prop) (E : Value → Shared → Prop), wpAny M A (newTuple rest >>= fun t => pure (l ++ [(pv, t)])) Q E s → wpAny M A (bindArgs fd args) Q E s
/-- what such a def promises: values of the parameters, then the tuple -/
structure Fs (P : Program) (w : World) (K : PySem.W.Frag) (mg : Str → Option Value) (base : Heap) (k : Nat) (f : Addr) (fd : FuncData) (ps : List Str) (pv : Str) (sp : Sp) : Prop where
  run : ∀ (A : Around) (outer : List Env) (s : Shared) (H : Hp) (args : Args) (us rs : List Value) (vs xs : List V) (Q : VK) (E : XK), Rm k A → Env0 P w K mg base A outer s H → BindS s fd args (ps.zip us) pv rs → Vals vs us → Vals xs rs → vs.length = ps.length → xs.length ≤ sizeLine →
    (∀ p, H p = none → sp (vs ++ [.ref p]) (upd H p (.tup xs)) Q E) → codeAny (model P w) A (.call (.ref f) args) (CR (L2.CX P w) outer P w H s Q E) s
end SJ
namespace SJ
open PySem PySem.Spec PySem.W
end SJ
namespace SJ
open PySem PySem.Spec PyProof.Rows L2 He
end SJ
namespace SJ
open PySem PySem.Spec PyProof.Rows L2 He
end SJ
namespace SJ
open PySem PySem.Spec PyProof.Rows L2 He
def rOwnIn (K : PySem.W.Frag) (g : Addr) (sp : Sp) (neg : Bool) : R2 := fun x y H Q => ∃ a C dx fs, y = .ref a ∧ H a = some (.ins C dx fs) ∧ PySem.W.findIn K (.ref C) "__contains__" = some (some (.ref g)) ∧
  sp [.ref a, x] H (fun v H2 => ∃ c, v = .bl c ∧ Q (.bl (if neg then !c else c)) H2) E0
section
variable {X : Cx} {k : Nat} {f : Addr} {fd : FuncData} {ps : List Str} {sp : Sp}
/-- o[e], the class's own __getitem__, which may raise -/
def tOwnGet (K : PySem.W.Frag) (g : Addr) (sp : Sp) (W : WX) (ta tb : TE) : TE := fun σ H Q => ta σ H fun x H1 => tb σ H1 fun y H2 => ∃ a C dx fs, x = .ref a ∧ H2 a = some (.ins C dx fs) ∧ PySem.W.findIn K (.ref C) "__getitem__" = some (some (.ref g)) ∧ sp [x, y] H2 Q (WE W σ)
end
end SJ
namespace SJ
open PySem PySem.Spec PyProof.Rows L2 He
end SJ
namespace SJ
open PySem PySem.Spec PySem.W PySem.Calls PyProof.Rows L2 LamX
end SJ
namespace SJ
open PySem PySem.Spec PySem.W PyProof.Rows L2 PpSet
end SJ
namespace SJ
open PySem PySem.Spec PySem.W PyProof.Rows L2
open AutoSeq1 (wpAny_loadPart')
end SJ
namespace SJ
open PySem PySem.Spec PySem.W PyProof.Rows L2 GQ PySem.MeetsSeq3
open AutoSeq1 (wpAny_loadPart')
end SJ
namespace SJ
open PySem PySem.Spec PySem.W PyProof.Rows L2 GQ PySem.MeetsSeq3
/-- b: what x == y answers inside a container; the heap may grow -/
structure Grow (R : Hp → Hp → Prop) : Prop where
  refl : ∀ H, R H H
  trans : ∀ {H G J}, R H G → R G J → R H J
  ins : ∀ {H G a C dx fs}, R H G → H a = some (.ins C dx fs) → G a = some (.ins C dx fs)
  lst : ∀ {H G a xs}, R H G → H a = some (.lst xs) → G a = some (.lst xs)
abbrev EqB := (Hp → Hp → Prop) → V → V → Hp → Bool → Prop
structure EqOk (X : Cx) (k : Nat) (D : EqB) : Prop where
  mono : ∀ {Rl x y H H2 b}, Grow Rl → D Rl x y H b → Rl H H2 → D Rl x y H2 b
  run : ∀ (Rl : Hp → Hp → Prop) (A : Around) (pins : List (Addr × Obj)) (s : Shared) (σ : L2.St) (H : Hp) (x y : V) (u v : Value) (b : Bool) (E : Value → Shared → Prop), Grow Rl → Rm k A → A.frames = X.A.frames → Inv X pins σ H s → RelV x u → RelV y v → D Rl x y H b →
    wpAny (model X.prog X.w) A (eqBool u v) (fun r s2 => r = b ∧ ∃ H2, Inv X pins σ H2 s2 ∧ Rl H H2) E s
theorem EqOk.or {X : Cx} {k : Nat} {D D2 : EqB} (h : EqOk X k D) (h2 : EqOk X k D2) : EqOk X k fun Rl x y H b => D Rl x y H b ∨ D2 Rl x y H b :=
  ⟨fun gr d s => d.elim (fun d => .inl (h.mono gr d s)) fun d => .inr (h2.mono gr d s), fun Rl A pins s σ H x y u v b E gr hr fr I rx ry d => d.elim (h.run Rl A pins s σ H x y u v b E gr hr fr I rx ry) (h2.run Rl A pins s σ H x y u v b E gr hr fr I rx ry)⟩
end SJ
namespace SJ
open PySem PySem.Spec PySem.W PyProof.Rows L2 GQ PySem.MeetsSeq3
end SJ
namespace SJ
open PySem PySem.Spec PyProof.Rows L2 He LamX
end SJ
namespace SJ
open PySem PySem.Spec PyProof.Rows L2 He LamX
end SJ
namespace SJ
open PySem PySem.Spec PyProof.Rows L2 He
end SJ
namespace SJ
open PySem PySem.Spec PyProof.Rows L2 He
end SJ
namespace SJ
open PySem PySem.Spec PySem.W PyProof.Rows L2 GQ PySem.MeetsSeq3
open AutoSeq1 (wpAny_loadPart')
end SJ
namespace SJ
open PySem PySem.Spec PySem.Calls PyProof.Rows L2 He
open LamX
end SJ
namespace SJ
open PySem PySem.Spec PyProof.Rows L2 He
end SJ
namespace SJ
open PySem PySem.Spec PyProof.Rows L2 He
end SJ
namespace SJ
open PySem PySem.Spec PyProof.Rows L2 He
end SJ
namespace SJ
open PySem PySem.Spec PyProof.Rows L2 He
end SJ
namespace SJ
open PySem PySem.Spec PyProof.Rows L2 He
end SJ
namespace SJ
open PySem PySem.Spec PyProof.Rows L2
def txtV (v : Value) : Str := match v with
  | .str y _ => y
  | _ => Str.empty
def txtE (e : Int × Value) : Str := txtV e.2
def TxtE (P : Program) (w : World) (e : Int × Value) : Prop := ∃ y tk, e.2 = Value.str y tk ∧ e.1 = (PySem.strKind P w).hash y
/-- the set of texts at D, walkable -/
def TxtSet (P : Program) (w : World) (h : Heap) (D : Addr) (S : Str → Bool) (n : Nat) : Prop := ∃ ob al ep tb, h.get? D = some ob ∧ ob.ExactSet ∧ ob.data = .set al ep tb ∧ (∀ e ∈ al.toList, TxtE P w e) ∧ (al.toList.map txtE).Nodup ∧ (∀ y, S y = true ↔ y ∈ al.toList.map txtE) ∧
  al.size < scanBound ∧ tb.fits al.size = true ∧ al.size = n ∧ Ris tb.place.toList ∧ (w.params.followText "set-order" = true ∨ tb.led = true)
section
variable {P : Program} {w : World} {h h2 : Heap} {D : Addr} {S : Str → Bool} {n : Nat}
theorem TxtSet.keep (B : TxtSet P w h D S n) (k : ∀ ob, h.get? D = some ob → h2.get? D = some ob) : TxtSet P w h2 D S n := by
  obtain ⟨ob, al, ep, tb, hob, B⟩ := B
  exact ⟨ob, al, ep, tb, k ob hob, B⟩
end
end SJ
namespace SJ
open PySem PySem.Spec PyProof.Rows L2 He
open Sem (wp)
open AutoSeq1 (wpAny_loadPart')
theorem enumT_new (l : Addr) (ws : Array Value) (n : Nat) (dc : Option Addr) (sls : Array (Option Value)) :
    Meets (Builtin.«enumerate.__new__» ⟨[.type "enumerate", .ref l], []⟩) (fun _ R z => z.heap.get? l = some { cls := .type "tuple", dict := dc, data := .seq ws n, slots := sls } ∧
      R (.ok (.ret (.ref (z.heap.push { cls := .type "tuple_iterator", data := .fields #[.ref l, .int 0 0] }).objs.size)))
        { z with heap := (z.heap.push { cls := .type "tuple_iterator", data := .fields #[.ref l, .int 0 0] }).push { cls := .type "enumerate", data := .fields #[.none, .bool false, .ref z.heap.objs.size, rawInt 0, .none, .none] } }) :=
  .of_wp fun prog w A R z hh => by
    obtain ⟨hp, g, d, tk, os⟩ := z
    obtain ⟨at0, k⟩ := hh
    have subE := sub_enumerate
    have tup : Heap.IsTuple (Shared.heap ⟨hp, g, d, tk, os⟩) l ws := ⟨_, at0, rfl, n, rfl⟩
    wp_walk using wpAny_loadPart' at0
    refine wpAny_stack_any fun _ => wpAny_pure ?_
    split
    · rename_i c0 _ _ _ _ _
      cases (c0 == Value.type "enumerate") <;> (wp_walk using wpAny_loadPart' at0, wpAny_pyIter_tuple tup; exact ⟨_, rfl, k⟩)
    · wp_walk using wpAny_loadPart' at0, wpAny_pyIter_tuple tup
      exact ⟨_, rfl, k⟩
section
variable {prog : Program} {w : World} {A : Around} {E : Value → Shared → Prop} {s : Shared}
theorem enumT_call {l : Addr} {ws : Array Value} {Q : Value → Shared → Prop} (tup : s.heap.IsTuple l ws)
    (k : ∀ h2, IsEnum h2 (s.heap.objs.size + 1) s.heap.objs.size 0 .none → h2.IsTupleIter s.heap.objs.size l 0 → (∀ b u, s.heap.get? b = some u → h2.get? b = some u) → Q (.ref (s.heap.objs.size + 1)) { s with heap := h2 }) :
    wpAny (model prog w) A (call (.type "enumerate") [.ref l]) Q E s := by
  obtain ⟨⟨oc, odc, odt, osl⟩, at0, e1, n, e2⟩ := tup
  obtain rfl : oc = .type "tuple" := e1
  obtain rfl : odt = .seq ws n := e2
  refine callType_new F.called_enumerate (by decide) (F.typeCall_enumerate_1 _) (F.newCall_enumerate_1 _) (fun ob => F.args_object_init_2 ob _) F.entry_enumerate_new (enumT_new l ws n odc osl) ⟨at0, ?_⟩
  have z1 : (s.heap.push { cls := .type "tuple_iterator", data := .fields #[.ref l, .int 0 0] }).objs.size = s.heap.objs.size + 1 := Heap.size_push ..
  show _ ∧ _
  rw [z1]
  have en : IsEnum ((s.heap.push { cls := .type "tuple_iterator", data := .fields #[.ref l, .int 0 0] }).push { cls := .type "enumerate", data := .fields #[.none, .bool false, .ref s.heap.objs.size, rawInt 0, .none, .none] }) (s.heap.objs.size + 1) s.heap.objs.size 0 .none := by
    have q := Heap.get?_push_size (s.heap.push { cls := .type "tuple_iterator", data := .fields #[.ref l, .int 0 0] }) (o := { cls := .type "enumerate", data := .fields #[.none, .bool false, .ref s.heap.objs.size, rawInt 0, .none, .none] }) rfl
    rwa [z1] at q
  exact ⟨⟨_, en, rfl⟩, k _ en ⟨_, Heap.get?_push_of_some _ (Heap.get?_push_size _ rfl), rfl, rfl⟩ fun b u e => Heap.get?_push_of_some _ (Heap.get?_push_of_some _ e)⟩
end
/-- the tuple at a, each item in a new pair -/
def EnT (K : PySem.W.Frag) (a : Addr) : It :=
  ⟨fun n G => ∃ (xs : List V) (y : V), SqT K G a xs ∧ xs[n]? = some y, fun n G v G' => ∃ T y, v = .ref T ∧ G T = none ∧ G' = upd G T (.tup [.int (n : Nat), y]) ∧ ∀ xs, SqT K G a xs → xs[n]? = some y, fun n G => ∃ xs : List V, SqT K G a xs ∧ xs.length ≤ n⟩
theorem draws_end {prog : Program} {w : World} {A : Around} (hh : A.handled = none) (it t : Addr) (ws : Array Value) (i : Nat) (hi : ws[i]? = none) :
    Draws prog w A it [it, t] i (fun _ _ => True) (fun j h => j = i ∧ h.IsTupleIter it t i ∧ h.IsTuple t ws) where
  live := fun _ _ st => let ⟨u, hu, _⟩ := st.2.1; ⟨u, hu⟩
  frame := fun _ _ _ st hk => ⟨st.1, st.2.1.at fun u e => hk it (by simp) u e, st.2.2.at fun u e => hk t (by simp) u e⟩
  item := fun j s Q E hj st hQ => absurd st.1 (Nat.ne_of_lt hj)
  done := fun s Q E st hE => wpAny_nextOf_tuple_end hh st.2.1 st.2.2 hi hE
theorem turn_enT {P : Program} {w : World} {K : PySem.W.Frag} {elts : List Expr} {kk : Nat} {tp : Pos} (a e it : Addr) :
    Turn P w K (.Tuple elts kk tp) (EnT K a) [e, it] e (fun n h => (∃ old, IsEnum h e it ((n : Nat) : Int) old) ∧ h.IsTupleIter it a n ∧ e ≠ it ∧ e ≠ a ∧ a ≠ it) where
  mem := by simp
  obj := fun n h st b hb => by
    obtain ⟨⟨old, he⟩, ⟨u, hu, hc, hd⟩, _⟩ := st
    rcases (show b = e ∨ b = it by simpa using hb) with rfl | rfl
    · exact ⟨_, he, fun v q => nomatch q⟩
    · exact ⟨u, hu, fun v q => by rw [hd] at q; cases q⟩
  keep := fun n h h2 st k => let ⟨⟨old, he⟩, hit, h3⟩ := st; ⟨⟨old, k e (by simp) _ he⟩, hit.at fun u q => k it (by simp) u q, h3⟩
  item := by
    intro X hP hw hK hc n pins s σ H E I fo st hg
    subst hP hw hK
    obtain ⟨⟨old, he⟩, hit, ne1, ne2, ne3⟩ := st
    obtain ⟨xs, y, hq, hy⟩ := hg
    obtain ⟨its, rv, pt, hz⟩ := I.tuple hq
    obtain ⟨u, hu, ru⟩ := rv.get hy
    have le : e < s.heap.objs.size := Heap.lt_size he
    have li : it < s.heap.objs.size := by obtain ⟨_, q, _⟩ := hit; exact Heap.lt_size q
    have hd := I.ok.hd hc
    have lt : n < its.toArray.size := by simpa using (List.getElem?_eq_some_iff.mp hu).1
    refine wpAny_pyNext_enum_itemD (Draws.tuple (A := X.A.in1) (by simp [hd]) it a ne3 its.toArray) he ⟨hit, pt⟩ lt ne1 (by simp [ne1, ne2]) fun x h1 tk hx ho hst hT hsz hk => ?_
    obtain rfl : x = u := by
      have hx : its.toArray[n]? = some x := hx
      rw [List.getElem?_toArray, hu] at hx
      exact (Option.some.inj hx).symm
    refine ⟨_, rfl, wpAny_letOwnedTupleGo_enum (s := { s with heap := h1, toks := tk + 1 }) ho fun h2 he2 sb => ?_⟩
    have hT2 : h2.get? s.heap.objs.size = some { cls := .type "tuple", data := .seq #[.int n tk, x] } := (sb.2 _ (Nat.ne_of_gt le)).trans hT
    have fresh : ObjOk X.prog X.w (upd H s.heap.objs.size (.tup [.int (n : Nat), y])) h2 s.heap.objs.size (.tup [.int (n : Nat), y]) :=
      ⟨by show 2 ≤ sizeLine; decide, [.int n tk, x], .cons ⟨_, rfl⟩ (.cons ru .nil), ⟨_, hT2, rfl, _, rfl⟩⟩
    have I1 : Inv X pins σ (upd H s.heap.objs.size (.tup [.int (n : Nat), y])) { s with heap := h2, toks := tk + 1 } :=
      I.turnedNew (ch := [e, it]) (fun b ob hb q => (sb.2 b (fun z => hb (by simp [z]))).trans (hk b ob (fun z => hb (by simp [z])) (fun z => hb (by simp [z])) q)) fo (Nat.le_refl _) fresh
    have itn : h2.IsTupleIter it a (n + 1) := hst.1.at fun u q => (sb.2 it (Ne.symm ne1)).trans q
    refine ⟨.ref s.heap.objs.size, _, I1, rfl, ⟨_, y, rfl, I.hok.fresh (Nat.le_refl _), rfl, fun zs hz2 => by rw [I.tuple_inj hz2 hq]; exact hy⟩, ⟨⟨x, ?_⟩, itn, ne1, ne2, ne3⟩, fun b hb => ?_⟩
    · rw [show ((n + 1 : Nat) : Int) = (n : Int) + 1 by omega]
      exact he2
    · have lb : b < s.heap.objs.size := by
        rcases (show b = e ∨ b = it by simpa using hb) with rfl | rfl
        · exact le
        · exact li
      rw [upd_ne (Nat.ne_of_lt lb)]
      exact (fo b hb).1
  done := by
    intro X hP hw hK hc n pins s σ H E I fo st hg
    subst hP hw hK
    obtain ⟨⟨old, he⟩, hit, ne1, ne2, ne3⟩ := st
    obtain ⟨xs, hq, hx⟩ := hg
    obtain ⟨its, rv, pt, hz⟩ := I.tuple hq
    obtain ⟨f0, f1, f2, f3, f4, f5⟩ := fo it (by simp)
    have len := rv.length
    refine wpAny_pyNext_enum_endD (draws_end (A := X.A.in1) (by simp [I.ok.hd hc]) it a its.toArray n (by simp; omega)) he ⟨rfl, hit, pt⟩ fun h1 eb => ⟨rfl, I.turned (t' := s.toks) (fun b u hb q => eb b u hb q) f0 f1 f3 f4 f5⟩
  self := fun A n s Q E st k => let ⟨⟨_, he⟩, _⟩ := st; wpAny_pyIter_enum he k
def iEnT (K : PySem.W.Frag) (ta : TA) : TI := fun σ H R => ta σ H fun vs H1 => ∃ a xs, vs = [.ref a] ∧ SqT K H1 a xs ∧ R (EnT K a) H1
theorem pi_enT {X : Cx} {e : Expr} {ta : TA} {p pos tp : Pos} {elts : List Expr} {kk : Nat} (hg : Gl X "enumerate") (hm : X.mg "enumerate" = none) (ha : PA X [e] ta) (st : starEach [e] X.env = [(false, eval e X.env)] := by rfl) :
    PI X (.Tuple elts kk tp) (.Call (.Name "enumerate" p) [e] [] pos) (iEnT X.K ta) := by
  refine ⟨fun pins s σ H R I h => ?_⟩
  refine Call_ (ld_blt I hg hm boot_enumerate (PyProof.Rows.callWith_type1 (thn (ha.run pos pins s σ H _ I h) fun us s1 ⟨vs, H1, I1, r1, a, xs, ex, hq, q⟩ => ?_) st rfl))
  subst ex
  cases r1 with
  | cons r rr =>
    cases rr
    cases r
    obtain ⟨its, rv, pt, hz⟩ := I1.tuple hq
    have la : a < s1.heap.objs.size := by
      obtain ⟨u, hu, _⟩ := pt
      exact Heap.lt_size hu
    refine enumT_call (show s1.heap.IsTuple a its.toArray from pt) fun h2 he hit hk => wpAny_pyIter_enum he ?_
    have I2 : Inv X pins σ H1 { s1 with heap := h2 } := I1.kept (t' := s1.toks) hk
    refine ⟨s1.heap.objs.size + 1, [s1.heap.objs.size + 1, s1.heap.objs.size], _, _, H1, rfl, I2, turn_enT a (s1.heap.objs.size + 1) s1.heap.objs.size, ⟨⟨.none, he⟩, hit, Nat.succ_ne_self _, Nat.ne_of_gt (Nat.lt_succ_of_lt la), Nat.ne_of_lt la⟩, fun b hb => ?_, q⟩
    have lb : s1.heap.objs.size ≤ b := by
      rcases (show b = s1.heap.objs.size + 1 ∨ b = s1.heap.objs.size by simpa using hb) with rfl | rfl
      · exact Nat.le_succ _
      · exact Nat.le_refl _
    exact I1.fpOk lb (I1.hok.fresh lb)
def iSq (K : PySem.W.Frag) (tl : TE) : TI := fun σ H R => iList K tl σ H R ∨ iTup K tl σ H R
theorem pi_sq {X : Cx} {tg l : Expr} {tl : TE} (hl : PE X l tl) : PI X tg l (iSq X.K tl) := by
  refine ⟨fun pins s σ H R I h => ?_⟩
  rcases h with h | h
  · exact (pi_list hl).run pins s σ H R I h
  · exact (pi_tup hl).run pins s σ H R I h
end SJ
namespace SJ
open PySem PySem.Spec PyProof.Rows L2 He
def rMax2 : List V → Hp → VK → Prop := fun xs H Q => ∃ i j, xs = [.int i, .int j] ∧ Q (.int (if j > i then j else i)) H
def iEnumU (K : PySem.W.Frag) (ta : TA) : TI := fun σ H R => iEnum K ta σ H R ∨ iEnT K ta σ H R
theorem pi_enumU {X : Cx} {e : Expr} {ta : TA} {p pos tp : Pos} {elts : List Expr} {kk : Nat} (hg : Gl X "enumerate") (hm : X.mg "enumerate" = none) (ha : PA X [e] ta) (st : starEach [e] X.env = [(false, eval e X.env)] := by rfl) :
    PI X (.Tuple elts kk tp) (.Call (.Name "enumerate" p) [e] [] pos) (iEnumU X.K ta) := by
  refine ⟨fun pins s σ H R I h => ?_⟩
  rcases h with h | h
  · exact (pi_enum hg hm ha st).run pins s σ H R I h
  · exact (pi_enT hg hm ha st).run pins s σ H R I h
end SJ
namespace SJ
open PySem PySem.Spec PyProof.Rows L2 He LamX
end SJ
namespace K44
open PySem PySem.Spec PyProof.Rows L2 He SJ
open LamX (CodeO lamS_by Tabs tLam)
def top (i : Nat) : Stmt := PySem.Challenge.pw_strayjoins_k44_weights_of_rows.main.body.getD i (.Pass ⟨0, 0, 0, 0⟩)
abbrev s_common_divisor : Stmt := top 1
abbrev s_cleared : Stmt := top 2
abbrev s_weights : Stmt := top 3
abbrev s_Lpen : Stmt := top 5
abbrev s_Ldraw : Stmt := top 6
abbrev s_Lpick : Stmt := top 7
abbrev s_Lrows : Stmt := top 8
abbrev s_Lmany_rows : Stmt := top 9
abbrev s_Lis_bound : Stmt := top 10
abbrev s_Lare_weights : Stmt := top 11
abbrev s_Lright : Stmt := top 12
abbrev s_law : Stmt := top 13
def a_common_divisor : PySem.W.Frag → Addr := fun K => ga K "common_divisor"
def a_cleared : PySem.W.Frag → Addr := fun K => ga K "cleared"
def a_weights : PySem.W.Frag → Addr := fun K => ga K "weights"
def a_Lpen : PySem.W.Frag → Addr := fun K => ga K "_law_pen"
def a_Ldraw : PySem.W.Frag → Addr := fun K => ga K "_law_draw"
def a_Lpick : PySem.W.Frag → Addr := fun K => ga K "_law_pick"
def a_Lrows : PySem.W.Frag → Addr := fun K => ga K "_law_rows"
def a_Lmany_rows : PySem.W.Frag → Addr := fun K => ga K "_law_many_rows"
def a_Lis_bound : PySem.W.Frag → Addr := fun K => ga K "_law_is_bound"
def a_Lare_weights : PySem.W.Frag → Addr := fun K => ga K "_law_are_weights"
def a_Lright : PySem.W.Frag → Addr := fun K => ga K "_law_right"
def a_law : PySem.W.Frag → Addr := fun K => ga K "law"
theorem sc_common_divisor : FnScope ["numbers", "found", "number", "rest"] ["numbers"] (defScope s_common_divisor) := ⟨rfl, rfl, rfl, by decide +kernel, rfl, by decide +kernel, by decide +kernel⟩
theorem sc_cleared : FnScope ["line", "head", "column", "found", "one", "two", "divisor"] ["line", "head", "column"] (defScope s_cleared) := ⟨rfl, rfl, rfl, by decide +kernel, rfl, by decide +kernel, by decide +kernel⟩
theorem sc_weights : FnScope ["rows", "width", "row", "lines", "place", "at", "column", "places", "line", "head"] ["rows"] (defScope s_weights) := ⟨rfl, rfl, rfl, by decide +kernel, rfl, by decide +kernel, by decide +kernel⟩
theorem sc_Lpen : FnScope ["_law_script"] ["_law_script"] (defScope s_Lpen) := ⟨rfl, rfl, rfl, by decide +kernel, rfl, by decide +kernel, by decide +kernel⟩
theorem sc_Ldraw : FnScope ["_law_pen_here", "_law_many", "_law_digit", "_law_at", "_law_cell", "_law_great", "_law_mixed"] ["_law_pen_here", "_law_many"] (defScope s_Ldraw) := ⟨rfl, rfl, rfl, by decide +kernel, rfl, by decide +kernel, by decide +kernel⟩
theorem sc_Lpick : FnScope ["_law_pen_here", "_law_some"] ["_law_pen_here", "_law_some"] (defScope s_Lpick) := ⟨rfl, rfl, rfl, by decide +kernel, rfl, by decide +kernel, by decide +kernel⟩
theorem sc_Lrows : FnScope ["_law_pen_here", "_law_width", "_law_found", "_law_turn", "_law_way", "_law_row", "_law_at", "_law_one", "_law_other"] ["_law_pen_here"] (defScope s_Lrows) := ⟨rfl, rfl, rfl, by decide +kernel, rfl, by decide +kernel, by decide +kernel⟩
theorem sc_Lmany_rows : FnScope ["_law_pen_here", "_law_one", "_law_other", "_law_part", "_law_at", "_law_k"] ["_law_pen_here"] (defScope s_Lmany_rows) := ⟨rfl, rfl, rfl, by decide +kernel, rfl, by decide +kernel, by decide +kernel⟩
theorem sc_Lis_bound : FnScope ["_law_some_so", "_law_lines", "_law_row", "_law_at", "_law_some", "_law_k", "_law_line", "_law_head", "_law_one", "_law_two"] ["_law_some_so"] (defScope s_Lis_bound) := ⟨rfl, rfl, rfl, by decide +kernel, rfl, by decide +kernel, by decide +kernel⟩
theorem sc_Lare_weights : FnScope ["_law_some_so", "_law_told", "_law_one", "_law_at", "_law_row"] ["_law_some_so", "_law_told"] (defScope s_Lare_weights) := ⟨rfl, rfl, rfl, by decide +kernel, rfl, by decide +kernel, by decide +kernel⟩
theorem sc_Lright : FnScope ["_law_pen_here", "_law_some_so", "_law_is_bound_here", "_law_handed", "_law_row", "_law_kept", "_law_told"] ["_law_pen_here", "_law_some_so", "_law_is_bound_here"] (defScope s_Lright) := ⟨rfl, rfl, rfl, by decide +kernel, rfl, by decide +kernel, by decide +kernel⟩
theorem sc_law : FnScope ["_law_script", "_law_pen_here", "_law_turn", "_law_some_so", "_law_told"] ["_law_script"] (defScope s_law) := ⟨rfl, rfl, rfl, by decide +kernel, rfl, by decide +kernel, by decide +kernel⟩
def d_common_divisor : DD := ⟨a_common_divisor, "common_divisor", "common_divisor", defArgs s_common_divisor, defBody s_common_divisor, defScope s_common_divisor, [], []⟩
abbrev Fn_common_divisor (K : PySem.W.Frag) (fd : FuncData) : Prop := FunD K "common_divisor" "common_divisor" (defArgs s_common_divisor) (defBody s_common_divisor) (defScope s_common_divisor) [] [] (a_common_divisor K) fd
def d_cleared : DD := ⟨a_cleared, "cleared", "cleared", defArgs s_cleared, defBody s_cleared, defScope s_cleared, [], []⟩
abbrev Fn_cleared (K : PySem.W.Frag) (fd : FuncData) : Prop := FunD K "cleared" "cleared" (defArgs s_cleared) (defBody s_cleared) (defScope s_cleared) [] [] (a_cleared K) fd
def d_weights : DD := ⟨a_weights, "weights", "weights", defArgs s_weights, defBody s_weights, defScope s_weights, [], []⟩
abbrev Fn_weights (K : PySem.W.Frag) (fd : FuncData) : Prop := FunD K "weights" "weights" (defArgs s_weights) (defBody s_weights) (defScope s_weights) [] [] (a_weights K) fd
def d_Lpen : DD := ⟨a_Lpen, "_law_pen", "_law_pen", defArgs s_Lpen, defBody s_Lpen, defScope s_Lpen, [], []⟩
abbrev Fn_Lpen (K : PySem.W.Frag) (fd : FuncData) : Prop := FunD K "_law_pen" "_law_pen" (defArgs s_Lpen) (defBody s_Lpen) (defScope s_Lpen) [] [] (a_Lpen K) fd
def d_Ldraw : DD := ⟨a_Ldraw, "_law_draw", "_law_draw", defArgs s_Ldraw, defBody s_Ldraw, defScope s_Ldraw, [], []⟩
abbrev Fn_Ldraw (K : PySem.W.Frag) (fd : FuncData) : Prop := FunD K "_law_draw" "_law_draw" (defArgs s_Ldraw) (defBody s_Ldraw) (defScope s_Ldraw) [] [] (a_Ldraw K) fd
def d_Lpick : DD := ⟨a_Lpick, "_law_pick", "_law_pick", defArgs s_Lpick, defBody s_Lpick, defScope s_Lpick, [], []⟩
abbrev Fn_Lpick (K : PySem.W.Frag) (fd : FuncData) : Prop := FunD K "_law_pick" "_law_pick" (defArgs s_Lpick) (defBody s_Lpick) (defScope s_Lpick) [] [] (a_Lpick K) fd
def d_Lrows : DD := ⟨a_Lrows, "_law_rows", "_law_rows", defArgs s_Lrows, defBody s_Lrows, defScope s_Lrows, [], []⟩
abbrev Fn_Lrows (K : PySem.W.Frag) (fd : FuncData) : Prop := FunD K "_law_rows" "_law_rows" (defArgs s_Lrows) (defBody s_Lrows) (defScope s_Lrows) [] [] (a_Lrows K) fd
def d_Lmany_rows : DD := ⟨a_Lmany_rows, "_law_many_rows", "_law_many_rows", defArgs s_Lmany_rows, defBody s_Lmany_rows, defScope s_Lmany_rows, [], []⟩
abbrev Fn_Lmany_rows (K : PySem.W.Frag) (fd : FuncData) : Prop := FunD K "_law_many_rows" "_law_many_rows" (defArgs s_Lmany_rows) (defBody s_Lmany_rows) (defScope s_Lmany_rows) [] [] (a_Lmany_rows K) fd
def d_Lis_bound : DD := ⟨a_Lis_bound, "_law_is_bound", "_law_is_bound", defArgs s_Lis_bound, defBody s_Lis_bound, defScope s_Lis_bound, [], []⟩
abbrev Fn_Lis_bound (K : PySem.W.Frag) (fd : FuncData) : Prop := FunD K "_law_is_bound" "_law_is_bound" (defArgs s_Lis_bound) (defBody s_Lis_bound) (defScope s_Lis_bound) [] [] (a_Lis_bound K) fd
def d_Lare_weights : DD := ⟨a_Lare_weights, "_law_are_weights", "_law_are_weights", defArgs s_Lare_weights, defBody s_Lare_weights, defScope s_Lare_weights, [], []⟩
abbrev Fn_Lare_weights (K : PySem.W.Frag) (fd : FuncData) : Prop := FunD K "_law_are_weights" "_law_are_weights" (defArgs s_Lare_weights) (defBody s_Lare_weights) (defScope s_Lare_weights) [] [] (a_Lare_weights K) fd
def d_Lright : DD := ⟨a_Lright, "_law_right", "_law_right", defArgs s_Lright, defBody s_Lright, defScope s_Lright, [], []⟩
abbrev Fn_Lright (K : PySem.W.Frag) (fd : FuncData) : Prop := FunD K "_law_right" "_law_right" (defArgs s_Lright) (defBody s_Lright) (defScope s_Lright) [] [] (a_Lright K) fd
def d_law : DD := ⟨a_law, "law", "law", defArgs s_law, defBody s_law, defScope s_law, [], []⟩
abbrev Fn_law (K : PySem.W.Frag) (fd : FuncData) : Prop := FunD K "law" "law" (defArgs s_law) (defBody s_law) (defScope s_law) [] [] (a_law K) fd
def fn : List DD := [d_common_divisor, d_cleared, d_weights, d_Lpen, d_Ldraw, d_Lpick, d_Lrows, d_Lmany_rows, d_Lis_bound, d_Lare_weights, d_Lright, d_law]
def fx : List XD := []
def TB (K : PySem.W.Frag) : List (Addr × Str) := []
structure Tx (K : PySem.W.Frag) (mg : Str → Option Value) : Prop where
  f_abs : mg "abs" = none
  f_bool : mg "bool" = none
  f_enumerate : mg "enumerate" = none
  f_int : mg "int" = none
  f_isinstance : mg "isinstance" = none
  f_len : mg "len" = none
  f_list : mg "list" = none
  f_max : mg "max" = none
  f_range : mg "range" = none
  f_repr : mg "repr" = none
  f_sum : mg "sum" = none
  f_tuple : mg "tuple" = none
  f_zip : mg "zip" = none
  g_common_divisor : mg "common_divisor" = some (.ref (ga K "common_divisor"))
  g_cleared : mg "cleared" = some (.ref (ga K "cleared"))
  g_weights : mg "weights" = some (.ref (ga K "weights"))
  g_Lpen : mg "_law_pen" = some (.ref (ga K "_law_pen"))
  g_Ldraw : mg "_law_draw" = some (.ref (ga K "_law_draw"))
  g_Lpick : mg "_law_pick" = some (.ref (ga K "_law_pick"))
  g_Lrows : mg "_law_rows" = some (.ref (ga K "_law_rows"))
  g_Lmany_rows : mg "_law_many_rows" = some (.ref (ga K "_law_many_rows"))
  g_Lis_bound : mg "_law_is_bound" = some (.ref (ga K "_law_is_bound"))
  g_Lare_weights : mg "_law_are_weights" = some (.ref (ga K "_law_are_weights"))
  g_Lright : mg "_law_right" = some (.ref (ga K "_law_right"))
  g_law : mg "law" = some (.ref (ga K "law"))
  sys : (K.lookup sysModules).isSome = true
  kl_list : PySem.W.kitOne K (.type "list") (.type "list") = some true
  ki_int : PySem.W.kitOne K (.type "int") (.type "int") = some true
  kb_int : PySem.W.kitOne K (.type "int") (.type "bool") = some false
  d_common_divisor : ∃ fd, Fn_common_divisor K fd
  d_cleared : ∃ fd, Fn_cleared K fd
  d_weights : ∃ fd, Fn_weights K fd
  d_Lpen : ∃ fd, Fn_Lpen K fd
  d_Ldraw : ∃ fd, Fn_Ldraw K fd
  d_Lpick : ∃ fd, Fn_Lpick K fd
  d_Lrows : ∃ fd, Fn_Lrows K fd
  d_Lmany_rows : ∃ fd, Fn_Lmany_rows K fd
  d_Lis_bound : ∃ fd, Fn_Lis_bound K fd
  d_Lare_weights : ∃ fd, Fn_Lare_weights K fd
  d_Lright : ∃ fd, Fn_Lright K fd
  d_law : ∃ fd, Fn_law K fd
def fa : List Tst := [fun K => (Fa.free "abs").ok K,
  fun K => (Fa.free "bool").ok K,
  fun K => (Fa.free "enumerate").ok K,
  fun K => (Fa.free "int").ok K,
  fun K => (Fa.free "isinstance").ok K,
  fun K => (Fa.free "len").ok K,
  fun K => (Fa.free "list").ok K,
  fun K => (Fa.free "max").ok K,
  fun K => (Fa.free "range").ok K,
  fun K => (Fa.free "repr").ok K,
  fun K => (Fa.free "sum").ok K,
  fun K => (Fa.free "tuple").ok K,
  fun K => (Fa.free "zip").ok K,
  fun K => (Fa.glo "common_divisor").ok K,
  fun K => (Fa.glo "cleared").ok K,
  fun K => (Fa.glo "weights").ok K,
  fun K => (Fa.glo "_law_pen").ok K,
  fun K => (Fa.glo "_law_draw").ok K,
  fun K => (Fa.glo "_law_pick").ok K,
  fun K => (Fa.glo "_law_rows").ok K,
  fun K => (Fa.glo "_law_many_rows").ok K,
  fun K => (Fa.glo "_law_is_bound").ok K,
  fun K => (Fa.glo "_law_are_weights").ok K,
  fun K => (Fa.glo "_law_right").ok K,
  fun K => (Fa.glo "law").ok K,
  sysT,
  kitT (fun K => .type "list") (fun K => .type "list") true,
  kitT (fun K => .type "int") (fun K => .type "int") true,
  kitT (fun K => .type "int") (fun K => .type "bool") false]
theorem tx_of {K : PySem.W.Frag} {h : Heap} {mg : Str → Option Value} (X : K.In h) (G : h.Ns mainGlobals mg) (c : SaysZ PySem.Challenge.pw_strayjoins_k44_weights_of_rows.main.file fa fn fx K) : Tx K mg where
  f_abs := free_ok X G (c.fact 0)
  f_bool := free_ok X G (c.fact 1)
  f_enumerate := free_ok X G (c.fact 2)
  f_int := free_ok X G (c.fact 3)
  f_isinstance := free_ok X G (c.fact 4)
  f_len := free_ok X G (c.fact 5)
  f_list := free_ok X G (c.fact 6)
  f_max := free_ok X G (c.fact 7)
  f_range := free_ok X G (c.fact 8)
  f_repr := free_ok X G (c.fact 9)
  f_sum := free_ok X G (c.fact 10)
  f_tuple := free_ok X G (c.fact 11)
  f_zip := free_ok X G (c.fact 12)
  g_common_divisor := glo_ok X G (c.fact 13)
  g_cleared := glo_ok X G (c.fact 14)
  g_weights := glo_ok X G (c.fact 15)
  g_Lpen := glo_ok X G (c.fact 16)
  g_Ldraw := glo_ok X G (c.fact 17)
  g_Lpick := glo_ok X G (c.fact 18)
  g_Lrows := glo_ok X G (c.fact 19)
  g_Lmany_rows := glo_ok X G (c.fact 20)
  g_Lis_bound := glo_ok X G (c.fact 21)
  g_Lare_weights := glo_ok X G (c.fact 22)
  g_Lright := glo_ok X G (c.fact 23)
  g_law := glo_ok X G (c.fact 24)
  sys := id (c.fact 25)
  kl_list := kitT_ok (t := fun K => .type "list") (c := fun K => .type "list") (c.fact 26)
  ki_int := kitT_ok (t := fun K => .type "int") (c := fun K => .type "int") (c.fact 27)
  kb_int := kitT_ok (t := fun K => .type "int") (c := fun K => .type "bool") (c.fact 28)
  d_common_divisor := c.def_ 0
  d_cleared := c.def_ 1
  d_weights := c.def_ 2
  d_Lpen := c.def_ 3
  d_Ldraw := c.def_ 4
  d_Lpick := c.def_ 5
  d_Lrows := c.def_ 6
  d_Lmany_rows := c.def_ 7
  d_Lis_bound := c.def_ 8
  d_Lare_weights := c.def_ 9
  d_Lright := c.def_ 10
  d_law := c.def_ 11
end K44
namespace K44
open PySem PySem.Spec PyProof.Rows L2 He SJ
open LamX (CodeO lamS_by Tabs tLam)
def loose0 : List PySem.Str := ["__name__", "common_divisor", "cleared", "weights", "_law_pen", "_law_draw", "_law_pick", "_law_rows", "_law_many_rows", "_law_is_bound", "_law_are_weights", "_law_right"]
def loose : List PySem.Str := loose0
abbrev R : PySem.W.OpenRow := PySem.W.OpenLaw.row PySem.Challenge.rw_strayjoins_k44_weights_of_rows
abbrev file : Str := PySem.Challenge.pw_strayjoins_k44_weights_of_rows.main.file
abbrev hk : PySem.W.Hook := hookZ 7 file fa fn fx
def ob (s : PySem.W.SharedT) : AlZ := obsZG 7 file fa fn fx (HandSHeadRun.getT s)
theorem ob_eq (s : PySem.W.SharedT) : ob s = hk.obs s.abs := obsZG_eq (HandSHeadRun.getT_eq s)
theorem run (w : World) : HandSHeadRun.RunEq R (PySem.W.view R.prog [13]) hk ob 12000 loose w := by
  intro os
  kernel_rfl
end K44
namespace SJ
open PySem PySem.Spec PyProof.Rows L2 He LamX
inductive D where
  | non | bl (b : Bool) | int (i : Int) | str (s : Str) | cls (c : Str) | ty (n : String)
  | adr (a : Addr) | lst (xs : List D) | tup (xs : List D) | dct (kvs : List (Key × D)) | obj (c : Str) (fs : List (Str × D)) | exc (c : Str) (fs : List (Str × D))
mutual
inductive Rep (K : PySem.W.Frag) (F : Hp) : V → D → Prop
  | non : Rep K F .non .non
  | bl (b : Bool) : Rep K F (.bl b) (.bl b)
  | int (i : Int) : Rep K F (.int i) (.int i)
  | str (s : Str) : Rep K F (.str s) (.str s)
  | cls (c : Str) : Rep K F (.ref (ga K c)) (.cls c)
  | ty (n : String) : Rep K F (.ty n) (.ty n)
  | adr (a : Addr) : Rep K F (.ref a) (.adr a)
  | lst {a : Addr} {xs : List V} {ds : List D} : F a = some (.lst xs) → RepL K F xs ds → Rep K F (.ref a) (.lst ds)
  | tup {a : Addr} {xs : List V} {ds : List D} : SqT K F a xs → RepL K F xs ds → Rep K F (.ref a) (.tup ds)
  | dct {a : Addr} {kvs : List (Key × V)} {kds : List (Key × D)} : F a = some (.dK kvs) → kvs.map (·.1) = kds.map (·.1) → RepL K F (kvs.map (·.2)) (kds.map (·.2)) → Rep K F (.ref a) (.dct kds)
  | obj {a dx : Addr} {c : Str} {fs : List (Str × V)} {fds : List (Str × D)} : F a = some (.ins (ga K c) dx fs) → fs.map (·.1) = fds.map (·.1) → RepL K F (fs.map (·.2)) (fds.map (·.2)) → Rep K F (.ref a) (.obj c fds)
  | exc {a dd : Addr} {c : Str} {fs : List (Str × V)} {fds : List (Str × D)} : F a = some (XW a (.ref (ga K c)) (some dd)) → F dd = some (.xd fs) → fs.map (·.1) = fds.map (·.1) → RepL K F (fs.map (·.2)) (fds.map (·.2)) → Rep K F (.ref a) (.exc c fds)
inductive RepL (K : PySem.W.Frag) (F : Hp) : List V → List D → Prop
  | nil : RepL K F [] []
  | cons {v : V} {vs : List V} {d : D} {ds : List D} : Rep K F v d → RepL K F vs ds → RepL K F (v :: vs) (d :: ds)
end
def RepP {κ : Type} (K : PySem.W.Frag) (F : Hp) (kvs : List (κ × V)) (kds : List (κ × D)) : Prop := kvs.map (·.1) = kds.map (·.1) ∧ RepL K F (kvs.map (·.2)) (kds.map (·.2))
section
variable {K : PySem.W.Frag} {F F2 H : Hp} {κ : Type}
theorem sql_same (s : Same F F2) {l : Addr} {xs : List V} (h : SqL K F l xs) : SqL K F2 l xs := Same.seq s h
mutual
theorem Rep.mono (s : Same F F2) : ∀ {v : V} {d : D}, Rep K F v d → Rep K F2 v d
  | _, _, .non => .non
  | _, _, .bl b => .bl b
  | _, _, .int i => .int i
  | _, _, .str z => .str z
  | _, _, .cls z => .cls z
  | _, _, .ty z => .ty z
  | _, _, .adr z => .adr z
  | _, _, .lst h a => .lst (s _ _ h) (RepL.mono s a)
  | _, _, .tup h a => .tup (sqt_same s h) (RepL.mono s a)
  | _, _, .dct h e a => .dct (s _ _ h) e (RepL.mono s a)
  | _, _, .obj h e a => .obj (s _ _ h) e (RepL.mono s a)
  | _, _, .exc h h2 e a => .exc (s _ _ h) (s _ _ h2) e (RepL.mono s a)
theorem RepL.mono (s : Same F F2) : ∀ {vs : List V} {ds : List D}, RepL K F vs ds → RepL K F2 vs ds
  | _, _, .nil => .nil
  | _, _, .cons h a => .cons (Rep.mono s h) (RepL.mono s a)
end
theorem RepP.mono (s : Same F F2) {kvs : List (κ × V)} {kds : List (κ × D)} (h : RepP K F kvs kds) : RepP K F2 kvs kds := ⟨h.1, h.2.mono s⟩
theorem RepL.length {vs : List V} {ds : List D} (h : RepL K F vs ds) : vs.length = ds.length := by
  induction ds generalizing vs with
  | nil => cases h; rfl
  | cons d ds ih => cases h with | cons a b => rw [List.length_cons, List.length_cons, ih b]
theorem RepL.append {vs us : List V} {ds es : List D} (h : RepL K F vs ds) (g : RepL K F us es) : RepL K F (vs ++ us) (ds ++ es) := by
  induction ds generalizing vs with
  | nil => cases h; exact g
  | cons d ds ih => cases h with | cons a b => exact .cons a (ih b)
theorem RepL.one {v : V} {d : D} (h : Rep K F v d) : RepL K F [v] [d] := .cons h .nil
theorem RepL.at {vs : List V} {ds : List D} (h : RepL K F vs ds) {i : Nat} {d : D} (e : ds[i]? = some d) : ∃ v, vs[i]? = some v ∧ Rep K F v d := by
  induction ds generalizing vs i with
  | nil => cases e
  | cons d0 ds ih =>
    cases h with
    | cons a b =>
      cases i with
      | zero => cases e; exact ⟨_, rfl, a⟩
      | succ i => exact ih b e
theorem RepL.sub {vs : List V} {ds : List D} (h : RepL K F vs ds) (a b : Nat) : RepL K F ((vs.drop a).take b) ((ds.drop a).take b) := by
  induction ds generalizing vs a b with
  | nil => cases h; simp; exact .nil
  | cons d0 ds ih =>
    cases h with
    | cons x y =>
      cases a with
      | succ a => exact ih y a b
      | zero =>
        cases b with
        | zero => exact .nil
        | succ b => exact .cons x (ih y 0 b)
theorem RepL.erase {vs : List V} {ds : List D} (h : RepL K F vs ds) (i : Nat) : RepL K F (vs.eraseIdx i) (ds.eraseIdx i) := by
  induction ds generalizing vs i with
  | nil => cases h; exact .nil
  | cons d0 ds ih =>
    cases h with
    | cons x y =>
      cases i with
      | zero => exact y
      | succ i => exact .cons x (ih y i)
theorem RepL.set {vs : List V} {ds : List D} (h : RepL K F vs ds) (i : Nat) {v : V} {d : D} (r : Rep K F v d) : RepL K F (vs.set i v) (ds.set i d) := by
  induction ds generalizing vs i with
  | nil => cases h; exact .nil
  | cons d0 ds ih =>
    cases h with
    | cons x y =>
      cases i with
      | zero => exact .cons r y
      | succ i => exact .cons x (ih y i)
theorem RepL.ints {ns : List Int} : RepL K F (ns.map V.int) (ns.map D.int) := by
  induction ns with
  | nil => exact .nil
  | cons i ns ih => exact .cons (.int i) ih
theorem RepL.strs' {vs : List V} {ns : List Str} (h : RepL K F vs (ns.map D.str)) : vs = ns.map V.str := by
  induction ns generalizing vs with
  | nil => cases h; rfl
  | cons i ns ih =>
    cases h with
    | cons a b => cases a; rw [List.map_cons, ih b]
theorem RepL.ints' {vs : List V} {ns : List Int} (h : RepL K F vs (ns.map D.int)) : vs = ns.map V.int := by
  induction ns generalizing vs with
  | nil => cases h; rfl
  | cons i ns ih =>
    cases h with
    | cons a b => cases a; rw [List.map_cons, ih b]
theorem RepP.nil : RepP K F ([] : List (κ × V)) [] := ⟨rfl, .nil⟩
theorem RepP.cons {k : κ} {v : V} {d : D} {kvs : List (κ × V)} {kds : List (κ × D)} (r : Rep K F v d) (h : RepP K F kvs kds) : RepP K F ((k, v) :: kvs) ((k, d) :: kds) := ⟨by rw [List.map_cons, List.map_cons, h.1], .cons r h.2⟩
theorem RepP.inv {kvs : List (κ × V)} {k : κ} {d : D} {kds : List (κ × D)} (h : RepP K F kvs ((k, d) :: kds)) : ∃ v r, kvs = (k, v) :: r ∧ Rep K F v d ∧ RepP K F r kds := by
  obtain ⟨h1, h2⟩ := h
  cases kvs with
  | nil => cases h1
  | cons q r =>
    obtain ⟨k2, v⟩ := q
    rw [List.map_cons, List.map_cons] at h1
    cases List.cons.inj h1 with
    | intro e1 e2 =>
      have e1 : k2 = k := e1
      subst e1
      cases h2 with
      | cons a b => exact ⟨v, r, rfl, a, e2, b⟩
theorem RepP.inv0 {kvs : List (κ × V)} (h : RepP K F kvs []) : kvs = [] := by
  cases kvs with
  | nil => rfl
  | cons q r => cases h.1
theorem RepP.lookup [BEq κ] {kvs : List (κ × V)} {kds : List (κ × D)} {k : κ} {d : D} (h : RepP K F kvs kds) (e : kds.lookup k = some d) : ∃ v, kvs.lookup k = some v ∧ Rep K F v d := by
  induction kds generalizing kvs with
  | nil => cases e
  | cons q kds ih =>
    obtain ⟨k2, d2⟩ := q
    obtain ⟨v, r, rfl, a, b⟩ := h.inv
    rw [List.lookup_cons] at e ⊢
    split at e
    · rename_i z; cases e; exact ⟨v, rfl, a⟩
    · rename_i z; exact ih b e
theorem RepP.lookupN [BEq κ] {kvs : List (κ × V)} {kds : List (κ × D)} {k : κ} (h : RepP K F kvs kds) (e : kds.lookup k = none) : kvs.lookup k = none := by
  induction kds generalizing kvs with
  | nil => rw [h.inv0]; rfl
  | cons q kds ih =>
    obtain ⟨k2, d2⟩ := q
    obtain ⟨v, r, rfl, a, b⟩ := h.inv
    rw [List.lookup_cons] at e ⊢
    split at e
    · cases e
    · exact ih b e
theorem RepP.length {kvs : List (κ × V)} {kds : List (κ × D)} (h : RepP K F kvs kds) : kvs.length = kds.length := by
  have := congrArg List.length h.1
  rwa [List.length_map, List.length_map] at this
theorem Rep.ofDct {a : Addr} {kvs : List (Key × V)} {kds : List (Key × D)} (h : F a = some (.dK kvs)) (r : RepP K F kvs kds) : Rep K F (.ref a) (.dct kds) := .dct h r.1 r.2
theorem Rep.ofObj {a dx : Addr} {c : Str} {fs : List (Str × V)} {kds : List (Str × D)} (h : F a = some (.ins (ga K c) dx fs)) (r : RepP K F fs kds) : Rep K F (.ref a) (.obj c kds) := .obj h r.1 r.2
theorem Rep.objP {v : V} {c : Str} {fds : List (Str × D)} (h : Rep K F v (.obj c fds)) : ∃ a dx fs, v = .ref a ∧ F a = some (.ins (ga K c) dx fs) ∧ RepP K F fs fds := by
  cases h with
  | obj h1 h2 h3 => exact ⟨_, _, _, rfl, h1, h2, h3⟩
theorem Rep.lstP {v : V} {ds : List D} (h : Rep K F v (.lst ds)) : ∃ a xs, v = .ref a ∧ F a = some (.lst xs) ∧ RepL K F xs ds := by
  cases h with
  | lst h1 h2 => exact ⟨_, _, rfl, h1, h2⟩
theorem Rep.tupP {v : V} {ds : List D} (h : Rep K F v (.tup ds)) : ∃ a xs, v = .ref a ∧ SqT K F a xs ∧ RepL K F xs ds := by
  cases h with
  | tup h1 h2 => exact ⟨_, _, rfl, h1, h2⟩
end
inductive Sl where
  | none | val (d : D) | own (d : D) | pen (n : Nat)
abbrev Ro := List Sl
def Sl.mut : Sl → Bool
  | .own _ => true
  | .pen _ => true
  | _ => false
def sl (ρ : Ro) (i : Nat) : Sl := (ρ[i]?).getD .none
def sv (σ : L2.St) (i : Nat) : Option V := (σ[i]?).getD none
def Shl (K : PySem.W.Frag) (F H : Hp) (p : Addr) : D → Prop
  | .lst ds => ∃ vs, H p = some (.lst vs) ∧ RepL K F vs ds
  | .dct kds => ∃ kvs, H p = some (.dK kvs) ∧ RepP K F kvs kds
  | .obj c fds => ∃ dx fs, H p = some (.ins (ga K c) dx fs) ∧ RepP K F fs fds
  | _ => False
def PenS (F H : Hp) (p : Addr) (n : Nat) : Prop := ∃ P : Pen, P.p = p ∧ F P.c = some (.lst (P.ns.map V.int)) ∧ ∃ a r : Int, H P.p = some (.lst [.ref P.c, .int a, .int r]) ∧ 0 ≤ a ∧ a ≤ n ∧ 0 ≤ r ∧ P.ns.length ≤ 1000
def MutOk (K : PySem.W.Frag) (F H : Hp) (p : Addr) : Sl → Prop
  | .own d => Shl K F H p d
  | .pen n => PenS F H p n
  | _ => False
def SlOk (K : PySem.W.Frag) (O : Hp) (F H : Hp) (w : Option V) (s : Sl) : Prop := match s with
  | .none => True
  | .val d => ∃ v, w = some v ∧ Rep K F v d
  | s => ∃ p, w = some (.ref p) ∧ F p = none ∧ O p = none ∧ MutOk K F H p s
/-- what lies outside and stays; what the first slot holds throughout -/
structure Oc where
  o : Hp
  w : Option V
  T : List (Addr × Str)
/-- no code object, no table of such -/
def NX (o : HO) : Prop := (∀ ps, o ≠ .tbl ps) ∧ ∀ φ, o ≠ .ext φ
theorem nx_lst {xs : List V} : NX (.lst xs) := ⟨fun _ z => (nomatch z), fun _ z => (nomatch z)⟩
theorem nx_tup {xs : List V} : NX (.tup xs) := ⟨fun _ z => (nomatch z), fun _ z => (nomatch z)⟩
theorem nx_dK {xs : List (Key × V)} : NX (.dK xs) := ⟨fun _ z => (nomatch z), fun _ z => (nomatch z)⟩
theorem nx_ins {C dx : Addr} {fs : List (Str × V)} : NX (.ins C dx fs) := ⟨fun _ z => (nomatch z), fun _ z => (nomatch z)⟩
theorem nx_xd {fs : List (Str × V)} : NX (.xd fs) := ⟨fun _ z => (nomatch z), fun _ z => (nomatch z)⟩
theorem tabs_new {T : List (Addr × Str)} {H : Hp} {p : Addr} {o : HO} (t : Tabs T H) (h : H p = none) : Tabs T (upd H p o) := Tabs.ext t fun b u e => by rw [upd_ne (ne_of_none e h)]; exact e
theorem tabs_mut {T : List (Addr × Str)} {H : Hp} {p : Addr} {o u : HO} (t : Tabs T H) (h : H p = some o) (n : NX o) : Tabs T (upd H p u) := fun q hq => by
  obtain ⟨ps, a1, a2, a3⟩ := t q hq
  have e1 : q.1 ≠ p := fun z => by rw [z, h] at a1; exact n.1 ps (Option.some.inj a1)
  refine ⟨ps, by rw [upd_ne e1]; exact a1, a2, fun pos cv hc => ?_⟩
  obtain ⟨c, b1, b2⟩ := a3 pos cv hc
  have e2 : c ≠ p := fun z => by rw [z, h] at b2; exact n.2 _ (Option.some.inj b2)
  exact ⟨c, b1, by rw [upd_ne e2]; exact b2⟩
structure RS (K : PySem.W.Frag) (O : Oc) (F H : Hp) (σ : L2.St) (ρ : Ro) : Prop where
  fh : Same F H
  oh : Same O.o H
  dj : ∀ a o, O.o a = some o → F a = none
  tb : Tabs O.T H
  ot : ∀ a o, O.o a = some o → NX o
  ft : ∀ a o, F a = some o → ∀ ps, o ≠ .tbl ps
  w0 : ∀ v, O.w = some v → sv σ 0 = some v
  len : σ.length = ρ.length
  at_ : ∀ i, SlOk K O.o F H (sv σ i) (sl ρ i)
  ne : ∀ i j p, i ≠ j → (sl ρ i).mut = true → (sl ρ j).mut = true → sv σ i = some (.ref p) → sv σ j = some (.ref p) → False
section
variable {K : PySem.W.Frag} {F F2 H H2 : Hp} {σ : L2.St} {ρ : Ro} {p : Addr} {o : HO} {s : Sl} {w : Option V}
theorem sv_set {n i : Nat} {x : Option V} (h : n < σ.length) : sv (σ.set n x) i = if i = n then x else sv σ i := by
  unfold sv
  rw [List.getElem?_set]
  by_cases e : n = i
  · subst e; rw [if_pos rfl, if_pos h, if_pos rfl]; rfl
  · rw [if_neg e, if_neg (Ne.symm e)]
theorem sl_set {n i : Nat} {x : Sl} (h : n < ρ.length) : sl (ρ.set n x) i = if i = n then x else sl ρ i := by
  unfold sl
  rw [List.getElem?_set]
  by_cases e : n = i
  · subst e; rw [if_pos rfl, if_pos h, if_pos rfl]; rfl
  · rw [if_neg e, if_neg (Ne.symm e)]
theorem SlOk.mut_of {O : Hp} (h : SlOk K O F H w s) (m : s.mut = true) : ∃ p, w = some (.ref p) ∧ F p = none ∧ O p = none ∧ MutOk K F H p s := by
  cases s with
  | none => cases m
  | val d => cases m
  | own d => exact h
  | pen n => exact h
theorem SlOk.of_mut {O : Hp} (m : s.mut = true) (hw : w = some (.ref p)) (hF : F p = none) (hO : O p = none) (h : MutOk K F H p s) : SlOk K O F H w s := by
  cases s with
  | none => cases m
  | val d => cases m
  | own d => exact ⟨p, hw, hF, hO, h⟩
  | pen n => exact ⟨p, hw, hF, hO, h⟩
theorem MutOk.some (h : MutOk K F H p s) : ∃ o, H p = some o := by
  cases s with
  | none => cases h
  | val d => cases h
  | pen n => obtain ⟨P, rfl, _, a, r, h, _⟩ := h; exact ⟨_, h⟩
  | own d =>
    cases d with
    | lst ds => obtain ⟨_, h, _⟩ := h; exact ⟨_, h⟩
    | dct ds => obtain ⟨_, h, _⟩ := h; exact ⟨_, h⟩
    | obj c ds => obtain ⟨_, _, h, _⟩ := h; exact ⟨_, h⟩
    | _ => cases h
theorem MutOk.nx (h : MutOk K F H p s) : ∃ o, H p = Option.some o ∧ NX o := by
  cases s with
  | none => cases h
  | val d => cases h
  | pen n => obtain ⟨P, rfl, _, a, r, h, _⟩ := h; exact ⟨_, h, nx_lst⟩
  | own d =>
    cases d with
    | lst ds => obtain ⟨_, h, _⟩ := h; exact ⟨_, h, nx_lst⟩
    | dct ds => obtain ⟨_, h, _⟩ := h; exact ⟨_, h, nx_dK⟩
    | obj c ds => obtain ⟨_, _, h, _⟩ := h; exact ⟨_, h, nx_ins⟩
    | _ => cases h
/-- what a slot owns, over a heap that grew, or turned elsewhere -/
theorem MutOk.mono (h : MutOk K F H p s) (e : H2 p = H p) (g : Same F F2) : MutOk K F2 H2 p s := by
  cases s with
  | none => cases h
  | val d => cases h
  | pen n => obtain ⟨P, rfl, hc, a, r, h, z⟩ := h; exact ⟨P, rfl, g _ _ hc, a, r, by rw [e]; exact h, z⟩
  | own d =>
    cases d with
    | lst ds => obtain ⟨vs, h, r⟩ := h; exact ⟨vs, by rw [e]; exact h, r.mono g⟩
    | dct ds => obtain ⟨vs, h, r⟩ := h; exact ⟨vs, by rw [e]; exact h, r.mono g⟩
    | obj c ds => obtain ⟨dx, vs, h, r⟩ := h; exact ⟨dx, vs, by rw [e]; exact h, r.mono g⟩
    | _ => cases h
end
section
variable {K : PySem.W.Frag} {O : Oc} {F F2 H H2 : Hp} {σ : L2.St} {ρ : Ro} {p : Addr} {o : HO} {s : Sl} {w : Option V}
theorem RS.free (R : RS K O F H σ ρ) (h : H p = none) : F p = none ∧ O.o p = none := ⟨Same.free R.fh h, Same.free R.oh h⟩
theorem RS.owned (R : RS K O F H σ ρ) {i : Nat} (m : (sl ρ i).mut = true) : ∃ p, sv σ i = some (.ref p) ∧ F p = none ∧ O.o p = none ∧ MutOk K F H p (sl ρ i) := (R.at_ i).mut_of m
/-- a new frozen object -/
theorem ft_updT (R : RS K O F H σ ρ) (hx : ∀ ps, o ≠ .tbl ps) : ∀ a u, upd F p o a = some u → ∀ ps, u ≠ .tbl ps := fun a u e => by
  by_cases z : a = p
  · rw [z, upd_same] at e; cases e; exact hx
  · rw [upd_ne z] at e; exact R.ft a u e
theorem ft_upd (R : RS K O F H σ ρ) (hx : NX o) : ∀ a u, upd F p o a = some u → ∀ ps, u ≠ .tbl ps := ft_updT R hx.1
theorem RS.alloc (R : RS K O F H σ ρ) (h : H p = none) (hx : NX o) : RS K O (upd F p o) (upd H p o) σ ρ ∧ Same F (upd F p o) := by
  obtain ⟨f, q⟩ := R.free h
  have g : Same F (upd F p o) := Same.upd (Same.refl _) f
  refine ⟨⟨fun b u e => ?_, Same.upd R.oh h, fun a u e => ?_, tabs_new R.tb h, R.ot, ft_upd R hx, R.w0, R.len, fun i => ?_, R.ne⟩, g⟩
  · by_cases z : b = p
    · rw [z, upd_same] at e ⊢; exact e
    · rw [upd_ne z] at e ⊢; exact R.fh _ _ e
  · rw [upd_ne (ne_of_none e q)]; exact R.dj a u e
  · have h1 := R.at_ i
    cases es : sl ρ i with
    | none => trivial
    | val d => rw [es] at h1; obtain ⟨v, h1, h2⟩ := h1; exact ⟨v, h1, h2.mono g⟩
    | own d =>
      rw [es] at h1
      obtain ⟨a, h1, h2, h3, h4⟩ := h1
      obtain ⟨u, hu⟩ := h4.some
      have n := ne_of_none hu h
      exact ⟨a, h1, by rw [upd_ne n]; exact h2, h3, h4.mono (upd_ne n) g⟩
    | pen d =>
      rw [es] at h1
      obtain ⟨a, h1, h2, h3, h4⟩ := h1
      obtain ⟨u, hu⟩ := h4.some
      have n := ne_of_none hu h
      exact ⟨a, h1, by rw [upd_ne n]; exact h2, h3, h4.mono (upd_ne n) g⟩
/-- a new object that nobody holds yet -/
theorem RS.allocN (R : RS K O F H σ ρ) (h : H p = none) : RS K O F (upd H p o) σ ρ := by
  refine ⟨Same.upd R.fh h, Same.upd R.oh h, R.dj, tabs_new R.tb h, R.ot, R.ft, R.w0, R.len, fun i => ?_, R.ne⟩
  have h1 := R.at_ i
  by_cases m : (sl ρ i).mut = true
  · obtain ⟨a, h1, h2, h3, h4⟩ := h1.mut_of m
    obtain ⟨u, hu⟩ := h4.some
    exact SlOk.of_mut m h1 h2 h3 (h4.mono (upd_ne (ne_of_none hu h)) (Same.refl _))
  · cases es : sl ρ i with
    | none => trivial
    | val d => rw [es] at h1; exact h1
    | own d => rw [es] at m; exact absurd rfl m
    | pen d => rw [es] at m; exact absurd rfl m
/-- slot n gets a frozen value -/
theorem w_set {n : Nat} {x : Option V} (R : RS K O F H σ ρ) (hn0 : n ≠ 0) : ∀ v, O.w = some v → sv (σ.set n x) 0 = some v := fun v e => by
  rw [← R.w0 v e]
  unfold sv
  rw [List.getElem?_set_ne hn0]
theorem RS.put (R : RS K O F H σ ρ) {n : Nat} {v : V} {d : D} (hn0 : n ≠ 0) (r : Rep K F v d) : RS K O F H (σ.set n (some v)) (ρ.set n (.val d)) := by
  by_cases hn : n < σ.length
  · have hm : n < ρ.length := by rw [← R.len]; exact hn
    refine ⟨R.fh, R.oh, R.dj, R.tb, R.ot, R.ft, w_set R hn0, by rw [List.length_set, List.length_set, R.len], fun i => ?_, fun i j a ij mi mj vi vj => ?_⟩
    · rw [sv_set hn, sl_set hm]
      by_cases e : i = n
      · rw [if_pos e, if_pos e]; exact ⟨v, rfl, r⟩
      · rw [if_neg e, if_neg e]; exact R.at_ i
    · rw [sl_set hm] at mi mj
      rw [sv_set hn] at vi vj
      by_cases e : i = n
      · rw [if_pos e] at mi; cases mi
      · by_cases f : j = n
        · rw [if_pos f] at mj; cases mj
        · rw [if_neg e] at mi vi; rw [if_neg f] at mj vj; exact R.ne i j a ij mi mj vi vj
  · rw [List.set_eq_of_length_le (by omega), List.set_eq_of_length_le (by rw [← R.len]; omega)]; exact R
/-- slot n comes to own p -/
theorem RS.putO (R : RS K O F H σ ρ) {n : Nat} (hn0 : n ≠ 0) (hn : n < ρ.length) (m : s.mut = true) (hF : F p = none) (hO : O.o p = none) (h : MutOk K F H p s) (hx : ∀ i, i ≠ n → (sl ρ i).mut = true → sv σ i ≠ some (.ref p)) : RS K O F H (σ.set n (some (.ref p))) (ρ.set n s) := by
  have hs : n < σ.length := by rw [R.len]; exact hn
  refine ⟨R.fh, R.oh, R.dj, R.tb, R.ot, R.ft, w_set R hn0, by rw [List.length_set, List.length_set, R.len], fun i => ?_, fun i j a ij mi mj vi vj => ?_⟩
  · rw [sv_set hs, sl_set hn]
    by_cases e : i = n
    · rw [if_pos e, if_pos e]; exact SlOk.of_mut m rfl hF hO h
    · rw [if_neg e, if_neg e]; exact R.at_ i
  · rw [sl_set hn] at mi mj
    rw [sv_set hs] at vi vj
    by_cases e : i = n
    · rw [if_pos e] at mi vi
      by_cases f : j = n
      · exact ij (e.trans f.symm)
      · rw [if_neg f] at mj vj
        cases vi
        exact hx j f mj vj
    · rw [if_neg e] at mi vi
      by_cases f : j = n
      · rw [if_pos f] at mj vj
        cases vj
        exact hx i e mi vi
      · rw [if_neg f] at mj vj; exact R.ne i j a ij mi mj vi vj
theorem RS.no_new (R : RS K O F H σ ρ) (h : H p = none) : ∀ i, (sl ρ i).mut = true → sv σ i ≠ some (.ref p) := fun i m e => by
  obtain ⟨a, h1, _, _, h4⟩ := R.owned m
  rw [h1] at e
  cases e
  obtain ⟨o, ho⟩ := h4.some
  rw [ho] at h; cases h
/-- the object that slot n owns turns -/
theorem RS.mutO (R : RS K O F H σ ρ) {n : Nat} (m : (sl ρ n).mut = true) (hp : sv σ n = some (.ref p)) (m2 : s.mut = true) (h : MutOk K F (upd H p o) p s) : RS K O F (upd H p o) σ (ρ.set n s) := by
  obtain ⟨p2, h1, h2, h3, h4⟩ := R.owned m
  rw [hp] at h1
  cases h1
  have hn : n < ρ.length := by
    by_cases q : n < ρ.length
    · exact q
    · exfalso
      unfold sl at m
      rw [List.getElem?_eq_none (by omega)] at m
      cases m
  obtain ⟨oo, ho1, ho2⟩ := h4.nx
  refine ⟨Same.mut R.fh h2, Same.mut R.oh h3, R.dj, tabs_mut R.tb ho1 ho2, R.ot, R.ft, R.w0, by rw [List.length_set, R.len], fun i => ?_, fun i j a ij mi mj vi vj => ?_⟩
  · rw [sl_set hn]
    by_cases e : i = n
    · rw [if_pos e, e, hp]; exact SlOk.of_mut m2 rfl h2 h3 h
    · rw [if_neg e]
      have q := R.at_ i
      by_cases mi : (sl ρ i).mut = true
      · obtain ⟨b, q1, q2, q3, q4⟩ := q.mut_of mi
        have nb : b ≠ p := fun z => R.ne i n p e mi m (by rw [q1, z]) hp
        exact SlOk.of_mut mi q1 q2 q3 (q4.mono (upd_ne nb) (Same.refl _))
      · cases es : sl ρ i with
        | none => trivial
        | val d => rw [es] at q; exact q
        | own d => rw [es] at mi; exact absurd rfl mi
        | pen d => rw [es] at mi; exact absurd rfl mi
  · rw [sl_set hn] at mi mj
    refine R.ne i j a ij ?_ ?_ vi vj
    · by_cases e : i = n
      · rw [e]; exact m
      · rw [if_neg e] at mi; exact mi
    · by_cases e : j = n
      · rw [e]; exact m
      · rw [if_neg e] at mj; exact mj
/-- what is owned is frozen -/
theorem Shl.rep {d : D} (h : Shl K F H p d) (hF : F p = none) : ∃ o, H p = some o ∧ NX o ∧ Rep K (upd F p o) (.ref p) d := by
  have g : ∀ {o}, Same F (upd F p o) := fun {o} => Same.upd (Same.refl _) hF
  cases d with
  | lst ds => obtain ⟨vs, h, r⟩ := h; exact ⟨_, h, nx_lst, .lst upd_same (r.mono g)⟩
  | dct ds => obtain ⟨vs, h, r⟩ := h; exact ⟨_, h, nx_dK, .ofDct upd_same (r.mono g)⟩
  | obj c ds => obtain ⟨dx, vs, h, r⟩ := h; exact ⟨_, h, nx_ins, .ofObj upd_same (r.mono g)⟩
  | _ => cases h
theorem RS.thaw (R : RS K O F H σ ρ) (ho : H p = some o) (hnx : NX o) (hF : F p = none) (hO : O.o p = none) (hx : ∀ i, (sl ρ i).mut = true → sv σ i ≠ some (.ref p)) : RS K O (upd F p o) H σ ρ ∧ Same F (upd F p o) := by
  have g : Same F (upd F p o) := Same.upd (Same.refl _) hF
  refine ⟨⟨fun b u e => ?_, R.oh, fun a u e => ?_, R.tb, R.ot, ft_upd R hnx, R.w0, R.len, fun i => ?_, R.ne⟩, g⟩
  · by_cases z : b = p
    · rw [z, upd_same] at e; rw [z]; cases e; exact ho
    · rw [upd_ne z] at e; exact R.fh _ _ e
  · rw [upd_ne (ne_of_none e hO)]; exact R.dj a u e
  · have q := R.at_ i
    by_cases mi : (sl ρ i).mut = true
    · obtain ⟨b, q1, q2, q3, q4⟩ := q.mut_of mi
      have nb : b ≠ p := fun z => hx i mi (by rw [q1, z])
      exact SlOk.of_mut mi q1 (by rw [upd_ne nb]; exact q2) q3 (q4.mono rfl g)
    · cases es : sl ρ i with
      | none => trivial
      | val d => rw [es] at q; obtain ⟨v, q1, q2⟩ := q; exact ⟨v, q1, q2.mono g⟩
      | own d => rw [es] at mi; exact absurd rfl mi
      | pen d => rw [es] at mi; exact absurd rfl mi
theorem RS.freeze (R : RS K O F H σ ρ) {n : Nat} {d : D} (e : sl ρ n = .own d) : ∃ p F2, sv σ n = some (.ref p) ∧ Same F F2 ∧ Rep K F2 (.ref p) d ∧ RS K O F2 H σ (ρ.set n (.val d)) := by
  have m : (sl ρ n).mut = true := by rw [e]; rfl
  obtain ⟨p, h1, h2, h3, h4⟩ := R.owned m
  rw [e] at h4
  obtain ⟨o, ho, hnx, r⟩ := Shl.rep h4 h2
  have hn : n < ρ.length := by
    by_cases q : n < ρ.length
    · exact q
    · exfalso
      unfold sl at m
      rw [List.getElem?_eq_none (by omega)] at m
      cases m
  have R1 : RS K O F H σ (ρ.set n .none) := by
    refine ⟨R.fh, R.oh, R.dj, R.tb, R.ot, R.ft, R.w0, by rw [List.length_set, R.len], fun i => ?_, fun i j a ij mi mj vi vj => ?_⟩
    · rw [sl_set hn]
      by_cases q : i = n
      · rw [if_pos q]; trivial
      · rw [if_neg q]; exact R.at_ i
    · rw [sl_set hn] at mi mj
      by_cases q : i = n
      · rw [if_pos q] at mi; cases mi
      · by_cases t : j = n
        · rw [if_pos t] at mj; cases mj
        · rw [if_neg q] at mi; rw [if_neg t] at mj; exact R.ne i j a ij mi mj vi vj
  obtain ⟨R2, g⟩ := R1.thaw ho hnx h2 h3 (fun i mi vi => by
    rw [sl_set hn] at mi
    by_cases q : i = n
    · rw [if_pos q] at mi; cases mi
    · rw [if_neg q] at mi; exact R.ne i n p q mi m vi h1)
  refine ⟨p, _, h1, g, r, ?_⟩
  have hn2 : n < (ρ.set n Sl.none).length := by rw [List.length_set]; exact hn
  refine ⟨R2.fh, R2.oh, R2.dj, R2.tb, R2.ot, R2.ft, R2.w0, by rw [List.length_set, R.len], fun i => ?_, fun i j a ij mi mj vi vj => ?_⟩
  · have q := R2.at_ i
    rw [sl_set hn] at q ⊢
    by_cases e2 : i = n
    · rw [if_pos e2, e2, h1]; exact ⟨_, rfl, r⟩
    · rw [if_neg e2] at q ⊢; exact q
  · rw [sl_set hn] at mi mj
    by_cases q : i = n
    · rw [if_pos q] at mi; cases mi
    · by_cases t : j = n
      · rw [if_pos t] at mj; cases mj
      · rw [if_neg q] at mi; rw [if_neg t] at mj; exact R.ne i j a ij mi mj vi vj
theorem RS.drop (R : RS K O F H σ ρ) {O2 : Oc} (h : Same O2.o O.o) (hw : O2.w = O.w ∨ O2.w = none) (hT : O2.T = O.T) : RS K O2 F H σ ρ := by
  refine ⟨R.fh, Same.trans h R.oh, fun a o e => R.dj a o (h _ _ e), (by rw [hT]; exact R.tb), (fun a o e => R.ot a o (h _ _ e)), R.ft, (fun v e => hw.elim (fun z => R.w0 v (z ▸ e)) fun z => nomatch (z.symm.trans e)), R.len, fun i => ?_, R.ne⟩
  have q := R.at_ i
  by_cases mi : (sl ρ i).mut = true
  · obtain ⟨b, q1, q2, q3, q4⟩ := q.mut_of mi
    exact SlOk.of_mut mi q1 q2 (Same.free h q3) q4
  · cases es : sl ρ i with
    | none => trivial
    | val d => rw [es] at q; exact q
    | own d => rw [es] at mi; exact absurd rfl mi
    | pen d => rw [es] at mi; exact absurd rfl mi
end
end SJ
namespace SJ
open PySem PySem.Spec PyProof.Rows L2 He
inductive X where
  | val (d : D) | slot (n : Nat)
def XvR (K : PySem.W.Frag) (F : Hp) (σ : L2.St) (v : V) : X → Prop
  | .val d => Rep K F v d
  | .slot n => sv σ n = some v
def XsV (K : PySem.W.Frag) (F : Hp) (σ : L2.St) : List V → List X → Prop
  | [], [] => True
  | v :: vs, x :: xs => XvR K F σ v x ∧ XsV K F σ vs xs
  | _, _ => False
/-- what is taken as a value for good -/
def Frz (x : X) (ρ : Ro) (Q : D → Ro → Prop) : Prop := match x with
  | .val d => Q d ρ
  | .slot n => match sl ρ n with
    | .own d => Q d (ρ.set n (.val d))
    | .val d => Q d ρ
    | _ => False
def FrzL : List X → Ro → (List D → Ro → Prop) → Prop
  | [], ρ, Q => Q [] ρ
  | x :: xs, ρ, Q => Frz x ρ fun d ρ2 => FrzL xs ρ2 fun ds ρ3 => Q (d :: ds) ρ3
structure Hn where
  nx : Ro → Prop
  rt : D → Ro → Prop
  bk : Ro → Prop := fun _ => False
  ct : Ro → Prop := fun _ => False
  rf : D → Ro → Prop := fun _ _ => False
section
variable (K : PySem.W.Frag) (O : Oc) (F0 : Hp)
def Me (t : TE) (ρ : Ro) (Q : X → Ro → Prop) : Prop := ∀ (F H : Hp) (σ : L2.St) (Qh : VK), Same F0 F → RS K O F H σ ρ → (∀ v H2 F2 x ρ2, Same F F2 → RS K O F2 H2 σ ρ2 → XvR K F2 σ v x → Q x ρ2 → Qh v H2) → t σ H Qh
def Mt (t : TT) (ρ : Ro) (Q : Bool → Ro → Prop) : Prop := ∀ (F H : Hp) (σ : L2.St) (Qh : Bool → Hp → Prop), Same F0 F → RS K O F H σ ρ → (∀ b H2 F2 ρ2, Same F F2 → RS K O F2 H2 σ ρ2 → Q b ρ2 → Qh b H2) → t σ H Qh
def Ma (t : TA) (ρ : Ro) (Q : List X → Ro → Prop) : Prop := ∀ (F H : Hp) (σ : L2.St) (Qh : List V → Hp → Prop), Same F0 F → RS K O F H σ ρ → (∀ vs H2 F2 xs ρ2, Same F F2 → RS K O F2 H2 σ ρ2 → XsV K F2 σ vs xs → Q xs ρ2 → Qh vs H2) → t σ H Qh
def Mr (r : R2) (x y : X) (ρ : Ro) (Q : X → Ro → Prop) : Prop := ∀ (F H : Hp) (σ : L2.St) (u v : V) (Qh : VK), Same F0 F → RS K O F H σ ρ → XvR K F σ u x → XvR K F σ v y → (∀ v H2 F2 x ρ2, Same F F2 → RS K O F2 H2 σ ρ2 → XvR K F2 σ v x → Q x ρ2 → Qh v H2) → r u v H Qh
def Mc (r : List V → Hp → VK → Prop) (xs : List X) (ρ : Ro) (Q : X → Ro → Prop) : Prop := ∀ (F H : Hp) (σ : L2.St) (vs : List V) (Qh : VK), Same F0 F → RS K O F H σ ρ → XsV K F σ vs xs → (∀ v H2 F2 x ρ2, Same F F2 → RS K O F2 H2 σ ρ2 → XvR K F2 σ v x → Q x ρ2 → Qh v H2) → r vs H Qh
/-- a new object, nobody's yet -/
def Nw (K : PySem.W.Frag) (O : Oc) (F H : Hp) (σ : L2.St) (ρ : Ro) (p : Addr) (d : D) : Prop := F p = none ∧ O.o p = none ∧ (∀ i, (sl ρ i).mut = true → sv σ i ≠ some (.ref p)) ∧ Shl K F H p d
def Mf (t : TE) (ρ : Ro) (Q : D → Ro → Prop) : Prop := ∀ (F H : Hp) (σ : L2.St) (Qh : VK), Same F0 F → RS K O F H σ ρ → (∀ p H2 F2 d ρ2, Same F F2 → RS K O F2 H2 σ ρ2 → Nw K O F2 H2 σ ρ2 p d → Q d ρ2 → Qh (.ref p) H2) → t σ H Qh
structure EnOk (F : Hp) (E : Ends) (N : Hn) : Prop where
  nx : ∀ F2 H2 σ2 ρ2, Same F F2 → RS K O F2 H2 σ2 ρ2 → N.nx ρ2 → E.nx σ2 H2
  rt : ∀ F2 H2 σ2 ρ2 v d, Same F F2 → RS K O F2 H2 σ2 ρ2 → Rep K F2 v d → N.rt d ρ2 → E.rt v H2
  bk : ∀ F2 H2 σ2 ρ2, Same F F2 → RS K O F2 H2 σ2 ρ2 → N.bk ρ2 → E.bk σ2 H2
  ct : ∀ F2 H2 σ2 ρ2, Same F F2 → RS K O F2 H2 σ2 ρ2 → N.ct ρ2 → E.ct σ2 H2
  rf : ∀ F2 H2 σ2 ρ2 p d, Same F F2 → RS K O F2 H2 σ2 ρ2 → Nw K O F2 H2 σ2 ρ2 p d → N.rf d ρ2 → E.rt (.ref p) H2
def Ms (t : TS) (ρ : Ro) (N : Hn) : Prop := ∀ (F H : Hp) (σ : L2.St) (E : Ends), Same F0 F → RS K O F H σ ρ → EnOk K O F E N → t E σ H
/-- js: the slots that a target writes -/
def Mg (g : TG) (js : List Nat) (d : D) (ρ : Ro) (N : Ro → Prop) : Prop := ∀ (F H : Hp) (σ : L2.St) (v : V) (Qs : L2.St → Hp → Prop), Same F0 F → RS K O F H σ ρ → Rep K F v d →
  (∀ F2 H2 σ2 ρ2, Same F F2 → RS K O F2 H2 σ2 ρ2 → (∀ vs, (∀ j ∈ js, j ∈ vs) → wipe σ2 vs = wipe σ vs) → N ρ2 → Qs σ2 H2) → g v σ H Qs
/-- what is raised: the record d's fields -/
def Wr (W : WX) (Xp : Str → List (Str × D) → Ro → Prop) : Prop := ∀ (F H : Hp) (σ : L2.St) (ρ : Ro) (c : Str) (fs : List (Str × D)) (dd : Addr) (fvs : List (Str × V)), Same F0 F → H dd = some (.xd fvs) → RS K { O with o := upd O.o dd (.xd fvs) } F H σ ρ → O.o dd = none → RepP K F fvs fs → Xp c fs ρ → W (.ref (ga K c)) (some dd) σ H
/-- an iterator's walk over trees -/
def WalkD (F : Hp) (J : It) (ds : List D) : Prop := ∀ (i : Nat) (F1 H : Hp) (σ : L2.St) (ρ : Ro), Same F F1 → RS K O F1 H σ ρ → (ds.length ≤ i → J.stop i H) ∧ ∀ d, ds[i]? = some d → J.go i H ∧ ∀ x H2, J.yld i H x H2 → ∃ F2, Same F1 F2 ∧ RS K O F2 H2 σ ρ ∧ Rep K F2 x d
end
def Mi (K : PySem.W.Frag) (O : Oc) (F0 : Hp) (wi : TI) (ρ : Ro) (Q : List D → Ro → Prop) : Prop := ∀ (F H : Hp) (σ : L2.St) (R : It → Hp → Prop), Same F0 F → RS K O F H σ ρ → (∀ J H2 F2 ds ρ2, Same F F2 → RS K O F2 H2 σ ρ2 → (∀ O2 : Oc, WalkD K O2 F2 J ds) → Q ds ρ2 → R J H2) → wi σ H R
section
variable {K : PySem.W.Frag} {O : Oc} {F0 F F2 H H2 : Hp} {σ : L2.St} {ρ : Ro} {Q : X → Ro → Prop} {QT : Bool → Ro → Prop} {QA : List X → Ro → Prop} {QF : D → Ro → Prop} {ta tb te to : TE} {t u : TT} {tA tK : TA} {ts tz : TS} {r : R2} {N : Hn} {n i : Nat} {x y : X} {d : D} {g : TG}
theorem XvR.mono {v : V} (h : XvR K F σ v x) (s : Same F F2) : XvR K F2 σ v x := by
  cases x with
  | val d => exact Rep.mono s h
  | slot n => exact h
theorem XsV.mono : ∀ {vs : List V} {xs : List X}, XsV K F σ vs xs → Same F F2 → XsV K F2 σ vs xs
  | [], [], _, _ => trivial
  | _ :: _, _ :: _, h, s => ⟨h.1.mono s, h.2.mono s⟩
theorem EnOk.mono {E : Ends} (h : EnOk K O F E N) (s : Same F F2) : EnOk K O F2 E N := ⟨fun F3 H3 a b c => h.nx F3 H3 a b (Same.trans s c), fun F3 H3 a b c d e => h.rt F3 H3 a b c d (Same.trans s e), fun F3 H3 a b c => h.bk F3 H3 a b (Same.trans s c), fun F3 H3 a b c => h.ct F3 H3 a b (Same.trans s c), fun F3 H3 a b c d e => h.rf F3 H3 a b c d (Same.trans s e)⟩
theorem Wr.mono {W : WX} {Xp : Str → List (Str × D) → Ro → Prop} (h : Wr K O F W Xp) (s : Same F F2) : Wr K O F2 W Xp := fun F3 H3 a b c d e f g => h F3 H3 a b c d e f (Same.trans s g)
theorem sv_some {v : V} (h : sv σ n = some v) : σ[n]? = some (some v) := by
  unfold sv at h
  cases e : σ[n]? with
  | none => rw [e] at h; cases h
  | some w => rw [e] at h; exact congrArg some h
/-- a frozen value out of a held one -/
theorem frz_of {v : V} {P : D → Ro → Prop} (R : RS K O F H σ ρ) (h : XvR K F σ v x) (q : Frz x ρ P) : ∃ d ρ2 F2, Same F F2 ∧ RS K O F2 H σ ρ2 ∧ Rep K F2 v d ∧ P d ρ2 := by
  cases x with
  | val d => exact ⟨d, ρ, F, Same.refl _, R, h, q⟩
  | slot n =>
    have e : sv σ n = some v := h
    unfold Frz at q
    cases es : sl ρ n with
    | none => simp only [es] at q
    | pen k => simp only [es] at q
    | val d =>
      simp only [es] at q
      have a := R.at_ n
      rw [es] at a
      obtain ⟨w, a1, a2⟩ := a
      rw [e] at a1; cases a1
      exact ⟨d, ρ, F, Same.refl _, R, a2, q⟩
    | own d =>
      simp only [es] at q
      obtain ⟨p, F2, h1, h2, h3, h4⟩ := R.freeze es
      rw [e] at h1; cases h1
      exact ⟨d, _, F2, h2, h4, h3, q⟩
theorem frzL_of {vs : List V} {xs : List X} {P : List D → Ro → Prop} (R : RS K O F H σ ρ) (h : XsV K F σ vs xs) (q : FrzL xs ρ P) : ∃ ds ρ2 F2, Same F F2 ∧ RS K O F2 H σ ρ2 ∧ RepL K F2 vs ds ∧ P ds ρ2 := by
  induction xs generalizing vs ρ F P with
  | nil =>
    cases vs with
    | nil => exact ⟨[], ρ, F, Same.refl _, R, .nil, q⟩
    | cons v vs => cases h
  | cons x xs ih =>
    cases vs with
    | nil => cases h
    | cons v vs =>
      obtain ⟨d, ρ1, F1, s1, R1, r1, q1⟩ := frz_of R h.1 q
      obtain ⟨ds, ρ2, F2, s2, R2, r2, q2⟩ := ih R1 (h.2.mono s1) q1
      exact ⟨_, ρ2, F2, Same.trans s1 s2, R2, .cons (r1.mono s2) r2, q2⟩
theorem m_var (e : sl ρ n = .val d) (k : Q (.val d) ρ) : Me K O F0 (tVar n) ρ Q := fun F H σ Qh s R c => by
  have a := R.at_ n
  rw [e] at a
  obtain ⟨w, a1, a2⟩ := a
  exact ⟨w, sv_some a1, c w H F (.val d) ρ (Same.refl _) R a2 k⟩
theorem m_varS (e : (sl ρ n).mut = true) (k : Q (.slot n) ρ) : Me K O F0 (tVar n) ρ Q := fun F H σ Qh s R c => by
  obtain ⟨p, a1, _⟩ := R.owned e
  exact ⟨_, sv_some a1, c _ H F (.slot n) ρ (Same.refl _) R a1 k⟩
theorem m_cI {i : Int} (k : Q (.val (.int i)) ρ) : Me K O F0 (tC (.int i)) ρ Q := fun F H σ Qh s R c => c _ H F (.val (.int i)) ρ (Same.refl _) R (Rep.int i) k
theorem m_cS {i : Str} (k : Q (.val (.str i)) ρ) : Me K O F0 (tC (.str i)) ρ Q := fun F H σ Qh s R c => c _ H F (.val (.str i)) ρ (Same.refl _) R (Rep.str i) k
theorem m_cB {i : Bool} (k : Q (.val (.bl i)) ρ) : Me K O F0 (tC (.bl i)) ρ Q := fun F H σ Qh s R c => c _ H F (.val (.bl i)) ρ (Same.refl _) R (Rep.bl i) k
theorem m_cN (k : Q (.val .non) ρ) : Me K O F0 (tC .non) ρ Q := fun F H σ Qh s R c => c _ H F (.val .non) ρ (Same.refl _) R Rep.non k
theorem m_cC {i : Str} (k : Q (.val (.cls i)) ρ) : Me K O F0 (tC (.ref (ga K i))) ρ Q := fun F H σ Qh s R c => c _ H F (.val (.cls i)) ρ (Same.refl _) R (Rep.cls i) k
theorem m_cT {i : String} (k : Q (.val (.ty i)) ρ) : Me K O F0 (tC (.ty i)) ρ Q := fun F H σ Qh s R c => c _ H F (.val (.ty i)) ρ (Same.refl _) R (Rep.ty i) k
theorem m_op (k : Me K O F0 ta ρ fun x ρ1 => Me K O F0 tb ρ1 fun y ρ2 => Mr K O F0 r x y ρ2 Q) : Me K O F0 (tOp r ta tb) ρ Q := fun F H σ Qh s R c =>
  k F H σ _ s R fun v1 H1 F1 x ρ1 s1 R1 r1 k1 => k1 F1 H1 σ _ (Same.trans s s1) R1 fun v2 H2 F2 y ρ2 s2 R2 r2 k2 => k2 F2 H2 σ v1 v2 Qh (Same.trans s (Same.trans s1 s2)) R2 (r1.mono s2) r2 fun v H3 F3 z ρ3 s3 R3 r3 q => c v H3 F3 z ρ3 (Same.trans s1 (Same.trans s2 s3)) R3 r3 q
theorem m_cb {r : List V → Hp → VK → Prop} (k : Ma K O F0 tA ρ fun xs ρ1 => Mc K O F0 r xs ρ1 Q) : Me K O F0 (tCB r tA) ρ Q := fun F H σ Qh s R c =>
  k F H σ _ s R fun v1 H1 F1 x ρ1 s1 R1 r1 k1 => k1 F1 H1 σ v1 Qh (Same.trans s s1) R1 r1 fun v H3 F3 z ρ3 s3 R3 r3 q => c v H3 F3 z ρ3 (Same.trans s1 s3) R3 r3 q
theorem m_nil (k : QA [] ρ) : Ma K O F0 tNil ρ QA := fun F H σ Qh s R c => c [] H F [] ρ (Same.refl _) R trivial k
theorem m_cons (k : Me K O F0 ta ρ fun x ρ1 => Ma K O F0 tA ρ1 fun xs ρ2 => QA (x :: xs) ρ2) : Ma K O F0 (tCons ta tA) ρ QA := fun F H σ Qh s R c =>
  k F H σ _ s R fun v1 H1 F1 x ρ1 s1 R1 r1 k1 => k1 F1 H1 σ _ (Same.trans s s1) R1 fun vs H2 F2 xs ρ2 s2 R2 r2 q => c (v1 :: vs) H2 F2 (x :: xs) ρ2 (Same.trans s1 s2) R2 ⟨r1.mono s2, r2⟩ q
theorem m_test (k : Me K O F0 te ρ fun x ρ1 => ∃ b, x = .val (.bl b) ∧ QT b ρ1) : Mt K O F0 (tTest te) ρ QT := fun F H σ Qh s R c =>
  k F H σ _ s R fun v H2 F2 x ρ2 s2 R2 r2 ⟨b, e, q⟩ => by
    subst e
    cases r2
    exact ⟨b, rfl, c b H2 F2 ρ2 s2 R2 q⟩
theorem m_B (k : Me K O F0 te ρ fun x ρ1 => ∃ b, x = .val (.bl b) ∧ QT b ρ1) : Mt K O F0 (tB te) ρ QT := fun F H σ Qh s R c =>
  k F H σ _ s R fun v H2 F2 x ρ2 s2 R2 r2 ⟨b, e, q⟩ => by
    subst e
    cases r2
    exact ⟨b, rfl, c b H2 F2 ρ2 s2 R2 q⟩
theorem m_and (k : Mt K O F0 t ρ fun b ρ1 => if b = true then Mt K O F0 u ρ1 QT else QT false ρ1) : Mt K O F0 (tAnd t u) ρ QT := fun F H σ Qh s R c =>
  k F H σ _ s R fun b H1 F1 ρ1 s1 R1 k1 => by
    cases b with
    | true => exact k1 F1 H1 σ _ (Same.trans s s1) R1 fun b H2 F2 ρ2 s2 R2 q => c b H2 F2 ρ2 (Same.trans s1 s2) R2 q
    | false => exact c false H1 F1 ρ1 s1 R1 k1
theorem m_or (k : Mt K O F0 t ρ fun b ρ1 => if b = true then QT true ρ1 else Mt K O F0 u ρ1 QT) : Mt K O F0 (tOr t u) ρ QT := fun F H σ Qh s R c =>
  k F H σ _ s R fun b H1 F1 ρ1 s1 R1 k1 => by
    cases b with
    | false => exact k1 F1 H1 σ _ (Same.trans s s1) R1 fun b H2 F2 ρ2 s2 R2 q => c b H2 F2 ρ2 (Same.trans s1 s2) R2 q
    | true => exact c true H1 F1 ρ1 s1 R1 k1
theorem m_not (k : Mt K O F0 t ρ fun b ρ1 => QT (!b) ρ1) : Mt K O F0 (tNot t) ρ QT := fun F H σ Qh s R c =>
  k F H σ _ s R fun b H1 F1 ρ1 s1 R1 k1 => c (!b) H1 F1 ρ1 s1 R1 k1
theorem m_andV (k : Me K O F0 ta ρ fun x ρ1 => ∃ b, x = .val (.bl b) ∧ if b = true then Me K O F0 tb ρ1 Q else Q (.val (.bl false)) ρ1) : Me K O F0 (tAndV ta tb) ρ Q := fun F H σ Qh s R c =>
  k F H σ _ s R fun v H1 F1 x ρ1 s1 R1 r1 ⟨b, e, k1⟩ => by
    subst e
    cases r1
    cases b with
    | true => exact ⟨true, rfl, k1 F1 H1 σ _ (Same.trans s s1) R1 fun b H2 F2 x2 ρ2 s2 R2 r2 q => c b H2 F2 x2 ρ2 (Same.trans s1 s2) R2 r2 q⟩
    | false => exact ⟨false, rfl, c _ H1 F1 (.val (.bl false)) ρ1 s1 R1 (Rep.bl false) k1⟩
theorem m_orV (k : Me K O F0 ta ρ fun x ρ1 => ∃ b, x = .val (.bl b) ∧ if b = true then Q (.val (.bl true)) ρ1 else Me K O F0 tb ρ1 Q) : Me K O F0 (tOrV ta tb) ρ Q := fun F H σ Qh s R c =>
  k F H σ _ s R fun v H1 F1 x ρ1 s1 R1 r1 ⟨b, e, k1⟩ => by
    subst e
    cases r1
    cases b with
    | false => exact ⟨false, rfl, k1 F1 H1 σ _ (Same.trans s s1) R1 fun b H2 F2 x2 ρ2 s2 R2 r2 q => c b H2 F2 x2 ρ2 (Same.trans s1 s2) R2 r2 q⟩
    | true => exact ⟨true, rfl, c _ H1 F1 (.val (.bl true)) ρ1 s1 R1 (Rep.bl true) k1⟩
theorem m_notV (k : Me K O F0 ta ρ fun x ρ1 => ∃ b, x = .val (.bl b) ∧ Q (.val (.bl (!b))) ρ1) : Me K O F0 (tNotV ta) ρ Q := fun F H σ Qh s R c =>
  k F H σ _ s R fun v H1 F1 x ρ1 s1 R1 r1 ⟨b, e, k1⟩ => by
    subst e
    cases r1
    exact ⟨b, rfl, c _ H1 F1 (.val (.bl _)) ρ1 s1 R1 (Rep.bl _) k1⟩
theorem m_ife (k : Mt K O F0 t ρ fun b ρ1 => if b = true then Me K O F0 ta ρ1 Q else Me K O F0 tb ρ1 Q) : Me K O F0 (tIf t ta tb) ρ Q := fun F H σ Qh s R c =>
  k F H σ _ s R fun b H1 F1 ρ1 s1 R1 k1 => by
    cases b with
    | true => exact k1 F1 H1 σ _ (Same.trans s s1) R1 fun b H2 F2 x2 ρ2 s2 R2 r2 q => c b H2 F2 x2 ρ2 (Same.trans s1 s2) R2 r2 q
    | false => exact k1 F1 H1 σ _ (Same.trans s s1) R1 fun b H2 F2 x2 ρ2 s2 R2 r2 q => c b H2 F2 x2 ρ2 (Same.trans s1 s2) R2 r2 q
/-- a fresh one frozen -/
theorem m_f (k : Mf K O F0 te ρ fun d ρ1 => Q (.val d) ρ1) : Me K O F0 te ρ Q := fun F H σ Qh s R c =>
  k F H σ Qh s R fun p H2 F2 d ρ2 s2 R2 nw q => by
    obtain ⟨n1, n2, n3, n4⟩ := nw
    obtain ⟨o, ho, hx, rp⟩ := Shl.rep n4 n1
    obtain ⟨R3, s3⟩ := R2.thaw ho hx n1 n2 n3
    exact c _ H2 _ (.val d) ρ2 (Same.trans s2 s3) R3 rp q
theorem mf_new {vs : List V} {ds : List D} {F2 : Hp} {ρ2 : Ro} {Qh : VK} {p : Addr} (R : RS K O F H σ ρ) (hp : H p = none) (r : RepL K F vs ds) (c : ∀ H2, RS K O F H2 σ ρ → Nw K O F H2 σ ρ p (.lst ds) → Qh (.ref p) H2) : Qh (.ref p) (upd H p (.lst vs)) :=
  c _ (R.allocN hp) ⟨(R.free hp).1, (R.free hp).2, R.no_new hp, vs, upd_same, r⟩
theorem mf_lst (k : Ma K O F0 tA ρ fun xs ρ1 => FrzL xs ρ1 fun ds ρ2 => ds.length ≤ 1000 ∧ QF (.lst ds) ρ2) : Mf K O F0 (tLst tA) ρ QF := fun F H σ Qh s R c =>
  k F H σ _ s R fun vs H1 F1 xs ρ1 s1 R1 r1 k1 => by
    obtain ⟨ds, ρ2, F2, s2, R2, r2, l, q⟩ := frzL_of R1 r1 k1
    refine ⟨by rw [r2.length]; exact Nat.le_trans l (by decide), fun p hp => ?_⟩
    exact mf_new (ρ2 := ρ2) (F2 := F2) R2 hp r2 fun H3 R3 nw => c p H3 F2 _ ρ2 (Same.trans s1 s2) R3 nw q
theorem m_tup (k : Ma K O F0 tA ρ fun xs ρ1 => FrzL xs ρ1 fun ds ρ2 => ds.length ≤ 1000 ∧ Q (.val (.tup ds)) ρ2) : Me K O F0 (tTup tA) ρ Q := fun F H σ Qh s R c =>
  k F H σ _ s R fun vs H1 F1 xs ρ1 s1 R1 r1 k1 => by
    obtain ⟨ds, ρ2, F2, s2, R2, r2, l, q⟩ := frzL_of R1 r1 k1
    refine ⟨by rw [r2.length]; exact Nat.le_trans l (by decide), fun p hp => ?_⟩
    obtain ⟨R3, s3⟩ := R2.alloc (o := .tup vs) hp nx_tup
    exact c _ _ _ (.val (.tup ds)) ρ2 (Same.trans s1 (Same.trans s2 s3)) R3 (Rep.tup (SqT.of upd_same) (r2.mono s3)) q
theorem m_dnew (k : QF (.dct []) ρ) : Mf K O F0 tDNewK ρ QF := fun F H σ Qh s R c p hp =>
  c p _ F (.dct []) ρ (Same.refl _) (R.allocN hp) ⟨(R.free hp).1, (R.free hp).2, R.no_new hp, [], upd_same, RepP.nil⟩ k
theorem ms_seq (k : Ms K O F0 ts ρ { N with nx := fun ρ1 => Ms K O F0 tz ρ1 N }) : Ms K O F0 (tSeq ts tz) ρ N := fun F H σ E s R c =>
  k F H σ _ s R ⟨fun F2 H2 σ2 ρ2 s2 R2 q => q F2 H2 σ2 E (Same.trans s s2) R2 (c.mono s2), c.rt, c.bk, c.ct, c.rf⟩
theorem ms_next (k : N.nx ρ) : Ms K O F0 tNext ρ N := fun F H σ E s R c => c.nx F H σ ρ (Same.refl _) R k
theorem ms_asg (k : Me K O F0 te ρ fun x ρ1 => Frz x ρ1 fun d ρ2 => N.nx (ρ2.set n (.val d))) (hn : n ≠ 0 := by decide) : Ms K O F0 (tAsg te (gName n)) ρ N := fun F H σ E s R c =>
  k F H σ _ s R fun v H1 F1 x ρ1 s1 R1 r1 k1 => by
    obtain ⟨d, ρ2, F2, s2, R2, r2, q⟩ := frz_of R1 r1 k1
    exact c.nx F2 H1 _ _ (Same.trans s1 s2) (R2.put hn r2) q
theorem ms_asgF (k : Mf K O F0 te ρ fun d ρ1 => n < ρ1.length ∧ N.nx (ρ1.set n (.own d))) (hn : n ≠ 0 := by decide) : Ms K O F0 (tAsg te (gName n)) ρ N := fun F H σ E s R c =>
  k F H σ _ s R fun p H2 F2 d ρ2 s2 R2 nw ⟨l, q⟩ => c.nx F2 H2 _ _ s2 (R2.putO (s := .own d) hn l rfl nw.1 nw.2.1 nw.2.2.2 fun i _ m => nw.2.2.1 i m) q
theorem ms_ret (k : Me K O F0 te ρ fun x ρ1 => Frz x ρ1 fun d ρ2 => N.rt d ρ2) : Ms K O F0 (tRet te) ρ N := fun F H σ E s R c =>
  k F H σ _ s R fun v H1 F1 x ρ1 s1 R1 r1 k1 => by
    obtain ⟨d, ρ2, F2, s2, R2, r2, q⟩ := frz_of R1 r1 k1
    exact c.rt F2 H1 σ ρ2 v d (Same.trans s1 s2) R2 r2 q
theorem ms_if (k : Mt K O F0 t ρ fun b ρ1 => if b = true then Ms K O F0 ts ρ1 N else Ms K O F0 tz ρ1 N) : Ms K O F0 (tIfS t ts tz) ρ N := fun F H σ E s R c =>
  k F H σ _ s R fun b H1 F1 ρ1 s1 R1 k1 => by
    cases b with
    | true => exact k1 F1 H1 σ E (Same.trans s s1) R1 (c.mono s1)
    | false => exact k1 F1 H1 σ E (Same.trans s s1) R1 (c.mono s1)
theorem ms_par {i j : Nat} (k : Ma K O F0 tA ρ fun xs ρ1 => FrzL xs ρ1 fun ds ρ2 => ∃ d e, ds = [d, e] ∧ N.nx ((ρ2.set i (.val d)).set j (.val e))) (hi : i ≠ 0 := by decide) (hj : j ≠ 0 := by decide) : Ms K O F0 (tPar i j tA) ρ N := fun F H σ E s R c =>
  k F H σ _ s R fun vs H1 F1 xs ρ1 s1 R1 r1 k1 => by
    obtain ⟨ds, ρ2, F2, s2, R2, r2, d, e, rfl, q⟩ := frzL_of R1 r1 k1
    cases r2 with
    | cons a b =>
      cases b with
      | cons b z =>
        cases z
        exact ⟨_, _, rfl, c.nx F2 H1 _ _ (Same.trans s1 s2) ((R2.put hi a).put hj b) q⟩
theorem wipe_set {j : Nat} {w : Option V} : ∀ {vs : List Nat}, j ∈ vs → wipe (σ.set j w) vs = wipe σ vs
  | [], h => nomatch h
  | v :: vs, h => by
    show (wipe (σ.set j w) vs).set v none = (wipe σ vs).set v none
    by_cases m : j ∈ vs
    · rw [wipe_set m]
    · have e : j = v := by rcases List.mem_cons.mp h with e | e; exact e; exact absurd e m
      subst e
      have : ∀ (us : List Nat), j ∉ us → wipe (σ.set j w) us = (wipe σ us).set j w := by
        intro us
        induction us with
        | nil => intro _; rfl
        | cons a us ih =>
          intro hm
          show (wipe (σ.set j w) us).set a none = ((wipe σ us).set a none).set j w
          rw [ih (fun z => hm (List.mem_cons_of_mem _ z)), List.set_comm _ _ (fun z => hm (by rw [z]; exact List.mem_cons_self ..))]
      rw [this vs m, List.set_set]
theorem mg_name {j : Nat} {P : Ro → Prop} (k : P (ρ.set j (.val d))) (hj : j ≠ 0 := by decide) : Mg K O F0 (gName j) [j] d ρ P := fun F H σ v Qs s R r c =>
  c F H _ _ (Same.refl _) (R.put hj r) (fun vs h => wipe_set (h j (List.mem_singleton.mpr rfl))) k
end
end SJ
namespace SJ
open PySem PySem.Spec PyProof.Rows L2 He
def wipeR (ρ : Ro) : List Nat → Ro
  | [] => ρ
  | v :: vs => (wipeR ρ vs).set v .none
def rst (ρ2 ρ : Ro) : List Nat → Ro
  | [] => ρ2
  | v :: vs => (rst ρ2 ρ vs).set v (sl ρ v)
section
variable {K : PySem.W.Frag} {O : Oc} {F0 F F2 F3 H H2 H3 : Hp} {σ σ2 : L2.St} {ρ ρ2 : Ro} {Q : X → Ro → Prop} {QT : Bool → Ro → Prop} {QA : List X → Ro → Prop} {QF : D → Ro → Prop} {ta tb te to : TE} {t u tt : TT} {tA tK : TA} {ts tz : TS} {r : R2} {N : Hn} {n i : Nat} {x y : X} {d : D} {g : TG} {wi : TI} {p : Addr} {o o2 : HO} {vs js : List Nat} {QL : List D → Ro → Prop}
theorem sv_none (h : σ.length ≤ i) : sv σ i = none := by unfold sv; rw [List.getElem?_eq_none h]; rfl
theorem sl_none (h : ρ.length ≤ i) : sl ρ i = .none := by unfold sl; rw [List.getElem?_eq_none h]; rfl
theorem sv_set0 {j : Nat} : sv (σ.set j none) i = if i = j then none else sv σ i := by
  by_cases h : j < σ.length
  · exact sv_set h
  · rw [List.set_eq_of_length_le (by omega)]
    by_cases e : i = j
    · rw [if_pos e, sv_none (by omega)]
    · rw [if_neg e]
theorem sl_set0 {j : Nat} {s : Sl} (h : ρ.length ≤ j → s = .none) : sl (ρ.set j s) i = if i = j then s else sl ρ i := by
  by_cases h1 : j < ρ.length
  · exact sl_set h1
  · rw [List.set_eq_of_length_le (by omega)]
    by_cases e : i = j
    · rw [if_pos e, sl_none (by omega), h (by omega)]
    · rw [if_neg e]
theorem sv_wipe : ∀ {vs : List Nat}, sv (wipe σ vs) i = if i ∈ vs then none else sv σ i
  | [] => by rw [if_neg (fun h => nomatch h)]; rfl
  | v :: vs => by
    show sv ((wipe σ vs).set v none) i = _
    rw [sv_set0, sv_wipe]
    by_cases e : i = v
    · rw [if_pos e, if_pos (by rw [e]; exact List.mem_cons_self ..)]
    · rw [if_neg e]
      by_cases m : i ∈ vs
      · rw [if_pos m, if_pos (List.mem_cons_of_mem _ m)]
      · rw [if_neg m, if_neg (fun z => by rcases List.mem_cons.mp z with q | q; exact e q; exact m q)]
theorem sl_wipe : ∀ {vs : List Nat}, sl (wipeR ρ vs) i = if i ∈ vs then .none else sl ρ i
  | [] => by rw [if_neg (fun h => nomatch h)]; rfl
  | v :: vs => by
    show sl ((wipeR ρ vs).set v .none) i = _
    rw [sl_set0 (fun _ => rfl), sl_wipe]
    by_cases e : i = v
    · rw [if_pos e, if_pos (by rw [e]; exact List.mem_cons_self ..)]
    · rw [if_neg e]
      by_cases m : i ∈ vs
      · rw [if_pos m, if_pos (List.mem_cons_of_mem _ m)]
      · rw [if_neg m, if_neg (fun z => by rcases List.mem_cons.mp z with q | q; exact e q; exact m q)]
theorem wipeR_len : ∀ {vs : List Nat}, (wipeR ρ vs).length = ρ.length
  | [] => rfl
  | v :: vs => by show ((wipeR ρ vs).set v .none).length = _; rw [List.length_set, wipeR_len]
theorem rst_len : ∀ {vs : List Nat}, (rst ρ2 ρ vs).length = ρ2.length
  | [] => rfl
  | v :: vs => by show ((rst ρ2 ρ vs).set v _).length = _; rw [List.length_set, rst_len]
theorem sl_rst (hl : ρ2.length = ρ.length) : ∀ {vs : List Nat}, sl (rst ρ2 ρ vs) i = if i ∈ vs then sl ρ i else sl ρ2 i
  | [] => by rw [if_neg (fun h => nomatch h)]; rfl
  | v :: vs => by
    show sl ((rst ρ2 ρ vs).set v (sl ρ v)) i = _
    rw [sl_set0 (fun h => sl_none (by rw [rst_len] at h; omega)), sl_rst hl]
    by_cases e : i = v
    · rw [if_pos e, if_pos (by rw [e]; exact List.mem_cons_self ..), e]
    · rw [if_neg e]
      by_cases m : i ∈ vs
      · rw [if_pos m, if_pos (List.mem_cons_of_mem _ m)]
      · rw [if_neg m, if_neg (fun z => by rcases List.mem_cons.mp z with q | q; exact e q; exact m q)]
theorem RS.wipe (R : RS K O F H σ ρ) (h0 : 0 ∉ vs) : RS K O F H (L2.wipe σ vs) (wipeR ρ vs) := by
  refine ⟨R.fh, R.oh, R.dj, R.tb, R.ot, R.ft, fun v e => by rw [sv_wipe, if_neg h0]; exact R.w0 v e, by rw [wipe_length, wipeR_len, R.len], fun i => ?_, fun i j a ij mi mj vi vj => ?_⟩
  · rw [sv_wipe, sl_wipe]
    by_cases m : i ∈ vs
    · rw [if_pos m, if_pos m]; trivial
    · rw [if_neg m, if_neg m]; exact R.at_ i
  · rw [sl_wipe] at mi mj
    rw [sv_wipe] at vi vj
    by_cases m : i ∈ vs
    · rw [if_pos m] at mi; cases mi
    · by_cases m2 : j ∈ vs
      · rw [if_pos m2] at mj; cases mj
      · rw [if_neg m] at mi vi; rw [if_neg m2] at mj vj; exact R.ne i j a ij mi mj vi vj
theorem SlOk.mono {O2 : Hp} {w : Option V} {s : Sl} (h : SlOk K O2 F H w s) (m : s.mut = false) (g : Same F F2) {O3 H3 : Hp} : SlOk K O3 F2 H3 w s := by
  cases s with
  | none => trivial
  | val d => obtain ⟨v, h1, h2⟩ := h; exact ⟨v, h1, h2.mono g⟩
  | own d => cases m
  | pen d => cases m
theorem RS.unwipe {O2 : Oc} (R : RS K O F H σ ρ) (R2 : RS K O2 F2 H2 σ2 ρ2) (g : Same F F2) (hw : L2.wipe σ2 vs = L2.wipe σ vs) (hO : O2.w = O.w) (hl : ρ2.length = ρ.length) (h0 : 0 ∉ vs) (hm : ∀ v ∈ vs, (sl ρ v).mut = false) : RS K O2 F2 H2 σ (rst ρ2 ρ vs) := by
  have es : ∀ i, i ∉ vs → sv σ2 i = sv σ i := fun i m => by
    have e : sv (L2.wipe σ2 vs) i = sv (L2.wipe σ vs) i := by rw [hw]
    rw [sv_wipe, sv_wipe, if_neg m, if_neg m] at e
    exact e
  refine ⟨R2.fh, R2.oh, R2.dj, R2.tb, R2.ot, R2.ft, fun v e => R.w0 v (by rw [← hO]; exact e), by rw [rst_len, hl, R.len], fun i => ?_, fun i j a ij mi mj vi vj => ?_⟩
  · rw [sl_rst hl]
    by_cases m : i ∈ vs
    · rw [if_pos m]; exact (R.at_ i).mono (hm i m) g
    · rw [if_neg m, ← es i m]; exact R2.at_ i
  · rw [sl_rst hl] at mi mj
    by_cases m : i ∈ vs
    · rw [if_pos m, hm i m] at mi; cases mi
    · by_cases m2 : j ∈ vs
      · rw [if_pos m2, hm j m2] at mj; cases mj
      · rw [if_neg m] at mi; rw [if_neg m2] at mj
        exact R2.ne i j a ij mi mj (by rw [es i m]; exact vi) (by rw [es j m2]; exact vj)
/-- an object that is kept apart -/
theorem ot_upd {O : Hp} (R : ∀ a u, O a = some u → NX u) (hx : NX o) : ∀ a u, upd O p o a = some u → NX u := fun a u e => by
  by_cases z : a = p
  · rw [z, upd_same] at e; cases e; exact hx
  · rw [upd_ne z] at e; exact R a u e
theorem RS.out (R : RS K O F H σ ρ) (hp : H p = some o) (hnx : NX o) (hF : F p = none) (hx : ∀ i, (sl ρ i).mut = true → sv σ i ≠ some (.ref p)) : RS K { O with o := upd O.o p o } F H σ ρ := by
  refine ⟨R.fh, fun b u (e : upd O.o p o b = some u) => ?_, fun b u (e : upd O.o p o b = some u) => ?_, R.tb, ot_upd R.ot hnx, R.ft, R.w0, R.len, fun i => ?_, R.ne⟩
  · by_cases z : b = p
    · rw [z] at e ⊢; rw [upd_same] at e; cases e; exact hp
    · rw [upd_ne z] at e; exact R.oh _ _ e
  · by_cases z : b = p
    · rw [z]; exact hF
    · rw [upd_ne z] at e; exact R.dj _ _ e
  · by_cases m : (sl ρ i).mut = true
    · obtain ⟨a, h1, h2, h3, h4⟩ := R.owned m
      have n : a ≠ p := fun z => hx i m (by rw [h1, z])
      exact SlOk.of_mut m h1 h2 (by show upd O.o p o a = none; rw [upd_ne n]; exact h3) h4
    · exact (R.at_ i).mono (by cases q : (sl ρ i).mut with | true => exact absurd q m | false => rfl) (Same.refl _)
theorem RS.turn (R : RS K { O with o := upd O.o p o } F H σ ρ) (hnx : NX o2) : RS K { O with o := upd O.o p o2 } F (upd H p o2) σ ρ := by
  have hF : F p = none := R.dj p o upd_same
  refine ⟨Same.mut R.fh hF, fun b u (e : upd O.o p o2 b = some u) => ?_, fun b u (e : upd O.o p o2 b = some u) => ?_, tabs_mut R.tb (R.oh p o upd_same) (R.ot p o upd_same), (fun a u (e : upd O.o p o2 a = some u) => by
    by_cases z : a = p
    · rw [z, upd_same] at e; cases e; exact hnx
    · rw [upd_ne z] at e; exact R.ot a u (show upd O.o p o a = some u by rw [upd_ne z]; exact e)), R.ft, R.w0, R.len, fun i => ?_, R.ne⟩
  · by_cases z : b = p
    · rw [z] at e ⊢; rw [upd_same] at e ⊢; exact e
    · rw [upd_ne z] at e; rw [upd_ne z]; exact R.oh _ _ (show upd O.o p o b = some u by rw [upd_ne z]; exact e)
  · by_cases z : b = p
    · rw [z]; exact hF
    · rw [upd_ne z] at e; exact R.dj b u (show upd O.o p o b = some u by rw [upd_ne z]; exact e)
  · by_cases m : (sl ρ i).mut = true
    · obtain ⟨a, h1, h2, h3, h4⟩ := R.owned m
      have h3 : upd O.o p o a = none := h3
      have n : a ≠ p := fun z => by rw [z, upd_same] at h3; cases h3
      rw [upd_ne n] at h3
      exact SlOk.of_mut m h1 h2 (show upd O.o p o2 a = none by rw [upd_ne n]; exact h3) (h4.mono (upd_ne n) (Same.refl _))
    · exact (R.at_ i).mono (by cases q : (sl ρ i).mut with | true => exact absurd q m | false => rfl) (Same.refl _)
theorem RS.back (R : RS K { O with o := upd O.o p o } F H σ ρ) (h : O.o p = none) : RS K O F H σ ρ ∧ F p = none ∧ H p = some o ∧ ∀ i, (sl ρ i).mut = true → sv σ i ≠ some (.ref p) := by
  refine ⟨R.drop (Same.upd (Same.refl _) h) (.inl rfl) rfl, R.dj p o upd_same, R.oh p o upd_same, fun i m e => ?_⟩
  obtain ⟨a, h1, h2, h3, h4⟩ := R.owned m
  rw [h1] at e
  cases e
  have h3 : upd O.o p o p = none := h3
  rw [upd_same] at h3; cases h3
theorem ms_for {tb : TS} (js : List Nat) (k : Mi K O F0 wi ρ fun ds ρ1 => ∃ I : Nat → Ro → Prop, I 0 ρ1 ∧ (∀ i d ρ2, ds[i]? = some d → I i ρ2 → Mg K O F0 g js d ρ2 fun ρ3 => Ms K O F0 tb ρ3 { N with nx := I (i + 1), ct := I (i + 1), bk := N.nx }) ∧ ∀ ρ2, I ds.length ρ2 → N.nx ρ2) : Ms K O F0 (tFor wi g tb) ρ N := fun F H σ E s R c =>
  k F H σ _ s R fun J H2 F2 ds ρ2 s2 R2 wd ⟨I, i0, is, ie⟩ => by
    refine ⟨fun i m σ H => m = ds.length - i ∧ i ≤ ds.length ∧ ∃ F3 ρ3, Same F2 F3 ∧ RS K O F3 H σ ρ3 ∧ I i ρ3, ⟨ds.length, rfl, Nat.zero_le _, F2, ρ2, Same.refl _, R2, i0⟩, ?_⟩
    rintro i m σ1 H1 ⟨rfl, hi, F3, ρ3, s3, R3, q3⟩
    obtain ⟨w1, w2⟩ := wd O i F3 H1 σ1 ρ3 s3 R3
    by_cases hlt : i < ds.length
    · obtain ⟨go, yl⟩ := w2 _ (List.getElem?_eq_getElem hlt)
      refine .inr ⟨go, fun σ' H' => ∃ F4 ρ4, Same F2 F4 ∧ RS K O F4 H' σ' ρ4 ∧ I (i + 1) ρ4, fun σ' H' z => ⟨ds.length - (i + 1), by omega, rfl, hlt, z⟩, fun x H' y => ?_⟩
      obtain ⟨F4, s4, R4, r4⟩ := yl x H' y
      have s04 : Same F0 F4 := Same.trans s (Same.trans s2 (Same.trans s3 s4))
      refine is i _ ρ3 (List.getElem?_eq_getElem hlt) q3 F4 H' σ1 x _ s04 R4 r4 fun F5 H5 σ5 ρ5 s5 R5 _ ms => ?_
      refine ms F5 H5 σ5 _ (Same.trans s04 s5) R5 ⟨fun F6 H6 σ6 ρ6 s6 R6 q => ⟨F6, ρ6, Same.trans s3 (Same.trans s4 (Same.trans s5 s6)), R6, q⟩, fun F6 H6 σ6 ρ6 v d s6 => c.rt F6 H6 σ6 ρ6 v d (Same.trans s2 (Same.trans s3 (Same.trans s4 (Same.trans s5 s6)))),
        fun F6 H6 σ6 ρ6 s6 => c.nx F6 H6 σ6 ρ6 (Same.trans s2 (Same.trans s3 (Same.trans s4 (Same.trans s5 s6)))), fun F6 H6 σ6 ρ6 s6 R6 q => ⟨F6, ρ6, Same.trans s3 (Same.trans s4 (Same.trans s5 s6)), R6, q⟩, fun F6 H6 σ6 ρ6 v d s6 => c.rf F6 H6 σ6 ρ6 v d (Same.trans s2 (Same.trans s3 (Same.trans s4 (Same.trans s5 s6))))⟩
    · have e : i = ds.length := by omega
      subst e
      exact .inl ⟨w1 (Nat.le_refl _), c.nx F3 H1 σ1 ρ3 (Same.trans s2 s3) R3 (ie ρ3 q3)⟩
theorem mf_lc (js : List Nat) (hjs : ∀ j ∈ js, j ∈ vs) (h0 : 0 ∉ vs) (k : Mi K O F0 wi ρ fun ds ρ1 => ds.length ≤ 10000 ∧ ∃ I : Nat → List D → Ro → Prop, I 0 [] ρ1 ∧
    (∀ i d acc ρ2, ds[i]? = some d → acc.length ≤ i → I i acc ρ2 → (∀ v ∈ vs, (sl ρ2 v).mut = false) ∧ ∀ (oo : Hp) (ww : Option V), Mg K ⟨oo, ww, O.T⟩ F0 g js d (wipeR ρ2 vs) fun ρ3 => ρ3.length = ρ2.length ∧ Mt K ⟨oo, ww, O.T⟩ F0 tt ρ3 fun b ρ4 => if b = true then Me K ⟨oo, ww, O.T⟩ F0 tb ρ4 fun y ρ5 => Frz y ρ5 fun e ρ6 => ρ6.length = ρ2.length ∧ I (i + 1) (acc ++ [e]) (rst ρ6 ρ2 vs) else ρ4.length = ρ2.length ∧ I (i + 1) acc (rst ρ4 ρ2 vs)) ∧
    ∀ acc ρ2, I ds.length acc ρ2 → QF (.lst acc) ρ2) : Mf K O F0 (tLc wi g tt tb vs) ρ QF := fun F H σ Qh s R c =>
  k F H σ _ s R fun J H2 F2 ds ρ2 s2 R2 wd ⟨hds, I, i0, is, ie⟩ l hl => by
    have hOl : O.o l = none := (R2.free hl).2
    have R20 : RS K { O with o := upd O.o l (.lst []) } F2 (upd H2 l (.lst [])) σ ρ2 := (R2.allocN hl).out upd_same nx_lst (R2.free hl).1 (R2.no_new hl)
    refine ⟨fun i m H => m = ds.length - i ∧ i ≤ ds.length ∧ ∃ F3 ρ3 acc us, Same F2 F3 ∧ RS K { O with o := upd O.o l (.lst us) } F3 H σ ρ3 ∧ RepL K F3 us acc ∧ acc.length ≤ i ∧ I i acc ρ3, ⟨ds.length, rfl, Nat.zero_le _, F2, ρ2, [], [], Same.refl _, R20, .nil, Nat.le_refl _, i0⟩, ?_⟩
    rintro i m H1 ⟨rfl, hi, F3, ρ3, acc, us, s3, R3, ra, hacc, q3⟩
    obtain ⟨w1, w2⟩ := wd _ i F3 H1 σ ρ3 s3 R3
    by_cases hlt : i < ds.length
    · obtain ⟨go, yl⟩ := w2 _ (List.getElem?_eq_getElem hlt)
      refine .inr ⟨go, fun H' => ∃ F4 ρ4 acc us, Same F2 F4 ∧ RS K { O with o := upd O.o l (.lst us) } F4 H' σ ρ4 ∧ RepL K F4 us acc ∧ acc.length ≤ i + 1 ∧ I (i + 1) acc ρ4, fun H' z => ⟨ds.length - (i + 1), by omega, rfl, hlt, z⟩, fun x H' y => ?_⟩
      obtain ⟨F4, s4, R4, r4⟩ := yl x H' y
      have s04 : Same F0 F4 := Same.trans s (Same.trans s2 (Same.trans s3 s4))
      obtain ⟨hm, body⟩ := is i _ acc ρ3 (List.getElem?_eq_getElem hlt) hacc q3
      refine body (upd O.o l (.lst us)) O.w F4 H' (L2.wipe σ vs) x _ s04 (R4.wipe h0) r4 fun F5 H5 σ5 ρ5 s5 R5 hw ⟨hl5, mt⟩ => ?_
      have hw5 : L2.wipe σ5 vs = L2.wipe σ vs := by
        rw [hw vs hjs]
        exact List.ext_getElem? fun j => by
          have wl : (L2.wipe (L2.wipe σ vs) vs).length = (L2.wipe σ vs).length := wipe_length _ _
          have e1 : sv (L2.wipe (L2.wipe σ vs) vs) j = sv (L2.wipe σ vs) j := by
            rw [sv_wipe]
            by_cases m : j ∈ vs
            · rw [if_pos m, sv_wipe, if_pos m]
            · rw [if_neg m]
          unfold sv at e1
          by_cases hj : j < (L2.wipe σ vs).length
          · rw [List.getElem?_eq_getElem (by rw [wl]; exact hj), List.getElem?_eq_getElem hj] at e1 ⊢
            exact congrArg some e1
          · rw [List.getElem?_eq_none (by rw [wl]; omega), List.getElem?_eq_none (by omega)]
      refine ⟨hw5, mt F5 H5 σ5 _ (Same.trans s04 s5) R5 fun b H6 F6 ρ6 s6 R6 kb => ?_⟩
      cases b with
      | true =>
        refine kb F6 H6 σ5 _ (Same.trans s04 (Same.trans s5 s6)) R6 fun v H7 F7 y ρ7 s7 R7 r7 fz => ?_
        obtain ⟨e, ρ8, F8, s8, R8, r8, hl8, q8⟩ := frz_of R7 r7 fz
        have R9 := RS.unwipe R4 R8 (Same.trans s5 (Same.trans s6 (Same.trans s7 s8))) hw5 rfl hl8 h0 hm
        refine ⟨us, R9.oh l _ upd_same, ?_, F8, _, acc ++ [e], us ++ [v], Same.trans s3 (Same.trans s4 (Same.trans s5 (Same.trans s6 (Same.trans s7 s8)))), R9.turn nx_lst, (ra.mono (Same.trans s4 (Same.trans s5 (Same.trans s6 (Same.trans s7 s8))))).append (.one r8), by rw [List.length_append]; exact Nat.succ_le_succ hacc, q8⟩
        rw [ra.length]
        exact Nat.lt_of_le_of_lt (Nat.le_trans hacc hi) (Nat.lt_of_le_of_lt hds (by decide))
      | false =>
        have R9 := RS.unwipe R4 R6 (Same.trans s5 s6) hw5 rfl kb.1 h0 hm
        exact ⟨F6, _, acc, us, Same.trans s3 (Same.trans s4 (Same.trans s5 s6)), R9, ra.mono (Same.trans s4 (Same.trans s5 s6)), Nat.le_succ_of_le hacc, kb.2⟩
    · have e : i = ds.length := by omega
      subst e
      obtain ⟨b1, b2, b3, b4⟩ := R3.back hOl
      exact .inl ⟨w1 (Nat.le_refl _), c l H1 F3 (.lst acc) ρ3 (Same.trans s2 s3) b1 ⟨b2, hOl, b4, us, b3, ra⟩ (ie acc ρ3 q3)⟩
/-- .. each element told by itself -/
theorem mf_lcM (js : List Nat) (P : D → Bool) (Fn : D → D) (hjs : ∀ j ∈ js, j ∈ vs := by decide) (h0 : 0 ∉ vs := by decide) (k : Mi K O F0 wi ρ fun ds ρ1 => ds.length ≤ 10000 ∧ (∀ v ∈ vs, (sl ρ1 v).mut = false) ∧
    (∀ d ∈ ds, ∀ (oo : Hp) (ww : Option V), Mg K ⟨oo, ww, O.T⟩ F0 g js d (wipeR ρ1 vs) fun ρ3 => ρ3.length = ρ1.length ∧ rst ρ3 ρ1 vs = ρ1 ∧ Mt K ⟨oo, ww, O.T⟩ F0 tt ρ3 fun b ρ4 => ρ4 = ρ3 ∧ b = P d ∧ (b = true → Me K ⟨oo, ww, O.T⟩ F0 tb ρ4 fun y ρ5 => y = .val (Fn d) ∧ ρ5 = ρ3)) ∧
    QF (.lst ((ds.filter P).map Fn)) ρ1) : Mf K O F0 (tLc wi g tt tb vs) ρ QF := by
  refine mf_lc js hjs h0 fun F H σ R s R0 c => k F H σ R s R0 fun J H2 F2 ds ρ2 s2 R2 wd ⟨hds, hm, hb, q⟩ => c J H2 F2 ds ρ2 s2 R2 wd ⟨hds, fun i acc ρ3 => ρ3 = ρ2 ∧ acc = ((ds.take i).filter P).map Fn, ⟨rfl, rfl⟩, fun i d acc ρ3 hd hacc ⟨e1, e2⟩ => ?_, fun acc ρ3 ⟨e1, e2⟩ => ?_⟩
  · subst e1
    refine ⟨hm, fun oo ww => ?_⟩
    intro F H σ v Qs sa Ra ra ca
    refine hb d (List.mem_of_getElem? hd) oo ww F H σ v Qs sa Ra ra fun F2 H2 σ2 ρ4 sb Rb wb ⟨l1, l2, mt⟩ => ca F2 H2 σ2 ρ4 sb Rb wb ⟨l1, ?_⟩
    intro F H σ Qh sc Rc cc
    refine mt F H σ Qh sc Rc fun b H3 F3 ρ5 sd Rd ⟨e3, e4, me⟩ => cc b H3 F3 ρ5 sd Rd ?_
    subst e3
    have ht : ds.take (i + 1) = ds.take i ++ [d] := by
      rw [List.take_add_one, hd]; rfl
    cases b with
    | true =>
      show Me K ⟨oo, ww, O.T⟩ F0 tb ρ5 _
      intro F H σ Qh se Re ce
      refine me rfl F H σ Qh se Re fun v H4 F4 y ρ6 sf Rf rf ⟨e5, e6⟩ => ce v H4 F4 y ρ6 sf Rf rf ?_
      subst e5 e6
      refine ⟨l1, l2, ?_⟩
      rw [ht, List.filter_append, List.map_append, e2]
      simp only [List.filter, ← e4, List.map]
    | false =>
      refine ⟨l1, l2, ?_⟩
      rw [ht, List.filter_append, List.map_append, e2]
      simp only [List.filter, ← e4, List.map, List.append_nil]
  · subst e1 e2
    rw [List.take_length]
    exact q
theorem mi_list (k : Me K O F0 te ρ fun x ρ1 => Frz x ρ1 fun d ρ2 => ∃ ds, d = .lst ds ∧ QL ds ρ2) : Mi K O F0 (iList K te) ρ QL := fun F H σ R s R0 c =>
  k F H σ _ s R0 fun v H1 F1 x ρ1 s1 R1 r1 k1 => by
    obtain ⟨d, ρ2, F2, s2, R2, r2, ds, rfl, q⟩ := frz_of R1 r1 k1
    obtain ⟨a, xs, rfl, ha, rx⟩ := r2.lstP
    have ha : SqL K F2 a xs := SqL.of ha
    refine ⟨a, rfl, ⟨xs, Same.seq R2.fh ha⟩, c _ H1 F2 ds ρ2 (Same.trans s1 s2) R2 (fun O2 i F3 H3 σ3 ρ3 s3 R3 => ?_) q⟩
    have hs : SqL K H3 a xs := Same.seq R3.fh (Same.seq s3 ha)
    refine ⟨fun hi => ⟨xs, hs, by rw [rx.length]; exact hi⟩, fun d hd => ?_⟩
    obtain ⟨v, hv, rv⟩ := rx.at hd
    refine ⟨⟨xs, v, hs, hv⟩, fun x H4 y => ?_⟩
    obtain ⟨rfl, y⟩ := y
    have := y xs hs
    rw [hv] at this
    cases this
    exact ⟨F3, Same.refl _, R3, rv.mono s3⟩
theorem mi_tup (k : Me K O F0 te ρ fun x ρ1 => Frz x ρ1 fun d ρ2 => ∃ ds, d = .tup ds ∧ QL ds ρ2) : Mi K O F0 (iTup K te) ρ QL := fun F H σ R s R0 c =>
  k F H σ _ s R0 fun v H1 F1 x ρ1 s1 R1 r1 k1 => by
    obtain ⟨d, ρ2, F2, s2, R2, r2, ds, rfl, q⟩ := frz_of R1 r1 k1
    obtain ⟨a, xs, rfl, ha, rx⟩ := r2.tupP
    refine ⟨a, rfl, ⟨xs, sqt_same R2.fh ha⟩, c _ H1 F2 ds ρ2 (Same.trans s1 s2) R2 (fun O2 i F3 H3 σ3 ρ3 s3 R3 => ?_) q⟩
    have hs : SqT K H3 a xs := sqt_same R3.fh (sqt_same s3 ha)
    refine ⟨fun hi => ⟨xs, hs, by rw [rx.length]; exact hi⟩, fun d hd => ?_⟩
    obtain ⟨v, hv, rv⟩ := rx.at hd
    refine ⟨⟨xs, v, hs, hv⟩, fun x H4 y => ?_⟩
    obtain ⟨rfl, y⟩ := y
    have := y xs hs
    rw [hv] at this
    cases this
    exact ⟨F3, Same.refl _, R3, rv.mono s3⟩
def rngD (lo : Int) (n : Nat) : List D := (List.range n).map fun (i : Nat) => D.int (lo + (i : Int))
theorem mi_rng1 (k : Ma K O F0 tA ρ fun xs ρ1 => ∃ j : Int, xs = [.val (.int j)] ∧ (-1000000 ≤ j ∧ j ≤ 1000000) ∧ QL (rngD 0 j.toNat) ρ1) : Mi K O F0 (iRng1 tA) ρ QL := fun F H σ R s R0 c =>
  k F H σ _ s R0 fun vs H1 F1 xs ρ1 s1 R1 r1 ⟨j, e, hj, q⟩ => by
    subst e
    match vs, r1 with
    | [v], r1 =>
    obtain ⟨r1, _⟩ := r1
    cases r1
    · refine ⟨j, rfl, by omega, by omega, c _ H1 F1 _ ρ1 s1 R1 (fun O2 i F3 H3 σ3 ρ3 s3 R3 => ?_) q⟩
      have hl : (rngD 0 j.toNat).length = j.toNat := by unfold rngD; rw [List.length_map, List.length_range]
      refine ⟨fun hi => by rw [hl] at hi; exact hi, fun d hd => ?_⟩
      have hi : i < j.toNat := by rw [← hl]; exact (List.getElem?_eq_some_iff.mp hd).1
      refine ⟨hi, fun x H4 y => ?_⟩
      obtain ⟨rfl, rfl⟩ := y
      refine ⟨F3, Same.refl _, R3, ?_⟩
      unfold rngD at hd
      rw [List.getElem?_map, List.getElem?_range hi] at hd
      cases hd
      exact .int _
end
end SJ
namespace SJ
open PySem PySem.Spec PyProof.Rows L2 He
abbrev XP := Str → List (Str × D) → Ro → Prop
def spS (K : PySem.W.Frag) (T : List (Addr × Str)) (M : Ro → (D → Ro → Prop) → XP → Prop) : Sp := fun vs H Q E => ∃ (O : Oc) (F : Hp) (ρ : Ro), O.T = T ∧ RS K O F H (vs.map some) ρ ∧
  M ρ (fun d ρ2 => ∀ v H2 F2, Same F F2 → RS K O F2 H2 (vs.map some) ρ2 → Rep K F2 v d → Q v H2)
    (fun c fs ρ2 => ∀ dd H2 F2 fvs, Same F F2 → H2 dd = some (.xd fvs) → RS K { O with o := upd O.o dd (.xd fvs) } F2 H2 (vs.map some) ρ2 → O.o dd = none → RepP K F2 fvs fs → E (.ref (ga K c)) (some dd) H2)
abbrev PD := List D → (D → Prop) → (Str → List (Str × D) → Prop) → Prop
/-- all parameters are plain values -/
def pu (P : PD) : Ro → (D → Ro → Prop) → XP → Prop := fun ρ Q E => ∃ ds Qd Ed, ρ = ds.map Sl.val ∧ P ds Qd Ed ∧ (∀ d, Qd d → Q d ρ) ∧ ∀ c fs, Ed c fs → E c fs ρ
/-- the first is a pen -/
def pp (P : Nat → List D → (D → Nat → Prop) → Prop) : Ro → (D → Ro → Prop) → XP → Prop := fun ρ Q _ => ∃ n ds Qd, ρ = .pen n :: ds.map Sl.val ∧ P n ds Qd ∧ ∀ d m, Qd d m → Q d (.pen m :: ds.map Sl.val)
/-- the first is an object that is being made -/
def pin (P : Str → List D → (List (Str × D) → Prop) → (Str → List (Str × D) → Prop) → Prop) : Ro → (D → Ro → Prop) → XP → Prop := fun ρ Q E => ∃ c ds Qd Ed, ρ = .own (.obj c []) :: ds.map Sl.val ∧ P c ds Qd Ed ∧ (∀ fs, Qd fs → Q .non (.own (.obj c fs) :: ds.map Sl.val)) ∧ ∀ c2 fs, Ed c2 fs → E c2 fs ρ
section
variable {K : PySem.W.Frag} {O : Oc} {F0 F F2 F3 H H2 H3 : Hp} {σ σ2 : L2.St} {ρ ρ2 : Ro} {Q : X → Ro → Prop} {QT : Bool → Ro → Prop} {QA : List X → Ro → Prop} {QF : D → Ro → Prop} {ta tb te to : TE} {t u tt : TT} {tA tK : TA} {ts tz : TS} {r : R2} {N : Hn} {n i : Nat} {x y : X} {d : D} {g : TG} {wi : TI} {p : Addr} {o o2 : HO} {vs : List V} {ds : List D} {s : Sl} {W : WX} {Xp : XP}
theorem sl_vals {i : Nat} : sl (ds.map Sl.val) i = match ds[i]? with | some d => .val d | none => .none := by
  unfold sl
  rw [List.getElem?_map]
  cases ds[i]? <;> rfl
theorem vals_mut : (sl (ds.map Sl.val) i).mut = false := by
  rw [sl_vals]
  cases ds[i]? <;> rfl
theorem sv_map {i : Nat} : sv (vs.map some) i = vs[i]? := by
  unfold sv
  rw [List.getElem?_map]
  cases vs[i]? <;> rfl
theorem vals_ok {O2 : Hp} (h : RepL K F vs ds) : SlOk K O2 F H (sv (vs.map some) i) (sl (ds.map Sl.val) i) := by
  rw [sl_vals]
  cases e : ds[i]? with
  | none => trivial
  | some d =>
    obtain ⟨v, hv, r⟩ := h.at e
    exact ⟨v, by rw [sv_map, hv], r⟩
/-- a table or a code object -/
def tx : Option HO → Bool
  | some (.tbl _) => true
  | some (.ext _) => true
  | _ => false
theorem nx_of {o : HO} (h : tx (some o) = false) : NX o := ⟨(fun ps z => by rw [z] at h; cases h), (fun φ z => by rw [z] at h; cases h)⟩
theorem tx_no {a : Addr} {q : Oc} (R : RS K q F H σ ρ) (h : tx (H a) = true) : q.o a = none ∧ True ∧ ∀ i, (sl ρ i).mut = true → sv σ i ≠ some (.ref a) := by
  have k : ∀ o, H a = some o → NX o → False := fun o e n => by
    rw [e] at h
    cases o with
    | tbl ps => exact n.1 ps rfl
    | ext φ => exact n.2 φ rfl
    | _ => cases h
  refine ⟨?_, ?_, fun i m e => ?_⟩
  · cases z : q.o a with
    | none => rfl
    | some o => exact (k o (R.oh _ _ z) (R.ot _ _ z)).elim
  · trivial
  · obtain ⟨b, h1, _, _, h4⟩ := R.owned m
    rw [h1] at e
    cases e
    obtain ⟨o, e1, e2⟩ := h4.nx
    exact k o e1 e2
/-- the heap beside F and p -/
def beside (F H : Hp) (q : Addr → Bool) : Hp := fun a => match F a with
  | some _ => none
  | none => if q a then none else H a
theorem beside_some {q : Addr → Bool} {a : Addr} (h : beside F H q a = some o) : F a = none ∧ q a = false ∧ H a = some o := by
  unfold beside at h
  cases e : F a with
  | some z => rw [e] at h; cases h
  | none =>
    rw [e] at h
    cases e2 : q a with
    | true => simp only [e2, if_true] at h; cases h
    | false => simp only [e2] at h; exact ⟨rfl, rfl, h⟩
theorem beside_of {q : Addr → Bool} {a : Addr} (hF : F a = none) (hq : q a = false) (h : H a = some o) : beside F H q a = some o := by
  unfold beside
  rw [hF]
  simp only [hq]
  exact h
theorem beside_none {q : Addr → Bool} {a : Addr} (h : beside F H q a = none) (hF : F a = none) (hq : q a = false) : H a = none := by
  unfold beside at h
  rw [hF] at h
  simp only [hq] at h
  exact h
/-- the callee's view, all arguments plain -/
theorem RS.enter (R : RS K O F H σ ρ) (rv : RepL K F vs ds) : RS K ⟨beside F H fun a => tx (H a), none, O.T⟩ F H (vs.map some) (ds.map Sl.val) :=
  { fh := R.fh, oh := (fun a o (e : beside F H (fun a => tx (H a)) a = some o) => (beside_some e).2.2), dj := (fun a o (e : beside F H (fun a => tx (H a)) a = some o) => (beside_some e).1), tb := R.tb, ot := (fun a o (e : beside F H (fun a => tx (H a)) a = some o) => by
      obtain ⟨e1, e2, e3⟩ := beside_some e
      have e2 : tx (H a) = false := e2
      rw [e3] at e2
      exact nx_of e2), ft := R.ft, w0 := (fun v (e : (none : Option V) = some v) => nomatch e), len := (by rw [List.length_map, List.length_map, rv.length]), at_ := (fun i => vals_ok rv), ne := (fun i j a ij mi => by rw [vals_mut] at mi; cases mi) }
theorem RS.after_ {O2 : Oc} {σ2 : L2.St} {q : Addr → Bool} (R : RS K O F H σ ρ) (C : RS K O2 F2 H2 σ2 ρ2) (g : Same F F2) (h : Same (beside F H q) O2.o) (hT : O2.T = O.T) (hq : ∀ a, q a = true → H a = none ∨ (O.o a = none ∧ ∀ i, (sl ρ i).mut = true → sv σ i ≠ some (.ref a))) : RS K O F2 H2 σ ρ := by
  have key : ∀ a o, H a = some o → F a = none → (O.o a ≠ none ∨ ∃ i, (sl ρ i).mut = true ∧ sv σ i = some (.ref a)) → H2 a = some o ∧ F2 a = none := fun a o ha hf hx => by
    have e : q a = false := by
      cases e : q a with
      | false => rfl
      | true =>
        rcases hq a e with z | ⟨z1, z2⟩
        · rw [z] at ha; cases ha
        · rcases hx with y | ⟨i, y1, y2⟩
          · exact absurd z1 y
          · exact absurd y2 (z2 i y1)
    have b := h a o (beside_of hf e ha)
    exact ⟨C.oh a o b, C.dj a o b⟩
  refine ⟨C.fh, fun a o e => (key a o (R.oh a o e) (R.dj a o e) (.inl (by rw [e]; simp))).1, fun a o e => (key a o (R.oh a o e) (R.dj a o e) (.inl (by rw [e]; simp))).2, (by rw [← hT]; exact C.tb), R.ot, C.ft, R.w0, R.len, fun i => ?_, R.ne⟩
  by_cases m : (sl ρ i).mut = true
  · obtain ⟨a, h1, h2, h3, h4⟩ := R.owned m
    obtain ⟨o, ho⟩ := h4.some
    obtain ⟨k1, k2⟩ := key a o ho h2 (.inr ⟨i, m, h1⟩)
    exact SlOk.of_mut m h1 k2 h3 (h4.mono (by rw [k1, ho]) g)
  · exact (R.at_ i).mono (by cases q : (sl ρ i).mut with | true => exact absurd q m | false => rfl) g
theorem RS.after {σ2 : L2.St} (R : RS K O F H σ ρ) (C : RS K ⟨beside F H fun a => tx (H a), none, O.T⟩ F2 H2 σ2 ρ2) (g : Same F F2) : RS K O F2 H2 σ ρ := R.after_ C g (Same.refl _) rfl fun a e => .inr ⟨(tx_no R e).1, (tx_no R e).2.2⟩
theorem RS.afterX {σ2 : L2.St} {dd : Addr} {xo : HO} {O2 : Hp} {q : Addr → Bool} (R : RS K O F H σ ρ) (C : RS K ⟨upd O2 dd xo, none, O.T⟩ F2 H2 σ2 ρ2) (g : Same F F2) (hd : O2 dd = none) (h : Same (beside F H q) O2) (hq : ∀ a, q a = true → H a = none ∨ (O.o a = none ∧ ∀ i, (sl ρ i).mut = true → sv σ i ≠ some (.ref a)))
    (hqd : q dd = true → O.o dd = none ∧ ∀ i, (sl ρ i).mut = true → sv σ i ≠ some (.ref dd)) : RS K { O with o := upd O.o dd xo } F2 H2 σ ρ ∧ O.o dd = none := by
  have s2 : Same O2 (upd O2 dd xo) := Same.upd (Same.refl _) hd
  have R2 := R.after_ C g (Same.trans h s2) rfl hq
  have f2 : F2 dd = none := C.dj dd xo upd_same
  have f1 : F dd = none := Same.free g f2
  have h1 : O.o dd = none ∧ ∀ i, (sl ρ i).mut = true → sv σ i ≠ some (.ref dd) := by
    cases e : q dd with
    | true => exact hqd e
    | false =>
      have h2 : H dd = none := beside_none (q := q) (Same.free h hd) f1 e
      exact ⟨(R.free h2).2, R.no_new h2⟩
  exact ⟨R2.out (C.oh dd xo upd_same) (C.ot dd xo upd_same) f2 h1.2, h1.1⟩
/-- f(a ..), all of them plain -/
theorem call_pu {P : PD} {Qh : VK} {Qd : D → Prop} {Ed : Str → List (Str × D) → Prop} (R : RS K O F H σ ρ) (s : Same F0 F) (hW : Wr K O F0 W Xp) (rv : RepL K F vs ds) (h : P ds Qd Ed) (hq : ∀ d, Qd d → ∀ v H2 F2, Same F F2 → RS K O F2 H2 σ ρ → Rep K F2 v d → Qh v H2) (he : ∀ c fs, Ed c fs → Xp c fs ρ) : spS K O.T (pu P) vs H Qh (WE W σ) := by
  refine ⟨⟨beside F H fun a => tx (H a), none, O.T⟩, F, _, rfl, R.enter rv, ds, Qd, Ed, rfl, h, fun d q v H2 F2 s2 C r => hq d q v H2 F2 s2 (R.after C s2) r, fun c fs q dd H2 F2 fvs s2 hd C hn rp => ?_⟩
  obtain ⟨R2, z⟩ := R.afterX C s2 hn (Same.refl _) (fun a e => .inr ⟨(tx_no R e).1, (tx_no R e).2.2⟩) (fun e => ⟨(tx_no R e).1, (tx_no R e).2.2⟩)
  exact hW F2 H2 σ ρ c fs dd fvs (Same.trans s s2) hd R2 z rp (he c fs q)
theorem m_fn {P : PD} (hW : Wr K O F0 W Xp) (k : Ma K O F0 tA ρ fun xs ρ1 => FrzL xs ρ1 fun ds ρ2 => P ds (fun d => Q (.val d) ρ2) fun c fs => Xp c fs ρ2) : Me K O F0 (tFn (spS K O.T (pu P)) [] W tA) ρ Q := fun F H σ Qh s R c =>
  k F H σ _ s R fun vs H1 F1 xs ρ1 s1 R1 r1 k1 => by
    obtain ⟨ds, ρ2, F2, s2, R2, r2, q⟩ := frzL_of R1 r1 k1
    rw [List.append_nil]
    exact call_pu R2 (Same.trans s (Same.trans s1 s2)) hW r2 q (fun d qd v H3 F3 s3 R3 r3 => c v H3 F3 (.val d) ρ2 (Same.trans s1 (Same.trans s2 s3)) R3 r3 qd) fun _ _ z => z
theorem wr0 : Wr K O F0 W0 fun _ _ _ => False := fun _ _ _ _ _ _ _ _ _ _ _ _ _ z => z
theorem RS.start {Nm : List Str} (R : RS K O F H (vs.map some) ρ) : RS K ⟨O.o, vs.head?, O.T⟩ F H (start Nm vs) (ρ ++ List.replicate (Nm.length - ρ.length) .none) := by
  have hl : vs.length = ρ.length := by have := R.len; rwa [List.length_map] at this
  have e1 : ∀ i, sv (L2.start Nm vs) i = sv (vs.map some) i := fun i => by
    unfold sv L2.start
    by_cases h : i < (vs.map some).length
    · rw [List.getElem?_append_left h]
    · rw [List.getElem?_append_right (by omega), List.getElem?_eq_none (by omega : (vs.map some).length ≤ i), List.getElem?_replicate]
      split <;> rfl
  have e2 : ∀ i, sl (ρ ++ List.replicate (Nm.length - ρ.length) Sl.none) i = sl ρ i := fun i => by
    unfold sl
    by_cases h : i < ρ.length
    · rw [List.getElem?_append_left h]
    · rw [List.getElem?_append_right (by omega), List.getElem?_eq_none (by omega : ρ.length ≤ i), List.getElem?_replicate]
      split <;> rfl
  refine ⟨R.fh, R.oh, R.dj, R.tb, R.ot, R.ft, fun v e => ?_, ?_, fun i => ?_, fun i j a ij mi mj vi vj => ?_⟩
  · rw [e1, sv_map, ← List.head?_eq_getElem?]; exact e
  · unfold L2.start; rw [List.length_append, List.length_append, List.length_map, List.length_replicate, List.length_replicate, hl]
  · rw [e1, e2]; exact R.at_ i
  · rw [e2] at mi mj; rw [e1] at vi vj; exact R.ne i j a ij mi mj vi vj
theorem RS.stopV {O2 : Oc} (R : RS K O F H (vs.map some) ρ) (C : RS K O2 F2 H2 σ2 ρ2) (g : Same F F2) (hO : Same O.o O2.o) (hT : O2.T = O.T) (hm : ∀ i, (sl ρ i).mut = false) : RS K O F2 H2 (vs.map some) ρ :=
  ⟨C.fh, Same.trans hO C.oh, fun a o e => C.dj a o (hO _ _ e), (by rw [← hT]; exact C.tb), R.ot, C.ft, R.w0, R.len, fun i => (R.at_ i).mono (hm i) g, fun i j a ij mi => by rw [hm i] at mi; cases mi⟩
theorem RS.stopM {O2 : Oc} {s : Sl} {ds : List D} (R : RS K O F H (vs.map some) (s :: ds.map Sl.val)) (C : RS K O2 F2 H2 σ2 ρ2) (g : Same F F2) (hO : Same O.o O2.o) (hT : O2.T = O.T) (hw : O2.w = vs.head?) : RS K O F2 H2 (vs.map some) (sl ρ2 0 :: ds.map Sl.val) := by
  have tl : ∀ i, sl (sl ρ2 0 :: ds.map Sl.val) (i + 1) = sl (ds.map Sl.val) i := fun i => rfl
  have hv : vs ≠ [] := fun e => by have := R.len; rw [e] at this; cases this
  obtain ⟨v, us, rfl⟩ := List.exists_cons_of_ne_nil hv
  have e0 : sv σ2 0 = some v := C.w0 v hw
  refine ⟨C.fh, Same.trans hO C.oh, fun a o e => C.dj a o (hO _ _ e), (by rw [← hT]; exact C.tb), R.ot, C.ft, R.w0, R.len, fun i => ?_, fun i j a ij mi mj => ?_⟩
  · cases i with
    | zero =>
      show SlOk K O.o F2 H2 (some v) (sl ρ2 0)
      have q := C.at_ 0
      rw [e0] at q
      by_cases m : (sl ρ2 0).mut = true
      · obtain ⟨b, q1, q2, q3, q4⟩ := q.mut_of m
        exact SlOk.of_mut m q1 q2 (Same.free hO q3) q4
      · exact q.mono (by cases q : (sl ρ2 0).mut with | true => exact absurd q m | false => rfl) (Same.refl _)
    | succ i =>
      have q := R.at_ (i + 1)
      have e : sl (s :: ds.map Sl.val) (i + 1) = sl (ds.map Sl.val) i := rfl
      rw [e] at q
      rw [tl]
      exact q.mono vals_mut g
  · cases i with
    | zero =>
      cases j with
      | zero => exact absurd rfl ij
      | succ j => rw [tl, vals_mut] at mj; cases mj
    | succ i => rw [tl, vals_mut] at mi; cases mi
/-- the body of a def whose parameters are plain -/
theorem body_pu {T : List (Addr × Str)} {P : PD} {Nm : List Str} {ts : TS} {Qh : VK} {E : XK} (h : spS K T (pu P) vs H Qh E)
    (k : ∀ (o : Hp) (w : Option V) (F0 : Hp) (ds : List D) (Qd : D → Prop) (Ed : Str → List (Str × D) → Prop), P ds Qd Ed → Wr K ⟨o, w, T⟩ F0 (WO E) (fun c fs _ => Ed c fs) →
      Ms K ⟨o, w, T⟩ F0 ts (ds.map Sl.val ++ List.replicate (Nm.length - ds.length) .none) { nx := fun _ => Qd .non, rt := fun d _ => Qd d }) : ts { nx := fun _ H2 => Qh .non H2, rt := Qh } (start Nm vs) H := by
  obtain ⟨O, F, ρ, rfl, R, ds, Qd, Ed, rfl, hp, q1, q2⟩ := h
  have R1 := R.start (Nm := Nm)
  rw [List.length_map] at R1
  refine k O.o vs.head? F ds Qd Ed hp (fun F2 H2 σ2 ρ2 c fs dd fvs s2 hd C hn rp e => ?_) F H _ _ (Same.refl _) R1 ⟨fun F2 H2 σ2 ρ2 s2 C q => ?_, fun F2 H2 σ2 ρ2 v d s2 C r q => ?_, fun _ _ _ _ _ _ z => z, fun _ _ _ _ _ _ z => z, fun _ _ _ _ _ _ _ _ _ z => z.elim⟩
  · refine q2 c fs e dd H2 F2 fvs s2 hd ?_ hn rp
    have R3 : RS K O F2 H2 (vs.map some) (ds.map Sl.val) := R.stopV C s2 (Same.upd (Same.refl _) hn) rfl fun i => vals_mut
    exact R3.out hd nx_xd (C.dj dd _ upd_same) fun i m => by rw [vals_mut] at m; cases m
  · exact q1 .non q .non H2 F2 s2 (R.stopV C s2 (Same.refl _) rfl fun i => vals_mut) .non
  · exact q1 d q v H2 F2 s2 (R.stopV C s2 (Same.refl _) rfl fun i => vals_mut) r
theorem len_pu {T : List (Addr × Str)} {P : PD} {Qh : VK} {E : XK} {n : Nat} (hn : ∀ ds Q E, P ds Q E → ds.length = n) (h : spS K T (pu P) vs H Qh E) : vs.length = n := by
  obtain ⟨O, F, ρ, rfl, R, ds, Qd, Ed, rfl, hp, q1, q2⟩ := h
  have := R.len
  rw [List.length_map, List.length_map] at this
  rw [this, hn ds Qd Ed hp]
theorem RS.lose (R : RS K O F H σ ρ) : RS K O F H σ (ρ.set i .none) := by
  refine ⟨R.fh, R.oh, R.dj, R.tb, R.ot, R.ft, R.w0, by rw [List.length_set, R.len], fun j => ?_, fun j l a jl mj ml vj vl => ?_⟩
  · rw [sl_set0 (fun _ => rfl)]
    by_cases e : j = i
    · rw [if_pos e]; trivial
    · rw [if_neg e]; exact R.at_ j
  · rw [sl_set0 (fun _ => rfl)] at mj ml
    by_cases e : j = i
    · rw [if_pos e] at mj; cases mj
    · by_cases e2 : l = i
      · rw [if_pos e2] at ml; cases ml
      · rw [if_neg e] at mj; rw [if_neg e2] at ml; exact R.ne j l a jl mj ml vj vl
theorem RS.lost (R : RS K O F H σ ρ) (m : (sl ρ i).mut = true) (hp : sv σ i = some (.ref p)) : ∀ j, (sl (ρ.set i .none) j).mut = true → sv σ j ≠ some (.ref p) := fun j mj e => by
  rw [sl_set0 (fun _ => rfl)] at mj
  by_cases z : j = i
  · rw [if_pos z] at mj; cases mj
  · rw [if_neg z] at mj; exact R.ne j i p z mj m e hp
theorem RS.regain (R : RS K O F H σ (ρ.set i .none)) (hi : i < ρ.length) (hp : sv σ i = some (.ref p)) (m : s.mut = true) (hF : F p = none) (hO : O.o p = none) (h : MutOk K F H p s) (hx : ∀ j, (sl (ρ.set i .none) j).mut = true → sv σ j ≠ some (.ref p)) : RS K O F H σ (ρ.set i s) := by
  refine ⟨R.fh, R.oh, R.dj, R.tb, R.ot, R.ft, R.w0, by rw [R.len, List.length_set, List.length_set], fun j => ?_, fun j l a jl mj ml vj vl => ?_⟩
  · rw [sl_set hi]
    by_cases e : j = i
    · rw [if_pos e, e, hp]; exact SlOk.of_mut m rfl hF hO h
    · have q := R.at_ j
      rw [sl_set hi, if_neg e] at q
      rw [if_neg e]; exact q
  · rw [sl_set hi] at mj ml
    by_cases e : j = i
    · by_cases e2 : l = i
      · exact jl (e.trans e2.symm)
      · rw [if_neg e2] at ml
        rw [e, hp] at vj
        cases vj
        exact hx l (by rw [sl_set hi, if_neg e2]; exact ml) vl
    · rw [if_neg e] at mj
      by_cases e2 : l = i
      · rw [e2, hp] at vl
        cases vl
        exact hx j (by rw [sl_set hi, if_neg e]; exact mj) vj
      · rw [if_neg e2] at ml
        exact R.ne j l a jl (by rw [sl_set hi, if_neg e]; exact mj) (by rw [sl_set hi, if_neg e2]; exact ml) vj vl
theorem RS.enterM (R : RS K O F H σ ρ) (rv : RepL K F vs ds) (m : s.mut = true) (hF : F p = none) (h : MutOk K F H p s) : RS K ⟨beside F H fun a => tx (H a) || decide (a = p), none, O.T⟩ F H ((V.ref p :: vs).map some) (s :: ds.map Sl.val) := by
  have tl : ∀ i, sl (s :: ds.map Sl.val) (i + 1) = sl (ds.map Sl.val) i := fun i => rfl
  refine ⟨R.fh, fun a o (e : beside F H (fun a => tx (H a) || decide (a = p)) a = some o) => (beside_some e).2.2, fun a o (e : beside F H (fun a => tx (H a) || decide (a = p)) a = some o) => (beside_some e).1, R.tb, fun a o (e : beside F H (fun a => tx (H a) || decide (a = p)) a = some o) => ?_, R.ft, (fun v (e : (none : Option V) = some v) => nomatch e), by rw [List.length_map, List.length_cons, List.length_cons, List.length_map, rv.length], fun i => ?_, fun i j a ij mi mj => ?_⟩
  · obtain ⟨e1, e2, e3⟩ := beside_some e
    have e2 := (Bool.or_eq_false_iff.mp e2).1
    rw [e3] at e2
    exact nx_of e2
  · cases i with
    | zero =>
      refine SlOk.of_mut m rfl hF ?_ h
      show beside F H (fun a => tx (H a) || decide (a = p)) p = none
      cases e : beside F H (fun a => tx (H a) || decide (a = p)) p with
      | none => rfl
      | some o => have := (Bool.or_eq_false_iff.mp (beside_some e).2.1).2; rw [decide_eq_true rfl] at this; cases this
    | succ i => exact vals_ok rv
  · cases i with
    | zero =>
      cases j with
      | zero => exact absurd rfl ij
      | succ j => rw [tl, vals_mut] at mj; cases mj
    | succ i => rw [tl, vals_mut] at mi; cases mi
theorem RS.afterM {s2 : Sl} (R : RS K O F H σ ρ) (C : RS K ⟨beside F H fun a => tx (H a) || decide (a = p), none, O.T⟩ F2 H2 ((V.ref p :: vs).map some) (s2 :: ρ2)) (g : Same F F2) (hO : O.o p = none) (hx : ∀ i, (sl ρ i).mut = true → sv σ i ≠ some (.ref p)) : RS K O F2 H2 σ ρ ∧ (s2.mut = true → F2 p = none ∧ MutOk K F2 H2 p s2) := by
  refine ⟨R.after_ C g (Same.refl _) rfl fun a e => .inr ?_, fun m => ?_⟩
  · rcases Bool.or_eq_true_iff.mp e with e | e
    · exact ⟨(tx_no R e).1, (tx_no R e).2.2⟩
    · obtain rfl := of_decide_eq_true e
      exact ⟨hO, hx⟩
  · obtain ⟨q, h1, h2, _, h4⟩ := C.owned (i := 0) m
    cases h1
    exact ⟨h2, h4⟩
/-- f(pen, a ..) -/
theorem m_fnP {P : Nat → List D → (D → Nat → Prop) → Prop} (k : Ma K O F0 tA ρ fun xs ρ1 => FrzL xs ρ1 fun ds ρ2 => ∃ n, sl ρ2 i = .pen n ∧ P n ds fun d m => Q (.val d) (ρ2.set i (.pen m))) (e : (sl ρ i).mut = true) : Me K O F0 (tFn (spS K O.T (pp P)) [] W (tCons (tVar i) tA)) ρ Q := fun F H σ Qh s R c => by
  obtain ⟨p, a1, _⟩ := R.owned e
  refine ⟨_, sv_some a1, ?_⟩
  refine k F H σ _ s R fun vs H1 F1 xs ρ1 s1 R1 r1 k1 => ?_
  obtain ⟨ds, ρ2, F2, s2, R2, r2, n, en, q⟩ := frzL_of R1 r1 k1
  rw [List.append_nil]
  have m : (sl ρ2 i).mut = true := by rw [en]; rfl
  obtain ⟨p2, h1, h2, h3, h4⟩ := R2.owned m
  rw [a1] at h1
  cases h1
  rw [en] at h4
  have hi : i < ρ2.length := by
    by_cases z : i < ρ2.length
    · exact z
    · rw [sl_none (by omega)] at m; cases m
  have R3 := R2.lose (i := i)
  have hx := R2.lost m a1
  refine ⟨⟨beside F2 H1 fun a => tx (H1 a) || decide (a = p), none, O.T⟩, F2, _, rfl, R2.enterM r2 rfl h2 h4, n, ds, _, rfl, q, fun d m2 qd v H4 F4 s4 C rv => ?_⟩
  obtain ⟨R4, z⟩ := R3.afterM (O := O) C s4 h3 hx
  obtain ⟨z1, z2⟩ := z rfl
  exact c v H4 F4 (.val d) _ (Same.trans s1 (Same.trans s2 s4)) (R4.regain hi a1 rfl z1 h3 z2 hx) rv qd
/-- C(a ..) -/
theorem call_pin {c : Str} {P : Str → List D → (List (Str × D) → Prop) → (Str → List (Str × D) → Prop) → Prop} {Qh : VK} {Qd : List (Str × D) → Prop} {Ed : Str → List (Str × D) → Prop} (R : RS K O F H σ ρ) (s : Same F0 F) (hW : Wr K O F0 W Xp) (rv : RepL K F vs ds) (h : P c ds Qd Ed)
    (hq : ∀ fs, Qd fs → ∀ v H2 F2, Same F F2 → RS K O F2 H2 σ ρ → Rep K F2 v (.obj c fs) → Qh v H2) (he : ∀ c2 fs, Ed c2 fs → Xp c2 fs ρ) : ∀ xx dx, H xx = none → H dx = none → dx ≠ xx →
      spS K O.T (pin P) (.ref xx :: vs) (upd (upd H dx (.own xx)) xx (.ins (ga K c) dx [])) (fun v H2 => v = .non ∧ Qh (.ref xx) H2) (WE W σ) := fun xx dx hx hd hne => by
  have R1 : RS K O F (upd H dx (.own xx)) σ ρ := R.allocN hd
  have hx1 : upd H dx (.own xx) xx = none := by rw [upd_ne (Ne.symm hne)]; exact hx
  have R2 : RS K O F (upd (upd H dx (.own xx)) xx (.ins (ga K c) dx [])) σ ρ := R1.allocN hx1
  have nx := R1.no_new hx1
  obtain ⟨f1, f2⟩ := R1.free hx1
  refine ⟨⟨beside F (upd (upd H dx (.own xx)) xx (.ins (ga K c) dx [])) fun a => tx (upd (upd H dx (.own xx)) xx (.ins (ga K c) dx []) a) || decide (a = xx), none, O.T⟩, F, _, rfl, R2.enterM rv (s := .own (.obj c [])) rfl f1 ⟨dx, [], upd_same, RepP.nil⟩, c, ds, Qd, Ed, rfl, h, fun fs q v H4 F4 s4 C r4 => ?_, fun c2 fs q dd H4 F4 fvs s4 hdd C hn rp => ?_⟩
  · cases r4
    obtain ⟨R4, z⟩ := R2.afterM C s4 f2 nx
    obtain ⟨z1, z2⟩ := z rfl
    obtain ⟨o, ho, hnx, rp⟩ := Shl.rep (d := .obj c fs) z2 z1
    obtain ⟨R5, s5⟩ := R4.thaw ho hnx z1 f2 nx
    exact ⟨rfl, hq fs q _ _ _ (Same.trans s4 s5) R5 rp⟩
  · have hz := R2.afterX C s4 hn (Same.refl _) (fun a e => .inr (by
      rcases Bool.or_eq_true_iff.mp e with e | e
      · exact ⟨(tx_no R2 e).1, (tx_no R2 e).2.2⟩
      · obtain rfl := of_decide_eq_true e
        exact ⟨f2, nx⟩)) (fun e => by
      rcases Bool.or_eq_true_iff.mp e with e | e
      · exact ⟨(tx_no R2 e).1, (tx_no R2 e).2.2⟩
      · exfalso
        obtain rfl := of_decide_eq_true e
        obtain ⟨b, b1, b2, b3, b4⟩ := C.owned (i := 0) rfl
        cases b1
        cases upd_same.symm.trans b3)
    exact hW F4 H4 σ ρ c2 fs dd fvs (Same.trans s s4) hdd hz.1 hz.2 rp (he c2 fs q)
theorem m_nw {c : Str} {P : Str → List D → (List (Str × D) → Prop) → (Str → List (Str × D) → Prop) → Prop} (hW : Wr K O F0 W Xp) (k : Ma K O F0 tA ρ fun xs ρ1 => FrzL xs ρ1 fun ds ρ2 => P c ds (fun fs => Q (.val (.obj c fs)) ρ2) fun c2 fs => Xp c2 fs ρ2) : Me K O F0 (tNw (ga K c) (spS K O.T (pin P)) [] W tA) ρ Q := fun F H σ Qh s R c =>
  k F H σ _ s R fun vs H1 F1 xs ρ1 s1 R1 r1 k1 => by
    obtain ⟨ds, ρ2, F2, s2, R2, r2, q⟩ := frzL_of R1 r1 k1
    rw [List.append_nil]
    exact call_pin R2 (Same.trans s (Same.trans s1 s2)) hW r2 q (fun fs qd v H3 F3 s3 R3 r3 => c v H3 F3 (.val (.obj _ fs)) ρ2 (Same.trans s1 (Same.trans s2 s3)) R3 r3 qd) fun _ _ z => z
end
end SJ
namespace SJ
open PySem PySem.Spec PyProof.Rows L2 He
def seeD : X → Ro → Option D
  | .val d, _ => some d
  | .slot n, ρ => match sl ρ n with
    | .own d => some d
    | .val d => some d
    | _ => none
section
variable {K : PySem.W.Frag} {O : Oc} {F0 F F2 F3 H H2 H3 : Hp} {σ σ2 : L2.St} {ρ ρ2 : Ro} {Q : X → Ro → Prop} {QT : Bool → Ro → Prop} {QA : List X → Ro → Prop} {QF : D → Ro → Prop} {ta tb te to : TE} {t u tt : TT} {tA tK : TA} {ts tz : TS} {r : R2} {N : Hn} {n : Nat} {x y : X} {d : D} {g : TG} {wi : TI} {p : Addr} {o o2 : HO} {vs : List V} {ds es : List D} {kds : List (Key × D)} {fds : List (Str × D)} {W : WX} {Xp : XP} {i j : Int} {b c : Bool} {s z : Str} {cn : Str} {v : V}
/-- what a value held shows: its parts are frozen -/
theorem look (R : RS K O F H σ ρ) (h : XvR K F σ v x) (e : seeD x ρ = some d) : Rep K F v d ∨ ∃ p, v = .ref p ∧ Shl K F H p d := by
  cases x with
  | val d0 => cases e; exact .inl h
  | slot n =>
    have hv : sv σ n = some v := h
    have a := R.at_ n
    have e : (match sl ρ n with | .own d => some d | .val d => some d | _ => none) = some d := e
    cases es : sl ρ n with
    | none => rw [es] at e; cases e
    | pen k => rw [es] at e; cases e
    | val d0 =>
      rw [es] at e a
      cases e
      obtain ⟨w, a1, a2⟩ := a
      rw [hv] at a1; cases a1
      exact .inl a2
    | own d0 =>
      rw [es] at e a
      cases e
      obtain ⟨p, a1, a2, a3, a4⟩ := a
      rw [hv] at a1; cases a1
      exact .inr ⟨p, rfl, a4⟩
theorem look_raw (R : RS K O F H σ ρ) (h : XvR K F σ v x) (e : seeD x ρ = some (.lst ds)) : ∃ a xs, v = .ref a ∧ H a = some (.lst xs) ∧ RepL K F xs ds := by
  rcases look R h e with q | ⟨p, rfl, vs, h1, h2⟩
  · obtain ⟨a, xs, rfl, h1, h2⟩ := q.lstP; exact ⟨a, xs, rfl, R.fh _ _ h1, h2⟩
  · exact ⟨p, vs, rfl, h1, h2⟩
theorem look_lst (R : RS K O F H σ ρ) (h : XvR K F σ v x) (e : seeD x ρ = some (.lst ds)) : ∃ a xs, v = .ref a ∧ SqL K H a xs ∧ RepL K F xs ds := by
  obtain ⟨a, xs, e1, e2, e3⟩ := look_raw R h e
  exact ⟨a, xs, e1, SqL.of e2, e3⟩
theorem look_tup (R : RS K O F H σ ρ) (h : XvR K F σ v x) (e : seeD x ρ = some (.tup ds)) : ∃ a xs, v = .ref a ∧ SqT K H a xs ∧ RepL K F xs ds := by
  rcases look R h e with q | ⟨p, rfl, q⟩
  · obtain ⟨a, xs, rfl, h1, h2⟩ := q.tupP; exact ⟨a, xs, rfl, sqt_same R.fh h1, h2⟩
  · cases q
theorem look_dct (R : RS K O F H σ ρ) (h : XvR K F σ v x) (e : seeD x ρ = some (.dct kds)) : ∃ a kvs, v = .ref a ∧ H a = some (.dK kvs) ∧ RepP K F kvs kds := by
  rcases look R h e with q | ⟨p, rfl, vs, h1, h2⟩
  · cases q with
    | dct h1 h2 h3 => exact ⟨_, _, rfl, R.fh _ _ h1, h2, h3⟩
  · exact ⟨p, vs, rfl, h1, h2⟩
theorem look_obj (R : RS K O F H σ ρ) (h : XvR K F σ v x) (e : seeD x ρ = some (.obj cn fds)) : ∃ a dx fs, v = .ref a ∧ H a = some (.ins (ga K cn) dx fs) ∧ RepP K F fs fds := by
  rcases look R h e with q | ⟨p, rfl, dx, vs, h1, h2⟩
  · obtain ⟨a, dx, fs, rfl, h1, h2⟩ := q.objP; exact ⟨a, dx, fs, rfl, R.fh _ _ h1, h2⟩
  · exact ⟨p, dx, vs, rfl, h1, h2⟩
theorem look_int (h : XvR K F σ v (.val (.int i))) : v = .int i := by cases (show Rep K F v (.int i) from h); rfl
theorem look_str (h : XvR K F σ v (.val (.str s))) : v = .str s := by cases (show Rep K F v (.str s) from h); rfl
theorem look_bl (h : XvR K F σ v (.val (.bl b))) : v = .bl b := by cases (show Rep K F v (.bl b) from h); rfl
theorem look_non (h : XvR K F σ v (.val .non)) : v = .non := by cases (show Rep K F v .non from h); rfl
theorem r_addI (k : Q (.val (.int (i + j))) ρ) : Mr K O F0 (rAdd K) (.val (.int i)) (.val (.int j)) ρ Q := fun F H σ u v Qh _ R hu hv q => by
  rw [look_int hu, look_int hv]; exact x_addI (q _ H F (.val (.int (i + j))) ρ (Same.refl _) R (Rep.int _) k)
theorem r_subI (k : Q (.val (.int (i - j))) ρ) : Mr K O F0 rSub (.val (.int i)) (.val (.int j)) ρ Q := fun F H σ u v Qh _ R hu hv q => by
  rw [look_int hu, look_int hv]; exact x_sub' (q _ H F (.val (.int (i - j))) ρ (Same.refl _) R (Rep.int _) k)
theorem r_mulI (h : CMul i j) (k : Q (.val (.int (i * j))) ρ) : Mr K O F0 (rMul K) (.val (.int i)) (.val (.int j)) ρ Q := fun F H σ u v Qh _ R hu hv q => by
  rw [look_int hu, look_int hv]; exact x_mulI h (q _ H F (.val (.int (i * j))) ρ (Same.refl _) R (Rep.int _) k)
theorem r_mod (h : 0 < j) (k : Q (.val (.int (i % j))) ρ) : Mr K O F0 rMod (.val (.int i)) (.val (.int j)) ρ Q := fun F H σ u v Qh _ R hu hv q => by
  rw [look_int hu, look_int hv]; exact x_mod h (q _ H F (.val (.int (i % j))) ρ (Same.refl _) R (Rep.int _) k)
theorem r_eqI (k : Q (.val (.bl (decide (i = j)))) ρ) : Mr K O F0 (rEqU K) (.val (.int i)) (.val (.int j)) ρ Q := fun F H σ u v Qh _ R hu hv q => by
  rw [look_int hu, look_int hv]; exact x_eqI (q _ H F (.val (.bl _)) ρ (Same.refl _) R (Rep.bl _) k)
theorem r_neI (k : Q (.val (.bl (!decide (i = j)))) ρ) : Mr K O F0 (rNeU K) (.val (.int i)) (.val (.int j)) ρ Q := fun F H σ u v Qh _ R hu hv q => by
  rw [look_int hu, look_int hv]; exact x_neI (q _ H F (.val (.bl _)) ρ (Same.refl _) R (Rep.bl _) k)
theorem r_eqS (k : Q (.val (.bl (decide (s = z)))) ρ) : Mr K O F0 (rEqU K) (.val (.str s)) (.val (.str z)) ρ Q := fun F H σ u v Qh _ R hu hv q => by
  rw [look_str hu, look_str hv]; exact x_eqT (q _ H F (.val (.bl _)) ρ (Same.refl _) R (Rep.bl _) k)
theorem r_neS (k : Q (.val (.bl (!decide (s = z)))) ρ) : Mr K O F0 (rNeU K) (.val (.str s)) (.val (.str z)) ρ Q := fun F H σ u v Qh _ R hu hv q => by
  rw [look_str hu, look_str hv]; exact x_neT (q _ H F (.val (.bl _)) ρ (Same.refl _) R (Rep.bl _) k)
theorem r_ltI (k : Q (.val (.bl (decide (i < j)))) ρ) : Mr K O F0 rLtU (.val (.int i)) (.val (.int j)) ρ Q := fun F H σ u v Qh _ R hu hv q => by
  rw [look_int hu, look_int hv]; exact x_ltI (q _ H F (.val (.bl _)) ρ (Same.refl _) R (Rep.bl _) k)
theorem r_leI (k : Q (.val (.bl (decide (i ≤ j)))) ρ) : Mr K O F0 rLeU (.val (.int i)) (.val (.int j)) ρ Q := fun F H σ u v Qh _ R hu hv q => by
  rw [look_int hu, look_int hv]; exact x_leI (q _ H F (.val (.bl _)) ρ (Same.refl _) R (Rep.bl _) k)
theorem r_gtI (k : Q (.val (.bl (decide (j < i)))) ρ) : Mr K O F0 rGtU (.val (.int i)) (.val (.int j)) ρ Q := fun F H σ u v Qh _ R hu hv q => by
  rw [look_int hu, look_int hv]; exact x_gtI (q _ H F (.val (.bl _)) ρ (Same.refl _) R (Rep.bl _) k)
theorem r_geI (k : Q (.val (.bl (decide (j ≤ i)))) ρ) : Mr K O F0 rGeU (.val (.int i)) (.val (.int j)) ρ Q := fun F H σ u v Qh _ R hu hv q => by
  rw [look_int hu, look_int hv]; exact x_geI (q _ H F (.val (.bl _)) ρ (Same.refl _) R (Rep.bl _) k)
def isNon : D → Bool
  | .non => true
  | _ => false
theorem rep_non (h : Rep K F v d) : decide (v = .non) = isNon d := by
  cases h <;> first | rfl | exact decide_eq_false (fun z => nomatch z)
theorem r_isN (k : Q (.val (.bl (isNon d))) ρ) : Mr K O F0 (rIsU false) (.val d) (.val .non) ρ Q := fun F H σ u v Qh _ R hu hv q => by
  rw [look_non hv]
  refine x_isN ?_
  rw [rep_non hu]
  exact q _ H F (.val (.bl _)) ρ (Same.refl _) R (Rep.bl _) k
theorem r_isnN (k : Q (.val (.bl (!isNon d))) ρ) : Mr K O F0 (rIsU true) (.val d) (.val .non) ρ Q := fun F H σ u v Qh _ R hu hv q => by
  rw [look_non hv]
  refine x_isnN ?_
  rw [rep_non hu]
  exact q _ H F (.val (.bl _)) ρ (Same.refl _) R (Rep.bl _) k
theorem repL_atI {xs : List V} {k : Int} {e : D} (h : RepL K F xs ds) (q : atI ds k = some e) : ∃ v, atI xs k = some v ∧ Rep K F v e := by
  unfold atI at q ⊢
  rw [h.length]
  cases z : ixN ds.length k with
  | none => rw [z] at q; cases q
  | some m => rw [z] at q; exact h.at q
theorem r_ixL {e : D} (hx : seeD x ρ = some (.lst ds)) (h : atI ds i = some e) (k : Q (.val e) ρ) : Mr K O F0 (rIx K) x (.val (.int i)) ρ Q := fun F H σ u v Qh _ R hu hv q => by
  rw [look_int hv]
  obtain ⟨a, xs, rfl, h1, h2⟩ := look_lst R hu hx
  obtain ⟨w, e1, e2⟩ := repL_atI h2 h
  exact x_ixL h1 e1 (q w H F (.val e) ρ (Same.refl _) R e2 k)
theorem r_ixT {e : D} (hx : seeD x ρ = some (.tup ds)) (h : atI ds i = some e) (k : Q (.val e) ρ) : Mr K O F0 (rIx K) x (.val (.int i)) ρ Q := fun F H σ u v Qh _ R hu hv q => by
  rw [look_int hv]
  obtain ⟨a, xs, rfl, h1, h2⟩ := look_tup R hu hx
  obtain ⟨w, e1, e2⟩ := repL_atI h2 h
  exact x_ixT h1 e1 (q w H F (.val e) ρ (Same.refl _) R e2 k)
theorem one_arg (h : XsV K F σ vs [x]) : ∃ v, vs = [v] ∧ XvR K F σ v x := by
  match vs, h with
  | [v], h => exact ⟨v, rfl, h.1⟩
theorem two_args (h : XsV K F σ vs [x, y]) : ∃ v w, vs = [v, w] ∧ XvR K F σ v x ∧ XvR K F σ w y := by
  match vs, h with
  | [v, w], h => exact ⟨v, w, rfl, h.1, h.2.1⟩
theorem c_lenL (hx : seeD x ρ = some (.lst ds)) (k : Q (.val (.int (ds.length : Int))) ρ) : Mc K O F0 (rLenU K) [x] ρ Q := fun F H σ vs Qh _ R hu q => by
  obtain ⟨v, rfl, hv⟩ := one_arg hu
  obtain ⟨a, xs, rfl, h1, h2⟩ := look_lst R hv hx
  refine x_lenL h1 ?_
  rw [h2.length]
  exact q _ H F (.val (.int _)) ρ (Same.refl _) R (Rep.int _) k
theorem c_lenT (hx : seeD x ρ = some (.tup ds)) (k : Q (.val (.int (ds.length : Int))) ρ) : Mc K O F0 (rLenU K) [x] ρ Q := fun F H σ vs Qh _ R hu q => by
  obtain ⟨v, rfl, hv⟩ := one_arg hu
  obtain ⟨a, xs, rfl, h1, h2⟩ := look_tup R hv hx
  refine x_lenT' h1 ?_
  rw [h2.length]
  exact q _ H F (.val (.int _)) ρ (Same.refl _) R (Rep.int _) k
theorem c_lenD (hx : seeD x ρ = some (.dct kds)) (k : Q (.val (.int (kds.length : Int))) ρ) : Mc K O F0 (rLenU K) [x] ρ Q := fun F H σ vs Qh _ R hu q => by
  obtain ⟨v, rfl, hv⟩ := one_arg hu
  obtain ⟨a, xs, rfl, h1, h2⟩ := look_dct R hv hx
  refine .inr ⟨a, xs, rfl, h1, ?_⟩
  rw [h2.length]
  exact q _ H F (.val (.int _)) ρ (Same.refl _) R (Rep.int _) k
theorem c_intI (k : Q (.val (.int i)) ρ) : Mc K O F0 rInt [.val (.int i)] ρ Q := fun F H σ vs Qh _ R hu q => by
  obtain ⟨v, rfl, hv⟩ := one_arg hu
  rw [look_int hv]
  exact x_intI (q _ H F (.val (.int _)) ρ (Same.refl _) R (Rep.int _) k)
theorem c_intB (k : Q (.val (.int (if b then 1 else 0))) ρ) : Mc K O F0 rInt [.val (.bl b)] ρ Q := fun F H σ vs Qh _ R hu q => by
  obtain ⟨v, rfl, hv⟩ := one_arg hu
  rw [look_bl hv]
  exact x_intBl (q _ H F (.val (.int _)) ρ (Same.refl _) R (Rep.int _) k)
/-- the type of a tree; own classes by their records -/
def tyD (K : PySem.W.Frag) : D → Value
  | .non => .type "NoneType"
  | .bl _ => .type "bool"
  | .int _ => .type "int"
  | .str _ => .type "str"
  | .cls _ => .none
  | .ty _ => .none
  | .adr _ => .none
  | .lst _ => .type "list"
  | .tup _ => .type "tuple"
  | .dct _ => .type "dict"
  | .obj c _ => .ref (ga K c)
  | .exc _ _ => .none
def TyOk (K : PySem.W.Frag) : D → Prop
  | .obj c _ => InT K (ga K c)
  | .cls _ => False
  | .ty _ => False
  | .adr _ => False
  | .exc _ _ => False
  | _ => True
theorem ty_sql {a : Addr} {xs : List V} (h : SqL K H a xs) : TyX K H (.ref a) (.type "list") := by
  rcases h with (h | ⟨o, h⟩) | ⟨o, its, n, h1, h2, _⟩
  · exact .base (.lst h)
  · exact .base (.frz h)
  · exact .kList h1 h2
theorem ty_sqt {a : Addr} {xs : List V} (h : SqT K H a xs) : TyX K H (.ref a) (.type "tuple") := by
  rcases h with (h | ⟨o, h⟩) | ⟨o, its, n, h1, h2, _⟩
  · exact .base (.tup h)
  · exact .fTuple h
  · exact .kTuple h1 h2
theorem ty_rep (R : RS K O F H σ ρ) (h : XvR K F σ v x) (e : seeD x ρ = some d) (hd : TyOk K d) : TyX K H v (tyD K d) := by
  cases d with
  | non => rcases look R h e with q | ⟨p, _, q⟩; (cases q; exact .base .non); cases q
  | bl b => rcases look R h e with q | ⟨p, _, q⟩; (cases q; exact .base (.bl b)); cases q
  | int b => rcases look R h e with q | ⟨p, _, q⟩; (cases q; exact .base (.int b)); cases q
  | str b => rcases look R h e with q | ⟨p, _, q⟩; (cases q; exact .base (.str b)); cases q
  | cls c => cases hd
  | ty c => cases hd
  | adr c => cases hd
  | lst ds => obtain ⟨a, xs, rfl, h1, _⟩ := look_lst R h e; exact ty_sql h1
  | tup ds => obtain ⟨a, xs, rfl, h1, _⟩ := look_tup R h e; exact ty_sqt h1
  | dct ds => obtain ⟨a, xs, rfl, h1, _⟩ := look_dct R h e; exact .base (.dK h1)
  | obj c fs => obtain ⟨a, dx, fs2, rfl, h1, _⟩ := look_obj R h e; exact hd.ty h1
  | exc c fs => cases hd
theorem rep_ty {c : String} (h : XvR K F σ v (.val (.ty c))) : v = .ty c := by cases (show Rep K F v (.ty c) from h); rfl
/-- isinstance(x, int) -/
theorem c_isiY {c : String} (hx : seeD x ρ = some d) (hd : TyOk K d) (hk : PySem.W.kitOne K (tyD K d) (.type c) = some b) (k : Q (.val (.bl b)) ρ) : Mc K O F0 (rIsi K) [x, .val (.ty c)] ρ Q := fun F H σ vs Qh _ R hu q => by
  obtain ⟨v, w, rfl, hv, hw⟩ := two_args hu
  rw [rep_ty hw]
  exact x_isi (.ty _) (ty_rep R hv hx hd) hk (q _ H F (.val (.bl _)) ρ (Same.refl _) R (Rep.bl _) k)
/-- the class c has instances with a field f -/
def FdOk (K : PySem.W.Frag) (c f : Str) : Prop := Cls K (ga K c) ∧ NoAttr K (ga K c) f
theorem m_fld {f : Str} (k : Me K O F0 te ρ fun x ρ1 => ∃ c fds e, seeD x ρ1 = some (.obj c fds) ∧ FdOk K c f ∧ fds.lookup f = some e ∧ Q (.val e) ρ1) : Me K O F0 (tFld K te f) ρ Q := fun F H σ Qh s R c =>
  k F H σ _ s R fun v H1 F1 x ρ1 s1 R1 r1 ⟨cn, fds, e, hx, hf, hl, q⟩ => by
    obtain ⟨a, dx, fs, rfl, h1, h2⟩ := look_obj R1 r1 hx
    obtain ⟨w, e1, e2⟩ := h2.lookup hl
    exact ⟨a, _, dx, fs, w, rfl, h1, hf.1, hf.2, e1, c w H1 F1 (.val e) ρ1 s1 R1 e2 q⟩
/-- a constant of the class, read off an instance -/
def CnOk (K : PySem.W.Frag) (c f : Str) (v : V) : Prop := Cls K (ga K c) ∧ ∃ u, Con K (ga K c) f v u
theorem m_con {f : Str} (k : Me K O F0 te ρ fun x ρ1 => ∃ c fds v e, seeD x ρ1 = some (.obj c fds) ∧ CnOk K c f v ∧ fds.lookup f = none ∧ (∀ F, Rep K F v e) ∧ Q (.val e) ρ1) : Me K O F0 (tCon K te f) ρ Q := fun F H σ Qh s R c =>
  k F H σ _ s R fun v H1 F1 x ρ1 s1 R1 r1 ⟨cn, fds, w, e, hx, ⟨hc, u, hu⟩, hl, hr, q⟩ => by
    obtain ⟨a, dx, fs, rfl, h1, h2⟩ := look_obj R1 r1 hx
    exact ⟨a, _, dx, fs, w, u, rfl, h1, hc, hu, h2.lookupN hl, c w H1 F1 (.val e) ρ1 s1 R1 (hr F1) q⟩
/-- a property -/
theorem m_pr {f : Str} {gt : Addr} {P : PD} (k : Me K O F0 te ρ fun x ρ1 => Frz x ρ1 fun d ρ2 => ∃ c fds pp, d = .obj c fds ∧ Cls K (ga K c) ∧ PropOf K (ga K c) f pp gt ∧ P [d] (fun e => Q (.val e) ρ2) fun _ _ => False) : Me K O F0 (tPr K f gt (spS K O.T (pu P)) te) ρ Q := fun F H σ Qh s R c =>
  k F H σ _ s R fun v H1 F1 x ρ1 s1 R1 r1 k1 => by
    obtain ⟨d, ρ2, F2, s2, R2, r2, cn, fds, pp, rfl, hc, hp, q⟩ := frz_of R1 r1 k1
    obtain ⟨a, dx, fs, rfl, h1, h2⟩ := r2.objP
    refine ⟨a, _, dx, fs, pp, rfl, R2.fh _ _ h1, hc, hp, ?_⟩
    exact call_pu (W := W0) (Xp := fun _ _ _ => False) R2 (Same.trans s (Same.trans s1 s2)) wr0 (.cons r2 .nil) q (fun d qd v H3 F3 s3 R3 r3 => c v H3 F3 (.val d) ρ2 (Same.trans s1 (Same.trans s2 s3)) R3 r3 qd) fun _ _ z => z
end
end SJ
namespace SJ
open PySem PySem.Spec PyProof.Rows L2 He
mutual
def pyOf : D → Option PyData
  | .non => some .none
  | .bl b => some (.bool b)
  | .int i => some (.int i)
  | .str s => some (.str s)
  | .lst ds => (pyOfL ds).map .list
  | .tup ds => (pyOfL ds).map .tuple
  | _ => none
def pyOfL : List D → Option (List PyData)
  | [] => some []
  | d :: ds => match pyOf d, pyOfL ds with
    | some p, some ps => some (p :: ps)
    | _, _ => none
end
section
variable {K : PySem.W.Frag} {H F : Hp}
mutual
theorem dp_of : ∀ {v : V} {d : D} {pd : PyData}, Rep K H v d → pyOf d = some pd → Dp K H v pd
  | _, _, _, .non, e => by cases e; exact .non
  | _, _, _, .bl b, e => by cases e; exact .bl b
  | _, _, _, .int b, e => by cases e; exact .int b
  | _, _, _, .str b, e => by cases e; exact .str b
  | _, _, _, .cls c, e => by cases e
  | _, _, _, .ty c, e => by cases e
  | _, .lst ds, _, .lst h a, e => by
    have e : (pyOfL ds).map PyData.list = some _ := e
    obtain ⟨ps, e1, rfl⟩ := Option.map_eq_some_iff.mp e
    exact .lst (SqL.of h) (dpl_of a e1)
  | _, .tup ds, _, .tup h a, e => by
    have e : (pyOfL ds).map PyData.tuple = some _ := e
    obtain ⟨ps, e1, rfl⟩ := Option.map_eq_some_iff.mp e
    exact .tup h (dpl_of a e1)
  | _, _, _, .dct _ _ _, e => by cases e
  | _, _, _, .obj _ _ _, e => by cases e
  | _, _, _, .exc _ _ _ _, e => by cases e
theorem dpl_of : ∀ {vs : List V} {ds : List D} {ps : List PyData}, RepL K H vs ds → pyOfL ds = some ps → DpAll K H vs ps
  | _, _, _, .nil, e => by cases e; exact .nil
  | _, d :: ds, _, .cons a b, e => by
    have e : (match pyOf d, pyOfL ds with | some p, some ps => some (p :: ps) | _, _ => none) = some _ := e
    cases e1 : pyOf d with
    | none => rw [e1] at e; cases e
    | some p =>
      cases e2 : pyOfL ds with
      | none => rw [e1, e2] at e; cases e
      | some ps => rw [e1, e2] at e; cases e; exact .cons (dp_of a e1) (dpl_of b e2)
end
end
section
variable {K : PySem.W.Frag} {O : Oc} {F0 F F2 F3 H H2 H3 : Hp} {σ σ2 : L2.St} {ρ ρ2 : Ro} {Q : X → Ro → Prop} {QT : Bool → Ro → Prop} {QA : List X → Ro → Prop} {QF : D → Ro → Prop} {ta tb te to : TE} {t u tt : TT} {tA tK : TA} {ts tz : TS} {r : R2} {N : Hn} {n : Nat} {x y : X} {d e : D} {g : TG} {wi : TI} {p : Addr} {o o2 : HO} {vs : List V} {ds es : List D} {kds : List (Key × D)} {fds : List (Str × D)} {W : WX} {Xp : XP} {i j : Int} {b c : Bool} {s z : Str} {cn : Str} {v : V} {pd pe : PyData}
/-- anything held is readable in the whole heap -/
theorem look_rep (R : RS K O F H σ ρ) (h : XvR K F σ v x) (e : seeD x ρ = some d) : Rep K H v d := by
  rcases look R h e with q | ⟨p, rfl, q⟩
  · exact q.mono R.fh
  · cases d with
    | lst ds => obtain ⟨vs, h1, h2⟩ := q; exact .lst h1 (h2.mono R.fh)
    | dct ds => obtain ⟨vs, h1, h2⟩ := q; exact .ofDct h1 (h2.mono R.fh)
    | obj c ds => obtain ⟨dx, vs, h1, h2⟩ := q; exact .ofObj h1 (h2.mono R.fh)
    | _ => cases q
theorem r_neD (hx : seeD x ρ = some d) (hy : seeD y ρ = some e) (px : pyOf d = some pd) (py : pyOf e = some pe) (s1 : SeqAt.shaped pd = true) (s2 : SeqAt.shaped pe = true) (k : Q (.val (.bl (!PyData.eqv pd pe))) ρ) : Mr K O F0 (rNeU K) x y ρ Q := fun F H σ u v Qh _ R hu hv q =>
  x_neDD (dp_of (look_rep R hu hx) px) (dp_of (look_rep R hv hy) py) s1 s2 (q _ H F (.val (.bl _)) ρ (Same.refl _) R (Rep.bl _) k)
theorem inV_strs {zs : List Str} : inV (.str s) (zs.map V.str) = decide (s ∈ zs) := by
  induction zs with
  | nil => rfl
  | cons z zs ih =>
    show (eqV (.str z) (.str s) || inV (.str s) (zs.map V.str)) = _
    rw [ih]
    by_cases e : s = z
    · rw [decide_eq_true (show s ∈ z :: zs by rw [e]; exact List.mem_cons_self ..)]
      have : eqV (.str z) (.str s) = true := by rw [e]; exact decide_eq_true rfl
      rw [this, Bool.true_or]
    · have : eqV (.str z) (.str s) = false := decide_eq_false (fun q => e q.symm)
      rw [this, Bool.false_or]
      by_cases m : s ∈ zs
      · rw [decide_eq_true m, decide_eq_true (List.mem_cons_of_mem _ m)]
      · rw [decide_eq_false m, decide_eq_false (fun q => by rcases List.mem_cons.mp q with q | q; exact e q; exact m q)]
theorem flat_strs {zs : List Str} : (zs.map V.str).all flatV = true := by
  induction zs with
  | nil => rfl
  | cons z zs ih => exact ih
theorem r_inStrs {zs : List Str} (hy : seeD y ρ = some (.lst (zs.map D.str))) (k : Q (.val (.bl (decide (s ∈ zs)))) ρ) : Mr K O F0 (rInU K false) (.val (.str s)) y ρ Q := fun F H σ u v Qh _ R hu hv q => by
  rw [look_str hu]
  obtain ⟨a, xs, rfl, h1, h2⟩ := look_lst R hv hy
  rw [h2.strs'] at h1
  refine x_inL h1 rfl flat_strs ?_
  rw [inV_strs]
  exact q _ H F (.val (.bl _)) ρ (Same.refl _) R (Rep.bl _) k
theorem r_inStrsT {zs : List Str} (hy : seeD y ρ = some (.tup (zs.map D.str))) (k : Q (.val (.bl (decide (s ∈ zs)))) ρ) : Mr K O F0 (rInU K false) (.val (.str s)) y ρ Q := fun F H σ u v Qh _ R hu hv q => by
  rw [look_str hu]
  obtain ⟨a, xs, rfl, h1, h2⟩ := look_tup R hv hy
  rw [h2.strs'] at h1
  refine x_inT h1 rfl flat_strs ?_
  rw [inV_strs]
  exact q _ H F (.val (.bl _)) ρ (Same.refl _) R (Rep.bl _) k
theorem r_ninStrsT {zs : List Str} (hy : seeD y ρ = some (.tup (zs.map D.str))) (k : Q (.val (.bl (!decide (s ∈ zs)))) ρ) : Mr K O F0 (rInU K true) (.val (.str s)) y ρ Q := fun F H σ u v Qh _ R hu hv q => by
  rw [look_str hu]
  obtain ⟨a, xs, rfl, h1, h2⟩ := look_tup R hv hy
  rw [h2.strs'] at h1
  refine x_ninT h1 rfl flat_strs ?_
  rw [inV_strs]
  exact q _ H F (.val (.bl _)) ρ (Same.refl _) R (Rep.bl _) k
theorem mf_list (k : Me K O F0 te ρ fun x ρ1 => ∃ ds, (seeD x ρ1 = some (.lst ds) ∨ seeD x ρ1 = some (.tup ds)) ∧ QF (.lst ds) ρ1) : Mf K O F0 (tCB (rListU K) (tCons te tNil)) ρ QF := fun F H σ Qh s R c =>
  k F H σ _ s R fun v H1 F1 x ρ1 s1 R1 r1 ⟨ds, hx, q⟩ => by
    rcases hx with hx | hx
    · obtain ⟨a, xs, rfl, h1, h2⟩ := look_lst R1 r1 hx
      exact x_listL h1 fun l hl => mf_new (ρ2 := ρ1) (F2 := F1) R1 hl h2 fun H3 R3 nw => c l H3 F1 _ ρ1 s1 R3 nw q
    · obtain ⟨a, xs, rfl, h1, h2⟩ := look_tup R1 r1 hx
      exact x_listT h1 fun l hl => mf_new (ρ2 := ρ1) (F2 := F1) R1 hl h2 fun H3 R3 nw => c l H3 F1 _ ρ1 s1 R3 nw q
theorem ms_append {i : Nat} (h0 : sl ρ i = .own (.lst ds)) (k : Me K O F0 te ρ fun x ρ1 => Frz x ρ1 fun e ρ2 => ∃ es, sl ρ2 i = .own (.lst es) ∧ es.length < 10000 ∧ N.nx (ρ2.set i (.own (.lst (es ++ [e]))))) : Ms K O F0 (tDrop (tBM K "list" rAppend (tVar i) (tCons te tNil))) ρ N := fun F H σ E s R c => by
  have m0 : (sl ρ i).mut = true := by rw [h0]; rfl
  obtain ⟨p, a1, a2, a3, a4⟩ := R.owned m0
  rw [h0] at a4
  obtain ⟨vs0, a4, _⟩ := a4
  refine ⟨_, sv_some a1, .inl ⟨rfl, vs0, SqL.of a4⟩, ?_⟩
  refine k F H σ _ s R fun v H1 F1 x ρ1 s1 R1 r1 k1 => ?_
  obtain ⟨e, ρ2, F2, s2, R2, r2, es, he, hl, q⟩ := frz_of R1 r1 k1
  have m : (sl ρ2 i).mut = true := by rw [he]; rfl
  obtain ⟨p2, b1, b2, b3, b4⟩ := R2.owned m
  rw [a1] at b1
  cases b1
  rw [he] at b4
  obtain ⟨vs, b4, b5⟩ := b4
  refine ⟨p, vs, v, rfl, rfl, b4, by rw [b5.length]; exact Nat.lt_of_lt_of_le hl (by decide), ?_⟩
  exact c.nx F2 _ σ _ (Same.trans s1 s2) (R2.mutO (s := .own (.lst (es ++ [e]))) m a1 rfl ⟨_, upd_same, b5.append (.one r2)⟩) q
theorem m_popAt {i : Nat} (h0 : sl ρ i = .own (.lst ds)) (k : Me K O F0 te ρ fun x ρ1 => ∃ (j : Nat) (es : List D) (e : D), x = .val (.int j) ∧ sl ρ1 i = .own (.lst es) ∧ j < 1000000 ∧ es[j]? = some e ∧ Q (.val e) (ρ1.set i (.own (.lst (es.eraseIdx j))))) : Me K O F0 (tBM K "list" rPopAt (tVar i) (tCons te tNil)) ρ Q := fun F H σ Qh s R c => by
  have m0 : (sl ρ i).mut = true := by rw [h0]; rfl
  obtain ⟨p, a1, a2, a3, a4⟩ := R.owned m0
  rw [h0] at a4
  obtain ⟨vs0, a4, _⟩ := a4
  refine ⟨_, sv_some a1, .inl ⟨rfl, vs0, SqL.of a4⟩, ?_⟩
  refine k F H σ _ s R fun v H1 F1 x ρ1 s1 R1 r1 ⟨j, es, e, ex, he, hj, hje, q⟩ => ?_
  subst ex
  rw [look_int r1]
  have m : (sl ρ1 i).mut = true := by rw [he]; rfl
  obtain ⟨p2, b1, b2, b3, b4⟩ := R1.owned m
  rw [a1] at b1
  cases b1
  rw [he] at b4
  obtain ⟨vs, b4, b5⟩ := b4
  obtain ⟨w, w1, w2⟩ := b5.at hje
  have hlt : j < vs.length := (List.getElem?_eq_some_iff.mp w1).1
  have hix : seqIndex? (j : Int) vs.length = some j := by
    have z : ixN vs.length (j : Int) = some j := by
      unfold ixN
      rw [if_pos (Int.natCast_nonneg j), if_pos (by omega)]
      rfl
    exact (ixN_seq z).1
  refine ⟨p, vs, j, j, w, rfl, rfl, b4, by omega, by omega, hix, w1, ?_⟩
  exact c w _ F1 (.val e) _ s1 (R1.mutO (s := .own (.lst (es.eraseIdx j))) m a1 rfl ⟨_, upd_same, b5.erase j⟩) w2 q
def keyD : D → Option Key
  | .int i => some (.inl i)
  | .str s => some (.inr s)
  | _ => none
theorem rep_key {k : Key} (h : Rep K F v d) (e : keyD d = some k) : v = kV k := by
  cases h <;> first | (cases e; rfl) | cases e
def valD (kds : List (Key × D)) (k : Key) : Option D := (kds.find? fun kv => decide (kv.1 = k)).map (·.2)
theorem valV_rep {kvs : List (Key × V)} {k : Key} (h : RepP K F kvs kds) : (∀ d, valD kds k = some d → ∃ v, valV kvs k = some v ∧ Rep K F v d) ∧ (valD kds k = none → valV kvs k = none) := by
  induction kds generalizing kvs with
  | nil => rw [h.inv0]; exact ⟨(fun d e => nomatch e), fun _ => rfl⟩
  | cons q kds ih =>
    obtain ⟨k2, d2⟩ := q
    obtain ⟨v, r, rfl, a, b⟩ := h.inv
    unfold valD valV
    rw [List.find?_cons, List.find?_cons]
    by_cases e : k2 = k
    · simp only [decide_eq_true e]
      exact ⟨fun d z => by cases z; exact ⟨v, rfl, a⟩, fun z => nomatch z⟩
    · simp only [decide_eq_false e]
      exact ih b
theorem m_dget {td ty : TE} (k : Me K O F0 td ρ fun x ρ1 => Me K O F0 ty ρ1 fun y ρ2 => ∃ kds kd e, seeD x ρ2 = some (.dct kds) ∧ (∃ d, y = .val d ∧ keyD d = some kd) ∧ valD kds kd = some e ∧ Q (.val e) ρ2) : Me K O F0 (tDGet td ty) ρ Q := fun F H σ Qh s R c =>
  k F H σ _ s R fun v1 H1 F1 x ρ1 s1 R1 r1 k1 => k1 F1 H1 σ _ (Same.trans s s1) R1 fun v2 H2 F2 y ρ2 s2 R2 r2 ⟨kds, kd, e, hx, ⟨d, ey, hd⟩, hv, q⟩ => by
    subst ey
    obtain ⟨a, kvs, rfl, h1, h2⟩ := look_dct R2 (r1.mono s2) hx
    rw [rep_key r2 hd]
    obtain ⟨w, w1, w2⟩ := (valV_rep h2).1 e hv
    exact ⟨a, w, rfl, by rw [← w1]; exact DGet.k h1, c w H2 F2 (.val e) ρ2 (Same.trans s1 s2) R2 w2 q⟩
end
end SJ
namespace SJ
open PySem PySem.Spec PyProof.Rows L2 He
section
variable {K : PySem.W.Frag} {F F2 H : Hp} {vs us : List V} {ds es : List D} {κ : Type}
theorem RepL.reverse (h : RepL K F vs ds) : RepL K F vs.reverse ds.reverse := by
  induction ds generalizing vs with
  | nil => cases h; exact .nil
  | cons d ds ih =>
    cases h with
    | cons a b => rw [List.reverse_cons, List.reverse_cons]; exact (ih b).append (.one a)
theorem RepP.zip {fs : List κ} (h : RepL K F vs ds) : RepP K F (fs.zip vs) (fs.zip ds) := by
  induction fs generalizing vs ds with
  | nil => exact ⟨rfl, .nil⟩
  | cons f fs ih =>
    cases h with
    | nil => exact ⟨rfl, .nil⟩
    | cons a b => exact RepP.cons a (ih b)
theorem RepP.reverse {kvs : List (κ × V)} {kds : List (κ × D)} (h : RepP K F kvs kds) : RepP K F kvs.reverse kds.reverse := ⟨by rw [List.map_reverse, List.map_reverse, h.1], by rw [List.map_reverse, List.map_reverse]; exact h.2.reverse⟩
end
section
variable {K : PySem.W.Frag} {O : Oc} {F0 F F2 F3 H H2 H3 : Hp} {σ σ2 : L2.St} {ρ ρ2 : Ro} {Q : X → Ro → Prop} {QT : Bool → Ro → Prop} {QA : List X → Ro → Prop} {QF : D → Ro → Prop} {QL : List D → Ro → Prop} {ta tb te to tc : TE} {t u tt : TT} {tA tK : TA} {ts tz : TS} {r r2 : R2} {N : Hn} {n : Nat} {x y : X} {d e : D} {g : TG} {wi : TI} {p : Addr} {o o2 : HO} {vs : List V} {ds es : List D} {kds : List (Key × D)} {fds : List (Str × D)} {W : WX} {Xp : XP} {i j : Int} {b c : Bool} {s z : Str} {cn : Str} {v : V} {gf : Addr} {P : PD}
theorem m_chain (k : Me K O F0 ta ρ fun x ρ1 => Me K O F0 tb ρ1 fun y ρ2 => Mr K O F0 r x y ρ2 fun z ρ3 => ∃ b, z = .val (.bl b) ∧ if b = true then Me K O F0 tc ρ3 fun w ρ4 => Mr K O F0 r2 y w ρ4 Q else Q (.val (.bl false)) ρ3) : Me K O F0 (tChain r r2 ta tb tc) ρ Q := fun F H σ Qh s R c =>
  k F H σ _ s R fun v1 H1 F1 x ρ1 s1 R1 r1 k1 => k1 F1 H1 σ _ (Same.trans s s1) R1 fun v2 H2 F2 y ρ2 s2 R2 r2 k2 => k2 F2 H2 σ v1 v2 _ (Same.trans s (Same.trans s1 s2)) R2 (r1.mono s2) r2 fun v3 H3 F3 z ρ3 s3 R3 r3 ⟨b, e, k3⟩ => by
    subst e
    rw [look_bl r3]
    have s03 := Same.trans s (Same.trans s1 (Same.trans s2 s3))
    have s13 := Same.trans s1 (Same.trans s2 s3)
    refine ⟨b, rfl, ?_⟩
    cases b with
    | false => exact c _ H3 F3 (.val (.bl false)) ρ3 s13 R3 (Rep.bl false) k3
    | true => exact k3 F3 H3 σ _ s03 R3 fun v4 H4 F4 w ρ4 s4 R4 r4 k4 => k4 F4 H4 σ v2 v4 Qh (Same.trans s03 s4) R4 ((r2.mono s3).mono s4) r4 fun v H5 F5 z ρ5 s5 R5 r5 q => c v H5 F5 z ρ5 (Same.trans s13 (Same.trans s4 s5)) R5 r5 q
theorem frz2_of {u v : V} {P : D → D → Ro → Prop} (R : RS K O F H σ ρ) (hu : XvR K F σ u x) (hv : XvR K F σ v y) (q : Frz x ρ fun d ρ1 => Frz y ρ1 fun e ρ2 => P d e ρ2) : ∃ d e ρ2 F2, Same F F2 ∧ RS K O F2 H σ ρ2 ∧ Rep K F2 u d ∧ Rep K F2 v e ∧ P d e ρ2 := by
  obtain ⟨d, ρ1, F1, s1, R1, r1, q1⟩ := frz_of R hu q
  obtain ⟨e, ρ2, F2, s2, R2, r2, q2⟩ := frz_of R1 (hv.mono s1) q1
  exact ⟨d, e, ρ2, F2, Same.trans s1 s2, R2, r1.mono s2, r2, q2⟩
def OwnOp (K : PySem.W.Frag) (c : Str) (f : Str) (g : Addr) : Prop := PySem.W.findIn K (.ref (ga K c)) f = some (some (.ref g))
theorem r_ownIn {neg : Bool} (k : Frz x ρ fun e ρ1 => Frz y ρ1 fun d ρ2 => ∃ c fds, d = .obj c fds ∧ OwnOp K c "__contains__" gf ∧ P [d, e] (fun z => ∃ b, z = .bl b ∧ Q (.val (.bl (if neg then !b else b))) ρ2) fun _ _ => False) : Mr K O F0 (rOwnIn K gf (spS K O.T (pu P)) neg) x y ρ Q := fun F H σ u v Qh s R hu hv c => by
  obtain ⟨e, d, ρ2, F2, s2, R2, r1, r2, cn, fds, rfl, ho, q⟩ := frz2_of R hu hv k
  obtain ⟨a, dx, fs, rfl, h1, h2⟩ := r2.objP
  refine ⟨a, _, dx, fs, rfl, R2.fh _ _ h1, ho, ?_⟩
  refine call_pu (W := W0) (Xp := fun _ _ _ => False) (σ := σ) R2 (Same.trans s s2) wr0 (.cons r2 (.cons r1 .nil)) q (fun d qd v H3 F3 s3 R3 r3 => ?_) fun _ _ z => z
  obtain ⟨b, rfl, qd⟩ := qd
  cases r3
  exact ⟨b, rfl, c _ H3 F3 (.val (.bl _)) ρ2 (Same.trans s2 s3) R3 (Rep.bl _) qd⟩
theorem m_ownGet (hW : Wr K O F0 W Xp) (k : Me K O F0 ta ρ fun x ρ1 => Me K O F0 tb ρ1 fun y ρ2 => Frz x ρ2 fun d ρ3 => Frz y ρ3 fun e ρ4 => ∃ c fds, d = .obj c fds ∧ OwnOp K c "__getitem__" gf ∧ P [d, e] (fun z => Q (.val z) ρ4) fun c fs => Xp c fs ρ4) : Me K O F0 (tOwnGet K gf (spS K O.T (pu P)) W ta tb) ρ Q := fun F H σ Qh s R c =>
  k F H σ _ s R fun v1 H1 F1 x ρ1 s1 R1 r1 k1 => k1 F1 H1 σ _ (Same.trans s s1) R1 fun v2 H2 F2 y ρ2 s2 R2 r2 k2 => by
    obtain ⟨d, e, ρ3, F3, s3, R3, r3, r4, cn, fds, rfl, ho, q⟩ := frz2_of R2 (r1.mono s2) r2 k2
    obtain ⟨a, dx, fs, rfl, h1, h2⟩ := r3.objP
    refine ⟨a, _, dx, fs, rfl, R3.fh _ _ h1, ho, ?_⟩
    exact call_pu R3 (Same.trans s (Same.trans s1 (Same.trans s2 s3))) hW (.cons r3 (.cons r4 .nil)) q (fun d qd v H4 F4 s4 R4 r5 => c v H4 F4 (.val d) ρ3 (Same.trans s1 (Same.trans s2 (Same.trans s3 s4))) R4 r5 qd) fun _ _ z => z
theorem XsV.append : ∀ {vs ws : List V} {xs zs : List X}, XsV K F σ vs xs → XsV K F σ ws zs → XsV K F σ (vs ++ ws) (xs ++ zs)
  | [], _, [], _, _, h => h
  | _ :: _, _, _ :: _, _, a, h => ⟨a.1, a.2.append h⟩
  | [], _, _ :: _, _, a, _ => a.elim
  | _ :: _, _, [], _, a, _ => a.elim
theorem XsV.length : ∀ {vs : List V} {xs : List X}, XsV K F σ vs xs → vs.length = xs.length
  | [], [], _ => rfl
  | _ :: _, _ :: _, a => congrArg (· + 1) a.2.length
  | [], _ :: _, a => a.elim
  | _ :: _, [], a => a.elim
end
end SJ
namespace SJ
open PySem PySem.Spec PyProof.Rows L2 He
section
variable {K : PySem.W.Frag} {F F2 H : Hp} {vs us : List V} {ds es : List D} {κ : Type}
theorem RepP.any {kvs : List (Key × V)} {kds : List (Key × D)} {k : Key} (h : RepP K F kvs kds) : (kvs.any fun kv => decide (kv.1 = k)) = kds.any fun kv => decide (kv.1 = k) := by
  induction kds generalizing kvs with
  | nil => rw [h.inv0]; rfl
  | cons q kds ih =>
    obtain ⟨k2, d⟩ := q
    obtain ⟨v, r, rfl, a, b⟩ := h.inv
    rw [List.any_cons, List.any_cons, ih b]
theorem RepP.append {kvs kws : List (κ × V)} {kds kes : List (κ × D)} (h : RepP K F kvs kds) (g : RepP K F kws kes) : RepP K F (kvs ++ kws) (kds ++ kes) := ⟨by rw [List.map_append, List.map_append, h.1, g.1], by rw [List.map_append, List.map_append]; exact h.2.append g.2⟩
end
section
variable {K : PySem.W.Frag} {O : Oc} {F0 F F2 F3 H H2 H3 : Hp} {σ σ2 : L2.St} {ρ ρ2 : Ro} {Q : X → Ro → Prop} {QT : Bool → Ro → Prop} {QA : List X → Ro → Prop} {QF : D → Ro → Prop} {QL : List D → Ro → Prop} {ta tb te to tc : TE} {t u tt : TT} {tA tK : TA} {ts tz : TS} {r r2 : R2} {N : Hn} {n : Nat} {x y : X} {d e : D} {g : TG} {wi : TI} {p : Addr} {o o2 : HO} {vs : List V} {ds es : List D} {kds : List (Key × D)} {fds : List (Str × D)} {W : WX} {Xp : XP} {i j : Int} {b c : Bool} {s z : Str} {cn : Str} {v : V} {gf : Addr} {P : PD}
theorem ma_star (k : Me K O F0 te ρ fun x ρ1 => Frz x ρ1 fun d ρ2 => ∃ ds, (d = .tup ds ∨ d = .lst ds) ∧ Ma K O F0 tA ρ2 fun ys ρ3 => QA (ds.map X.val ++ ys) ρ3) : Ma K O F0 (StX.tStar K te tA) ρ QA := fun F H σ Qh s R c =>
  k F H σ _ s R fun v H1 F1 x ρ1 s1 R1 r1 k1 => by
    obtain ⟨d, ρ2, F2, s2, R2, r2, ds, hd, q⟩ := frz_of R1 r1 k1
    have mk : ∀ {F : Hp} {xs : List V} {ds : List D}, RepL K F xs ds → XsV K F σ xs (ds.map X.val) := by
      intro F xs ds h
      induction ds generalizing xs with
      | nil => cases h; trivial
      | cons d ds ih => cases h with | cons a b => exact ⟨a, ih b⟩
    rcases hd with rfl | rfl
    · obtain ⟨a, xs, rfl, h1, h2⟩ := r2.tupP
      refine ⟨a, xs, rfl, .inl (sqt_same R2.fh h1), q F2 H1 σ _ (Same.trans s (Same.trans s1 s2)) R2 fun ws H3 F3 ys ρ3 s3 R3 r3 qz => ?_⟩
      exact c _ H3 F3 _ ρ3 (Same.trans s1 (Same.trans s2 s3)) R3 ((mk (h2.mono s3)).append r3) qz
    · obtain ⟨a, xs, rfl, h1, h2⟩ := r2.lstP
      refine ⟨a, xs, rfl, .inr (SqL.of (R2.fh _ _ h1)), q F2 H1 σ _ (Same.trans s (Same.trans s1 s2)) R2 fun ws H3 F3 ys ρ3 s3 R3 r3 qz => ?_⟩
      exact c _ H3 F3 _ ρ3 (Same.trans s1 (Same.trans s2 s3)) R3 ((mk (h2.mono s3)).append r3) qz
def cutD (xs : List D) (lo hi : Option Int) : List D := (xs.drop (HT.sIx xs.length 0 lo)).take (HT.sIx xs.length xs.length hi - HT.sIx xs.length 0 lo)
def Mo (K : PySem.W.Frag) (O : Oc) (F0 : Hp) (t : TO) (ρ : Ro) (Q : Option Int → Ro → Prop) : Prop := ∀ (F H : Hp) (σ : L2.St) (Qh : Option Int → Hp → Prop), Same F0 F → RS K O F H σ ρ → (∀ v H2 F2 ρ2, Same F F2 → RS K O F2 H2 σ ρ2 → Q v ρ2 → Qh v H2) → t σ H Qh
theorem mo_no {QO : Option Int → Ro → Prop} (k : QO none ρ) : Mo K O F0 tNoPart ρ QO := fun F H σ Qh s R c => c none H F ρ (Same.refl _) R k
theorem mo_part {QO : Option Int → Ro → Prop} (k : Me K O F0 te ρ fun x ρ1 => ∃ i, x = .val (.int i) ∧ QO (some i) ρ1) : Mo K O F0 (tPart te) ρ QO := fun F H σ Qh s R c =>
  k F H σ _ s R fun v H1 F1 x ρ1 s1 R1 r1 ⟨i, ex, q⟩ => by
    subst ex
    exact ⟨i, look_int r1, c (some i) H1 F1 ρ1 s1 R1 q⟩
theorem mf_sl {tl th : TO} (k : Me K O F0 te ρ fun x ρ1 => Mo K O F0 tl ρ1 fun lo ρ2 => Mo K O F0 th ρ2 fun hi ρ3 => ∃ ds, seeD x ρ3 = some (.lst ds) ∧ QF (.lst (cutD ds lo hi)) ρ3) : Mf K O F0 (tSl (rSlU K) te tl th) ρ QF := fun F H σ Qh s R c =>
  k F H σ _ s R fun v H1 F1 x ρ1 s1 R1 r1 k1 => k1 F1 H1 σ _ (Same.trans s s1) R1 fun lo H2 F2 ρ2 s2 R2 k2 => k2 F2 H2 σ _ (Same.trans s (Same.trans s1 s2)) R2 fun hi H3 F3 ρ3 s3 R3 ⟨ds, hx, q⟩ => by
    obtain ⟨a, xs, rfl, h1, h2⟩ := look_lst R3 ((r1.mono s2).mono s3) hx
    refine .inl ⟨a, xs, rfl, h1, fun p hp => ?_⟩
    have e : RepL K F3 (cutV xs lo hi) (cutD ds lo hi) := by
      unfold cutV cutD
      rw [h2.length]
      exact h2.sub _ _
    exact mf_new (ρ2 := ρ3) (F2 := F3) R3 hp e fun H4 R4 nw => c p H4 F3 _ ρ3 (Same.trans s1 (Same.trans s2 s3)) R4 nw q
end
end SJ
namespace SJ
open PySem PySem.Spec PySem.W PySem.Calls PyProof.Rows L2 LamX
section
variable {K : PySem.W.Frag} {O : Oc} {F0 F F2 F3 H H2 H3 : Hp} {σ σ2 : L2.St} {ρ ρ2 : Ro} {Q : X → Ro → Prop} {QT : Bool → Ro → Prop} {QA : List X → Ro → Prop} {QF : D → Ro → Prop} {QL : List D → Ro → Prop} {ta tb te to tc tk tv : TE} {t u tt : TT} {tA tK : TA} {ts tz : TS} {r r2 : R2} {N : Hn} {n : Nat} {x y : X} {d e : D} {g : TG} {wi : TI} {p : Addr} {o o2 : HO} {ds es : List D} {kds : List (Key × D)} {fds : List (Str × D)} {W : WX} {Xp : XP} {i j : Int} {b c : Bool} {s z : Str} {cn : Str} {v : V} {gf : Addr} {P : PD}
theorem mg_pair {i j : Nat} {a b : D} {Pn : Ro → Prop} (k : Pn ((ρ.set i (.val a)).set j (.val b))) (hi : i ≠ 0 := by decide) (hj : j ≠ 0 := by decide) : Mg K O F0 (gTup K 2 (gCons (gName i) (gCons (gName j) gNil))) [i, j] (.tup [a, b]) ρ Pn := fun F H σ v Qs s R r c => by
  obtain ⟨p, xs, rfl, h1, h2⟩ := r.tupP
  cases h2 with
  | cons ra rb =>
    cases rb with
    | cons rb z =>
      cases z
      refine ⟨p, _, rfl, sqt_same R.fh h1, rfl, _, _, rfl, _, _, rfl, rfl, ?_⟩
      refine c F H _ _ (Same.refl _) ((R.put hi ra).put hj rb) (fun vs h => ?_) k
      rw [wipe_set (h j (by simp)), wipe_set (h i (by simp))]
end
end SJ
namespace SJ
open PySem PySem.Spec PyProof.Rows L2 He LamX
section
variable {K : PySem.W.Frag} {F F2 : Hp} {q : Addr}
/-- heaps that differ at q alone, which holds a dict, locked or not -/
def OffD (F F2 : Hp) (q : Addr) : Prop := (∀ a o, a ≠ q → F a = some o → F2 a = some o) ∧ ((∃ kvs, F q = some (.dK kvs)) ∨ ∃ od kvs, F q = some (.frz od (.dK kvs)))
theorem OffD.ne {o : HO} {a : Addr} (h : OffD F F2 q) (e : F a = some o) (h1 : ∀ kvs, o ≠ .dK kvs) (h2 : ∀ od kvs, o ≠ .frz od (.dK kvs)) : F2 a = some o := h.1 a o (fun z => by
  subst z
  rcases h.2 with ⟨kvs, g⟩ | ⟨od, kvs, g⟩
  · rw [g] at e; exact h1 kvs (Option.some.inj e).symm
  · rw [g] at e; exact h2 od kvs (Option.some.inj e).symm) e
end
end SJ
namespace SJ
open PySem PySem.Spec PyProof.Rows L2 He LamX
section
variable {K : PySem.W.Frag} {O : Oc} {F0 F F2 F3 H H2 H3 : Hp} {σ σ2 : L2.St} {ρ ρ2 : Ro} {Q : X → Ro → Prop} {QT : Bool → Ro → Prop} {QA : List X → Ro → Prop} {QF : D → Ro → Prop} {QL : List D → Ro → Prop} {ta tb te to tc tk tv : TE} {t u tt : TT} {tA tK : TA} {ts tz : TS} {r r2 : R2} {N : Hn} {n : Nat} {x y : X} {d e : D} {g : TG} {wi : TI} {p : Addr} {o o2 : HO} {ds es : List D} {kds : List (Key × D)} {fds : List (Str × D)} {W : WX} {Xp : XP} {b c : Bool} {s z : Str} {cn : Str} {v : V} {gf : Addr} {P : PD} {vs : List V}
abbrev PP1 := Nat → List D → (D → Nat → Prop) → Prop
theorem body_pp {T : List (Addr × Str)} {P : PP1} {Nm : List Str} {ts : TS} {Qh : VK} {E : XK} (h : spS K T (pp P) vs H Qh E)
    (k : ∀ (o : Hp) (w : Option V) (F0 : Hp) (m : Nat) (ds : List D) (Qd : D → Nat → Prop), P m ds Qd →
      Ms K ⟨o, w, T⟩ F0 ts ((Sl.pen m :: ds.map Sl.val) ++ List.replicate (Nm.length - (ds.length + 1)) .none) { nx := fun ρ => ∃ j, sl ρ 0 = .pen j ∧ Qd .non j, rt := fun d ρ => ∃ j, sl ρ 0 = .pen j ∧ Qd d j }) : ts { nx := fun _ H2 => Qh .non H2, rt := Qh } (start Nm vs) H := by
  obtain ⟨O, F, ρ, rfl, R, m, ds, Qd, rfl, hp, q1⟩ := h
  have R1 := R.start (Nm := Nm)
  rw [List.length_cons, List.length_map] at R1
  refine k O.o vs.head? F m ds Qd hp F H _ _ (Same.refl _) R1 ⟨fun F2 H2 σ2 ρ2 s2 C ⟨j, h0, q⟩ => ?_, fun F2 H2 σ2 ρ2 v d s2 C r ⟨j, h0, q⟩ => ?_, fun _ _ _ _ _ _ z => z, fun _ _ _ _ _ _ z => z, fun _ _ _ _ _ _ _ _ _ z => z.elim⟩
  · have R3 := R.stopM C s2 (Same.refl _) rfl rfl
    rw [h0] at R3
    exact q1 .non j q .non H2 F2 s2 R3 .non
  · have R3 := R.stopM C s2 (Same.refl _) rfl rfl
    rw [h0] at R3
    exact q1 d j q v H2 F2 s2 R3 r
theorem len_pp {T : List (Addr × Str)} {P : PP1} {Qh : VK} {E : XK} {n : Nat} (hn : ∀ m ds Q, P m ds Q → ds.length + 1 = n) (h : spS K T (pp P) vs H Qh E) : vs.length = n := by
  obtain ⟨O, F, ρ, rfl, R, m, ds, Qd, rfl, hp, q1⟩ := h
  have := R.len
  rw [List.length_map, List.length_cons, List.length_map] at this
  rw [this, hn m ds Qd hp]
theorem RS.penned {ds : List D} {m m2 : Nat} {Pn : Pen} {us : List V} (R : RS K O F H ((V.ref Pn.p :: us).map some) (.pen m :: ds.map Sl.val)) (s : Same (L2.del H Pn.p) (L2.del H2 Pn.p)) (h : PenAt H2 Pn m2) (hc : F Pn.c = some (.lst (Pn.ns.map V.int))) : RS K O F H2 ((V.ref Pn.p :: us).map some) (.pen m2 :: ds.map Sl.val) := by
  obtain ⟨p2, h1, h2, h3, h4⟩ := R.owned (i := 0) rfl
  cases h1
  obtain ⟨o, e1, e2⟩ := h4.nx
  have kp : ∀ a u, a ≠ Pn.p → H a = some u → H2 a = some u := fun a u n e => del_sub (s a u (by rw [del_ne n]; exact e))
  have tl : ∀ i, sl (Sl.pen m2 :: ds.map Sl.val) (i + 1) = sl (ds.map Sl.val) i := fun i => rfl
  refine ⟨fun a u e => kp a u (fun z => by rw [z, h2] at e; cases e) (R.fh _ _ e), fun a u e => kp a u (fun z => by rw [z, h3] at e; cases e) (R.oh _ _ e), R.dj, fun q hq => ?_, R.ot, R.ft, R.w0, R.len, fun i => ?_, fun i j a ij mi mj => ?_⟩
  · obtain ⟨ps, a1, a2, a3⟩ := R.tb q hq
    have n1 : q.1 ≠ Pn.p := fun z => by rw [z, e1] at a1; exact e2.1 ps (Option.some.inj a1)
    refine ⟨ps, kp _ _ n1 a1, a2, fun pos cv hcv => ?_⟩
    obtain ⟨c, b1, b2⟩ := a3 pos cv hcv
    exact ⟨c, b1, kp _ _ (fun z => by rw [z, e1] at b2; exact e2.2 _ (Option.some.inj b2)) b2⟩
  · cases i with
    | zero =>
      obtain ⟨a, r, g1, g2, g3, g4, g5, g6⟩ := h
      exact ⟨Pn.p, rfl, h2, h3, Pn, rfl, hc, a, r, g1, g3, g4, g5, g6⟩
    | succ i =>
      have q := R.at_ (i + 1)
      rw [show sl (Sl.pen m :: ds.map Sl.val) (i + 1) = sl (ds.map Sl.val) i from rfl] at q
      rw [tl]
      exact q.mono vals_mut (Same.refl _)
  · cases i with
    | zero =>
      cases j with
      | zero => exact absurd rfl ij
      | succ j => rw [tl, vals_mut] at mj; cases mj
    | succ i => rw [tl, vals_mut] at mi; cases mi
theorem RS.penAt {ds : List D} {m : Nat} (R : RS K O F H (vs.map some) (.pen m :: ds.map Sl.val)) : ∃ (Pn : Pen) (us : List V), vs = .ref Pn.p :: us ∧ PenAt H Pn m ∧ F Pn.c = some (.lst (Pn.ns.map V.int)) ∧ F Pn.p = none ∧ RepL K F us ds := by
  obtain ⟨p2, h1, h2, h3, h4⟩ := R.owned (i := 0) rfl
  obtain ⟨Pn, rfl, hc, a, r, g1, g3, g4, g5, g6⟩ := h4
  have hl := R.len
  match vs, h1, hl with
  | v :: us, h1, hl =>
  cases (show some v = some (.ref Pn.p) from h1)
  have hne : Pn.c ≠ Pn.p := fun z => by rw [z, h2] at hc; cases hc
  refine ⟨Pn, us, rfl, ⟨a, r, g1, by rw [del_ne hne]; exact R.fh _ _ hc, g3, g4, g5, g6⟩, hc, h2, ?_⟩
  have key : ∀ (us : List V) (ds : List D), us.length = ds.length → (∀ i, SlOk K O.o F H (sv (us.map some) i) (sl (ds.map Sl.val) i)) → RepL K F us ds := by
    intro us ds
    induction ds generalizing us with
    | nil => intro l _; rw [List.eq_nil_of_length_eq_zero l]; exact .nil
    | cons d ds ih =>
      intro l q
      match us, l with
      | u :: us, l =>
      obtain ⟨w, w1, w2⟩ := (show SlOk K O.o F H (some u) (.val d) from q 0)
      cases w1
      exact .cons w2 (ih us (Nat.succ.inj l) fun i => q (i + 1))
  refine key us ds ?_ fun i => R.at_ (i + 1)
  rw [List.map_cons, List.length_cons, List.length_cons, List.length_map, List.length_map] at hl
  exact Nat.succ.inj hl
/-- what a draw promises -/
def PDraw : PP1 := fun n ds Q => ∃ m : Int, ds = [.int m] ∧ n < 100000 ∧ 0 < m ∧ m < 1073741824 ∧ ∀ r : Int, 0 ≤ r → r < m → Q (.int r) (n + 1)
theorem draw_of {T : List (Addr × Str)} {Qh : VK} {E : XK} (h : spS K T (pp PDraw) vs H Qh E) : spDraw vs H Qh E := by
  obtain ⟨O, F, ρ, rfl, R, n, ds, Qd, rfl, ⟨m, rfl, h1, h2, h3, h4⟩, q1⟩ := h
  obtain ⟨Pn, us, rfl, hp, hc, hF, rl⟩ := R.penAt
  cases rl with
  | cons a b =>
    cases a
    cases b
    exact ⟨Pn, m, n, rfl, hp, h1, h2, h3, fun H2 r r1 r2 p2 sd => q1 _ _ (h4 r r1 r2) _ H2 F (Same.refl _) (R.penned sd p2 hc) (.int r)⟩
/-- what a pick promises -/
def PPick : PP1 := fun n ds Q => ∃ es : List D, (ds = [.lst es] ∨ ds = [.tup es]) ∧ n < 100000 ∧ es ≠ [] ∧ es.length ≤ 1000 ∧ ∀ e ∈ es, Q e (n + 1)
end
end SJ
namespace SJ
open PySem PySem.Spec PyProof.Rows L2 He LamX
/-- all stays but sets and tables; F and the tables stay good -/
def Sm (T : List (Addr × Str)) (F : Hp) : Hp → Hp → Prop := fun H G => (∀ a o, H a = some o → NX o → G a = some o) ∧ (Same F H ∧ Tabs T H → Same F G ∧ Tabs T G)
section
variable {K : PySem.W.Frag} {O : Oc} {F0 F F2 F3 H H2 H3 : Hp} {σ σ2 : L2.St} {ρ ρ2 : Ro} {Q : X → Ro → Prop} {QF : D → Ro → Prop} {ta tb te : TE} {N : Hn} {n : Nat} {x y : X} {d e : D} {p : Addr} {o o2 : HO} {ds es : List D} {fds : List (Str × D)} {b c : Bool} {s z : Str} {cn : Str} {v : V} {gf : Addr} {P : PD} {vs : List V} {T : List (Addr × Str)}
theorem RS.sm (R : RS K O F H σ ρ) (h : Sm O.T F H H2) : RS K O F H2 σ ρ := by
  obtain ⟨g1, g2⟩ := h.2 ⟨R.fh, R.tb⟩
  refine ⟨g1, fun a o e => h.1 a o (R.oh a o e) (R.ot a o e), R.dj, g2, R.ot, R.ft, R.w0, R.len, fun i => ?_, R.ne⟩
  by_cases m : (sl ρ i).mut = true
  · obtain ⟨a, h1, h2, h3, h4⟩ := R.owned m
    obtain ⟨o, q1, q2⟩ := h4.nx
    exact SlOk.of_mut m h1 h2 h3 (h4.mono (by rw [q1, h.1 a o q1 q2]) (Same.refl _))
  · exact (R.at_ i).mono (by cases q : (sl ρ i).mut with | true => exact absurd q m | false => rfl) (Same.refl _)
end
end SJ
namespace SJ
open PySem PySem.Spec PyProof.Rows L2 He
end SJ
namespace SJ
open PySem PySem.Spec PyProof.Rows L2 He LamX
section
variable {K : PySem.W.Frag} {O : Oc} {F0 F F1 F2 F3 H H1 H2 H3 : Hp} {σ σ2 : L2.St} {ρ ρ2 : Ro} {Q : X → Ro → Prop} {QT : Bool → Ro → Prop} {QA : List X → Ro → Prop} {QF : D → Ro → Prop} {ta tb te to : TE} {t u tt : TT} {tA tK : TA} {ts tz : TS} {r : R2} {N : Hn} {n : Nat} {x y : X} {d e : D} {g : TG} {wi : TI} {p q : Addr} {o o2 : HO} {vs : List V} {ds es : List D} {kds : List (Key × D)} {fds : List (Str × D)} {W : WX} {Xp : XP} {b c : Bool} {s z : Str} {cn : Str} {v : V}
theorem q_v {P : D → Ro → Prop} (k : P d ρ) : Frz (.val d) ρ P := k
theorem q_own {P : D → Ro → Prop} (e : sl ρ n = .own d) (k : P d (ρ.set n (.val d))) : Frz (.slot n) ρ P := by
  unfold Frz; simp only [e]; exact k
theorem q_n {PL : List D → Ro → Prop} (k : PL [] ρ) : FrzL [] ρ PL := k
theorem q_c {PL : List D → Ro → Prop} {xs : List X} (k : Frz x ρ fun d ρ2 => FrzL xs ρ2 fun ds ρ3 => PL (d :: ds) ρ3) : FrzL (x :: xs) ρ PL := k
theorem q_t {A B : Prop} (k : A) : if (true = true) then A else B := k
theorem q_f {A B : Prop} (k : B) : if (false = true) then A else B := k
theorem q_bl {Pb : Bool → Prop} (k : Pb b) : ∃ c, X.val (.bl b) = X.val (.bl c) ∧ Pb c := ⟨b, rfl, k⟩
theorem m_yes (k : QT true ρ) : Mt K O F0 tYes ρ QT := fun F H σ Qh s R c => c true H F ρ (Same.refl _) R k
theorem Shl.mono (h : Shl K F H p d) (e : H2 p = H p) (g : Same F F2) : Shl K F2 H2 p d := MutOk.mono (s := .own d) h e g
def OffL (F F2 : Hp) (q : Addr) : Prop := (∀ a o, a ≠ q → F a = some o → F2 a = some o) ∧ ∃ xs, F q = some (.lst xs)
theorem OffL.ne {o : HO} {a : Addr} (h : OffL F F2 q) (e : F a = some o) (h1 : ∀ xs, o ≠ .lst xs) : F2 a = some o := h.1 a o (fun z => by
  subst z
  obtain ⟨xs, g⟩ := h.2
  rw [g] at e; exact h1 xs (Option.some.inj e).symm) e
def spLaw (K : PySem.W.Frag) (T : List (Addr × Str)) : Sp := fun vs H Q _ => ∃ (a : Addr) (ns : List Int), vs = [.ref a] ∧ SqL K H a (ns.map V.int) ∧ ns.length ≤ 63 ∧ Tabs T H ∧ ∀ H2, Q (.bl true) H2
theorem len_law {T : List (Addr × Str)} {Q : VK} {E : XK} (h : spLaw K T vs H Q E) : vs.length = 1 := by obtain ⟨a, ns, rfl, _⟩ := h; rfl
theorem body_law {T : List (Addr × Str)} {Nm : List Str} {Qh : VK} {E : XK} (h : spLaw K T vs H Qh E) (hN : 2 ≤ Nm.length)
    (k : ∀ (o : Hp) (w : Option V) (F0 : Hp), Ms K ⟨o, w, T⟩ F0 ts (.none :: .pen 0 :: List.replicate (Nm.length - 2) .none) { nx := fun _ => False, rt := fun d _ => d = .bl true }) :
    tSeq (tAsg (tFn (spPen K) [] W0 (tCons (tVar 0) tNil)) (gName 1)) ts { nx := fun _ H2 => Qh .non H2, rt := Qh } (start Nm vs) H := by
  obtain ⟨a, ns, rfl, hS, hl, hT, hQ⟩ := h
  refine ⟨.ref a, rfl, a, ns, rfl, hS, hl, fun P H2 hP sH pen => ?_⟩
  have hc := pen.cell
  have hcp : P.c ≠ P.p := del_ne_of hc
  have hc2 : H2 P.c = some (.lst (P.ns.map V.int)) := del_sub hc
  let F : Hp := fun b => if b = P.c then some (.lst (P.ns.map V.int)) else none
  have Fc : F P.c = some (.lst (P.ns.map V.int)) := if_pos rfl
  have Fs : ∀ b o, F b = some o → b = P.c ∧ o = .lst (P.ns.map V.int) := fun b o e => by
    by_cases z : b = P.c
    · subst z; rw [Fc] at e; exact ⟨rfl, (Option.some.inj e).symm⟩
    · have : F b = none := if_neg z
      rw [this] at e; cases e
  have es : ∀ i, sv ((start Nm [V.ref a]).set 1 (some (V.ref P.p))) i = if i = 1 then some (.ref P.p) else if i = 0 then some (.ref a) else none := fun i => by
    rw [sv_set (by unfold L2.start; rw [List.length_append, List.length_map, List.length_replicate]; simp only [List.length_cons, List.length_nil]; omega)]
    by_cases h1 : i = 1
    · rw [if_pos h1, if_pos h1]
    · rw [if_neg h1, if_neg h1]
      unfold sv L2.start
      cases i with
      | zero => rfl
      | succ i =>
        rw [if_neg (by omega)]
        show ((List.replicate _ none)[i]?).getD none = none
        rw [List.getElem?_replicate]
        split <;> rfl
  have el : ∀ i, sl (Sl.none :: Sl.pen 0 :: List.replicate (Nm.length - 2) Sl.none) i = if i = 1 then .pen 0 else .none := fun i => by
    match i with
    | 0 => rfl
    | 1 => rfl
    | i + 2 =>
      rw [if_neg (by omega)]
      show ((List.replicate _ Sl.none)[i]?).getD .none = .none
      rw [List.getElem?_replicate]
      split <;> rfl
  refine k (fun _ => none) none F F H2 _ _ (Same.refl _) ?_ ⟨(fun _ _ _ _ _ _ z => z.elim), (fun F3 H3 σ3 ρ3 v d s3 R3 r3 z => ?_), (fun _ _ _ _ _ _ z => z.elim), (fun _ _ _ _ _ _ z => z.elim), (fun _ _ _ _ _ _ _ _ _ z => z.elim)⟩
  · refine ⟨fun b o e => ?_, (fun b o e => nomatch (show (none : Option HO) = some o from e)), (fun b o e => nomatch (show (none : Option HO) = some o from e)), Tabs.ext hT sH, (fun b o e => nomatch (show (none : Option HO) = some o from e)), fun b o e ps => ?_, (fun v e => nomatch (show (none : Option V) = some v from e)), ?_, fun i => ?_, fun i j p ij mi mj => ?_⟩
    · obtain ⟨rfl, rfl⟩ := Fs b o e; exact hc2
    · obtain ⟨_, rfl⟩ := Fs b o e; exact fun z => nomatch z
    · rw [List.length_set]; unfold L2.start; rw [List.length_append, List.length_map, List.length_replicate]; simp only [List.length_cons, List.length_nil, List.length_replicate]; omega
    · rw [es, el]
      by_cases h1 : i = 1
      · rw [if_pos h1, if_pos h1]
        obtain ⟨x, y, z1, z2, z3, z4, z5, z6⟩ := pen
        exact ⟨P.p, rfl, if_neg (Ne.symm hcp), rfl, P, rfl, Fc, x, y, z1, z3, z4, z5, z6⟩
      · rw [if_neg h1]
        rw [if_neg h1]
        trivial
    · rw [el] at mi mj
      by_cases h1 : i = 1
      · by_cases h2 : j = 1
        · exact absurd (h1.trans h2.symm) ij
        · rw [if_neg h2] at mj; cases mj
      · rw [if_neg h1] at mi; cases mi
  · subst z
    cases r3
    exact hQ H3
end
end SJ
namespace SJ
open PySem PySem.Spec PyProof.Rows L2 He LamX
section
variable {K : PySem.W.Frag} {O : Oc} {F0 F F1 F2 F3 H H1 H2 H3 : Hp} {σ σ2 : L2.St} {ρ ρ2 : Ro} {Q : X → Ro → Prop} {QT : Bool → Ro → Prop} {QA : List X → Ro → Prop} {QF : D → Ro → Prop} {ta tb te to : TE} {t u tt : TT} {tA tK : TA} {ts tz : TS} {r : R2} {N : Hn} {n : Nat} {x y : X} {d e : D} {g : TG} {wi : TI} {p q : Addr} {o o2 : HO} {vs : List V} {ds es : List D} {kds : List (Key × D)} {fds : List (Str × D)} {W : WX} {Xp : XP} {b c : Bool} {s z : Str} {cn : Str} {v : V}
theorem s_asg (k : Me K O F0 te ρ fun x ρ1 => Frz x ρ1 fun d ρ2 => N.nx (ρ2.set (n + 1) (.val d))) : Ms K O F0 (tAsg te (gName (n + 1))) ρ N := ms_asg k (Nat.succ_ne_zero n)
theorem s_asgF (k : Mf K O F0 te ρ fun d ρ1 => n + 1 < ρ1.length ∧ N.nx (ρ1.set (n + 1) (.own d))) : Ms K O F0 (tAsg te (gName (n + 1))) ρ N := ms_asgF k (Nat.succ_ne_zero n)
theorem g_var (k : Me K O F0 (tVar n) ρ Q) : Me K O F0 (tVar n) ρ Q := k
theorem g_fn {sp : Sp} {dv : List V} (k : Me K O F0 (tFn sp dv W tA) ρ Q) : Me K O F0 (tFn sp dv W tA) ρ Q := k
theorem g_nw {sp : Sp} {a : Addr} {dv : List V} (k : Me K O F0 (tNw a sp dv W tA) ρ Q) : Me K O F0 (tNw a sp dv W tA) ρ Q := k
theorem g_slot {P : D → Ro → Prop} (k : Frz (.slot n) ρ P) : Frz (.slot n) ρ P := k
end
end SJ
namespace SJ
open PySem PySem.Spec PyProof.Rows L2 He LamX
def dk3 (v0 : V) (a b : Addr) : List (Key × V) := [(.inr "top", v0), (.inr "drivers", .ref a), (.inr "listeners", .ref b)]
structure TwoL (K : PySem.W.Frag) (O : Oc) (F H : Hp) (σ : L2.St) (ρ : Ro) (j : Nat) (p a b : Addr) (v0 : V) (us ws : List V) : Prop where
  ex : ∃ O2 : Oc, RS K O2 F H σ ρ ∧ O2.w = O.w ∧ O2.T = O.T ∧ Same O.o O2.o ∧ O2.o p = some (.dK (dk3 v0 a b)) ∧ O2.o a = some (.lst us) ∧ O2.o b = some (.lst ws)
  ab : a ≠ b
  np : O.o p = none
  na : O.o a = none
  nb : O.o b = none
  sj : sl ρ j = .val (.adr p)
section
variable {K : PySem.W.Frag} {O : Oc} {F0 F F1 F2 F3 H H1 H2 H3 : Hp} {σ σ2 : L2.St} {ρ ρ2 : Ro} {Q : X → Ro → Prop} {ta tb te to e0 : TE} {ts tz : TS} {N : Hn} {x y : X} {d e : D} {wi : TI} {p a b : Addr} {o o2 : HO} {vs us ws : List V} {ds es dl ll : List D} {v v0 : V} {j n : Nat} {QT : List D → List D → Ro → Prop}
theorem TwoL.ne (h : TwoL K O F H σ ρ j p a b v0 us ws) : p ≠ a ∧ p ≠ b := by
  obtain ⟨O2, R, e1, e2, s, hp, ha, hb⟩ := h.ex
  exact ⟨(fun z => by rw [z, ha] at hp; cases hp), (fun z => by rw [z, hb] at hp; cases hp)⟩
end
end SJ
namespace SJ
open PySem PySem.Spec PyProof.Rows L2 He LamX
section
variable {K : PySem.W.Frag} {O : Oc} {F0 F F1 F2 F3 H H1 H2 H3 : Hp} {σ σ2 : L2.St} {ρ ρ2 : Ro} {Q : X → Ro → Prop} {QT : Bool → Ro → Prop} {QA : List X → Ro → Prop} {QF : D → Ro → Prop} {QL : List D → Ro → Prop} {ta tb te to : TE} {t u tt : TT} {tA tK : TA} {ts tz : TS} {r : R2} {N : Hn} {n : Nat} {x y : X} {d e : D} {g : TG} {wi : TI} {p q : Addr} {o o2 : HO} {vs : List V} {ds es : List D} {kds : List (Key × D)} {fds : List (Str × D)} {W : WX} {Xp : XP} {b c : Bool} {s z : Str} {cn : Str} {v : V} {tl th : TO} {wv : List Nat}
theorem r_catL (hx : seeD x ρ = some (.lst ds)) (hy : seeD y ρ = some (.lst es)) (hl : ds.length + es.length ≤ 10000) (k : Q (.val (.lst (ds ++ es))) ρ) : Mr K O F0 (rAdd K) x y ρ Q := fun F H σ u v Qh _ R hu hv q => by
  obtain ⟨a, xs, rfl, h1, h2⟩ := look_raw R hu hx
  obtain ⟨b, ys, rfl, h3, h4⟩ := look_raw R hv hy
  refine .inr (.inr (.inl ⟨a, b, xs, ys, rfl, rfl, h1, h3, by rw [h2.length, h4.length]; exact Nat.le_trans hl (by decide), fun p hp => ?_⟩))
  obtain ⟨R3, s3⟩ := R.alloc (o := .lst (xs ++ ys)) hp nx_lst
  exact q _ _ _ (.val (.lst (ds ++ es))) ρ s3 R3 (Rep.lst upd_same ((h2.append h4).mono s3)) k
theorem c_listv (hx : seeD x ρ = some (.lst ds) ∨ seeD x ρ = some (.tup ds)) (k : Q (.val (.lst ds)) ρ) : Mc K O F0 (rListU K) [x] ρ Q := fun F H σ vs Qh _ R hu q => by
  obtain ⟨v, rfl, hv⟩ := one_arg hu
  have fin : ∀ xs, RepL K F xs ds → ∀ l, H l = none → Qh (.ref l) (upd H l (.lst xs)) := fun xs h2 l hl => by
    obtain ⟨R3, s3⟩ := R.alloc (o := .lst xs) hl nx_lst
    exact q _ _ _ (.val (.lst ds)) ρ s3 R3 (Rep.lst upd_same (h2.mono s3)) k
  rcases hx with hx | hx
  · obtain ⟨a, xs, rfl, h1, h2⟩ := look_lst R hv hx
    exact x_listL h1 (fin xs h2)
  · obtain ⟨a, xs, rfl, h1, h2⟩ := look_tup R hv hx
    exact x_listT h1 (fin xs h2)
theorem c_tupleL (hx : seeD x ρ = some (.lst ds)) (k : Q (.val (.tup ds)) ρ) : Mc K O F0 (rTupU K) [x] ρ Q := fun F H σ vs Qh _ R hu q => by
  obtain ⟨v, rfl, hv⟩ := one_arg hu
  obtain ⟨a, xs, rfl, h1, h2⟩ := look_lst R hv hx
  refine ⟨a, xs, rfl, .inl ⟨h1, fun l hl => ?_⟩⟩
  obtain ⟨R3, s3⟩ := R.alloc (o := .tup xs) hl nx_tup
  exact q _ _ _ (.val (.tup ds)) ρ s3 R3 (Rep.tup (SqT.of upd_same) (h2.mono s3)) k
theorem c_tupleT (k : Q (.val (.tup ds)) ρ) : Mc K O F0 (rTupU K) [.val (.tup ds)] ρ Q := fun F H σ vs Qh _ R hu q => by
  obtain ⟨v, rfl, hv⟩ := one_arg hu
  have hv0 := hv
  obtain ⟨a, xs, rfl, h1, h2⟩ := look_tup R hv (ds := ds) rfl
  exact ⟨a, xs, rfl, .inr ⟨h1, q _ H F (.val (.tup ds)) ρ (Same.refl _) R hv0 k⟩⟩
theorem g_le {P : Prop} (k : ds.length ≤ 1000 ∧ P) : ds.length ≤ 1000 ∧ P := k
theorem g_dget (k : Me K O F0 (tDGet ta tb) ρ Q) : Me K O F0 (tDGet ta tb) ρ Q := k
theorem v_lst (k : Ma K O F0 tA ρ fun xs ρ1 => FrzL xs ρ1 fun ds ρ2 => ds.length ≤ 1000 ∧ Q (.val (.lst ds)) ρ2) : Me K O F0 (tLst tA) ρ Q := m_f (mf_lst k)
theorem v_sl (k : Me K O F0 te ρ fun x ρ1 => Mo K O F0 tl ρ1 fun lo ρ2 => Mo K O F0 th ρ2 fun hi ρ3 => ∃ ds, seeD x ρ3 = some (.lst ds) ∧ Q (.val (.lst (cutD ds lo hi))) ρ3) : Me K O F0 (tSl (rSlU K) te tl th) ρ Q := m_f (mf_sl k)
theorem v_dnew (k : Q (.val (.dct [])) ρ) : Me K O F0 tDNewK ρ Q := m_f (m_dnew k)
theorem v_lcM (js : List Nat) (P : D → Bool) (Fn : D → D) (hjs : ∀ j ∈ js, j ∈ wv := by decide) (h0 : 0 ∉ wv := by decide) (k : Mi K O F0 wi ρ fun ds ρ1 => ds.length ≤ 10000 ∧ (∀ v ∈ wv, (sl ρ1 v).mut = false) ∧
    (∀ d ∈ ds, ∀ (oo : Hp) (ww : Option V), Mg K ⟨oo, ww, O.T⟩ F0 g js d (wipeR ρ1 wv) fun ρ3 => ρ3.length = ρ1.length ∧ rst ρ3 ρ1 wv = ρ1 ∧ Mt K ⟨oo, ww, O.T⟩ F0 tt ρ3 fun b ρ4 => ρ4 = ρ3 ∧ b = P d ∧ (b = true → Me K ⟨oo, ww, O.T⟩ F0 tb ρ4 fun y ρ5 => y = .val (Fn d) ∧ ρ5 = ρ3)) ∧
    Q (.val (.lst ((ds.filter P).map Fn))) ρ1) : Me K O F0 (tLc wi g tt tb wv) ρ Q := m_f (mf_lcM js P Fn hjs h0 k)
theorem get_str {P : D → Prop} {kk : Str} (hx : seeD x ρ = some (.dct kds)) (hv : valD kds (.inr kk) = some e) (k : P e) : ∃ kds kd e, seeD x ρ = some (.dct kds) ∧ (∃ d, X.val (.str kk) = .val d ∧ keyD d = some kd) ∧ valD kds kd = some e ∧ P e := ⟨kds, .inr kk, e, hx, ⟨_, rfl, rfl⟩, hv, k⟩
theorem all_tt {ds : List D} : ds.filter (fun _ => true) = ds := List.filter_eq_self.mpr fun _ _ => rfl
theorem one_free {ρ : Ro} {n : Nat} (h : (sl ρ n).mut = false) : ∀ v ∈ [n], (sl ρ v).mut = false := fun v hv => by
  rcases List.mem_cons.mp hv with rfl | hv
  · exact h
  · cases hv
end
end SJ
namespace SJ
open PySem PySem.Spec PyProof.Rows L2 He LamX
end SJ
namespace SJ
open PySem PySem.Spec PyProof.Rows L2 He LamX
mutual
def pyQ : D → Option PyData
  | .non => some .none
  | .bl b => some (.bool b)
  | .int i => some (.int i)
  | .str s => some (.str s)
  | .lst ds => (pyQL ds).map .list
  | .tup ds => (pyQL ds).map .tuple
  | .dct kds => (pyQF kds).map .dict
  | _ => none
def pyQL : List D → Option (List PyData)
  | [] => some []
  | d :: ds => match pyQ d, pyQL ds with
    | some p, some ps => some (p :: ps)
    | _, _ => none
def pyQF : List (Key × D) → Option (List (PyData × PyData))
  | [] => some []
  | (k, d) :: ds => match pyQ d, pyQF ds with
    | some p, some ps => some ((keyP k, p) :: ps)
    | _, _ => none
end
theorem pyQF_of : ∀ {kds : List (Key × D)} {ps : List (PyData × PyData)}, pyQF kds = some ps → pyQL (kds.map (·.2)) = some (ps.map (·.2)) ∧ ps.map (·.1) = kds.map fun q => keyP q.1
  | [], _, h => by simp only [pyQF] at h; cases h; exact ⟨by simp only [List.map_nil, pyQL], rfl⟩
  | (k, d) :: kds, _, h => by
    simp only [pyQF] at h
    cases e1 : pyQ d with
    | none => rw [e1] at h; cases h
    | some p =>
      cases e2 : pyQF kds with
      | none => rw [e1, e2] at h; cases h
      | some ps =>
        rw [e1, e2] at h
        cases h
        obtain ⟨h1, h2⟩ := pyQF_of e2
        refine ⟨by simp only [List.map_cons, pyQL, e1, h1], ?_⟩
        rw [List.map_cons, List.map_cons, h2]
section
variable {K : PySem.W.Frag} {H F : Hp}
mutual
theorem dq_of : ∀ {v : V} {d : D} {pd : PyData}, Rep K H v d → pyQ d = some pd → Dq K H v pd
  | _, .non, _, .non, e => by simp only [pyQ] at e; cases e; exact .non
  | _, .bl _, _, .bl b, e => by simp only [pyQ] at e; cases e; exact .bl b
  | _, .int _, _, .int b, e => by simp only [pyQ] at e; cases e; exact .int b
  | _, .str _, _, .str b, e => by simp only [pyQ] at e; cases e; exact .str b
  | _, .cls _, _, .cls c, e => by simp only [pyQ] at e; cases e
  | _, .ty _, _, .ty c, e => by simp only [pyQ] at e; cases e
  | _, .adr _, _, .adr c, e => by simp only [pyQ] at e; cases e
  | _, .lst ds, _, .lst h a, e => by
    simp only [pyQ] at e
    obtain ⟨ps, e1, rfl⟩ := Option.map_eq_some_iff.mp e
    exact .lst h (dql_of a e1)
  | _, .tup ds, _, .tup h a, e => by
    simp only [pyQ] at e
    obtain ⟨ps, e1, rfl⟩ := Option.map_eq_some_iff.mp e
    exact .tup h (dql_of a e1)
  | _, .dct kds, _, .dct h1 h2 h3, e => by
    simp only [pyQ] at e
    obtain ⟨ps, e1, rfl⟩ := Option.map_eq_some_iff.mp e
    obtain ⟨q1, q2⟩ := pyQF_of e1
    refine .dic h1 ?_ (dql_of h3 q1)
    rw [q2]
    have := congrArg (List.map keyP) h2
    rw [List.map_map, List.map_map] at this
    exact this.symm
  | _, .obj _ _, _, .obj _ _ _, e => by simp only [pyQ] at e; cases e
  | _, .exc _ _, _, .exc _ _ _ _, e => by simp only [pyQ] at e; cases e
theorem dql_of : ∀ {vs : List V} {ds : List D} {ps : List PyData}, RepL K H vs ds → pyQL ds = some ps → DqAll K H vs ps
  | _, [], _, .nil, e => by simp only [pyQL] at e; cases e; exact .nil
  | _, d :: ds, _, .cons a b, e => by
    simp only [pyQL] at e
    cases e1 : pyQ d with
    | none => rw [e1] at e; cases e
    | some p =>
      cases e2 : pyQL ds with
      | none => rw [e1, e2] at e; cases e
      | some ps => rw [e1, e2] at e; cases e; exact .cons (dq_of a e1) (dql_of b e2)
end
end
/-- data that may be shown -/
def ReprQ (d : D) (pd : PyData) : Prop := pyQ d = some pd ∧ ∃ n w, Sh n w pd ∧ n ≤ 100 ∧ w ≤ 100000
section
variable {K : PySem.W.Frag} {O : Oc} {F0 : Hp} {ρ : Ro} {Q : X → Ro → Prop} {x y : X} {d : D} {pd : PyData} {s : Str}
theorem c_reprQD (hx : seeD x ρ = some d) (hp : ReprQ d pd) (k : Q (.val (.str pd.shown)) ρ) : Mc K O F0 (rReprU K) [x] ρ Q := fun F H σ vs Qh _ R hu q => by
  obtain ⟨v, rfl, hv⟩ := one_arg hu
  obtain ⟨p1, n, w, sh, hn, hw⟩ := hp
  exact x_reprS (dq_of (look_rep R hv hx) p1) sh hn hw (q _ H _ (.val (.str _)) ρ (Same.refl _) R (Rep.str _) k)
theorem g_len (k : Mc K O F0 (rLenU K) [x] ρ Q) : Mc K O F0 (rLenU K) [x] ρ Q := k
theorem g_list (k : Mc K O F0 (rListU K) [x] ρ Q) : Mc K O F0 (rListU K) [x] ρ Q := k
theorem g_tupU (k : Mc K O F0 (rTupU K) [x] ρ Q) : Mc K O F0 (rTupU K) [x] ρ Q := k
theorem g_inS {neg : Bool} (k : Mr K O F0 (rInU K neg) (.val (.str s)) y ρ Q) : Mr K O F0 (rInU K neg) (.val (.str s)) y ρ Q := k
end
end SJ
namespace SJ
open PySem PySem.Spec PyProof.Rows L2 He LamX
section
variable {K : PySem.W.Frag} {O : Oc} {F0 : Hp} {ρ : Ro} {Q : X → Ro → Prop} {QF : D → Ro → Prop} {ta tb te : TE} {x y : X} {d : D} {s : Str} {gf : Addr} {sp : Sp} {f : Str} {W : WX} {N : Hn} {neg : Bool}
theorem g_pr (k : Me K O F0 (tPr K f gf sp te) ρ Q) : Me K O F0 (tPr K f gf sp te) ρ Q := k
theorem g_ownIn (k : Mr K O F0 (rOwnIn K gf sp neg) x y ρ Q) : Mr K O F0 (rOwnIn K gf sp neg) x y ρ Q := k
theorem g_ownGet (k : Me K O F0 (tOwnGet K gf sp W ta tb) ρ Q) : Me K O F0 (tOwnGet K gf sp W ta tb) ρ Q := k
end
end SJ
namespace SJ
open PySem PySem.Spec PyProof.Rows L2 He LamX
section
variable (K : PySem.W.Frag) (O : Oc) (F0 : Hp)
/-- what is raised, and what is told, at one row of names -/
def WrA (W : WX) (σ : L2.St) (Xp : XP) : Prop := ∀ (F H : Hp) (ρ : Ro) (c : Str) (fs : List (Str × D)) (dd : Addr) (fvs : List (Str × V)), Same F0 F → H dd = some (.xd fvs) → RS K { O with o := upd O.o dd (.xd fvs) } F H σ ρ → O.o dd = none → RepP K F fvs fs → Xp c fs ρ → W (.ref (ga K c)) (some dd) σ H
def MeA (σ : L2.St) (t : TE) (ρ : Ro) (Q : X → Ro → Prop) : Prop := ∀ (F H : Hp) (Qh : VK), Same F0 F → RS K O F H σ ρ → (∀ v H2 F2 x ρ2, Same F F2 → RS K O F2 H2 σ ρ2 → XvR K F2 σ v x → Q x ρ2 → Qh v H2) → t σ H Qh
end
section
variable {K : PySem.W.Frag} {O : Oc} {F0 F F2 F3 H H2 H3 : Hp} {σ σ2 : L2.St} {ρ ρ2 : Ro} {Q : X → Ro → Prop} {QA : List X → Ro → Prop} {ta tb te : TE} {tA : TA} {ts tz : TS} {N : Hn} {n : Nat} {x y : X} {d e : D} {p : Addr} {o o2 : HO} {ds es : List D} {W : WX} {Xp : XP} {s z : Str} {cn : Str} {v : V} {gf : Addr} {P : PD} {nm : String} {vs : List V}
theorem MeA.of (h : Me K O F0 te ρ Q) : MeA K O F0 σ te ρ Q := fun F H Qh s R c => h F H σ Qh s R c
theorem WrA.of (h : Wr K O F0 W Xp) : WrA K O F0 W σ Xp := fun F H ρ c fs dd fvs a b d e f g => h F H σ ρ c fs dd fvs a b d e f g
/-- names that hold plain values alone -/
theorem RS.names (R : RS K O F H [] []) (hw : O.w = none) (hl : σ.length = ρ.length) (h : ∀ i, (sl ρ i).mut = false ∧ SlOk K O.o F H (sv σ i) (sl ρ i)) : RS K O F H σ ρ :=
  ⟨R.fh, R.oh, R.dj, R.tb, R.ot, R.ft, (fun v e => by rw [hw] at e; cases e), hl, fun i => (h i).2, fun i j a _ m => by rw [(h i).1] at m; cases m⟩
end
end SJ
namespace SJ
open PySem PySem.Spec PyProof.Rows L2 He
section
variable {K : PySem.W.Frag} {O : Oc} {F0 F F2 F3 H H2 H3 : Hp} {σ σ2 : L2.St} {ρ ρ2 : Ro} {Q : X → Ro → Prop} {QF : D → Ro → Prop} {te : TE} {N : Hn} {x y : X} {d e : D} {g : TG} {js : List Nat} {kds : List (Key × D)} {b : Bool} {c cn : Str} {fs : List (Str × D)}
theorem ms_asgG (k : Me K O F0 te ρ fun x ρ1 => Frz x ρ1 fun d ρ2 => Mg K O F0 g js d ρ2 N.nx) : Ms K O F0 (tAsg te g) ρ N := fun F H σ E s R c =>
  k F H σ _ s R fun v H1 F1 x ρ1 s1 R1 r1 k1 => by
    obtain ⟨d, ρ2, F2, s2, R2, r2, q⟩ := frz_of R1 r1 k1
    exact q F2 H1 σ v _ (Same.trans s (Same.trans s1 s2)) R2 r2 fun F3 H3 σ3 ρ3 s3 R3 _ q3 => c.nx F3 H3 σ3 ρ3 (Same.trans s1 (Same.trans s2 s3)) R3 q3
end
end SJ
namespace SJ
open PySem PySem.Spec PyProof.Rows L2 He
section
variable {K : PySem.W.Frag} {O : Oc} {F0 F F2 F3 H H2 H3 : Hp} {σ σ2 : L2.St} {ρ ρ2 : Ro} {Q : X → Ro → Prop} {QF : D → Ro → Prop} {QL : List D → Ro → Prop} {te ti ta tb : TE} {tA : TA} {N : Hn} {x y : X} {d e : D} {ds es : List D} {n : Nat}
theorem RepL.take {vs : List V} (h : RepL K F vs ds) (k : Nat) : RepL K F (vs.take k) (ds.take k) := by
  have := h.sub 0 k
  rwa [List.drop_zero, List.drop_zero] at this
theorem RepL.drop {vs : List V} (h : RepL K F vs ds) (k : Nat) : RepL K F (vs.drop k) (ds.drop k) := by
  have := h.sub k (ds.length)
  rw [List.take_of_length_le (by rw [List.length_drop, h.length]; omega), List.take_of_length_le (by rw [List.length_drop]; omega)] at this
  exact this
/-- zip(xs, ys) -/
def zipD (ds es : List D) : List D := (ds.zip es).map fun q => .tup [q.1, q.2]
theorem mi_zip (k : Ma K O F0 tA ρ fun xs ρ1 => FrzL xs ρ1 fun zs ρ2 => ∃ ds es, zs = [.lst ds, .lst es] ∧ QL (zipD ds es) ρ2) : Mi K O F0 (iZip K tA) ρ QL := fun F H σ R s R0 c =>
  k F H σ _ s R0 fun vs H1 F1 xs ρ1 s1 R1 r1 k1 => by
    obtain ⟨zs, ρ2, F2, s2, R2, r2, ds, es, rfl, q⟩ := frzL_of R1 r1 k1
    cases r2 with
    | cons ra r2 =>
      cases r2 with
      | cons rb r2 =>
        cases r2
        obtain ⟨a, as, rfl, ha, rx⟩ := ra.lstP
        obtain ⟨b, bs, rfl, hb, ry⟩ := rb.lstP
        have ha : SqL K F2 a as := SqL.of ha
        have hb : SqL K F2 b bs := SqL.of hb
        have hzl : (zipD ds es).length = min ds.length es.length := by unfold zipD; rw [List.length_map, List.length_zip]
        refine ⟨a, b, as, bs, rfl, Same.seq R2.fh ha, Same.seq R2.fh hb, c _ H1 F2 (zipD ds es) ρ2 (Same.trans s1 s2) R2 (fun O2 i F3 H3 σ3 ρ3 s3 R3 => ?_) q⟩
        have h1 : SqL K H3 a as := Same.seq R3.fh (Same.seq s3 ha)
        have h2 : SqL K H3 b bs := Same.seq R3.fh (Same.seq s3 hb)
        refine ⟨fun hi => ⟨as, bs, h1, h2, by rw [rx.length, ry.length]; omega⟩, fun d hd => ?_⟩
        unfold zipD at hd
        rw [List.getElem?_map] at hd
        obtain ⟨w, hw, rfl⟩ := Option.map_eq_some_iff.mp hd
        obtain ⟨hw1, hw2⟩ := List.getElem?_zip_eq_some.mp hw
        obtain ⟨v1, g1, rv1⟩ := rx.at hw1
        obtain ⟨v2, g2, rv2⟩ := ry.at hw2
        refine ⟨⟨as, bs, v1, v2, h1, h2, g1, g2⟩, fun x H4 y => ?_⟩
        obtain ⟨t, x1, x2, rfl, ht, rfl, y1, y2⟩ := y
        have e1 := y1 as h1
        have e2 := y2 bs h2
        rw [g1] at e1
        rw [g2] at e2
        cases e1
        cases e2
        obtain ⟨R4, s4⟩ := R3.alloc (o := .tup [v1, v2]) ht nx_tup
        exact ⟨_, s4, R4, Rep.tup (SqT.of upd_same) (.cons ((rv1.mono s3).mono s4) (.cons ((rv2.mono s3).mono s4) .nil))⟩
/-- xs * k, a new list -/
theorem v_repL (k : Me K O F0 ta ρ fun x ρ1 => Me K O F0 tb ρ1 fun y ρ2 => ∃ (ds : List D) (i : Int), seeD x ρ2 = some (.lst ds) ∧ y = .val (.int i) ∧ 0 ≤ i ∧ i ≤ 1000 ∧ ds.length ≤ 1000 ∧ Frz x ρ2 fun d ρ3 => d = .lst ds ∧ Q (.val (.lst (List.replicate i.toNat ds).flatten)) ρ3) : Me K O F0 (tOp (rMul K) ta tb) ρ Q := fun F H σ Qh s R c =>
  k F H σ _ s R fun v1 H1 F1 x ρ1 s1 R1 r1 k1 => k1 F1 H1 σ _ (Same.trans s s1) R1 fun v2 H2 F2 y ρ2 s2 R2 r2 ⟨ds, i, hx, ey, i0, i1, hl, q⟩ => by
    subst ey
    rw [look_int r2]
    obtain ⟨d, ρ3, F3, s3, R3, r3, rfl, q2⟩ := frz_of R2 (r1.mono s2) q
    obtain ⟨a, xs, rfl, ha, rx⟩ := r3.lstP
    refine .inr (.inr (.inl ⟨a, i, xs, rfl, rfl, R3.fh _ _ ha, by omega, by omega, ?_, fun p hp => ?_⟩))
    · rw [rx.length]
      exact Nat.le_trans (Nat.mul_le_mul hl (show i.toNat ≤ 1000 by omega)) (by decide)
    · have rr : ∀ m : Nat, RepL K F3 (List.replicate m xs).flatten (List.replicate m ds).flatten := by
        intro m
        induction m with
        | zero => exact .nil
        | succ m ih => rw [List.replicate_succ, List.replicate_succ, List.flatten_cons, List.flatten_cons]; exact rx.append ih
      obtain ⟨R4, s4⟩ := R3.alloc (o := .lst (List.replicate i.toNat xs).flatten) hp nx_lst
      exact c _ _ _ (.val (.lst _)) ρ3 (Same.trans s1 (Same.trans s2 (Same.trans s3 s4))) R4 (Rep.lst upd_same ((rr _).mono s4)) q2
end
end SJ
namespace SJ
open PySem PySem.Spec PyProof.Rows L2 He
end SJ
namespace SJ
open PySem PySem.Spec PyProof.Rows L2 He
def kwD (kws : List (Str × D)) : List (Key × D) := kws.map fun q => (.inr q.1, q.2)
section
variable {K : PySem.W.Frag} {O : Oc} {F0 F F2 F3 H H2 H3 : Hp} {σ σ2 : L2.St} {ρ ρ2 : Ro} {Q : X → Ro → Prop} {QT : Bool → Ro → Prop} {QA : List X → Ro → Prop} {QF : D → Ro → Prop} {QL : List D → Ro → Prop} {ta tb te to tc : TE} {t u tt : TT} {tA tK : TA} {ts tz : TS} {r r2 : R2} {N : Hn} {n : Nat} {x y : X} {d e : D} {g : TG} {wi : TI} {p : Addr} {o o2 : HO} {vs : List V} {ds es : List D} {kds lds : List (Key × D)} {fds : List (Str × D)} {W : WX} {Xp : XP} {i j : Int} {b c : Bool} {s z : Str} {cn : Str} {v : V} {gf : Addr} {P : PD}
theorem RepP.kws {nm : List Str} : ∀ {zs : List V} {ks : List D}, RepL K F zs ks → RepP K F ((nm.map Sum.inr).zip zs : List (Key × V)) (kwD (nm.zip ks)) := by
  induction nm with
  | nil => intro zs ks _; exact ⟨rfl, .nil⟩
  | cons m nm ih =>
    intro zs ks h
    cases h with
    | nil => exact ⟨rfl, .nil⟩
    | cons a b => exact RepP.cons a (ih b)
end
end SJ
namespace SJ
open PySem PySem.Spec PyProof.Rows L2 He LamX
end SJ
namespace SJ
open PySem PySem.Spec PyProof.Rows L2 He
section
variable {K : PySem.W.Frag} {O : Oc} {F0 F H : Hp} {σ : L2.St} {ρ : Ro} {Q : X → Ro → Prop} {QF : D → Ro → Prop} {te ta tb : TE} {x : X} {N : Hn} {to : TE} {tA : TA} {W : WX} {Xp : XP} {P : PD}
theorem ms_parVF {i j : Nat} (hi : i ≠ 0) (hj : j ≠ 0) (hij : i ≠ j) (k : Me K O F0 ta ρ fun x ρ1 => Frz x ρ1 fun d ρ2 => Mf K O F0 tb ρ2 fun e ρ3 => j < ρ3.length ∧ N.nx ((ρ3.set i (.val d)).set j (.own e))) : Ms K O F0 (tPar i j (tCons ta (tCons tb tNil))) ρ N := fun F H σ E s R c =>
  k F H σ _ s R fun v H1 F1 x ρ1 s1 R1 r1 k1 => by
    obtain ⟨d, ρ2, F2, s2, R2, r2, q⟩ := frz_of R1 r1 k1
    refine q F2 H1 σ _ (Same.trans s (Same.trans s1 s2)) R2 fun p H3 F3 e ρ3 s3 R3 nw ⟨l, qq⟩ => ?_
    refine ⟨_, _, rfl, c.nx F3 H3 _ _ (Same.trans s1 (Same.trans s2 s3)) ?_ qq⟩
    refine (R3.put hi (r2.mono s3)).putO (s := .own e) hj (by rw [List.length_set]; exact l) rfl nw.1 nw.2.1 nw.2.2.2 fun n hn m => ?_
    by_cases e0 : i < ρ3.length
    · rw [sl_set e0] at m
      rw [sv_set (by rw [R3.len]; exact e0)]
      by_cases e1 : n = i
      · rw [if_pos e1] at m
        cases m
      · rw [if_neg e1] at m ⊢
        exact nw.2.2.1 _ m
    · rw [List.set_eq_of_length_le (Nat.le_of_not_lt e0)] at m
      rw [List.set_eq_of_length_le (by rw [R3.len]; exact Nat.le_of_not_lt e0)]
      exact nw.2.2.1 _ m
end
end SJ
namespace SJ
open PySem PySem.Spec PySem.W PyProof.Rows L2 GQ PySem.MeetsSeq3
open AutoSeq1 (wpAny_loadPart')
end SJ
namespace SJ
open PySem PySem.Spec PyProof.Rows L2 He
section
variable {K : PySem.W.Frag} {O : Oc} {F0 F F2 H H2 : Hp} {σ σ2 : L2.St} {ρ ρ2 : Ro} {Q : X → Ro → Prop} {QF : D → Ro → Prop} {te ta tb to : TE} {tA tK : TA} {ts tm : TS} {x y : X} {d e : D} {N : Hn} {W : WX} {Xp : XP} {gf : Addr} {P : PD} {ds : List D} {kds : List (Key × D)} {vs : List V}
theorem mg_trip {i j l : Nat} {a b c0 : D} {Pn : Ro → Prop} (k : Pn (((ρ.set i (.val a)).set j (.val b)).set l (.val c0))) (hi : i ≠ 0 := by decide) (hj : j ≠ 0 := by decide) (hl : l ≠ 0 := by decide) : Mg K O F0 (gTup K 3 (gCons (gName i) (gCons (gName j) (gCons (gName l) gNil)))) [i, j, l] (.tup [a, b, c0]) ρ Pn := fun F H σ v Qs s R r c => by
  obtain ⟨p, xs, rfl, h1, h2⟩ := r.tupP
  cases h2 with
  | cons ra rb =>
    cases rb with
    | cons rb rc =>
      cases rc with
      | cons rc z =>
        cases z
        refine ⟨p, _, rfl, sqt_same R.fh h1, rfl, _, _, rfl, _, _, rfl, _, _, rfl, rfl, ?_⟩
        refine c F H _ _ (Same.refl _) (((R.put hi ra).put hj rb).put hl rc) (fun vs h => ?_) k
        rw [wipe_set (h l (by simp)), wipe_set (h j (by simp)), wipe_set (h i (by simp))]
end
end SJ
namespace SJ
open PySem PySem.Spec PyProof.Rows L2 He
end SJ
namespace SJ
open PySem PySem.Spec PyProof.Rows L2 He LamX
end SJ
namespace SJ
open PySem PySem.Spec PyProof.Rows L2 He LamX
end SJ
namespace SJ
open PySem PySem.Spec PyProof.Rows L2 He
end SJ
namespace SJ
open PySem PySem.Spec PySem.W PyProof.Rows L2 GQ PySem.MeetsSeq3
end SJ
namespace SJ
open PySem PySem.Spec PyProof.Rows L2 He LamX
def enD (ds : List D) : List D := ds.zipIdx.map fun q => .tup [.int (q.2 : Nat), q.1]
section
variable {K : PySem.W.Frag} {O : Oc} {F0 F F2 H H2 : Hp} {σ σ2 : L2.St} {ρ ρ2 : Ro} {Q : X → Ro → Prop} {QF : D → Ro → Prop} {QL : List D → Ro → Prop} {te ta tb to : TE} {tA tK : TA} {ts tm : TS} {wi wi1 : TI} {x y : X} {d e : D} {N : Hn} {W : WX} {Xp : XP} {ds : List D} {vs : List V} {kds : List (Key × D)}
theorem mi_sqL (k : Mi K O F0 (iList K te) ρ QL) : Mi K O F0 (iSq K te) ρ QL := fun F H σ R s R0 c => .inl (k F H σ R s R0 c)
theorem mi_sqT (k : Mi K O F0 (iTup K te) ρ QL) : Mi K O F0 (iSq K te) ρ QL := fun F H σ R s R0 c => .inr (k F H σ R s R0 c)
theorem enD_get {i : Nat} (h : (enD ds)[i]? = some d) : ∃ e, ds[i]? = some e ∧ d = .tup [.int (i : Nat), e] := by
  unfold enD at h
  rw [List.getElem?_map, List.getElem?_zipIdx] at h
  obtain ⟨q, hq, rfl⟩ := Option.map_eq_some_iff.mp h
  obtain ⟨e, he, rfl⟩ := Option.map_eq_some_iff.mp hq
  exact ⟨e, he, by simp⟩
theorem mi_enT (k : Ma K O F0 tA ρ fun xs ρ1 => ∃ ds, xs = [.val (.tup ds)] ∧ QL (enD ds) ρ1) : Mi K O F0 (iEnT K tA) ρ QL := fun F H σ R s R0 c =>
  k F H σ _ s R0 fun vs H1 F1 xs ρ1 s1 R1 r1 ⟨ds, ex, q⟩ => by
    subst ex
    obtain ⟨v, rfl, hv⟩ := one_arg r1
    obtain ⟨a, xs, rfl, ha, rx⟩ := (show Rep K F1 v (.tup ds) from hv).tupP
    refine ⟨a, xs, rfl, sqt_same R1.fh ha, c _ H1 F1 (enD ds) ρ1 s1 R1 (fun O2 i F3 H3 σ3 ρ3 s3 R3 => ?_) q⟩
    have hs : SqT K H3 a xs := sqt_same R3.fh (sqt_same s3 ha)
    refine ⟨fun hi => ⟨xs, hs, by rw [rx.length]; unfold enD at hi; rwa [List.length_map, List.length_zipIdx] at hi⟩, fun d hd => ?_⟩
    obtain ⟨e, he, rfl⟩ := enD_get hd
    obtain ⟨w, hw, rw_⟩ := rx.at he
    refine ⟨⟨xs, w, hs, hw⟩, fun x H4 y => ?_⟩
    obtain ⟨T, y0, rfl, hT, rfl, hy⟩ := y
    have e2 := hy xs hs
    rw [hw] at e2
    cases e2
    obtain ⟨R4, s4⟩ := R3.alloc (o := .tup [.int (i : Nat), w]) hT nx_tup
    exact ⟨_, s4, R4, Rep.tup (SqT.of upd_same) (.cons (.int _) (.cons (rw_.mono (Same.trans s3 s4)) .nil))⟩
end
end SJ
namespace SJ
open PySem PySem.Spec PyProof.Rows L2 He LamX
/-- outside there are, besides, the lists qs with these texts -/
structure Nst (O O2 : Oc) (qs : List Addr) (zss : List (List Str)) : Prop where
  w : O2.w = O.w
  T : O2.T = O.T
  s : Same O.o O2.o
  nd : qs.Nodup
  nq : ∀ q ∈ qs, O.o q = none
  len : qs.length = zss.length
  at_ : ∀ (i : Nat) (q : Addr) (zs : List Str), qs[i]? = some q → zss[i]? = some zs → O2.o q = some (.lst (zs.map V.str))
section
variable {K : PySem.W.Frag} {O O2 : Oc} {F0 F F1 F2 F3 H H1 H2 H3 : Hp} {σ σ2 : L2.St} {ρ ρ2 : Ro} {tx tp tz : TE} {tt : TT} {rest : TS} {N : Hn} {wi : TI} {l j i : Nat} {qs : List Addr} {zss : List (List Str)}
theorem nd_at {α : Type} {q : α} : ∀ {qs : List α} {i a : Nat}, qs.Nodup → qs[i]? = some q → qs[a]? = some q → i = a
  | [], _, _, _, e, _ => (nomatch e)
  | b :: qs, i, a, nd, e1, e2 => by
    obtain ⟨n1, n2⟩ := List.nodup_cons.mp nd
    cases i with
    | zero =>
      cases a with
      | zero => rfl
      | succ a =>
        cases e1
        exact absurd (List.mem_of_getElem? (show qs[a]? = some _ from e2)) n1
    | succ i =>
      cases a with
      | zero =>
        cases e2
        exact absurd (List.mem_of_getElem? (show qs[i]? = some _ from e1)) n1
      | succ a => exact congrArg Nat.succ (nd_at n2 (show qs[i]? = some q from e1) (show qs[a]? = some q from e2))
/-- one of the lists grows -/
theorem Nst.turn (h : Nst O O2 qs zss) {a : Nat} {q : Addr} {zs ys : List Str} (hq : qs[a]? = some q) (hz : zss[a]? = some zs) : Nst O { O2 with o := upd O2.o q (.lst (ys.map V.str)) } qs (zss.set a ys) := by
  refine ⟨h.w, h.T, fun b u e => ?_, h.nd, h.nq, by rw [List.length_set]; exact h.len, fun i q2 zs2 e1 e2 => ?_⟩
  · have hn : b ≠ q := fun z => by
      rw [z, h.nq q (List.mem_of_getElem? hq)] at e; cases e
    show upd O2.o q _ b = _
    rw [upd_ne hn]; exact h.s b u e
  · show upd O2.o q _ q2 = _
    by_cases z : i = a
    · subst z
      rw [hq] at e1
      cases e1
      have hlt : i < zss.length := (List.getElem?_eq_some_iff.mp hz).1
      rw [List.getElem?_set_self hlt] at e2
      cases e2
      exact upd_same
    · rw [List.getElem?_set_ne (Ne.symm z)] at e2
      have hn : q2 ≠ q := fun y => by
        subst y
        exact z (nd_at h.nd e1 hq)
      rw [upd_ne hn]; exact h.at_ i q2 zs2 e1 e2
end
end SJ
namespace SJ
open PySem PySem.Spec PyProof.Rows L2 He LamX
def OffG (F F2 G : Hp) : Prop := (∀ a o, G a = none → F a = some o → F2 a = some o) ∧ ∀ a o, G a = some o → ∃ xs, F a = some (.lst xs)
section
variable {K : PySem.W.Frag} {O : Oc} {F0 F F1 F2 G H H2 : Hp} {σ σ2 : L2.St} {ρ ρ2 : Ro} {Q : X → Ro → Prop} {te to : TE} {tA tK : TA} {x y : X} {d e : D} {W : WX} {Xp : XP} {ds es : List D} {vs : List V} {N : Hn} {P : PD}
theorem OffG.ne {o : HO} {a : Addr} (h : OffG F F2 G) (e : F a = some o) (h1 : ∀ xs, o ≠ .lst xs) : F2 a = some o := by
  cases g : G a with
  | none => exact h.1 a o g e
  | some u =>
    obtain ⟨xs, z⟩ := h.2 a u g
    rw [e] at z
    exact absurd (Option.some.inj z) (h1 xs)
/-- which trees the lent ones are -/
inductive Lnt (o : Hp) : List D → List D → Prop
  | nil : Lnt o [] []
  | keep {d : D} {ds es : List D} : Lnt o ds es → Lnt o (d :: ds) (d :: es)
  | lend {q : Addr} {zs : List Str} {ds es : List D} : o q = some (.lst (zs.map V.str)) → Lnt o ds es → Lnt o (.adr q :: ds) (.lst (zs.map D.str) :: es)
theorem Lnt.length {o : Hp} (h : Lnt o ds es) : ds.length = es.length := by
  induction h with
  | nil => rfl
  | keep _ ih => rw [List.length_cons, List.length_cons, ih]
  | lend _ _ ih => rw [List.length_cons, List.length_cons, ih]
theorem Lnt.mono {o o2 : Hp} (s : Same o o2) (h : Lnt o ds es) : Lnt o2 ds es := by
  induction h with
  | nil => exact .nil
  | keep _ ih => exact .keep ih
  | lend e _ ih => exact .lend (s _ _ e) ih
theorem Lnt.snoc {o : Hp} {a b : D} (h : Lnt o ds es) (g : Lnt o [a] [b]) : Lnt o (ds ++ [a]) (es ++ [b]) := by
  induction h with
  | nil => exact g
  | keep _ ih => exact .keep ih
  | lend e _ ih => exact .lend e ih
theorem Lnt.at_ {o : Hp} (h : Lnt o ds es) : ∀ {i : Nat} {d : D}, ds[i]? = some d → ∃ e, es[i]? = some e ∧ (d = e ∨ ∃ (q : Addr) (zs : List Str), d = .adr q ∧ e = .lst (zs.map D.str) ∧ o q = some (.lst (zs.map V.str))) := by
  induction h with
  | nil => intro i d e; cases e
  | keep _ ih =>
    intro i d e
    cases i with
    | zero => cases e; exact ⟨_, rfl, .inl rfl⟩
    | succ i => exact ih e
  | lend e0 _ ih =>
    intro i d e
    cases i with
    | zero => cases e; exact ⟨_, rfl, .inr ⟨_, _, rfl, rfl, e0⟩⟩
    | succ i => exact ih e
end
end SJ
namespace SJ
open PySem PySem.Spec PyProof.Rows L2 He LamX
structure Ext (O O2 : Oc) : Prop where
  w : O2.w = O.w
  T : O2.T = O.T
  s : Same O.o O2.o
theorem Ext.trans {O O2 O3 : Oc} (a : Ext O O2) (b : Ext O2 O3) : Ext O O3 := ⟨b.w.trans a.w, b.T.trans a.T, Same.trans a.s b.s⟩
section
variable {K : PySem.W.Frag} {O O2 : Oc} {F0 F F1 F2 H H1 H2 : Hp} {σ σ2 : L2.St} {ρ ρ2 : Ro} {td tb te : TE} {wi : TI} {ts tz rest : TS} {N : Hn} {i j : Nat} {ds es : List D} {zs : List Str}
/-- enumerate(xs) -/
theorem mi_enL {QL : List D → Ro → Prop} {tA : TA} (k : Ma K O F0 tA ρ fun xs ρ1 => ∃ ds, xs = [.val (.lst ds)] ∧ QL (enD ds) ρ1) : Mi K O F0 (iEnum K tA) ρ QL := fun F H σ R s R0 c =>
  k F H σ _ s R0 fun vs H1 F1 xs ρ1 s1 R1 r1 ⟨ds, ex, q⟩ => by
    subst ex
    obtain ⟨v, rfl, hv⟩ := one_arg r1
    obtain ⟨a, xs, rfl, ha0, rx⟩ := (show Rep K F1 v (.lst ds) from hv).lstP
    have ha : SqL K F1 a xs := SqL.of ha0
    refine ⟨a, xs, rfl, sql_same R1.fh ha, c _ H1 F1 (enD ds) ρ1 s1 R1 (fun O2 i F3 H3 σ3 ρ3 s3 R3 => ?_) q⟩
    have hs : SqL K H3 a xs := sql_same R3.fh (sql_same s3 ha)
    refine ⟨fun hi => ⟨xs, hs, by rw [rx.length]; unfold enD at hi; rwa [List.length_map, List.length_zipIdx] at hi⟩, fun d hd => ?_⟩
    obtain ⟨e, he, rfl⟩ := enD_get hd
    obtain ⟨w, hw, rw_⟩ := rx.at he
    refine ⟨⟨xs, w, hs, hw⟩, fun x H4 y => ?_⟩
    obtain ⟨T, y0, rfl, hT, rfl, hy⟩ := y
    have e2 := hy xs hs
    rw [hw] at e2
    cases e2
    obtain ⟨R4, s4⟩ := R3.alloc (o := .tup [.int (i : Nat), w]) hT nx_tup
    exact ⟨_, s4, R4, Rep.tup (SqT.of upd_same) (.cons (.int _) (.cons (rw_.mono (Same.trans s3 s4)) .nil))⟩
end
end SJ
namespace SJ
open PySem PySem.Spec PyProof.Rows L2 He
section
variable {K : PySem.W.Frag} {O : Oc} {F0 F H : Hp} {σ : L2.St} {ρ : Ro} {Q : X → Ro → Prop} {te : TE} {tA tK : TA} {i j : Int} {x : X} {QL : List D → Ro → Prop}
theorem c_max2 (k : Q (.val (.int (if j > i then j else i))) ρ) : Mc K O F0 rMax2 [.val (.int i), .val (.int j)] ρ Q := fun F H σ vs Qh s R hu c => by
  obtain ⟨u, v, rfl⟩ : ∃ u v, vs = [u, v] := by
    match vs, hu with
    | [u, v], _ => exact ⟨u, v, rfl⟩
  rw [look_int hu.1, look_int hu.2.1]
  exact ⟨i, j, rfl, c _ H F (.val (.int _)) ρ (Same.refl _) R (Rep.int _) k⟩
theorem c_absI (k : Q (.val (.int (if i < 0 then -i else i))) ρ) : Mc K O F0 rAbs [.val (.int i)] ρ Q := fun F H σ vs Qh s R hu c => by
  obtain ⟨v, rfl, hv⟩ := one_arg hu
  rw [look_int hv]
  exact ⟨i, rfl, c _ H F (.val (.int _)) ρ (Same.refl _) R (Rep.int _) k⟩
theorem c_sumL {ns : List Int} (hx : seeD x ρ = some (.lst (ns.map D.int))) (k : Q (.val (.int ns.sum)) ρ) : Mc K O F0 (rSum K) [x] ρ Q := fun F H σ vs Qh _ R hu q => by
  obtain ⟨v, rfl, hv⟩ := one_arg hu
  obtain ⟨a, xs, rfl, h1, h2⟩ := look_lst R hv hx
  rw [h2.ints'] at h1
  exact ⟨a, ns, rfl, h1, q _ H F (.val (.int _)) ρ (Same.refl _) R (Rep.int _) k⟩
theorem c_maxL {ns : List Int} (hx : seeD x ρ = some (.lst (ns.map D.int))) (hl : 0 < ns.length) (k : ∀ m, m ∈ ns → (∀ y, y ∈ ns → y ≤ m) → Q (.val (.int m)) ρ) : Mc K O F0 (rMax K) [x] ρ Q := fun F H σ vs Qh _ R hu q => by
  obtain ⟨v, rfl, hv⟩ := one_arg hu
  obtain ⟨a, xs, rfl, h1, h2⟩ := look_lst R hv hx
  rw [h2.ints'] at h1
  exact ⟨a, ns, rfl, h1, hl, fun m m1 m2 => q _ H F (.val (.int _)) ρ (Same.refl _) R (Rep.int _) (k m m1 m2)⟩
/-- f(k = e) -/
theorem m_fnK {P : PD} {W : WX} {Xp : XP} {gV : List V → List V → List V} (hg : ∀ z, gV [] [z] = [z]) (hW : Wr K O F0 W Xp) (k : Ma K O F0 tK ρ fun xs ρ1 => FrzL xs ρ1 fun ds ρ2 => ds.length = 1 ∧ P ds (fun d => Q (.val d) ρ2) fun c fs => Xp c fs ρ2) : Me K O F0 (tFnK 0 1 (spS K O.T (pu P)) gV W tNil tK) ρ Q := fun F H σ Qh s R c =>
  k F H σ _ s R fun vs H1 F1 xs ρ1 s1 R1 r1 k1 => by
    obtain ⟨ds, ρ2, F2, s2, R2, r2, l1, q⟩ := frzL_of R1 r1 k1
    have e1 : vs.length = 1 := by rw [r2.length, l1]
    obtain ⟨z, rfl⟩ : ∃ z, vs = [z] := by
      match vs, e1 with
      | [z], _ => exact ⟨z, rfl⟩
    refine ⟨rfl, rfl, ?_⟩
    rw [hg]
    exact call_pu R2 (Same.trans s (Same.trans s1 s2)) hW r2 q (fun d qd v H3 F3 s3 R3 r3 => c v H3 F3 (.val d) ρ2 (Same.trans s1 (Same.trans s2 s3)) R3 r3 qd) fun _ _ z => z
def intsD (ns : List Int) : D := .lst (ns.map D.int)
theorem RS.bare (R : RS K O F H σ ρ) {a : Addr} : RS K { O with w := none } (L2.del F a) H [] [] :=
  ⟨fun b o e => R.fh b o (by rwa [L2.del_ne (del_ne_of e)] at e), R.oh, fun b o e => by
    by_cases z : b = a
    · rw [z]; exact L2.del_same
    · rw [L2.del_ne z]; exact R.dj b o e, R.tb, R.ot, fun b o e => R.ft b o (by rwa [L2.del_ne (del_ne_of e)] at e), (fun v (e : (none : Option V) = some v) => nomatch e), rfl, fun i => by
      have : sl ([] : Ro) i = .none := by unfold sl; rw [List.getElem?_nil]; rfl
      rw [this]; trivial, fun i j b ij mi => by
      have : sl ([] : Ro) i = .none := by unfold sl; rw [List.getElem?_nil]; rfl
      rw [this] at mi; cases mi⟩
theorem set_sl {s : Sl} {j : Nat} (h : sl ρ j = s) (hj : j < ρ.length) : ρ.set j s = ρ := by
  refine List.ext_getElem? fun l => ?_
  rw [List.getElem?_set]
  by_cases z : j = l
  · subst z
    rw [if_pos rfl, if_pos hj, ← h]
    unfold sl
    rw [List.getElem?_eq_getElem hj]
    rfl
  · rw [if_neg z]
theorem sl_lt {j : Nat} (m : (sl ρ j).mut = true) : j < ρ.length := by
  by_cases z : j < ρ.length
  · exact z
  · rw [sl_none (by omega)] at m; cases m
/-- pick(pen, xs), xs an own list of rows that stays own -/
theorem m_fnPL {P : Nat → List D → (D → Nat → Prop) → Prop} {W : WX} {i j n : Nat} {rss : List (List Int)} (hij : i ≠ j) (hi : sl ρ i = .pen n) (hj : sl ρ j = .own (.lst (rss.map intsD))) (hne : rss ≠ []) (k : P n [.lst (rss.map intsD)] fun d m => ∃ zs, d = intsD zs ∧ Q (.val d) (ρ.set i (.pen m))) :
    Me K O F0 (tFn (spS K O.T (pp P)) [] W (tCons (tVar i) (tCons (tVar j) tNil))) ρ Q := fun F H σ Qh s R c => by
  have mi : (sl ρ i).mut = true := by rw [hi]; rfl
  have mj : (sl ρ j).mut = true := by rw [hj]; rfl
  have hil := sl_lt mi
  have hjl := sl_lt mj
  obtain ⟨p, a1, a2, a3, a4⟩ := R.owned mi
  obtain ⟨a, b1, b2, b3, b4⟩ := R.owned mj
  rw [hj] at b4
  obtain ⟨us, b4, b5⟩ := b4
  have uref : ∃ b t, us = V.ref b :: t := by
    cases rss with
    | nil => exact absurd rfl hne
    | cons r rs =>
      cases b5 with
      | cons x y =>
        cases (show Rep K F _ (.lst (r.map D.int)) from x)
        exact ⟨_, _, rfl⟩
  have noint : ∀ ns : List Int, us ≠ ns.map V.int := fun ns e => by
    obtain ⟨b, t, e2⟩ := uref
    rw [e2] at e
    cases ns with
    | nil => cases e
    | cons n ns => cases e
  have Rj := R.lose (i := j)
  have hxj := R.lost mj b1
  obtain ⟨R1, s1⟩ := Rj.thaw (o := .lst us) b4 nx_lst b2 b3 hxj
  have hi1 : sl (ρ.set j .none) i = .pen n := by rw [sl_set hjl, if_neg hij]; exact hi
  have mi1 : (sl (ρ.set j .none) i).mut = true := by rw [hi1]; rfl
  have R2 := R1.lose (i := i)
  have hx2 := R1.lost mi1 a1
  obtain ⟨p2, c1, c2, c3, c4⟩ := R1.owned mi1
  rw [a1] at c1
  cases c1
  rw [hi1] at c4
  have rv : RepL K (upd F a (.lst us)) [.ref a] [.lst (rss.map intsD)] := .cons (.lst upd_same (b5.mono s1)) .nil
  refine ⟨_, sv_some a1, _, sv_some b1, ⟨beside (upd F a (.lst us)) H fun x => tx (H x) || decide (x = p), none, O.T⟩, upd F a (.lst us), _, rfl, R1.enterM rv rfl c2 c4, n, [_], _, rfl, k, fun d m2 qd v H4 F4 s4 C rv4 => ?_⟩
  obtain ⟨zs, rfl, qd⟩ := qd
  obtain ⟨R4, z⟩ := R2.afterM (O := O) C s4 c3 hx2
  obtain ⟨z1, z2⟩ := z rfl
  have fa : F4 a = some (.lst us) := s4 _ _ upd_same
  have ha4 : H4 a = some (.lst us) := C.fh _ _ fa
  have sF : Same F (L2.del F4 a) := fun x o e => by
    have hxa : x ≠ a := fun z => by rw [z, b2] at e; cases e
    rw [L2.del_ne hxa]
    exact s4 _ _ (by rw [upd_ne hxa]; exact e)
  have Rl : RS K O F H σ ((ρ.set j .none).set i .none) := Rj.lose (i := i)
  have hxa : ∀ l, (sl ((ρ.set j .none).set i .none) l).mut = true → sv σ l ≠ some (.ref a) := fun l ml => by
    have hl : l ≠ i := fun z => by
      rw [z, sl_set (by rw [List.length_set]; exact hil), if_pos rfl] at ml
      cases ml
    rw [sl_set (by rw [List.length_set]; exact hil), if_neg hl] at ml
    exact hxj l ml
  have R5 : RS K O (L2.del F4 a) H4 σ ((ρ.set j .none).set i .none) := by
    refine Rl.after_ (q := fun x => (tx (H x) || decide (x = p)) || decide (x = a)) (C.bare (a := a)) sF (fun x o e => ?_) rfl fun x e => ?_
    · obtain ⟨e1, e2, e3⟩ := beside_some e
      obtain ⟨e4, e5⟩ := Bool.or_eq_false_iff.mp e2
      exact beside_of (q := fun x => tx (H x) || decide (x = p)) (show upd F a (.lst us) x = none by rw [upd_ne (of_decide_eq_false e5)]; exact e1) e4 e3
    · rcases Bool.or_eq_true_iff.mp e with e | e
      · rcases Bool.or_eq_true_iff.mp e with e | e
        · exact .inr ⟨(tx_no Rl e).1, (tx_no Rl e).2.2⟩
        · rw [of_decide_eq_true e]
          exact .inr ⟨c3, hx2⟩
      · rw [of_decide_eq_true e]
        exact .inr ⟨b3, hxa⟩
  have cm : (ρ.set j .none).set i .none = (ρ.set i .none).set j .none := List.set_comm _ _ (Ne.symm hij)
  rw [cm] at R5 hxa
  have R6 := R5.regain (s := .own (.lst (rss.map intsD))) (by rw [List.length_set]; exact hjl) b1 rfl L2.del_same b3 ⟨us, ha4, b5.mono sF⟩ hxa
  have e1 : (ρ.set i .none).set j (.own (.lst (rss.map intsD))) = ρ.set i .none := set_sl (by rw [sl_set hil, if_neg (Ne.symm hij)]; exact hj) (by rw [List.length_set]; exact hjl)
  rw [e1] at R6
  obtain ⟨Pn, p1, p2, p3⟩ := z2
  have hca : Pn.c ≠ a := fun e => by
    rw [e, fa] at p2
    injection p2 with p2
    injection p2 with p2
    exact noint _ p2
  have R7 := R6.regain (s := .pen m2) hil a1 rfl (by
    by_cases z : p = a
    · rw [z]; exact L2.del_same
    · rw [L2.del_ne z]; exact z1) a3 ⟨Pn, p1, by rw [L2.del_ne hca]; exact p2, p3⟩ (R.lost mi a1)
  cases (show Rep K F4 v (.lst (zs.map D.int)) from rv4) with
  | @lst b xs _ g1 g2 =>
    have g3 := g2.ints'
    subst g3
    have hba : b ≠ a := fun e => by
      rw [e, fa] at g1
      injection g1 with g1
      injection g1 with g1
      exact noint _ g1
    exact c _ H4 _ (.val (intsD zs)) _ sF R7 (Rep.lst (by rw [L2.del_ne hba]; exact g1) RepL.ints) qd
theorem r_mulW (h : CMulW i j) (k : Q (.val (.int (i * j))) ρ) : Mr K O F0 (rI CMulW fun i j => .int (i * j)) (.val (.int i)) (.val (.int j)) ρ Q := fun F H σ u v Qh _ R hu hv q => by
  rw [look_int hu, look_int hv]
  exact ⟨i, j, rfl, rfl, h, q _ H F (.val (.int _)) ρ (Same.refl _) R (Rep.int _) k⟩
theorem r_fdvW (h : CDivW i j) (k : Q (.val (.int (i / j))) ρ) : Mr K O F0 (rI CDivW fun i j => .int (i / j)) (.val (.int i)) (.val (.int j)) ρ Q := fun F H σ u v Qh _ R hu hv q => by
  rw [look_int hu, look_int hv]
  exact ⟨i, j, rfl, rfl, h, q _ H F (.val (.int _)) ρ (Same.refl _) R (Rep.int _) k⟩
theorem mi_enuL (k : Ma K O F0 tA ρ fun xs ρ1 => ∃ ds, xs = [.val (.lst ds)] ∧ QL (enD ds) ρ1) : Mi K O F0 (iEnumU K tA) ρ QL := fun F H σ R s R0 c => .inl (mi_enL k F H σ R s R0 c)
theorem mi_enuT (k : Ma K O F0 tA ρ fun xs ρ1 => ∃ ds, xs = [.val (.tup ds)] ∧ QL (enD ds) ρ1) : Mi K O F0 (iEnumU K tA) ρ QL := fun F H σ R s R0 c => .inr (mi_enT k F H σ R s R0 c)
/-- while: a measure, what stands at each turn -/
theorem ms_while {tb : TS} {tc : TT} {N : Hn} {I : Nat → Ro → Prop} (m0 : Nat) (i0 : I m0 ρ) (k : ∀ m ρ2, I m ρ2 → Mt K O F0 tc ρ2 fun b ρ3 => if b = true then Ms K O F0 tb ρ3 { N with nx := fun ρ4 => ∃ m2, m2 < m ∧ I m2 ρ4, ct := fun ρ4 => ∃ m2, m2 < m ∧ I m2 ρ4, bk := N.nx } else N.nx ρ3) : Ms K O F0 (tWhile tc tb) ρ N := fun F H σ E s R c => by
  refine ⟨fun m σ1 H1 => ∃ F3 ρ3, Same F F3 ∧ RS K O F3 H1 σ1 ρ3 ∧ I m ρ3, ⟨m0, F, ρ, Same.refl _, R, i0⟩, fun m σ1 H1 ⟨F3, ρ3, s3, R3, q3⟩ => ?_⟩
  refine k m ρ3 q3 F3 H1 σ1 _ (Same.trans s s3) R3 fun b H4 F4 ρ4 s4 R4 q4 => ?_
  have s34 := Same.trans s3 s4
  cases b with
  | false => exact c.nx F4 H4 σ1 ρ4 s34 R4 q4
  | true =>
    refine ⟨fun σ' H' => ∃ m2, m2 < m ∧ ∃ F5 ρ5, Same F F5 ∧ RS K O F5 H' σ' ρ5 ∧ I m2 ρ5, fun σ' H' z => z, ?_⟩
    exact q4 F4 H4 σ1 _ (Same.trans s s34) R4 ⟨fun F6 H6 σ6 ρ6 s6 R6 ⟨m2, lt, q⟩ => ⟨m2, lt, F6, ρ6, Same.trans s34 s6, R6, q⟩, fun F6 H6 σ6 ρ6 v d s6 => c.rt F6 H6 σ6 ρ6 v d (Same.trans s34 s6),
      fun F6 H6 σ6 ρ6 s6 => c.nx F6 H6 σ6 ρ6 (Same.trans s34 s6), fun F6 H6 σ6 ρ6 s6 R6 ⟨m2, lt, q⟩ => ⟨m2, lt, F6, ρ6, Same.trans s34 s6, R6, q⟩, fun F6 H6 σ6 ρ6 v d s6 => c.rf F6 H6 σ6 ρ6 v d (Same.trans s34 s6)⟩
/-- a new list of integers, made while the own list at j is read alone -/
theorem mf_melt {j : Nat} {ds : List D} {QF : D → Ro → Prop} (hj : sl ρ j = .own (.lst ds)) (hm : ∀ l, l ≠ j → (sl ρ l).mut = false) (k : Mf K O F0 te (ρ.set j (.val (.lst ds))) fun d _ => ∃ ns, d = intsD ns ∧ QF (intsD ns) ρ) : Mf K O F0 te ρ QF := fun F H σ Qh s R c => by
  have mj : (sl ρ j).mut = true := by rw [hj]; rfl
  have hjl := sl_lt mj
  obtain ⟨a, b1, b2, b3, b4⟩ := R.owned mj
  rw [hj] at b4
  obtain ⟨us, b4, b5⟩ := b4
  have Rj := R.lose (i := j)
  have hxj := R.lost mj b1
  obtain ⟨R1, s1⟩ := Rj.thaw (o := .lst us) b4 nx_lst b2 b3 hxj
  have hj0 : j ≠ 0 ∨ j = 0 := by omega
  have RF : RS K O (upd F a (.lst us)) H σ (ρ.set j (.val (.lst ds))) := by
    refine ⟨R1.fh, R1.oh, R1.dj, R1.tb, R1.ot, R1.ft, R1.w0, by rw [List.length_set]; exact R.len, fun l => ?_, fun l i b li ml => ?_⟩
    · rw [sl_set hjl]
      by_cases z : l = j
      · rw [if_pos z, z]
        exact ⟨_, b1, .lst upd_same (b5.mono s1)⟩
      · rw [if_neg z]
        have := R1.at_ l
        rw [sl_set hjl, if_neg z] at this
        exact this
    · exfalso
      rw [sl_set hjl] at ml
      by_cases z : l = j
      · rw [if_pos z] at ml; cases ml
      · rw [if_neg z, hm l z] at ml; cases ml
  refine k _ H σ _ (Same.trans s s1) RF fun p H2 F2 d ρ2 s2 R2 nw ⟨ns, ed, q⟩ => ?_
  subst ed
  have fa : F2 a = some (.lst us) := s2 _ _ upd_same
  have ha : H2 a = some (.lst us) := R2.fh _ _ fa
  obtain ⟨n1, n2, n3, vs, n4, n5⟩ := nw
  have hpa : p ≠ a := fun z => by rw [z, fa] at n1; cases n1
  have sF : Same F (L2.del F2 a) := fun x o e => by
    have hxa : x ≠ a := fun z => by rw [z, b2] at e; cases e
    rw [L2.del_ne hxa]
    exact s2 _ _ (by rw [upd_ne hxa]; exact e)
  have R3 : RS K O (L2.del F2 a) H2 σ ρ := by
    refine ⟨fun b o e => R2.fh b o (by rwa [L2.del_ne (del_ne_of e)] at e), R2.oh, fun b o e => ?_, R2.tb, R2.ot, fun b o e => R2.ft b o (by rwa [L2.del_ne (del_ne_of e)] at e), R.w0, R.len, fun l => ?_, R.ne⟩
    · by_cases z : b = a
      · rw [z]; exact L2.del_same
      · rw [L2.del_ne z]; exact R2.dj b o e
    · by_cases z : l = j
      · rw [z]
        exact SlOk.of_mut mj b1 L2.del_same b3 (by rw [hj]; exact ⟨us, ha, b5.mono sF⟩)
      · exact (R.at_ l).mono (hm l z) sF
  have e5 := n5.ints'
  subst e5
  refine c p H2 _ (intsD ns) ρ sF R3 ⟨by rw [L2.del_ne hpa]; exact n1, n2, fun l ml e => ?_, _, n4, RepL.ints⟩ q
  by_cases z : l = j
  · rw [z, b1] at e
    injection e with e
    injection e with e
    exact hpa e.symm
  · rw [hm l z] at ml; cases ml
end
end SJ
namespace SJ
open PySem PySem.Spec PyProof.Rows L2 He LamX
section
variable {K : PySem.W.Frag} {O O2 : Oc} {F0 F F1 F2 H H1 H2 : Hp} {σ σ2 : L2.St} {ρ ρ2 : Ro} {Q : X → Ro → Prop} {td tb te tx tp tzz : TE} {tt : TT} {wi : TI} {ts tz rest : TS} {N : Hn} {i j l : Nat} {ds es : List D} {zs : List Str} {xs : List V}
theorem at0 {d : D} : atI (d :: ds) 0 = some d := by
  obtain ⟨v, h1, h2⟩ := atI_in (xs := d :: ds) (i := 0) (by decide) (by rw [List.length_cons]; omega)
  cases h1
  exact h2
end
end SJ
namespace SJ
open PySem PySem.Spec PyProof.Rows L2 He LamX
end SJ
namespace SJ
open PySem PySem.Spec PyProof.Rows L2 He LamX
end SJ
namespace SJ
open PySem PySem.Spec PySem.W PyProof.Rows L2 GQ PySem.MeetsSeq3
end SJ
namespace SJ
open PySem PySem.Spec PySem.W PyProof.Rows L2 GQ PySem.MeetsSeq3
end SJ
namespace SJ
open PySem PySem.Spec PyProof.Rows L2 He LamX
end SJ
namespace SJ
open PySem PySem.Spec PyProof.Rows L2 He
local macro_rules | `(tactic| walk_at "go") => `(tactic| (repeat (first
  | with_reducible apply x_seq | with_reducible apply x_asg | with_reducible apply x_ret | with_reducible apply x_if | with_reducible apply x_test | with_reducible apply x_B | with_reducible apply x_op | (with_reducible apply x_var rfl) | with_reducible apply x_c
  | with_reducible apply x_cb | with_reducible apply x_cons | with_reducible apply x_nil | with_reducible apply x_bl2 | with_reducible apply x_st2 | with_reducible apply ite_t | with_reducible apply ite_f | with_reducible apply ite_n | with_reducible apply x_and | with_reducible apply x_or | with_reducible apply x_not | with_reducible apply x_andV | with_reducible apply x_orV | with_reducible apply x_notV
  | with_reducible apply x_addI | with_reducible apply x_sub' | with_reducible apply x_eqI | with_reducible apply x_neI | with_reducible apply x_eqT | with_reducible apply x_neT | with_reducible apply x_ltI | with_reducible apply x_leI | with_reducible apply x_gtI | with_reducible apply x_geI
  | with_reducible apply x_intI | with_reducible apply x_intBl | with_reducible apply x_absI | with_reducible apply x_asgG | with_reducible apply x_sub | with_reducible apply x_lst | with_reducible apply x_tup | with_reducible apply x_next | with_reducible apply x_drop
  | with_reducible apply x_ife | with_reducible apply x_chain | with_reducible apply x_inSg | with_reducible apply x_yes | with_reducible apply x_fs | with_reducible apply x_js | with_reducible apply x_js0 | with_reducible apply x_fmtE | with_reducible apply x_m0 | with_reducible apply x_fld0 | with_reducible apply x_con0 | with_reducible apply x_pr0 | with_reducible apply x_sfld
  | (with_reducible refine x_new ?_ ?_; · exact Nat.le_of_ble_eq_true rfl)
  | with_reducible apply x_fn | with_reducible apply x_nw | with_reducible apply x_bm | with_reducible apply x_par | with_reducible apply x_rz | with_reducible apply x_retN | with_reducible apply x_un | with_reducible apply x_U)))
def drawTailB (K : PySem.W.Frag) (m1 c3 c4 m2 c5 c6 c7 m3 : Int) : TS := (tSeq (tIfS (tAnd (tTest (tOp rLtU (tVar 3) (tCB (rLenU K) (tCons (tOp (rIx K) (tVar 0) (tC (.int 0))) tNil)))) (tTest (tOp rGeU (tCB rAbs (tCons (tVar 4) tNil)) (tOp rPow (tC (.int 10)) (tC (.int 18)))))) (tSeq (tAsg (tOp (rAdd K) (tOp (rMul K) (tC (.int 2)) (tCB rAbs (tCons (tVar 4) tNil))) (tCB rInt (tCons (tOp rLtU (tVar 4) (tC (.int 0))) tNil))) (gName 5)) (tSeq (tAsg (tOp rFdv (tVar 5) (tVar 1)) (gSub (tVar 0) (tC (.int 2)) L2.rSetL)) (tRet (tOp rMod (tCB rInt (tCons (tVar 5) tNil)) (tVar 1))))) tNext) (tSeq (tAsg (tOp rMod (tCB rInt (tCons (tOp rPow (tOp (rAdd K) (tOp (rAdd K) (tOp rMod (tCB rInt (tCons (tVar 4) tNil)) (tC (.int m1))) (tOp (rMul K) (tC (.int c3)) (tVar 3))) (tC (.int c4))) (tC (.int 5))) tNil)) (tC (.int m2))) (gName 6)) (tSeq (tAsg (tOp rMod (tCB rInt (tCons (tOp rPow (tOp (rAdd K) (tOp (rAdd K) (tOp (rMul K) (tVar 6) (tOp (rAdd K) (tOp (rMul K) (tC (.int 2)) (tVar 3)) (tC (.int c5)))) (tOp (rMul K) (tOp (rMul K) (tC (.int c6)) (tVar 3)) (tVar 3))) (tC (.int c7))) (tC (.int 3))) tNil)) (tC (.int m3))) (gName 6)) (tRet (tOp rMod (tCB rInt (tCons (tOp rFdv (tVar 6) (tC (.int 16))) tNil)) (tVar 1))))))
def tDrawB (K : PySem.W.Frag) (c1 c2 m1 c3 c4 m2 c5 c6 c7 m3 : Int) : TS := (tSeq (tIfS (tTest (tOp rGtU (tOp (rIx K) (tVar 0) (tC (.int 2))) (tC (.int 0)))) (tSeq (tAsg (tOp rMod (tCB rInt (tCons (tOp (rIx K) (tVar 0) (tC (.int 2))) tNil)) (tVar 1)) (gName 2)) (tSeq (tAsg (tOp rFdv (tCB rInt (tCons (tOp (rIx K) (tVar 0) (tC (.int 2))) tNil)) (tVar 1)) (gSub (tVar 0) (tC (.int 2)) L2.rSetL)) (tRet (tVar 2)))) tNext) (tSeq (tAsg (tOp (rIx K) (tVar 0) (tC (.int 1))) (gName 3)) (tSeq (tAsg (tOp (rAdd K) (tVar 3) (tC (.int 1))) (gSub (tVar 0) (tC (.int 1)) L2.rSetL)) (tSeq (tAsg (tOp (rAdd K) (tOp (rMul K) (tC (.int c1)) (tVar 3)) (tC (.int c2))) (gName 4)) (tSeq (tIfS (tTest (tOp (rNeU K) (tOp (rIx K) (tVar 0) (tC (.int 0))) (tLst tNil))) (tAsg (tOp (rIx K) (tOp (rIx K) (tVar 0) (tC (.int 0))) (tOp rMod (tCB rInt (tCons (tVar 3) tNil)) (tCB (rLenU K) (tCons (tOp (rIx K) (tVar 0) (tC (.int 0))) tNil)))) (gName 4)) tNext) (drawTailB K m1 c3 c4 m2 c5 c6 c7 m3))))))
section
variable {K : PySem.W.Frag} {vs : List V} {H : Hp} {Q : VK} {E : XK} {n0 n1 n2 n3 n4 n5 n6 : Str} {D : Ends}
theorem draw_tailB {p c : Addr} {m a x r : Int} {ns : List Int} {n : Nat} {m1 c3 c4 m2 c5 c6 c7 m3 : Int} {H0 : Hp} {v2 v5 v6 : Option V} (hp : H p = some (.lst [.ref c, .int (a + 1), .int r])) (hc : L2.del H p c = some (.lst (ns.map V.int))) (ha : 0 ≤ a) (han : a ≤ n) (hr : 0 ≤ r) (hn : n < 100000) (hns : ns.length ≤ 1000)
    (hm : 0 < m) (hm2 : m < 1073741824) (b1 : 0 < m1 ∧ m1 < 2147483648) (b2 : 0 < m2 ∧ m2 < 2147483648) (b3 : 0 < m3 ∧ m3 < 2147483648) (d3 : 0 ≤ c3 ∧ c3 ≤ 100000) (d4 : 0 ≤ c4 ∧ c4 ≤ 100000) (d5 : 0 ≤ c5 ∧ c5 ≤ 100000) (d6 : 0 ≤ c6 ∧ c6 ≤ 100000) (d7 : 0 ≤ c7 ∧ c7 ≤ 100000)
    (s : Same (L2.del H0 p) (L2.del H p)) (k : ∀ (H2 : Hp) (r : Int), 0 ≤ r → r < m → PenAt H2 ⟨p, c, ns⟩ (n + 1) → Same (L2.del H0 p) (L2.del H2 p) → D.rt (.int r) H2) :
    drawTailB K m1 c3 c4 m2 c5 c6 c7 m3 D [some (.ref p), some (.int m), v2, some (.int a), some (.int x), v5, v6] H := by
  unfold drawTailB
  have hc2 := del_sub hc
  have fin : ∀ i : Int, D.rt (.int (i % m)) H := fun i => k H _ (Int.emod_nonneg _ (by omega)) (Int.emod_lt_of_pos _ hm) ⟨a + 1, r, hp, hc, by omega, by omega, hr, hns⟩ s
  have rest : (tSeq (tAsg (tOp rMod (tCB rInt (tCons (tOp rPow (tOp (rAdd K) (tOp (rAdd K) (tOp rMod (tCB rInt (tCons (tVar 4) tNil)) (tC (.int m1))) (tOp (rMul K) (tC (.int c3)) (tVar 3))) (tC (.int c4))) (tC (.int 5))) tNil)) (tC (.int m2))) (gName 6)) (tSeq (tAsg (tOp rMod (tCB rInt (tCons (tOp rPow (tOp (rAdd K) (tOp (rAdd K) (tOp (rMul K) (tVar 6) (tOp (rAdd K) (tOp (rMul K) (tC (.int 2)) (tVar 3)) (tC (.int c5)))) (tOp (rMul K) (tOp (rMul K) (tC (.int c6)) (tVar 3)) (tVar 3))) (tC (.int c7))) (tC (.int 3))) tNil)) (tC (.int m3))) (gName 6)) (tRet (tOp rMod (tCB rInt (tCons (tOp rFdv (tVar 6) (tC (.int 16))) tNil)) (tVar 1))))) D [some (.ref p), some (.int m), v2, some (.int a), some (.int x), v5, v6] H := by
    have h0 := Int.emod_nonneg x (by omega : m1 ≠ 0)
    have h1 := Int.emod_lt_of_pos x b1.1
    have h2 := mul_bd d3.1 d3.2 ha (by omega : a ≤ 100000)
    have h3 := mul_bd d6.1 d6.2 ha (by omega : a ≤ 100000)
    have h4 := mul_bd h3.1 h3.2 ha (by omega : a ≤ 100000)
    walk_at "go"
    refine x_mod b1.1 ?_
    walk_at "go"
    refine x_mulI (.inl ⟨by omega, by omega⟩) ?_
    walk_at "go"
    refine x_pow ⟨by omega, by omega, by omega⟩ ?_
    walk_at "go"
    refine x_mod b2.1 ?_
    walk_at "go"
    have h5 := Int.emod_nonneg ((x % m1 + c3 * a + c4) ^ (5 : Int).toNat) (by omega : m2 ≠ 0)
    have h6 := Int.emod_lt_of_pos ((x % m1 + c3 * a + c4) ^ (5 : Int).toNat) b2.1
    generalize (x % m1 + c3 * a + c4) ^ (5 : Int).toNat % m2 = y at h5 h6
    have h7 := mul_bd h5 (by omega : y ≤ 2147483648) (by omega : 0 ≤ 2 * a + c5) (by omega : 2 * a + c5 ≤ 300000)
    refine x_mulI (.inl ⟨by omega, by omega⟩) ?_
    walk_at "go"
    refine x_mulI (.inl ⟨by omega, by omega⟩) ?_
    walk_at "go"
    refine x_mulI (.inl ⟨by omega, by omega⟩) ?_
    walk_at "go"
    refine x_mulI (.inr ⟨by omega, by omega⟩) ?_
    walk_at "go"
    refine x_pow ⟨by omega, by omega, by omega⟩ ?_
    walk_at "go"
    refine x_mod b3.1 ?_
    walk_at "go"
    refine x_fdv (by omega) (by omega) ?_
    walk_at "go"
    refine x_mod hm ?_
    exact fin _
  walk_at "go"
  refine x_ixL (SqL.of hp) rfl ?_
  walk_at "go"
  refine x_lenL (SqL.of hc2) ?_
  walk_at "go"
  cases decide (a < ((ns.map V.int).length : Int)) with
  | false => exact ite_f (ite_f rest)
  | true =>
    walk_at "go"
    refine x_pow ⟨by omega, by omega, by omega⟩ ?_
    walk_at "go"
    cases decide ((10 : Int) ^ (18 : Int).toNat ≤ if x < 0 then -x else x) with
    | false => exact ite_f rest
    | true =>
      walk_at "go"
      refine x_mulI (.inl ⟨by omega, by omega⟩) ?_
      walk_at "go"
      refine x_fdv hm hm2 ?_
      walk_at "go"
      refine x_setL hp rfl ?_
      walk_at "go"
      refine x_mod hm ?_
      have hg : 0 ≤ (2 * (if x < 0 then -x else x) + if decide (x < 0) = true then 1 else 0) := by
        by_cases e : x < 0
        · rw [if_pos e]; split <;> omega
        · rw [if_neg e]; split <;> omega
      refine k _ _ (Int.emod_nonneg _ (by omega)) (Int.emod_lt_of_pos _ hm) ⟨a + 1, _, upd_same, by rw [del_upd]; exact hc, by omega, by omega, Int.ediv_nonneg hg (by omega), hns⟩ ?_
      rw [del_upd]
      exact s
theorem draw_okB {c1 c2 m1 c3 c4 m2 c5 c6 c7 m3 : Int} (h : spDraw vs H Q E) (d1 : 0 ≤ c1 ∧ c1 ≤ 100000) (b1 : 0 < m1 ∧ m1 < 2147483648) (b2 : 0 < m2 ∧ m2 < 2147483648) (b3 : 0 < m3 ∧ m3 < 2147483648) (d3 : 0 ≤ c3 ∧ c3 ≤ 100000) (d4 : 0 ≤ c4 ∧ c4 ≤ 100000) (d5 : 0 ≤ c5 ∧ c5 ≤ 100000) (d6 : 0 ≤ c6 ∧ c6 ≤ 100000) (d7 : 0 ≤ c7 ∧ c7 ≤ 100000) :
    tDrawB K c1 c2 m1 c3 c4 m2 c5 c6 c7 m3 { nx := fun _ H2 => Q .non H2, rt := Q } (start [n0, n1, n2, n3, n4, n5, n6] vs) H := by
  obtain ⟨⟨p, c, ns⟩, m, n, rfl, ⟨a, r, hp, hc, ha, han, hr, hns⟩, hn, hm, hm2, k⟩ := h
  have hc2 := del_sub hc
  have hcp := del_some hc
  unfold tDrawB
  walk_at "go"
  refine x_ixL (SqL.of hp) rfl ?_
  walk_at "go"
  cases decide ((0 : Int) < r) with
  | true =>
    walk_at "go"
    refine x_ixL (SqL.of hp) rfl ?_
    walk_at "go"
    refine x_mod hm ?_
    walk_at "go"
    refine x_ixL (SqL.of hp) rfl ?_
    walk_at "go"
    refine x_fdv hm hm2 ?_
    walk_at "go"
    refine x_setL hp rfl ?_
    walk_at "go"
    refine k _ _ (Int.emod_nonneg _ (by omega)) (Int.emod_lt_of_pos _ hm) ⟨a, _, upd_same, by rw [del_upd]; exact hc, by omega, by omega, Int.ediv_nonneg hr (by omega), hns⟩ ?_
    rw [del_upd]
    exact Same.refl _
  | false =>
    walk_at "go"
    refine x_ixL (SqL.of hp) rfl ?_
    walk_at "go"
    refine x_setL hp rfl ?_
    walk_at "go"
    refine x_mulI (.inl ⟨by omega, by omega⟩) ?_
    walk_at "go"
    refine x_ixL (SqL.of upd_same) rfl ?_
    walk_at "go"
    intro q hq
    have hqp : q ≠ p := fun e => by rw [e, upd_same] at hq; cases hq
    have hqc : c ≠ q := fun e => by rw [← e, upd_ne hcp, hc2] at hq; cases hq
    refine x_neNil (xs := ns.map V.int) (SqL.of (by rw [upd_ne hqc, upd_ne hcp]; exact hc2)) (dp_ints ns) (lay_ints (n := 63)) upd_same ?_
    walk_at "go"
    have hp2 : (upd (upd H p (.lst [.ref c, .int (a + 1), .int r])) q (.lst [])) p = some (.lst [.ref c, .int (a + 1), .int r]) := by rw [upd_ne (Ne.symm hqp), upd_same]
    have hc3 : L2.del (upd (upd H p (.lst [.ref c, .int (a + 1), .int r])) q (.lst [])) p c = some (.lst (ns.map V.int)) := by rw [del_ne hcp, upd_ne hqc, upd_ne hcp]; exact hc2
    have s : Same (L2.del H p) (L2.del (upd (upd H p (.lst [.ref c, .int (a + 1), .int r])) q (.lst [])) p) := by
      rw [del_upd_ne hqp, del_upd]
      exact Same.upd (Same.refl _) (del_none (by rw [upd_ne hqp] at hq; exact hq))
    cases e : decide (ns.map PyData.int = []) with
    | true =>
      walk_at "go"
      exact draw_tailB hp2 hc3 ha han hr hn hns hm hm2 b1 b2 b3 d3 d4 d5 d6 d7 s k
    | false =>
      have hne : 0 < ns.length := by
        cases ns with
        | nil => exact nomatch (of_decide_eq_false e)  rfl
        | cons i ns => exact Nat.succ_pos _
      walk_at "go"
      refine x_ixL (SqL.of hp2) rfl ?_
      walk_at "go"
      refine x_ixL (SqL.of hp2) rfl ?_
      walk_at "go"
      refine x_lenL (SqL.of (del_sub hc3)) ?_
      have hl : ((ns.map V.int).length : Int) = ns.length := by rw [List.length_map]
      refine x_mod (by omega) ?_
      obtain ⟨v, hv, hv2⟩ := atI_in (xs := ns.map V.int) (i := a % ((ns.map V.int).length : Int)) (Int.emod_nonneg _ (by omega)) (Int.emod_lt_of_pos _ (by omega))
      rw [List.getElem?_map] at hv
      obtain ⟨i, _, rfl⟩ := Option.map_eq_some_iff.mp hv
      refine x_ixL (SqL.of (del_sub hc3)) hv2 ?_
      exact draw_tailB hp2 hc3 ha han hr hn hns hm hm2 b1 b2 b3 d3 d4 d5 d6 d7 s k
end
end SJ
namespace K44
open PySem PySem.Spec PyProof.Rows L2 He SJ
open LamX (CodeO lamS_by Tabs tLam)
def at_ (l : List Int) (i : Nat) : Int := l.getD i 0
def mixL (l h : List Int) (c : Nat) : List Int := List.zipWith (fun a b => a * at_ h c - b * at_ l c) l h
def gcdL (xs : List Int) : Nat := xs.foldl (fun g x => Nat.gcd g x.natAbs) 0
def clr (l h : List Int) (c : Nat) : List Int := if at_ l c = 0 then l else (mixL l h c).map fun x => x / (gcdL (mixL l h c) : Int)
def idL (n k : Nat) : List Int := (List.range n).map fun j => if k = j then 1 else 0
def augL (rss : List (List Int)) : List (List Int) := rss.zipIdx.map fun q => q.1 ++ idL rss.length q.2
/-- the first line that is not 0 in a column -/
def pivI (c : Nat) (ls : List (List Int)) : Option Nat := ls.findIdx? fun l => decide (at_ l c ≠ 0)
def stepG (f : List Int → List Int → Nat → List Int) (c : Nat) (ls : List (List Int)) : List (List Int) := match pivI c ls with
  | none => ls
  | some i => (ls.eraseIdx i).map fun l => f l (ls.getD i []) c
def runG (f : List Int → List Int → Nat → List Int) (ls : List (List Int)) : Nat → List (List Int)
  | 0 => ls
  | c + 1 => stepG f c (runG f ls c)
def wtsL (w : Nat) (rss : List (List Int)) : Option (List Int) := (runG clr (augL rss) w).head?.map fun l => l.drop w
def SmallL (l : List Int) : Prop := ∀ x ∈ l, x.natAbs < 2 ^ 1200
/-- rows of one width, whose lines stay small -/
structure RowsOk (w : Nat) (rss : List (List Int)) : Prop where
  len : ∀ r ∈ rss, r.length = w
  n : rss.length ≤ 60
  w60 : w ≤ 60
  nil : rss = [] → w = 0
  sm : ∀ c, c ≤ w → ∀ l ∈ runG clr (augL rss) c, SmallL l ∧ l.length = w + rss.length
  po : ∀ c i h, c < w → pivI c (runG clr (augL rss) c) = some i → (runG clr (augL rss) c)[i]? = some h → ∀ l ∈ (runG clr (augL rss) c).eraseIdx i, at_ l c ≠ 0 → 0 < gcdL (mixL l h c)
/-- rows of 0 and 1 -/
structure Bits (w : Nat) (rss : List (List Int)) : Prop where
  len : ∀ r ∈ rss, r.length = w
  bit : ∀ r ∈ rss, ∀ x ∈ r, x = 0 ∨ x = 1
/-- lists or tuples of integers -/
inductive ShR : List D → List (List Int) → Prop
  | nil : ShR [] []
  | lst {r : List Int} {es : List D} {rss : List (List Int)} : ShR es rss → ShR (intsD r :: es) (r :: rss)
  | tup {r : List Int} {es : List D} {rss : List (List Int)} : ShR es rss → ShR (.tup (r.map D.int) :: es) (r :: rss)
/-- the sum of a column, weighed -/
def dotL (ws : List Int) (rss : List (List Int)) (c : Nat) : Int := (List.zipWith (fun x r => x * at_ r c) ws rss).sum
structure Sol (w : Nat) (rss : List (List Int)) (ws : List Int) : Prop where
  len : ws.length = rss.length
  dot : ∀ c, c < w → dotL ws rss c = 0
  ne : ∃ x ∈ ws, x ≠ 0
  sm : SmallL ws
def outW : Option (List Int) → D
  | none => .non
  | some ws => intsD ws
def P_common_divisor : PD := fun ds Q _ => ∃ xs : List Int, ds = [intsD xs] ∧ xs.length ≤ 1000 ∧ Q (.int (gcdL xs : Nat))
def P_cleared : PD := fun ds Q _ => ∃ (l h : List Int) (c : Nat), ds = [intsD l, intsD h, .int (c : Nat)] ∧ l.length = h.length ∧ c < l.length ∧ l.length ≤ 1000 ∧ SmallL l ∧ SmallL h ∧ (at_ l c ≠ 0 → 0 < gcdL (mixL l h c)) ∧ Q (intsD (clr l h c))
def P_weights : PD := fun ds Q _ => ∃ d es w rss, ds = [d] ∧ (d = .lst es ∨ d = .tup es) ∧ ShR es rss ∧ RowsOk w rss ∧ Q (outW (wtsL w rss))
def P_Lpick : PP1 := PPick
def P_Ldraw : PP1 := PDraw
def P_Lrows : PP1 := fun n ds Q => ds = [] ∧ n + 2000 < 100000 ∧ ∀ w rss n2, Bits w rss → rss.length ≤ 14 → w ≤ 9 → (rss = [] → w = 0) → n2 ≤ n + 200 → Q (.lst (rss.map intsD)) n2
/-- fifty rows that repeat -/
def manyR (a b m k : Nat) : List Int := (List.range 49).map fun t => if (k * a + t * b + k * t * t) % m < 3 then 1 else 0
def manyL (a b m : Nat) : List (List Int) := (List.range 50).map (manyR a b m)
def P_Lmany_rows : PP1 := fun n ds Q => ds = [] ∧ n + 2000 < 100000 ∧ ∀ a b m : Nat, (m = 5 ∨ m = 7 ∨ m = 11) → Q (.lst ((manyL a b m).map intsD)) (n + 3)
def P_Lis_bound : PD := fun ds Q _ => ∃ w rss, ds = [.lst (rss.map intsD)] ∧ Bits w rss ∧ rss.length ≤ 14 ∧ w ≤ 9 ∧ (rss = [] → w = 0) ∧ Q (.bl (decide (runG mixL rss w ≠ [])))
def P_Lare_weights : PD := fun ds Q _ => ∃ es w rss ws, ds = [.lst es, intsD ws] ∧ ShR es rss ∧ rss ≠ [] ∧ (∀ r ∈ rss, r.length = w ∧ SmallL r) ∧ rss.length ≤ 60 ∧ w ≤ 60 ∧ Sol w rss ws ∧ Q (.bl true)
def P_Lright : PP1 := fun n ds Q => ∃ w rss b, ds = [.lst (rss.map intsD), .bl b] ∧ Bits w rss ∧ RowsOk w rss ∧ b = (wtsL w rss).isSome ∧ (∀ ws, wtsL w rss = some ws → Sol w rss ws) ∧ n + 200 < 100000 ∧ ∀ n2, n2 ≤ n + 70 → Q (.bl true) n2
def sp_common_divisor (K : PySem.W.Frag) : Sp := spS K (TB K) (pu P_common_divisor)
def sp_cleared (K : PySem.W.Frag) : Sp := spS K (TB K) (pu P_cleared)
def sp_weights (K : PySem.W.Frag) : Sp := spS K (TB K) (pu P_weights)
def sp_Lpen (K : PySem.W.Frag) : Sp := spPen K
def sp_Ldraw (K : PySem.W.Frag) : Sp := spS K (TB K) (pp P_Ldraw)
def sp_Lpick (K : PySem.W.Frag) : Sp := spS K (TB K) (pp P_Lpick)
def sp_Lrows (K : PySem.W.Frag) : Sp := spS K (TB K) (pp P_Lrows)
def sp_Lmany_rows (K : PySem.W.Frag) : Sp := spS K (TB K) (pp P_Lmany_rows)
def sp_Lis_bound (K : PySem.W.Frag) : Sp := spS K (TB K) (pu P_Lis_bound)
def sp_Lare_weights (K : PySem.W.Frag) : Sp := spS K (TB K) (pu P_Lare_weights)
def sp_Lright (K : PySem.W.Frag) : Sp := spS K (TB K) (pp P_Lright)
def sp_law (K : PySem.W.Frag) : Sp := spLaw K (TB K)
abbrev gkb_weights_0_rows : List V → List V → List V := kwV [0]
theorem kb_weights_0_rows {K : PySem.W.Frag} {fd : FuncData} (F : Fn_weights K fd) : KBn K fd ["rows"] 0 ["rows"] (kwW [0]) (kwV [0]) := kw_of F (fun _ _ _ _ _ _ us ws h1 h2 => match us, ws, h1, h2 with | [], [_], _, _ => rfl) kw_rel
def t_common_divisor (K : PySem.W.Frag) : TS := (tSeq (tAsg (tC (.int 0)) (gName 1)) (tSeq (tFor (iList K (tVar 0)) (gName 2) (tSeq (tAsg (tCB rAbs (tCons (tVar 2) tNil)) (gName 3)) (tWhile (tTest (tOp rGtU (tVar 3) (tC (.int 0)))) (tPar 1 3 (tCons (tVar 3) (tCons (tOp rMod (tVar 1) (tVar 3)) tNil)))))) (tRet (tVar 1))))
def t_cleared (K : PySem.W.Frag) : TS := (tSeq (tIfS (tTest (tOp (rEqU K) (tOp (rIx K) (tVar 0) (tVar 2)) (tC (.int 0)))) (tRet (tVar 0)) tNext) (tSeq (tAsg (tLc (iZip K (tCons (tVar 0) (tCons (tVar 1) tNil))) (gTup K 2 (gCons (gName 4) (gCons (gName 5) gNil))) tYes (tOp SJ.rSub (tOp (rI CMulW fun i j => .int (i * j)) (tVar 4) (tOp (rIx K) (tVar 1) (tVar 2))) (tOp (rI CMulW fun i j => .int (i * j)) (tVar 5) (tOp (rIx K) (tVar 0) (tVar 2)))) [4, 5]) (gName 3)) (tSeq (tAsg (tFn (sp_common_divisor K) [] W0 (tCons (tVar 3) tNil)) (gName 6)) (tRet (tLc (iList K (tVar 3)) (gName 4) tYes (tOp (rI CDivW fun i j => .int (i / j)) (tVar 4) (tVar 6)) [4])))))
def t_weights (K : PySem.W.Frag) : TS := (tSeq (tAsg (tCB (rMax K) (tCons (tOp (rAdd K) (tLst (tCons (tC (.int 0)) tNil)) (tLc (iSq K (tVar 0)) (gName 2) tYes (tCB (rLenU K) (tCons (tVar 2) tNil)) [2])) tNil)) (gName 1)) (tSeq (tAsg (tLc (iEnumU K (tCons (tVar 0) tNil)) (gTup K 2 (gCons (gName 5) (gCons (gName 2) gNil))) tYes (tLst (StX.tStar K (tVar 2) (StX.tStar K (tLc (iRng1 (tCons (tCB (rLenU K) (tCons (tVar 0) tNil)) tNil)) (gName 4) tYes (tCB rInt (tCons (tOp (rEqU K) (tVar 5) (tVar 4)) tNil)) [4]) tNil))) [5, 2]) (gName 3)) (tSeq (tFor (iRng1 (tCons (tVar 1) tNil)) (gName 6) (tSeq (tAsg (tLc (iEnum K (tCons (tVar 3) tNil)) (gTup K 2 (gCons (gName 5) (gCons (gName 8) gNil))) (tTest (tOp (rNeU K) (tOp (rIx K) (tVar 8) (tVar 6)) (tC (.int 0)))) (tVar 5) [5, 8]) (gName 7)) (tIfS (tTest (tOp (rNeU K) (tVar 7) (tLst tNil))) (tSeq (tAsg (tBM K "list" rPopAt (tVar 3) (tCons (tOp (rIx K) (tVar 7) (tC (.int 0))) tNil)) (gName 9)) (tAsg (tLc (iList K (tVar 3)) (gName 8) tYes (tFn (sp_cleared K) [] W0 (tCons (tVar 8) (tCons (tVar 9) (tCons (tVar 6) tNil)))) [8]) (gName 3))) tNext))) (tRet (tIf (tTest (tOp (rNeU K) (tVar 3) (tLst tNil))) (tSl (rSlU K) (tOp (rIx K) (tVar 3) (tC (.int 0))) (tPart (tVar 1)) tNoPart) (tC .non))))))
def t_Lpen (K : PySem.W.Frag) : TS := (tRet (tLst (tCons (tCB (rListU K) (tCons (tSl (rSlU K) (tVar 0) tNoPart (tPart (tC (.int 63)))) tNil)) (tCons (tC (.int 0)) (tCons (tC (.int 0)) tNil)))))
def t_Ldraw (K : PySem.W.Frag) : TS := (tSeq (tIfS (tTest (tOp rGtU (tOp (rIx K) (tVar 0) (tC (.int 2))) (tC (.int 0)))) (tSeq (tAsg (tOp rMod (tCB rInt (tCons (tOp (rIx K) (tVar 0) (tC (.int 2))) tNil)) (tVar 1)) (gName 2)) (tSeq (tAsg (tOp rFdv (tCB rInt (tCons (tOp (rIx K) (tVar 0) (tC (.int 2))) tNil)) (tVar 1)) (gSub (tVar 0) (tC (.int 2)) rSetL)) (tRet (tVar 2)))) tNext) (tSeq (tAsg (tOp (rIx K) (tVar 0) (tC (.int 1))) (gName 3)) (tSeq (tAsg (tOp (rAdd K) (tVar 3) (tC (.int 1))) (gSub (tVar 0) (tC (.int 1)) rSetL)) (tSeq (tAsg (tOp (rAdd K) (tOp (rMul K) (tC (.int 90023)) (tVar 3)) (tC (.int 109))) (gName 4)) (tSeq (tIfS (tTest (tOp (rNeU K) (tOp (rIx K) (tVar 0) (tC (.int 0))) (tLst tNil))) (tAsg (tOp (rIx K) (tOp (rIx K) (tVar 0) (tC (.int 0))) (tOp rMod (tCB rInt (tCons (tVar 3) tNil)) (tCB (rLenU K) (tCons (tOp (rIx K) (tVar 0) (tC (.int 0))) tNil)))) (gName 4)) tNext) (tSeq (tIfS (tAnd (tTest (tOp rLtU (tVar 3) (tCB (rLenU K) (tCons (tOp (rIx K) (tVar 0) (tC (.int 0))) tNil)))) (tTest (tOp rGeU (tCB rAbs (tCons (tVar 4) tNil)) (tOp rPow (tC (.int 10)) (tC (.int 18)))))) (tSeq (tAsg (tOp (rAdd K) (tOp (rMul K) (tC (.int 2)) (tCB rAbs (tCons (tVar 4) tNil))) (tCB rInt (tCons (tOp rLtU (tVar 4) (tC (.int 0))) tNil))) (gName 5)) (tSeq (tAsg (tOp rFdv (tVar 5) (tVar 1)) (gSub (tVar 0) (tC (.int 2)) rSetL)) (tRet (tOp rMod (tCB rInt (tCons (tVar 5) tNil)) (tVar 1))))) tNext) (tSeq (tAsg (tOp rMod (tCB rInt (tCons (tOp rPow (tOp (rAdd K) (tOp (rAdd K) (tOp rMod (tCB rInt (tCons (tVar 4) tNil)) (tC (.int 2147483563))) (tOp (rMul K) (tC (.int 50047)) (tVar 3))) (tC (.int 19))) (tC (.int 5))) tNil)) (tC (.int 2147483587))) (gName 6)) (tSeq (tAsg (tOp rMod (tCB rInt (tCons (tOp rPow (tOp (rAdd K) (tOp (rAdd K) (tOp (rMul K) (tVar 6) (tOp (rAdd K) (tOp (rMul K) (tC (.int 2)) (tVar 3)) (tC (.int 43)))) (tOp (rMul K) (tOp (rMul K) (tC (.int 60037)) (tVar 3)) (tVar 3))) (tC (.int 17))) (tC (.int 3))) tNil)) (tC (.int 2147483629))) (gName 6)) (tRet (tOp rMod (tCB rInt (tCons (tOp rFdv (tVar 6) (tC (.int 16))) tNil)) (tVar 1)))))))))))
def t_Lpick (K : PySem.W.Frag) : TS := (tRet (tOp (rIx K) (tVar 1) (tFn (sp_Ldraw K) [] W0 (tCons (tVar 0) (tCons (tCB (rLenU K) (tCons (tVar 1) tNil)) tNil)))))
def t_Lrows (K : PySem.W.Frag) : TS := (tSeq (tPar 1 2 (tCons (tFn (sp_Ldraw K) [] W0 (tCons (tVar 0) (tCons (tC (.int 10)) tNil))) (tCons (tLst tNil) tNil))) (tSeq (tFor (iRng1 (tCons (tFn (sp_Ldraw K) [] W0 (tCons (tVar 0) (tCons (tC (.int 15)) tNil))) tNil)) (gName 3) (tSeq (tAsg (tFn (sp_Ldraw K) [] W0 (tCons (tVar 0) (tCons (tC (.int 6)) tNil))) (gName 4)) (tSeq (tAsg (tLc (iRng1 (tCons (tVar 1) tNil)) (gName 6) tYes (tFn (sp_Ldraw K) [] W0 (tCons (tVar 0) (tCons (tC (.int 2)) tNil))) [6]) (gName 5)) (tSeq (tIfS (tAnd (tTest (tOp (rEqU K) (tVar 4) (tC (.int 0)))) (tTest (tOp (rNeU K) (tVar 2) (tLst tNil)))) (tAsg (tFn (sp_Lpick K) [] W0 (tCons (tVar 0) (tCons (tVar 2) tNil))) (gName 5)) tNext) (tSeq (tIfS (tTest (tOp (rEqU K) (tVar 4) (tC (.int 1)))) (tAsg (tOp (rMul K) (tLst (tCons (tC (.int 0)) tNil)) (tVar 1)) (gName 5)) tNext) (tSeq (tIfS (tAnd (tTest (tOp (rEqU K) (tVar 4) (tC (.int 2)))) (tTest (tOp (rNeU K) (tVar 2) (tLst tNil)))) (tAsg (tLc (iZip K (tCons (tFn (sp_Lpick K) [] W0 (tCons (tVar 0) (tCons (tVar 2) tNil))) (tCons (tFn (sp_Lpick K) [] W0 (tCons (tVar 0) (tCons (tVar 2) tNil))) tNil))) (gTup K 2 (gCons (gName 7) (gCons (gName 8) gNil))) tYes (tCB rMax2 (tCons (tVar 7) (tCons (tVar 8) tNil))) [7, 8]) (gName 5)) tNext) (tDrop (tBM K "list" rAppend (tVar 2) (tCons (tCB (rListU K) (tCons (tVar 5) tNil)) tNil))))))))) (tRet (tVar 2))))
def t_Lmany_rows (K : PySem.W.Frag) : TS := (tSeq (tAsg (tTup (tCons (tOp (rAdd K) (tC (.int 1)) (tFn (sp_Ldraw K) [] W0 (tCons (tVar 0) (tCons (tC (.int 90)) tNil)))) (tCons (tOp (rAdd K) (tC (.int 1)) (tFn (sp_Ldraw K) [] W0 (tCons (tVar 0) (tCons (tC (.int 90)) tNil)))) (tCons (tOp (rIx K) (tLst (tCons (tC (.int 5)) (tCons (tC (.int 7)) (tCons (tC (.int 11)) tNil)))) (tFn (sp_Ldraw K) [] W0 (tCons (tVar 0) (tCons (tC (.int 3)) tNil)))) tNil)))) (gTup K 3 (gCons (gName 1) (gCons (gName 2) (gCons (gName 3) gNil))))) (tRet (tLc (iRng1 (tCons (tC (.int 50)) tNil)) (gName 5) tYes (tLc (iRng1 (tCons (tC (.int 49)) tNil)) (gName 4) tYes (tCB rInt (tCons (tOp rLtU (tOp rMod (tCB rInt (tCons (tOp (rAdd K) (tOp (rAdd K) (tOp (rMul K) (tVar 5) (tVar 1)) (tOp (rMul K) (tVar 4) (tVar 2))) (tOp (rMul K) (tOp (rMul K) (tVar 5) (tVar 4)) (tVar 4))) tNil)) (tVar 3)) (tC (.int 3))) tNil)) [4]) [5])))
def t_Lis_bound (K : PySem.W.Frag) : TS := (tSeq (tAsg (tLc (iList K (tVar 0)) (gName 2) tYes (tCB (rListU K) (tCons (tVar 2) tNil)) [2]) (gName 1)) (tSeq (tFor (iRng1 (tCons (tIf (tTest (tOp (rNeU K) (tVar 0) (tLst tNil))) (tCB (rLenU K) (tCons (tOp (rIx K) (tVar 0) (tC (.int 0))) tNil)) (tC (.int 0))) tNil)) (gName 3) (tSeq (tAsg (tLc (iEnum K (tCons (tVar 1) tNil)) (gTup K 2 (gCons (gName 5) (gCons (gName 6) gNil))) (tTest (tOp (rNeU K) (tOp (rIx K) (tVar 6) (tVar 3)) (tC (.int 0)))) (tVar 5) [5, 6]) (gName 4)) (tIfS (tTest (tOp (rNeU K) (tVar 4) (tLst tNil))) (tSeq (tAsg (tBM K "list" rPopAt (tVar 1) (tCons (tOp (rIx K) (tVar 4) (tC (.int 0))) tNil)) (gName 7)) (tAsg (tLc (iList K (tVar 1)) (gName 6) tYes (tLc (iZip K (tCons (tVar 6) (tCons (tVar 7) tNil))) (gTup K 2 (gCons (gName 8) (gCons (gName 9) gNil))) tYes (tOp SJ.rSub (tOp (rI CMulW fun i j => .int (i * j)) (tVar 8) (tOp (rIx K) (tVar 7) (tVar 3))) (tOp (rI CMulW fun i j => .int (i * j)) (tVar 9) (tOp (rIx K) (tVar 6) (tVar 3)))) [8, 9]) [6]) (gName 1))) tNext))) (tRet (tOp (rNeU K) (tVar 1) (tLst tNil)))))
def t_Lare_weights (K : PySem.W.Frag) : TS := (tSeq (tIfS (tOr (tNot (tB (tCB (rIsi K) (tCons (tVar 1) (tCons (tC (.ty "list")) tNil))))) (tTest (tOp (rNeU K) (tCB (rLenU K) (tCons (tVar 1) tNil)) (tCB (rLenU K) (tCons (tVar 0) tNil))))) (tRet (tC (.bl false))) tNext) (tSeq (tIfS (tTest (tOp (rNeU K) (tLc (iList K (tVar 1)) (gName 2) (tOr (tNot (tB (tCB (rIsi K) (tCons (tVar 2) (tCons (tC (.ty "int")) tNil))))) (tB (tCB (rIsi K) (tCons (tVar 2) (tCons (tC (.ty "bool")) tNil))))) (tVar 2) [2]) (tLst tNil))) (tRet (tC (.bl false))) tNext) (tSeq (tFor (iRng1 (tCons (tCB (rLenU K) (tCons (tOp (rIx K) (tVar 0) (tC (.int 0))) tNil)) tNil)) (gName 3) (tIfS (tTest (tOp (rNeU K) (tCB (rSum K) (tCons (tLc (iZip K (tCons (tVar 1) (tCons (tVar 0) tNil))) (gTup K 2 (gCons (gName 2) (gCons (gName 4) gNil))) tYes (tOp (rI CMulW fun i j => .int (i * j)) (tVar 2) (tOp (rIx K) (tVar 4) (tVar 3))) [2, 4]) tNil)) (tC (.int 0)))) (tRet (tC (.bl false))) tNext)) (tRet (tOp (rNeU K) (tLc (iList K (tVar 1)) (gName 2) (tTest (tOp (rNeU K) (tVar 2) (tC (.int 0)))) (tVar 2) [2]) (tLst tNil))))))
def t_Lright (K : PySem.W.Frag) : TS := (tSeq (tAsg (tLc (iList K (tVar 1)) (gName 4) tYes (tIf (tTest (tOp (rEqU K) (tFn (sp_Ldraw K) [] W0 (tCons (tVar 0) (tCons (tC (.int 2)) tNil))) (tC (.int 0)))) (tCB (rTupU K) (tCons (tVar 4) tNil)) (tCB (rListU K) (tCons (tVar 4) tNil))) [4]) (gName 3)) (tSeq (tAsg (tIf (tTest (tOp (rEqU K) (tFn (sp_Ldraw K) [] W0 (tCons (tVar 0) (tCons (tC (.int 3)) tNil))) (tC (.int 0)))) (tCB (rTupU K) (tCons (tVar 3) tNil)) (tVar 3)) (gName 3)) (tSeq (tAsg (tCB (rReprU K) (tCons (tVar 3) tNil)) (gName 5)) (tSeq (tAsg (tFn (sp_weights K) [] W0 (tCons (tVar 3) tNil)) (gName 6)) (tSeq (tIfS (tOr (tTest (tOp (rNeU K) (tCB (rReprU K) (tCons (tFnK 0 1 (sp_weights K) gkb_weights_0_rows W0 tNil (tCons (tVar 3) tNil)) tNil)) (tCB (rReprU K) (tCons (tVar 6) tNil)))) (tTest (tOp (rNeU K) (tCB (rReprU K) (tCons (tVar 3) tNil)) (tVar 5)))) (tRet (tC (.bl false))) tNext) (tRet (tIf (tB (tVar 2)) (tFn (sp_Lare_weights K) [] W0 (tCons (tVar 1) (tCons (tVar 6) tNil))) (tOp (rIsU false) (tVar 6) (tC .non)))))))))
def t_law (K : PySem.W.Frag) : TS := (tSeq (tAsg (tFn (sp_Lpen K) [] W0 (tCons (tVar 0) tNil)) (gName 1)) (tSeq (tFor (iRng1 (tCons (tC (.int 8)) tNil)) (gName 2) (tSeq (tAsg (tFn (sp_Lrows K) [] W0 (tCons (tVar 1) tNil)) (gName 3)) (tIfS (tNot (tB (tFn (sp_Lright K) [] W0 (tCons (tVar 1) (tCons (tVar 3) (tCons (tFn (sp_Lis_bound K) [] W0 (tCons (tVar 3) tNil)) tNil)))))) (tRet (tC (.bl false))) tNext))) (tSeq (tIfS (tAnd (tTest (tOp (rEqU K) (tFn (sp_Ldraw K) [] W0 (tCons (tVar 1) (tCons (tC (.int 4)) tNil))) (tC (.int 0)))) (tNot (tB (tFn (sp_Lright K) [] W0 (tCons (tVar 1) (tCons (tFn (sp_Lmany_rows K) [] W0 (tCons (tVar 1) tNil)) (tCons (tC (.bl true)) tNil))))))) (tRet (tC (.bl false))) tNext) (tSeq (tAsg (tFn (sp_weights K) [] W0 (tCons (tLst (tCons (tLst (tCons (tC (.int 1)) (tCons (tC (.int 0)) tNil))) (tCons (tLst (tCons (tC (.int 0)) (tCons (tC (.int 1)) tNil))) (tCons (tLst (tCons (tC (.int 1)) (tCons (tC (.int 1)) tNil))) tNil)))) tNil)) (gName 4)) (tSeq (tIfS (tOr (tTest (tOp (rIsU true) (tFn (sp_weights K) [] W0 (tCons (tLst tNil) tNil)) (tC .non))) (tOr (tTest (tOp (rIsU true) (tFn (sp_weights K) [] W0 (tCons (tTup tNil) tNil)) (tC .non))) (tNot (tB (tFn (sp_Lare_weights K) [] W0 (tCons (tLst (tCons (tTup tNil) tNil)) (tCons (tFn (sp_weights K) [] W0 (tCons (tLst (tCons (tTup tNil) tNil)) tNil)) tNil))))))) (tRet (tC (.bl false))) tNext) (tRet (tChain (rEqU K) (rEqU K) (tOp (rIx K) (tVar 4) (tC (.int 0))) (tOp (rIx K) (tVar 4) (tC (.int 1))) (tOp SJ.rSub (tC (.int 0)) (tOp (rIx K) (tVar 4) (tC (.int 2)))))))))))
end K44
namespace K44
open PySem PySem.Spec PyProof.Rows L2 He SJ
open LamX (CodeO lamS_by Tabs tLam)
local macro_rules | `(tactic| walk_at "mr") => `(tactic| repeat' (first
  | with_reducible apply ms_seq | with_reducible apply ms_if | with_reducible apply ms_ret | with_reducible apply ms_next | with_reducible apply s_asg
  | ((with_reducible apply g_var); first | refine m_var rfl ?_ | refine m_varS rfl ?_)
  | with_reducible apply m_cI | with_reducible apply m_cS | with_reducible apply m_cB | with_reducible apply m_cN | with_reducible apply m_cC | with_reducible apply m_cT
  | with_reducible apply m_op | with_reducible apply m_cb | with_reducible apply m_nil | with_reducible apply m_cons | with_reducible apply m_test | with_reducible apply m_B | with_reducible apply q_bl
  | with_reducible apply m_and | with_reducible apply m_or | with_reducible apply m_not | with_reducible apply m_andV | with_reducible apply m_orV | with_reducible apply m_notV | with_reducible apply m_ife | with_reducible apply m_chain
  | with_reducible apply q_v | ((with_reducible apply g_slot); refine q_own rfl ?_) | with_reducible apply q_n | with_reducible apply q_c | with_reducible apply q_t | with_reducible apply q_f | with_reducible apply m_yes
  | with_reducible apply r_addI | with_reducible apply r_subI | with_reducible apply r_eqI | with_reducible apply r_neI | with_reducible apply r_eqS | with_reducible apply r_neS | with_reducible apply r_ltI | with_reducible apply r_leI | with_reducible apply r_gtI | with_reducible apply r_geI
  | with_reducible apply r_isN | with_reducible apply r_isnN | with_reducible apply c_intI | with_reducible apply c_intB | with_reducible apply v_lst | with_reducible apply m_tup | ((with_reducible apply g_le); refine ⟨Nat.le_of_ble_eq_true rfl, ?_⟩) | with_reducible apply v_sl | with_reducible apply v_dnew
  | ((with_reducible apply g_dget); refine m_dget ?_) | refine get_str rfl rfl ?_
  | with_reducible apply m_fld | with_reducible apply m_con | refine ⟨_, _, _, rfl, by walk_at "fd", rfl, ?_⟩
  | ((with_reducible apply g_fn); first | refine m_fn wr0 ?_ | refine m_fn (by assumption) ?_ | refine m_fnP ?_ rfl)
  | ((with_reducible apply g_nw); refine m_nw wr0 ?_) | ((with_reducible apply g_ownGet); refine m_ownGet wr0 ?_) | ((with_reducible apply g_ownIn); refine r_ownIn ?_)
  | ((with_reducible apply g_inS); first | refine r_inStrs rfl ?_ | refine r_inStrsT rfl ?_ | refine r_ninStrsT rfl ?_) | ((with_reducible apply g_len); first | refine c_lenL rfl ?_ | refine c_lenT rfl ?_ | refine c_lenD rfl ?_)
  | ((with_reducible apply g_list); first | refine c_listv (.inl rfl) ?_ | refine c_listv (.inr rfl) ?_) | ((with_reducible apply g_tupU); first | refine c_tupleL rfl ?_ | refine c_tupleT ?_) | ((with_reducible apply g_pr); refine m_pr ?_) | refine ⟨_, _, _, rfl, by walk_at "cl", by walk_at "pr", ?_⟩ | refine ⟨_, rfl, ?_⟩ | fail))
local macro_rules | `(tactic| walk_at "me") => `(tactic| repeat' (first
  | ((with_reducible apply g_var); first | refine m_var rfl ?_ | refine m_varS rfl ?_)
  | with_reducible apply m_cI | with_reducible apply m_cS | with_reducible apply m_cB | with_reducible apply m_cN | with_reducible apply m_cC | with_reducible apply m_cT
  | with_reducible apply m_op | with_reducible apply m_cb | with_reducible apply m_nil | with_reducible apply m_cons | with_reducible apply m_test | with_reducible apply m_B | with_reducible apply q_bl
  | with_reducible apply m_and | with_reducible apply m_or | with_reducible apply m_not | with_reducible apply m_andV | with_reducible apply m_orV | with_reducible apply m_notV | with_reducible apply m_ife | with_reducible apply m_chain
  | with_reducible apply q_v | ((with_reducible apply g_slot); refine q_own rfl ?_) | with_reducible apply q_n | with_reducible apply q_c | with_reducible apply q_t | with_reducible apply q_f | with_reducible apply m_yes
  | with_reducible apply r_addI | with_reducible apply r_subI | with_reducible apply r_eqI | with_reducible apply r_neI | with_reducible apply r_eqS | with_reducible apply r_neS | with_reducible apply r_ltI | with_reducible apply r_leI | with_reducible apply r_gtI | with_reducible apply r_geI
  | with_reducible apply r_isN | with_reducible apply r_isnN | with_reducible apply c_intI | with_reducible apply c_intB | with_reducible apply v_lst | with_reducible apply m_tup | ((with_reducible apply g_le); refine ⟨Nat.le_of_ble_eq_true rfl, ?_⟩) | with_reducible apply v_sl | with_reducible apply v_dnew
  | ((with_reducible apply g_dget); refine m_dget ?_) | refine get_str rfl rfl ?_
  | with_reducible apply m_fld | with_reducible apply m_con | refine ⟨_, _, _, rfl, by walk_at "fd", rfl, ?_⟩
  | ((with_reducible apply g_fn); first | refine m_fn wr0 ?_ | refine m_fn (by assumption) ?_ | refine m_fnP ?_ rfl)
  | ((with_reducible apply g_nw); refine m_nw wr0 ?_) | ((with_reducible apply g_ownGet); refine m_ownGet wr0 ?_) | ((with_reducible apply g_ownIn); refine r_ownIn ?_)
  | ((with_reducible apply g_inS); first | refine r_inStrs rfl ?_ | refine r_inStrsT rfl ?_ | refine r_ninStrsT rfl ?_) | ((with_reducible apply g_len); first | refine c_lenL rfl ?_ | refine c_lenT rfl ?_ | refine c_lenD rfl ?_)
  | ((with_reducible apply g_list); first | refine c_listv (.inl rfl) ?_ | refine c_listv (.inr rfl) ?_) | ((with_reducible apply g_tupU); first | refine c_tupleL rfl ?_ | refine c_tupleT ?_) | ((with_reducible apply g_pr); refine m_pr ?_) | refine ⟨_, _, _, rfl, by walk_at "cl", by walk_at "pr", ?_⟩ | refine ⟨_, rfl, ?_⟩ | fail))
theorem at_eq (l : List Int) (i : Nat) : at_ l i = (l[i]?).getD 0 := by unfold at_; rw [List.getD_eq_getElem?_getD]
theorem at_out {l : List Int} {i : Nat} (h : l.length ≤ i) : at_ l i = 0 := by rw [at_eq, List.getElem?_eq_none h]; rfl
theorem at_mem {l : List Int} {i : Nat} (h : at_ l i ≠ 0) : at_ l i ∈ l := by
  rw [at_eq] at h ⊢
  cases e : l[i]? with
  | none => rw [e] at h; exact absurd rfl h
  | some x => exact List.mem_of_getElem? e
theorem at_le {l : List Int} {b : Nat} (h : ∀ x ∈ l, x.natAbs ≤ b) (i : Nat) : (at_ l i).natAbs ≤ b := by
  by_cases z : at_ l i = 0
  · rw [z]; exact Nat.zero_le _
  · exact h _ (at_mem z)
theorem mix_len {l h : List Int} {c : Nat} (e : l.length = h.length) : (mixL l h c).length = l.length := by
  unfold mixL
  rw [List.length_zipWith]; omega
theorem at_mix {l h : List Int} {c : Nat} (e : l.length = h.length) (i : Nat) : at_ (mixL l h c) i = at_ l i * at_ h c - at_ h i * at_ l c := by
  by_cases hi : i < l.length
  · have hi2 : i < h.length := by omega
    rw [at_eq (mixL l h c), at_eq l i, at_eq h i]
    unfold mixL
    rw [List.getElem?_zipWith, List.getElem?_eq_getElem hi, List.getElem?_eq_getElem hi2]
    rfl
  · have h1 : at_ (mixL l h c) i = 0 := at_out (by rw [mix_len e]; omega)
    have h2 : at_ l i = 0 := at_out (by omega)
    have h3 : at_ h i = 0 := at_out (by omega)
    rw [h1, h2, h3]
    simp
theorem at_map (l : List Int) (g : Int) (i : Nat) : at_ (l.map fun x => x / g) i = at_ l i / g := by
  rw [at_eq, at_eq, List.getElem?_map]
  cases l[i]? with
  | none => show (0 : Int) = 0 / g; rw [Int.zero_ediv]
  | some x => rfl
theorem at_drop (l : List Int) (w i : Nat) : at_ (l.drop w) i = at_ l (w + i) := by rw [at_eq, at_eq, List.getElem?_drop]
theorem gcd_fold : ∀ (xs : List Int) (g : Nat), (xs.foldl (fun g x => Nat.gcd g x.natAbs) g) ∣ g ∧ ∀ x ∈ xs, (xs.foldl (fun g x => Nat.gcd g x.natAbs) g) ∣ x.natAbs
  | [], g => ⟨Nat.dvd_refl _, fun x h => nomatch h⟩
  | y :: ys, g => by
    obtain ⟨h1, h2⟩ := gcd_fold ys (Nat.gcd g y.natAbs)
    refine ⟨Nat.dvd_trans h1 (Nat.gcd_dvd_left _ _), fun x hx => ?_⟩
    rcases List.mem_cons.mp hx with rfl | hx
    · exact Nat.dvd_trans h1 (Nat.gcd_dvd_right _ _)
    · exact h2 x hx
theorem gcd_dvd {xs : List Int} {x : Int} (h : x ∈ xs) : (gcdL xs : Int) ∣ x := by have := (gcd_fold xs 0).2 x h; exact Int.ofNat_dvd_left.mpr this
theorem gcd_at (xs : List Int) (i : Nat) : (gcdL xs : Int) ∣ at_ xs i := by
  by_cases z : at_ xs i = 0
  · rw [z]; exact Int.dvd_zero _
  · exact gcd_dvd (at_mem z)
theorem gcd_pos {xs : List Int} {i : Nat} (h : at_ xs i ≠ 0) : 0 < gcdL xs := Nat.pos_of_ne_zero fun e => by
  have := gcd_at xs i
  rw [e] at this
  exact h (Int.zero_dvd.mp this)
theorem gcd_le {xs : List Int} {b : Nat} (h : ∀ x ∈ xs, x.natAbs ≤ b) (hp : 0 < gcdL xs) : gcdL xs ≤ b := by
  by_cases hz : ∃ x ∈ xs, x ≠ 0
  · obtain ⟨x, hx, hx0⟩ := hz
    have := (gcd_fold xs 0).2 x hx
    exact Nat.le_trans (Nat.le_of_dvd (Nat.pos_of_ne_zero fun e => hx0 (Int.natAbs_eq_zero.mp e)) this) (h x hx)
  · exfalso
    have key : ∀ ys : List Int, (∀ x ∈ ys, x = 0) → ys.foldl (fun g x => Nat.gcd g x.natAbs) 0 = 0 := by
      intro ys hy
      induction ys with
      | nil => rfl
      | cons y ys ih =>
        rw [List.foldl_cons, hy y (List.mem_cons_self ..)]
        exact ih fun x hx => hy x (List.mem_cons_of_mem _ hx)
    have : gcdL xs = 0 := key xs fun x hx => Classical.byContradiction fun c => hz ⟨x, hx, c⟩
    omega
/-- l2 is made of l by the head h, so that its column c is 0 -/
def Comb (l2 l h : List Int) (c : Nat) : Prop := ∃ g s t : Int, 0 < g ∧ s ≠ 0 ∧ s * at_ l c = t * at_ h c ∧ (at_ l c = 0 → t = 0) ∧ ∀ i, g * at_ l2 i = s * at_ l i - t * at_ h i
theorem comb_mix {l h : List Int} {c : Nat} (e : l.length = h.length) (hc : at_ h c ≠ 0) : Comb (mixL l h c) l h c :=
  ⟨1, at_ h c, at_ l c, by decide, hc, Int.mul_comm _ _, fun z => z, fun i => by rw [at_mix e, Int.one_mul, Int.mul_comm (at_ h c), Int.mul_comm (at_ l c)]⟩
theorem comb_clr {l h : List Int} {c : Nat} (e : l.length = h.length) (hc : at_ h c ≠ 0) (hp : at_ l c ≠ 0 → 0 < gcdL (mixL l h c)) : Comb (clr l h c) l h c := by
  unfold clr
  by_cases z : at_ l c = 0
  · rw [if_pos z]
    exact ⟨1, 1, 0, by decide, by decide, by rw [z]; simp, fun _ => rfl, fun i => by simp⟩
  · rw [if_neg z]
    have hg := hp z
    refine ⟨(gcdL (mixL l h c) : Int), at_ h c, at_ l c, by omega, hc, Int.mul_comm _ _, fun y => absurd y z, fun i => ?_⟩
    rw [at_map, Int.mul_ediv_cancel' (gcd_at _ i), at_mix e, Int.mul_comm (at_ h c), Int.mul_comm (at_ l c)]
theorem clr_len {l h : List Int} {c : Nat} (e : l.length = h.length) : (clr l h c).length = l.length := by
  unfold clr
  split
  · rfl
  · rw [List.length_map, mix_len e]
theorem Comb.zero {l2 l h : List Int} {c i : Nat} (k : Comb l2 l h c) (h1 : at_ l i = 0) (h2 : at_ l c = 0 ∨ at_ h i = 0) : at_ l2 i = 0 := by
  obtain ⟨g, s, t, g0, s0, e, z, ea⟩ := k
  have := ea i
  rw [h1] at this
  rcases h2 with h2 | h2
  · rw [z h2] at this
    have : g * at_ l2 i = 0 := by rw [this]; simp
    rcases Int.mul_eq_zero.mp this with y | y
    · omega
    · exact y
  · rw [h2] at this
    have : g * at_ l2 i = 0 := by rw [this]; simp
    rcases Int.mul_eq_zero.mp this with y | y
    · omega
    · exact y
theorem Comb.col {l2 l h : List Int} {c : Nat} (k : Comb l2 l h c) : at_ l2 c = 0 := by
  obtain ⟨g, s, t, g0, s0, e, z, ea⟩ := k
  have := ea c
  rw [e, Int.sub_self] at this
  rcases Int.mul_eq_zero.mp this with y | y
  · omega
  · exact y
/-- columns in which the head is 0 are 0 or not as before -/
theorem Comb.iff {l2 l h : List Int} {c i : Nat} (k : Comb l2 l h c) (hi : at_ h i = 0) : at_ l2 i ≠ 0 ↔ at_ l i ≠ 0 := by
  obtain ⟨g, s, t, g0, s0, e, z, ea⟩ := k
  have q := ea i
  rw [hi, Int.mul_zero, Int.sub_zero] at q
  constructor
  · intro a b
    rw [b, Int.mul_zero] at q
    rcases Int.mul_eq_zero.mp q with y | y
    · omega
    · exact a y
  · intro a b
    rw [b, Int.mul_zero] at q
    rcases Int.mul_eq_zero.mp q.symm with y | y
    · exact s0 y
    · exact a y
def dotF (f : Nat → Int) : List (List Int) → Nat → Int
  | [], _ => 0
  | r :: rss, t => f 0 * at_ r t + dotF (fun i => f (i + 1)) rss t
theorem dot_comb {g s u : Int} : ∀ {rss : List (List Int)} {f2 f h : Nat → Int} {t : Nat}, (∀ i, g * f2 i = s * f i - u * h i) → g * dotF f2 rss t = s * dotF f rss t - u * dotF h rss t
  | [], _, _, _, _, _ => by simp [dotF]
  | r :: rss, f2, f, h, t, e => by
    have ih := dot_comb (g := g) (s := s) (u := u) (rss := rss) (f2 := fun i => f2 (i + 1)) (f := fun i => f (i + 1)) (h := fun i => h (i + 1)) (t := t) fun i => e (i + 1)
    have e0 := e 0
    simp only [dotF]
    grind
theorem dot_zero : ∀ {rss : List (List Int)} {f : Nat → Int} {t : Nat}, (∀ i, f i = 0) → dotF f rss t = 0
  | [], _, _, _ => rfl
  | r :: rss, f, t, e => by
    simp only [dotF]
    rw [e 0, dot_zero fun i => e (i + 1)]
    simp
theorem dot_one : ∀ {rss : List (List Int)} {k : Nat} {r : List Int} {f : Nat → Int} {t : Nat}, rss[k]? = some r → (∀ i, f i = if k = i then 1 else 0) → dotF f rss t = at_ r t
  | [], _, _, _, _, h, _ => nomatch h
  | r0 :: rss, 0, r, f, t, h, e => by
    cases h
    simp only [dotF]
    rw [e 0, dot_zero fun i => by rw [e (i + 1), if_neg (by omega)]]
    simp
  | r0 :: rss, k + 1, r, f, t, h, e => by
    simp only [dotF]
    rw [e 0, if_neg (by omega), dot_one (k := k) (r := r) (show rss[k]? = some r from h) fun i => by
      rw [e (i + 1)]
      by_cases z : k = i
      · rw [if_pos z, if_pos (by omega)]
      · rw [if_neg z, if_neg (by omega)]]
    simp
theorem dot_list : ∀ {rss : List (List Int)} {ws : List Int} {t : Nat}, ws.length = rss.length → dotL ws rss t = dotF (at_ ws) rss t
  | [], [], _, _ => rfl
  | r :: rss, x :: ws, t, h => by
    have ih := dot_list (rss := rss) (ws := ws) (t := t) (by simpa using h)
    unfold dotL at ih ⊢
    rw [List.zipWith_cons_cons, List.sum_cons, ih]
    rfl
end K44
namespace K44
open PySem PySem.Spec PyProof.Rows L2 He SJ
open LamX (CodeO lamS_by Tabs tLam)
local macro_rules | `(tactic| walk_at "mr") => `(tactic| repeat' (first
  | with_reducible apply ms_seq | with_reducible apply ms_if | with_reducible apply ms_ret | with_reducible apply ms_next | with_reducible apply s_asg
  | ((with_reducible apply g_var); first | refine m_var rfl ?_ | refine m_varS rfl ?_)
  | with_reducible apply m_cI | with_reducible apply m_cS | with_reducible apply m_cB | with_reducible apply m_cN | with_reducible apply m_cC | with_reducible apply m_cT
  | with_reducible apply m_op | with_reducible apply m_cb | with_reducible apply m_nil | with_reducible apply m_cons | with_reducible apply m_test | with_reducible apply m_B | with_reducible apply q_bl
  | with_reducible apply m_and | with_reducible apply m_or | with_reducible apply m_not | with_reducible apply m_andV | with_reducible apply m_orV | with_reducible apply m_notV | with_reducible apply m_ife | with_reducible apply m_chain
  | with_reducible apply q_v | ((with_reducible apply g_slot); refine q_own rfl ?_) | with_reducible apply q_n | with_reducible apply q_c | with_reducible apply q_t | with_reducible apply q_f | with_reducible apply m_yes
  | with_reducible apply r_addI | with_reducible apply r_subI | with_reducible apply r_eqI | with_reducible apply r_neI | with_reducible apply r_eqS | with_reducible apply r_neS | with_reducible apply r_ltI | with_reducible apply r_leI | with_reducible apply r_gtI | with_reducible apply r_geI
  | with_reducible apply r_isN | with_reducible apply r_isnN | with_reducible apply c_intI | with_reducible apply c_intB | with_reducible apply v_lst | with_reducible apply m_tup | ((with_reducible apply g_le); refine ⟨Nat.le_of_ble_eq_true rfl, ?_⟩) | with_reducible apply v_sl | with_reducible apply v_dnew
  | ((with_reducible apply g_dget); refine m_dget ?_) | refine get_str rfl rfl ?_
  | with_reducible apply m_fld | with_reducible apply m_con | refine ⟨_, _, _, rfl, by walk_at "fd", rfl, ?_⟩
  | ((with_reducible apply g_fn); first | refine m_fn wr0 ?_ | refine m_fn (by assumption) ?_ | refine m_fnP ?_ rfl)
  | ((with_reducible apply g_nw); refine m_nw wr0 ?_) | ((with_reducible apply g_ownGet); refine m_ownGet wr0 ?_) | ((with_reducible apply g_ownIn); refine r_ownIn ?_)
  | ((with_reducible apply g_inS); first | refine r_inStrs rfl ?_ | refine r_inStrsT rfl ?_ | refine r_ninStrsT rfl ?_) | ((with_reducible apply g_len); first | refine c_lenL rfl ?_ | refine c_lenT rfl ?_ | refine c_lenD rfl ?_)
  | ((with_reducible apply g_list); first | refine c_listv (.inl rfl) ?_ | refine c_listv (.inr rfl) ?_) | ((with_reducible apply g_tupU); first | refine c_tupleL rfl ?_ | refine c_tupleT ?_) | ((with_reducible apply g_pr); refine m_pr ?_) | refine ⟨_, _, _, rfl, by walk_at "cl", by walk_at "pr", ?_⟩ | refine ⟨_, rfl, ?_⟩ | fail))
local macro_rules | `(tactic| walk_at "me") => `(tactic| repeat' (first
  | ((with_reducible apply g_var); first | refine m_var rfl ?_ | refine m_varS rfl ?_)
  | with_reducible apply m_cI | with_reducible apply m_cS | with_reducible apply m_cB | with_reducible apply m_cN | with_reducible apply m_cC | with_reducible apply m_cT
  | with_reducible apply m_op | with_reducible apply m_cb | with_reducible apply m_nil | with_reducible apply m_cons | with_reducible apply m_test | with_reducible apply m_B | with_reducible apply q_bl
  | with_reducible apply m_and | with_reducible apply m_or | with_reducible apply m_not | with_reducible apply m_andV | with_reducible apply m_orV | with_reducible apply m_notV | with_reducible apply m_ife | with_reducible apply m_chain
  | with_reducible apply q_v | ((with_reducible apply g_slot); refine q_own rfl ?_) | with_reducible apply q_n | with_reducible apply q_c | with_reducible apply q_t | with_reducible apply q_f | with_reducible apply m_yes
  | with_reducible apply r_addI | with_reducible apply r_subI | with_reducible apply r_eqI | with_reducible apply r_neI | with_reducible apply r_eqS | with_reducible apply r_neS | with_reducible apply r_ltI | with_reducible apply r_leI | with_reducible apply r_gtI | with_reducible apply r_geI
  | with_reducible apply r_isN | with_reducible apply r_isnN | with_reducible apply c_intI | with_reducible apply c_intB | with_reducible apply v_lst | with_reducible apply m_tup | ((with_reducible apply g_le); refine ⟨Nat.le_of_ble_eq_true rfl, ?_⟩) | with_reducible apply v_sl | with_reducible apply v_dnew
  | ((with_reducible apply g_dget); refine m_dget ?_) | refine get_str rfl rfl ?_
  | with_reducible apply m_fld | with_reducible apply m_con | refine ⟨_, _, _, rfl, by walk_at "fd", rfl, ?_⟩
  | ((with_reducible apply g_fn); first | refine m_fn wr0 ?_ | refine m_fn (by assumption) ?_ | refine m_fnP ?_ rfl)
  | ((with_reducible apply g_nw); refine m_nw wr0 ?_) | ((with_reducible apply g_ownGet); refine m_ownGet wr0 ?_) | ((with_reducible apply g_ownIn); refine r_ownIn ?_)
  | ((with_reducible apply g_inS); first | refine r_inStrs rfl ?_ | refine r_inStrsT rfl ?_ | refine r_ninStrsT rfl ?_) | ((with_reducible apply g_len); first | refine c_lenL rfl ?_ | refine c_lenT rfl ?_ | refine c_lenD rfl ?_)
  | ((with_reducible apply g_list); first | refine c_listv (.inl rfl) ?_ | refine c_listv (.inr rfl) ?_) | ((with_reducible apply g_tupU); first | refine c_tupleL rfl ?_ | refine c_tupleT ?_) | ((with_reducible apply g_pr); refine m_pr ?_) | refine ⟨_, _, _, rfl, by walk_at "cl", by walk_at "pr", ?_⟩ | refine ⟨_, rfl, ?_⟩ | fail))
structure St where
  p : List Int
  l : List Int
  k : Nat
def Prop2 (w : Nat) (a b : List Int) : Prop := ∃ x y : Int, x ≠ 0 ∧ y ≠ 0 ∧ ∀ t, t < w → x * at_ a t = y * at_ b t
theorem Prop2.refl (w : Nat) (a : List Int) : Prop2 w a a := ⟨1, 1, by decide, by decide, fun t _ => rfl⟩
theorem Prop2.zero {w : Nat} {a b : List Int} (h : Prop2 w a b) {t : Nat} (ht : t < w) : at_ a t ≠ 0 ↔ at_ b t ≠ 0 := by
  obtain ⟨x, y, hx, hy, e⟩ := h
  have := e t ht
  constructor
  · intro h1 h2
    rw [h2, Int.mul_zero] at this
    rcases Int.mul_eq_zero.mp this with z | z
    · exact hx z
    · exact h1 z
  · intro h1 h2
    rw [h2, Int.mul_zero] at this
    rcases Int.mul_eq_zero.mp this.symm with z | z
    · exact hy z
    · exact h1 z
theorem ne_mul {a b : Int} (h1 : a ≠ 0) (h2 : b ≠ 0) : a * b ≠ 0 := fun z => by
  rcases Int.mul_eq_zero.mp z with z | z
  · exact h1 z
  · exact h2 z
theorem comb_M {l2 l h : List Int} {c : Nat} (k : Comb l2 l h c) (hc : at_ h c ≠ 0) : ∃ A B : Int, A ≠ 0 ∧ B ≠ 0 ∧ ∀ t, A * at_ l2 t = B * (at_ l t * at_ h c - at_ h t * at_ l c) := by
  obtain ⟨g, s, u, g0, s0, e, z, ea⟩ := k
  refine ⟨at_ h c * g, s, ne_mul hc (by omega), s0, fun t => ?_⟩
  have := ea t
  grind
theorem prop_step {w c : Nat} {p2 p hp l2 l hl : List Int} (k1 : Comb p2 p hp c) (k2 : Comb l2 l hl c) (c1 : at_ hp c ≠ 0) (c2 : at_ hl c ≠ 0) (hc : c < w) (e1 : Prop2 w p l) (e2 : Prop2 w hp hl) : Prop2 w p2 l2 := by
  obtain ⟨A, B, A0, B0, ea⟩ := comb_M k1 c1
  obtain ⟨A2, B2, A20, B20, ea2⟩ := comb_M k2 c2
  obtain ⟨x, y, x0, y0, ex⟩ := e1
  obtain ⟨x2, y2, x20, y20, ex2⟩ := e2
  refine ⟨A * B2 * x * x2, A2 * B * y * y2, ne_mul (ne_mul (ne_mul A0 B20) x0) x20, ne_mul (ne_mul (ne_mul A20 B0) y0) y20, fun t ht => ?_⟩
  have h1 := ea t
  have h2 := ea2 t
  have h3 := ex t ht
  have h4 := ex c hc
  have h5 := ex2 t ht
  have h6 := ex2 c hc
  have m : x * x2 * (at_ p t * at_ hp c - at_ hp t * at_ p c) = y * y2 * (at_ l t * at_ hl c - at_ hl t * at_ l c) := by grind
  calc A * B2 * x * x2 * at_ p2 t = B2 * (x * x2) * (A * at_ p2 t) := by grind
    _ = B2 * B * (x * x2 * (at_ p t * at_ hp c - at_ hp t * at_ p c)) := by rw [h1]; grind
    _ = B2 * B * (y * y2 * (at_ l t * at_ hl c - at_ hl t * at_ l c)) := by rw [m]
    _ = B * (y * y2) * (A2 * at_ l2 t) := by rw [h2]; grind
    _ = A2 * B * y * y2 * at_ l2 t := by grind
def top_ (q : Nat) : Nat := 2 ^ (2 ^ (q - 1) - 1)
def Bd (q : Nat) (l : List Int) : Prop := (q = 0 → ∀ x ∈ l, x = 0 ∨ x = 1) ∧ ∀ x ∈ l, x.natAbs ≤ top_ q
theorem top_step (q : Nat) (h : 1 ≤ q) : 2 * (top_ q * top_ q) = top_ (q + 1) := by
  unfold top_
  obtain ⟨m, rfl⟩ : ∃ m, q = m + 1 := ⟨q - 1, by omega⟩
  rw [Nat.add_sub_cancel, Nat.add_sub_cancel, ← Nat.pow_add, Nat.pow_succ 2 m]
  have : 0 < 2 ^ m := Nat.two_pow_pos m
  have e : 2 ^ m * 2 - 1 = (2 ^ m - 1 + (2 ^ m - 1)) + 1 := by omega
  rw [e, Nat.pow_succ]
  omega
theorem top_mono {q r : Nat} (h : q ≤ r) : top_ q ≤ top_ r := by
  unfold top_
  have h2 : (2 : Nat) ^ (q - 1) ≤ 2 ^ (r - 1) := Nat.pow_le_pow_right (by decide) (by omega)
  exact Nat.pow_le_pow_right (by decide) (by omega)
theorem natAbs_sub_le {a b : Int} {m n : Nat} (h1 : a.natAbs ≤ m) (h2 : b.natAbs ≤ n) : (a - b).natAbs ≤ m + n := by omega
theorem mix_mem {l h : List Int} {c : Nat} {x : Int} (hx : x ∈ mixL l h c) : ∃ a ∈ l, ∃ b ∈ h, x = a * at_ h c - b * at_ l c := by
  unfold mixL at hx
  obtain ⟨i, hi⟩ := List.getElem?_of_mem hx
  rw [List.getElem?_zipWith] at hi
  cases e1 : l[i]? with
  | none => rw [e1] at hi; cases hi
  | some a =>
    cases e2 : h[i]? with
    | none => rw [e1, e2] at hi; cases hi
    | some b =>
      rw [e1, e2] at hi
      cases hi
      exact ⟨a, List.mem_of_getElem? e1, b, List.mem_of_getElem? e2, rfl⟩
theorem bit_at {l : List Int} (h : ∀ x ∈ l, x = 0 ∨ x = 1) (i : Nat) : at_ l i = 0 ∨ at_ l i = 1 := by
  by_cases z : at_ l i = 0
  · exact .inl z
  · exact h _ (at_mem z)
theorem bd_mix {l h : List Int} {c q : Nat} (h1 : Bd q l) (h2 : Bd q h) : Bd (q + 1) (mixL l h c) := by
  refine ⟨fun z => absurd z (by omega), fun x hx => ?_⟩
  obtain ⟨a, ha, b, hb, rfl⟩ := mix_mem hx
  by_cases hq : q = 0
  · have e : top_ (q + 1) = 1 := by rw [hq]; rfl
    rw [e]
    rcases h1.1 hq a ha with rfl | rfl <;> rcases h2.1 hq b hb with rfl | rfl <;> rcases bit_at (h1.1 hq) c with e1 | e1 <;> rcases bit_at (h2.1 hq) c with e2 | e2 <;> rw [e1, e2] <;> decide
  · rw [← top_step q (by omega), Nat.two_mul]
    refine natAbs_sub_le ?_ ?_
    · rw [Int.natAbs_mul]; exact Nat.mul_le_mul (h1.2 a ha) (at_le h2.2 c)
    · rw [Int.natAbs_mul]; exact Nat.mul_le_mul (h2.2 b hb) (at_le h1.2 c)
theorem bd_clr {l h : List Int} {c q : Nat} (h1 : Bd q l) (h2 : Bd q h) (hp : at_ l c ≠ 0 → 0 < gcdL (mixL l h c)) : Bd (q + 1) (clr l h c) := by
  unfold clr
  split
  · exact ⟨fun z => absurd z (by omega), fun x hx => Nat.le_trans (h1.2 x hx) (top_mono (by omega))⟩
  · rename_i hz
    refine ⟨fun z => absurd z (by omega), fun x hx => ?_⟩
    obtain ⟨y, hy, rfl⟩ := List.mem_map.mp hx
    refine Nat.le_trans ?_ ((bd_mix (c := c) h1 h2).2 y hy)
    have hg := hp hz
    have e : (gcdL (mixL l h c) : Int) * (y / (gcdL (mixL l h c) : Int)) = y := Int.mul_ediv_cancel' (gcd_dvd hy)
    have e2 := congrArg Int.natAbs e
    rw [Int.natAbs_mul, Int.natAbs_natCast] at e2
    rw [← e2]
    exact Nat.le_mul_of_pos_left _ hg
structure Inv (w : Nat) (rss : List (List Int)) (cls : Nat → Nat) (c : Nat) (us : List Nat) (ts : List St) : Prop where
  cnt : ts.length + us.length = rss.length
  nd : (ts.map (·.k)).Nodup
  kr : ∀ s ∈ ts, s.k < rss.length
  pl : ∀ s ∈ ts, s.p.length = w + rss.length
  ll : ∀ s ∈ ts, s.l.length = w
  pv : ∀ s ∈ ts, ∀ u ∈ ts, (at_ s.p (w + u.k) ≠ 0 ↔ s.k = u.k)
  li : ∀ s ∈ ts, ∀ t, t < w → at_ s.p t = dotF (fun k => at_ s.p (w + k)) rss t
  ze : ∀ s ∈ ts, ∀ t, t < c → at_ s.p t = 0
  pr : ∀ s ∈ ts, Prop2 w s.p s.l
  un : us.Nodup
  uc : us.length ≤ c
  ur : ∀ u ∈ us, ∃ k, u = cls k
  sa : ∀ s ∈ ts, ∀ u ∈ ts, cls s.k = cls u.k → Prop2 w s.p u.p
  de : ∀ s ∈ ts, cls s.k ∈ us → ∀ t, t < w → at_ s.p t = 0
  bp : ∀ s ∈ ts, Bd us.length s.p
  bl : ∀ s ∈ ts, Bd us.length s.l
theorem find_congr {α : Type} {P Q : α → Bool} : ∀ {l : List α}, (∀ x ∈ l, P x = Q x) → l.findIdx? P = l.findIdx? Q
  | [], _ => rfl
  | x :: l, h => by
    rw [List.findIdx?_cons, List.findIdx?_cons, h x (List.mem_cons_self ..), find_congr fun y hy => h y (List.mem_cons_of_mem _ hy)]
theorem map_erase {α β : Type} (f : α → β) : ∀ (l : List α) (i : Nat), (l.map f).eraseIdx i = (l.eraseIdx i).map f
  | [], _ => rfl
  | x :: l, 0 => rfl
  | x :: l, i + 1 => by
    show f x :: (l.map f).eraseIdx i = f x :: (l.eraseIdx i).map f
    rw [map_erase f l i]
theorem erase_mem {ts : List St} {i : Nat} {h s : St} (hi : ts[i]? = some h) (nd : (ts.map (·.k)).Nodup) (hs : s ∈ ts.eraseIdx i) : s ∈ ts ∧ s.k ≠ h.k := by
  induction ts generalizing i with
  | nil => cases hi
  | cons a ts ih =>
    rw [List.map_cons] at nd
    obtain ⟨n1, n2⟩ := List.nodup_cons.mp nd
    cases i with
    | zero =>
      cases hi
      exact ⟨List.mem_cons_of_mem _ hs, fun e => n1 (by rw [← e]; exact List.mem_map.mpr ⟨s, hs, rfl⟩)⟩
    | succ i =>
      have hi : ts[i]? = some h := hi
      rcases List.mem_cons.mp (show s ∈ a :: ts.eraseIdx i from hs) with rfl | hs
      · exact ⟨List.mem_cons_self .., fun e => n1 (by rw [e]; exact List.mem_map.mpr ⟨h, List.mem_of_getElem? hi, rfl⟩)⟩
      · obtain ⟨h1, h2⟩ := ih hi n2 hs
        exact ⟨List.mem_cons_of_mem _ h1, h2⟩
theorem inv_pos {w : Nat} {rss : List (List Int)} {cls : Nat → Nat} {c : Nat} {us : List Nat} {ts : List St} (I : Inv w rss cls c us ts) {i : Nat} {h : List Int} (hp : pivI c (ts.map (·.p)) = some i) (hi : (ts.map (·.p))[i]? = some h) : ∀ l ∈ (ts.map (·.p)).eraseIdx i, at_ l c ≠ 0 → 0 < gcdL (mixL l h c) := fun l hl hz => by
  rw [map_erase] at hl
  obtain ⟨s, hs, rfl⟩ := List.mem_map.mp hl
  rw [List.getElem?_map] at hi
  obtain ⟨t, ht, rfl⟩ := Option.map_eq_some_iff.mp hi
  obtain ⟨h1, h2⟩ := erase_mem ht I.nd hs
  have hh := List.mem_of_getElem? ht
  obtain ⟨q1, q2, _⟩ := List.findIdx?_eq_some_iff_getElem.mp hp
  have hpc : at_ t.p c ≠ 0 := by
    have e : (ts.map (·.p))[i] = t.p := by
      have := List.getElem?_eq_getElem q1
      rw [List.getElem?_map, ht] at this
      exact (Option.some.inj this).symm
    rw [e] at q2
    exact of_decide_eq_true q2
  have hz2 : at_ t.p (w + s.k) = 0 := Classical.byContradiction fun n => h2 (((I.pv t hh s h1).mp n).symm)
  refine gcd_pos (i := w + s.k) ?_
  rw [at_mix (by rw [I.pl s h1, I.pl t hh]), hz2, Int.zero_mul, Int.sub_zero]
  exact ne_mul ((I.pv s h1 s h1).mpr rfl) hpc
theorem inv_step {w : Nat} {rss : List (List Int)} {cls : Nat → Nat} {c : Nat} {us : List Nat} {ts : List St} (I : Inv w rss cls c us ts) (hc : c < w) :
    ∃ us2 ts2, Inv w rss cls (c + 1) us2 ts2 ∧ stepG clr c (ts.map (·.p)) = ts2.map (·.p) ∧ stepG mixL c (ts.map (·.l)) = ts2.map (·.l) := by
  have e1 : pivI c (ts.map (·.p)) = ts.findIdx? fun s => decide (at_ s.p c ≠ 0) := by unfold pivI; rw [List.findIdx?_map]; rfl
  have e2 : pivI c (ts.map (·.l)) = ts.findIdx? fun s => decide (at_ s.p c ≠ 0) := by
    unfold pivI
    rw [List.findIdx?_map]
    exact find_congr fun s hs => decide_eq_decide.mpr ((I.pr s hs).zero hc).symm
  cases ef : ts.findIdx? fun s => decide (at_ s.p c ≠ 0) with
  | none =>
    refine ⟨us, ts, { I with ze := fun s hs t ht => ?_, uc := Nat.le_succ_of_le I.uc }, ?_, ?_⟩
    · by_cases z : t = c
      · subst z
        have := List.findIdx?_eq_none_iff.mp ef s hs
        exact Classical.byContradiction fun n => by rw [decide_eq_true n] at this; cases this
      · exact I.ze s hs t (by omega)
    · unfold stepG; rw [e1, ef]
    · unfold stepG; rw [e2, ef]
  | some i =>
    obtain ⟨hi, hP, _⟩ := List.findIdx?_eq_some_iff_getElem.mp ef
    obtain ⟨h, eh⟩ : ∃ h, ts[i]? = some h := ⟨_, List.getElem?_eq_getElem hi⟩
    have hh := List.mem_of_getElem? eh
    have hg : ts[i] = h := by rw [List.getElem?_eq_getElem hi] at eh; exact Option.some.inj eh
    rw [hg] at hP
    have hpc : at_ h.p c ≠ 0 := of_decide_eq_true hP
    have hlc : at_ h.l c ≠ 0 := ((I.pr h hh).zero hc).mp hpc
    have mem : ∀ s ∈ ts.eraseIdx i, s ∈ ts ∧ s.k ≠ h.k := fun s hs => erase_mem eh I.nd hs
    have hz : ∀ s ∈ ts.eraseIdx i, at_ h.p (w + s.k) = 0 := fun s hs => Classical.byContradiction fun n => (mem s hs).2 (((I.pv h hh s (mem s hs).1).mp n).symm)
    have el : ∀ s ∈ ts.eraseIdx i, s.p.length = h.p.length := fun s hs => by rw [I.pl s (mem s hs).1, I.pl h hh]
    have ell : ∀ s ∈ ts.eraseIdx i, s.l.length = h.l.length := fun s hs => by rw [I.ll s (mem s hs).1, I.ll h hh]
    have hp : ∀ s ∈ ts.eraseIdx i, at_ s.p c ≠ 0 → 0 < gcdL (mixL s.p h.p c) := fun s hs _ => gcd_pos (i := w + s.k) (by
      rw [at_mix (el s hs), hz s hs, Int.zero_mul, Int.sub_zero]
      exact ne_mul ((I.pv s (mem s hs).1 s (mem s hs).1).mpr rfl) hpc)
    have K : ∀ s ∈ ts.eraseIdx i, Comb (clr s.p h.p c) s.p h.p c := fun s hs => comb_clr (el s hs) hpc (hp s hs)
    have KL : ∀ s ∈ ts.eraseIdx i, Comb (mixL s.l h.l c) s.l h.l c := fun s hs => comb_mix (ell s hs) hlc
    refine ⟨cls h.k :: us, (ts.eraseIdx i).map fun s => ⟨clr s.p h.p c, mixL s.l h.l c, s.k⟩, ⟨?_, ?_, ?_, ?_, ?_, ?_, ?_, ?_, ?_, ?_, ?_, ?_, ?_, ?_, ?_, ?_⟩, ?_, ?_⟩
    · have := I.cnt
      rw [List.length_map, List.length_eraseIdx, if_pos hi, List.length_cons]
      omega
    · rw [List.map_map]
      have : ((ts.eraseIdx i).map (·.k)).Sublist (ts.map (·.k)) := (List.eraseIdx_sublist ts i).map _
      exact I.nd.sublist this
    · intro s2 h2
      obtain ⟨s, hs, rfl⟩ := List.mem_map.mp h2
      exact I.kr s (mem s hs).1
    · intro s2 h2
      obtain ⟨s, hs, rfl⟩ := List.mem_map.mp h2
      show (clr s.p h.p c).length = _
      rw [clr_len (el s hs)]
      exact I.pl s (mem s hs).1
    · intro s2 h2
      obtain ⟨s, hs, rfl⟩ := List.mem_map.mp h2
      show (mixL s.l h.l c).length = _
      rw [mix_len (ell s hs)]
      exact I.ll s (mem s hs).1
    · intro s2 h2 u2 g2
      obtain ⟨s, hs, rfl⟩ := List.mem_map.mp h2
      obtain ⟨u, hu, rfl⟩ := List.mem_map.mp g2
      exact ((K s hs).iff (hz u hu)).trans (I.pv s (mem s hs).1 u (mem u hu).1)
    · intro s2 h2 t ht
      obtain ⟨s, hs, rfl⟩ := List.mem_map.mp h2
      show at_ (clr s.p h.p c) t = dotF (fun k => at_ (clr s.p h.p c) (w + k)) rss t
      obtain ⟨g, x, y, g0, s0, e, z, ea⟩ := K s hs
      have d := dot_comb (g := g) (s := x) (u := y) (rss := rss) (f2 := fun k => at_ (clr s.p h.p c) (w + k)) (f := fun k => at_ s.p (w + k)) (h := fun k => at_ h.p (w + k)) (t := t) fun k => ea (w + k)
      rw [← I.li s (mem s hs).1 t ht, ← I.li h hh t ht, ← ea t] at d
      exact (Int.eq_of_mul_eq_mul_left (by omega) d).symm
    · intro s2 h2 t ht
      obtain ⟨s, hs, rfl⟩ := List.mem_map.mp h2
      by_cases z : t = c
      · rw [z]; exact (K s hs).col
      · exact (K s hs).zero (I.ze s (mem s hs).1 t (by omega)) (.inr (I.ze h hh t (by omega)))
    · intro s2 h2
      obtain ⟨s, hs, rfl⟩ := List.mem_map.mp h2
      exact prop_step (K s hs) (KL s hs) hpc hlc hc (I.pr s (mem s hs).1) (I.pr h hh)
    · exact List.nodup_cons.mpr ⟨fun m => hpc (I.de h hh m c hc), I.un⟩
    · have := I.uc
      rw [List.length_cons]; omega
    · intro u hu
      rcases List.mem_cons.mp hu with rfl | hu
      · exact ⟨_, rfl⟩
      · exact I.ur u hu
    · intro s2 h2 u2 g2 ec
      obtain ⟨s, hs, rfl⟩ := List.mem_map.mp h2
      obtain ⟨u, hu, rfl⟩ := List.mem_map.mp g2
      exact prop_step (K s hs) (K u hu) hpc hpc hc (I.sa s (mem s hs).1 u (mem u hu).1 ec) (Prop2.refl w h.p)
    · intro s2 h2 hm t ht
      obtain ⟨s, hs, rfl⟩ := List.mem_map.mp h2
      rcases List.mem_cons.mp hm with hm | hm
      · obtain ⟨A, B, A0, B0, ea⟩ := comb_M (K s hs) hpc
        obtain ⟨x, y, x0, y0, ex⟩ := I.sa s (mem s hs).1 h hh hm
        have h1 := ex t ht
        have h2 := ex c hc
        have m : x * (at_ s.p t * at_ h.p c - at_ h.p t * at_ s.p c) = 0 := by grind
        have m2 : at_ s.p t * at_ h.p c - at_ h.p t * at_ s.p c = 0 := by
          rcases Int.mul_eq_zero.mp m with z | z
          · exact absurd z x0
          · exact z
        have h3 := ea t
        rw [m2, Int.mul_zero] at h3
        rcases Int.mul_eq_zero.mp h3 with z | z
        · exact absurd z A0
        · exact z
      · have d := I.de s (mem s hs).1 hm
        exact (K s hs).zero (d t ht) (.inl (d c hc))
    · intro s2 h2
      obtain ⟨s, hs, rfl⟩ := List.mem_map.mp h2
      exact bd_clr (I.bp s (mem s hs).1) (I.bp h hh) (hp s hs)
    · intro s2 h2
      obtain ⟨s, hs, rfl⟩ := List.mem_map.mp h2
      exact bd_mix (I.bl s (mem s hs).1) (I.bl h hh)
    · unfold stepG
      rw [e1, ef]
      show ((ts.map (·.p)).eraseIdx i).map _ = _
      rw [map_erase, List.map_map, List.map_map, List.getD_eq_getElem?_getD, List.getElem?_map, eh]
      rfl
    · unfold stepG
      rw [e2, ef]
      show ((ts.map (·.l)).eraseIdx i).map _ = _
      rw [map_erase, List.map_map, List.map_map, List.getD_eq_getElem?_getD, List.getElem?_map, eh]
      rfl
end K44
namespace K44
open PySem PySem.Spec PyProof.Rows L2 He SJ
open LamX (CodeO lamS_by Tabs tLam)
local macro_rules | `(tactic| walk_at "mr") => `(tactic| repeat' (first
  | with_reducible apply ms_seq | with_reducible apply ms_if | with_reducible apply ms_ret | with_reducible apply ms_next | with_reducible apply s_asg
  | ((with_reducible apply g_var); first | refine m_var rfl ?_ | refine m_varS rfl ?_)
  | with_reducible apply m_cI | with_reducible apply m_cS | with_reducible apply m_cB | with_reducible apply m_cN | with_reducible apply m_cC | with_reducible apply m_cT
  | with_reducible apply m_op | with_reducible apply m_cb | with_reducible apply m_nil | with_reducible apply m_cons | with_reducible apply m_test | with_reducible apply m_B | with_reducible apply q_bl
  | with_reducible apply m_and | with_reducible apply m_or | with_reducible apply m_not | with_reducible apply m_andV | with_reducible apply m_orV | with_reducible apply m_notV | with_reducible apply m_ife | with_reducible apply m_chain
  | with_reducible apply q_v | ((with_reducible apply g_slot); refine q_own rfl ?_) | with_reducible apply q_n | with_reducible apply q_c | with_reducible apply q_t | with_reducible apply q_f | with_reducible apply m_yes
  | with_reducible apply r_addI | with_reducible apply r_subI | with_reducible apply r_eqI | with_reducible apply r_neI | with_reducible apply r_eqS | with_reducible apply r_neS | with_reducible apply r_ltI | with_reducible apply r_leI | with_reducible apply r_gtI | with_reducible apply r_geI
  | with_reducible apply r_isN | with_reducible apply r_isnN | with_reducible apply c_intI | with_reducible apply c_intB | with_reducible apply v_lst | with_reducible apply m_tup | ((with_reducible apply g_le); refine ⟨Nat.le_of_ble_eq_true rfl, ?_⟩) | with_reducible apply v_sl | with_reducible apply v_dnew
  | ((with_reducible apply g_dget); refine m_dget ?_) | refine get_str rfl rfl ?_
  | with_reducible apply m_fld | with_reducible apply m_con | refine ⟨_, _, _, rfl, by walk_at "fd", rfl, ?_⟩
  | ((with_reducible apply g_fn); first | refine m_fn wr0 ?_ | refine m_fn (by assumption) ?_ | refine m_fnP ?_ rfl)
  | ((with_reducible apply g_nw); refine m_nw wr0 ?_) | ((with_reducible apply g_ownGet); refine m_ownGet wr0 ?_) | ((with_reducible apply g_ownIn); refine r_ownIn ?_)
  | ((with_reducible apply g_inS); first | refine r_inStrs rfl ?_ | refine r_inStrsT rfl ?_ | refine r_ninStrsT rfl ?_) | ((with_reducible apply g_len); first | refine c_lenL rfl ?_ | refine c_lenT rfl ?_ | refine c_lenD rfl ?_)
  | ((with_reducible apply g_list); first | refine c_listv (.inl rfl) ?_ | refine c_listv (.inr rfl) ?_) | ((with_reducible apply g_tupU); first | refine c_tupleL rfl ?_ | refine c_tupleT ?_) | ((with_reducible apply g_pr); refine m_pr ?_) | refine ⟨_, _, _, rfl, by walk_at "cl", by walk_at "pr", ?_⟩ | refine ⟨_, rfl, ?_⟩ | fail))
local macro_rules | `(tactic| walk_at "me") => `(tactic| repeat' (first
  | ((with_reducible apply g_var); first | refine m_var rfl ?_ | refine m_varS rfl ?_)
  | with_reducible apply m_cI | with_reducible apply m_cS | with_reducible apply m_cB | with_reducible apply m_cN | with_reducible apply m_cC | with_reducible apply m_cT
  | with_reducible apply m_op | with_reducible apply m_cb | with_reducible apply m_nil | with_reducible apply m_cons | with_reducible apply m_test | with_reducible apply m_B | with_reducible apply q_bl
  | with_reducible apply m_and | with_reducible apply m_or | with_reducible apply m_not | with_reducible apply m_andV | with_reducible apply m_orV | with_reducible apply m_notV | with_reducible apply m_ife | with_reducible apply m_chain
  | with_reducible apply q_v | ((with_reducible apply g_slot); refine q_own rfl ?_) | with_reducible apply q_n | with_reducible apply q_c | with_reducible apply q_t | with_reducible apply q_f | with_reducible apply m_yes
  | with_reducible apply r_addI | with_reducible apply r_subI | with_reducible apply r_eqI | with_reducible apply r_neI | with_reducible apply r_eqS | with_reducible apply r_neS | with_reducible apply r_ltI | with_reducible apply r_leI | with_reducible apply r_gtI | with_reducible apply r_geI
  | with_reducible apply r_isN | with_reducible apply r_isnN | with_reducible apply c_intI | with_reducible apply c_intB | with_reducible apply v_lst | with_reducible apply m_tup | ((with_reducible apply g_le); refine ⟨Nat.le_of_ble_eq_true rfl, ?_⟩) | with_reducible apply v_sl | with_reducible apply v_dnew
  | ((with_reducible apply g_dget); refine m_dget ?_) | refine get_str rfl rfl ?_
  | with_reducible apply m_fld | with_reducible apply m_con | refine ⟨_, _, _, rfl, by walk_at "fd", rfl, ?_⟩
  | ((with_reducible apply g_fn); first | refine m_fn wr0 ?_ | refine m_fn (by assumption) ?_ | refine m_fnP ?_ rfl)
  | ((with_reducible apply g_nw); refine m_nw wr0 ?_) | ((with_reducible apply g_ownGet); refine m_ownGet wr0 ?_) | ((with_reducible apply g_ownIn); refine r_ownIn ?_)
  | ((with_reducible apply g_inS); first | refine r_inStrs rfl ?_ | refine r_inStrsT rfl ?_ | refine r_ninStrsT rfl ?_) | ((with_reducible apply g_len); first | refine c_lenL rfl ?_ | refine c_lenT rfl ?_ | refine c_lenD rfl ?_)
  | ((with_reducible apply g_list); first | refine c_listv (.inl rfl) ?_ | refine c_listv (.inr rfl) ?_) | ((with_reducible apply g_tupU); first | refine c_tupleL rfl ?_ | refine c_tupleT ?_) | ((with_reducible apply g_pr); refine m_pr ?_) | refine ⟨_, _, _, rfl, by walk_at "cl", by walk_at "pr", ?_⟩ | refine ⟨_, rfl, ?_⟩ | fail))
theorem id_len (n k : Nat) : (idL n k).length = n := by unfold idL; rw [List.length_map, List.length_range]
theorem at_id {n k : Nat} (hk : k < n) (j : Nat) : at_ (idL n k) j = if k = j then 1 else 0 := by
  rw [at_eq]
  unfold idL
  rw [List.getElem?_map]
  by_cases hj : j < n
  · rw [List.getElem?_range hj]; rfl
  · rw [List.getElem?_eq_none (by rw [List.length_range]; omega), if_neg (by omega)]; rfl
theorem at_app_l {a b : List Int} {i : Nat} (h : i < a.length) : at_ (a ++ b) i = at_ a i := by
  rw [at_eq, at_eq, List.getElem?_append_left h]
theorem at_app_r (a b : List Int) (i : Nat) : at_ (a ++ b) (a.length + i) = at_ b i := by
  rw [at_eq, at_eq, List.getElem?_append_right (Nat.le_add_right _ _), Nat.add_sub_cancel_left]
def start0 (rss : List (List Int)) : List St := rss.zipIdx.map fun q => ⟨q.1 ++ idL rss.length q.2, q.1, q.2⟩
theorem start_at {rss : List (List Int)} {s : St} (h : s ∈ start0 rss) : ∃ r, rss[s.k]? = some r ∧ s.p = r ++ idL rss.length s.k ∧ s.l = r := by
  obtain ⟨q, hq, rfl⟩ := List.mem_map.mp h
  exact ⟨q.1, List.mem_zipIdx_iff_getElem?.mp hq, rfl, rfl⟩
theorem inv_start {w : Nat} {rss : List (List Int)} {cls : Nat → Nat} (B : Bits w rss) (hc : ∀ i j r u, rss[i]? = some r → rss[j]? = some u → cls i = cls j → r = u) : Inv w rss cls 0 [] (start0 rss) := by
  have kl : ∀ s ∈ start0 rss, s.k < rss.length := fun s hs => by
    obtain ⟨r, h1, _⟩ := start_at hs
    exact (List.getElem?_eq_some_iff.mp h1).1
  have rl : ∀ {k : Nat} {r : List Int}, rss[k]? = some r → r.length = w := fun h => B.len _ (List.mem_of_getElem? h)
  have ap : ∀ s ∈ start0 rss, ∀ j, at_ s.p (w + j) = if s.k = j then 1 else 0 := fun s hs j => by
    obtain ⟨r, h1, h2, _⟩ := start_at hs
    rw [h2, ← rl h1, at_app_r, at_id (kl s hs)]
  have al : ∀ s ∈ start0 rss, ∀ t, t < w → at_ s.p t = at_ s.l t := fun s hs t ht => by
    obtain ⟨r, h1, h2, h3⟩ := start_at hs
    rw [h2, h3, at_app_l (by rw [rl h1]; exact ht)]
  refine ⟨?_, ?_, kl, ?_, ?_, ?_, ?_, ?_, ?_, List.nodup_nil, Nat.le_refl _, (fun u h => nomatch h), ?_, (fun s _ h => nomatch h), ?_, ?_⟩
  · unfold start0; rw [List.length_map, List.length_zipIdx]; rfl
  · unfold start0
    rw [List.map_map]
    have : (rss.zipIdx.map ((fun s : St => s.k) ∘ fun q => (⟨q.1 ++ idL rss.length q.2, q.1, q.2⟩ : St))) = rss.zipIdx.map Prod.snd := rfl
    rw [this, List.zipIdx_map_snd]
    exact List.nodup_range'
  · intro s hs
    obtain ⟨r, h1, h2, _⟩ := start_at hs
    rw [h2, List.length_append, rl h1, id_len]
  · intro s hs
    obtain ⟨r, h1, _, h3⟩ := start_at hs
    rw [h3]; exact rl h1
  · intro s hs u hu
    rw [ap s hs]
    by_cases z : s.k = u.k
    · rw [if_pos z]; exact ⟨fun _ => z, fun _ => by decide⟩
    · rw [if_neg z]; exact ⟨fun y => absurd rfl y, fun y => absurd y z⟩
  · intro s hs t ht
    obtain ⟨r, h1, _, h3⟩ := start_at hs
    rw [al s hs t ht, h3, dot_one h1 (ap s hs)]
  · intro s hs t ht; exact absurd ht (Nat.not_lt_zero _)
  · intro s hs
    exact ⟨1, 1, by decide, by decide, fun t ht => by rw [al s hs t ht]⟩
  · intro s hs u hu e
    obtain ⟨r, h1, _, h3⟩ := start_at hs
    obtain ⟨r2, g1, _, g3⟩ := start_at hu
    have := hc _ _ _ _ h1 g1 e
    exact ⟨1, 1, by decide, by decide, fun t ht => by rw [al s hs t ht, al u hu t ht, h3, g3, this]⟩
  · intro s hs
    obtain ⟨r, h1, h2, _⟩ := start_at hs
    have hb : ∀ x ∈ s.p, x = 0 ∨ x = 1 := fun x hx => by
      rw [h2] at hx
      rcases List.mem_append.mp hx with hx | hx
      · exact B.bit r (List.mem_of_getElem? h1) x hx
      · unfold idL at hx
        obtain ⟨j, _, rfl⟩ := List.mem_map.mp hx
        by_cases z : s.k = j
        · exact .inr (if_pos z)
        · exact .inl (if_neg z)
    refine ⟨fun _ => hb, fun x hx => ?_⟩
    rcases hb x hx with rfl | rfl <;> decide
  · intro s hs
    obtain ⟨r, h1, _, h3⟩ := start_at hs
    have hb : ∀ x ∈ s.l, x = 0 ∨ x = 1 := fun x hx => by
      rw [h3] at hx
      exact B.bit r (List.mem_of_getElem? h1) x hx
    refine ⟨fun _ => hb, fun x hx => ?_⟩
    rcases hb x hx with rfl | rfl <;> decide
theorem inv_run {w : Nat} {rss : List (List Int)} {cls : Nat → Nat} (B : Bits w rss) (hc : ∀ i j r u, rss[i]? = some r → rss[j]? = some u → cls i = cls j → r = u) : ∀ c, c ≤ w → ∃ us ts, Inv w rss cls c us ts ∧ runG clr (augL rss) c = ts.map (·.p) ∧ runG mixL rss c = ts.map (·.l)
  | 0, _ => by
    refine ⟨[], start0 rss, inv_start B hc, ?_, ?_⟩
    · unfold start0 augL
      show _ = _
      rw [List.map_map]; rfl
    · unfold start0
      show rss = _
      rw [List.map_map]
      have : (rss.zipIdx.map ((fun s : St => s.l) ∘ fun q => (⟨q.1 ++ idL rss.length q.2, q.1, q.2⟩ : St))) = rss.zipIdx.map Prod.fst := rfl
      rw [this, List.zipIdx_map_fst]
  | c + 1, h => by
    obtain ⟨us, ts, I, h1, h2⟩ := inv_run B hc c (Nat.le_of_succ_le h)
    obtain ⟨us2, ts2, I2, g1, g2⟩ := inv_step I h
    exact ⟨us2, ts2, I2, by show stepG clr c _ = _; rw [h1, g1], by show stepG mixL c _ = _; rw [h2, g2]⟩
theorem small_bd {q : Nat} {l : List Int} (h : Bd q l) (hq : q ≤ 11) : SmallL l := fun x hx => by
  have h1 := Nat.le_trans (h.2 x hx) (top_mono hq)
  have h2 : top_ 11 < 2 ^ 1200 := by unfold top_; exact Nat.pow_lt_pow_right (by decide) (by decide)
  exact Nat.lt_of_le_of_lt h1 h2
structure Facts (w : Nat) (rss : List (List Int)) : Prop where
  sm : ∀ c, c ≤ w → ∀ l ∈ runG clr (augL rss) c, SmallL l ∧ l.length = w + rss.length
  po : ∀ c i h, c < w → pivI c (runG clr (augL rss) c) = some i → (runG clr (augL rss) c)[i]? = some h → ∀ l ∈ (runG clr (augL rss) c).eraseIdx i, at_ l c ≠ 0 → 0 < gcdL (mixL l h c)
  sl : ∀ c, c ≤ w → ∀ l ∈ runG mixL rss c, SmallL l ∧ l.length = w
  so : ∀ ws, wtsL w rss = some ws → Sol w rss ws
  eq : (wtsL w rss).isSome = decide (runG mixL rss w ≠ [])
theorem facts_of {w : Nat} {rss : List (List Int)} {cls : Nat → Nat} (B : Bits w rss) (hc : ∀ i j r u, rss[i]? = some r → rss[j]? = some u → cls i = cls j → r = u) (hq : ∀ c us ts, c ≤ w → Inv w rss cls c us ts → us.length ≤ 11) : Facts w rss := by
  refine ⟨fun c h l hl => ?_, fun c i h hw hp hi => ?_, fun c h l hl => ?_, fun ws e => ?_, ?_⟩
  · obtain ⟨us, ts, I, h1, _⟩ := inv_run B hc c h
    rw [h1] at hl
    obtain ⟨s, hs, rfl⟩ := List.mem_map.mp hl
    exact ⟨small_bd (I.bp s hs) (hq c us ts h I), I.pl s hs⟩
  · obtain ⟨us, ts, I, h1, _⟩ := inv_run B hc c (Nat.le_of_lt hw)
    rw [h1] at hp hi ⊢
    exact inv_pos I hp hi
  · obtain ⟨us, ts, I, _, h2⟩ := inv_run B hc c h
    rw [h2] at hl
    obtain ⟨s, hs, rfl⟩ := List.mem_map.mp hl
    exact ⟨small_bd (I.bl s hs) (hq c us ts h I), I.ll s hs⟩
  · obtain ⟨us, ts, I, h1, _⟩ := inv_run B hc w (Nat.le_refl _)
    unfold wtsL at e
    rw [h1] at e
    cases ts with
    | nil => cases e
    | cons s ts =>
      have e : some (s.p.drop w) = some ws := e
      cases e
      have hs : s ∈ s :: ts := List.mem_cons_self ..
      have hl := I.pl s hs
      have hwl : (s.p.drop w).length = rss.length := by rw [List.length_drop, hl]; omega
      refine ⟨hwl, fun t ht => ?_, ?_, fun x hx => small_bd (I.bp s hs) (hq w us _ (Nat.le_refl _) I) x (List.mem_of_mem_drop hx)⟩
      · rw [dot_list hwl]
        have : at_ (s.p.drop w) = fun k => at_ s.p (w + k) := funext fun k => at_drop s.p w k
        rw [this, ← I.li s hs t ht]
        exact I.ze s hs t ht
      · have hn : at_ (s.p.drop w) s.k ≠ 0 := by rw [at_drop]; exact (I.pv s hs s hs).mpr rfl
        exact ⟨_, at_mem hn, hn⟩
  · obtain ⟨us, ts, I, h1, h2⟩ := inv_run B hc w (Nat.le_refl _)
    unfold wtsL
    rw [h1, h2]
    cases ts with
    | nil => rfl
    | cons s ts => rfl
/-- few columns -/
theorem facts_few {w : Nat} {rss : List (List Int)} (B : Bits w rss) (hw : w ≤ 11) : Facts w rss :=
  facts_of (cls := id) B (fun i j r u h1 h2 e => by
    have e : i = j := e
    subst e
    rw [h1] at h2
    exact Option.some.inj h2) fun c us ts h I => Nat.le_trans I.uc (Nat.le_trans h hw)
theorem many_bits (a b m : Nat) : Bits 49 (manyL a b m) := by
  refine ⟨fun r hr => ?_, fun r hr x hx => ?_⟩
  · obtain ⟨k, _, rfl⟩ := List.mem_map.mp hr
    unfold manyR; rw [List.length_map, List.length_range]
  · obtain ⟨k, _, rfl⟩ := List.mem_map.mp hr
    unfold manyR at hx
    obtain ⟨t, _, rfl⟩ := List.mem_map.mp hx
    by_cases z : (k * a + t * b + k * t * t) % m < 3
    · exact .inr (if_pos z)
    · exact .inl (if_neg z)
theorem many_same {a b m k j : Nat} (h : k % m = j % m) : manyR a b m k = manyR a b m j := by
  unfold manyR
  refine List.map_congr_left fun t _ => ?_
  have e : (k * a + t * b + k * t * t) % m = (j * a + t * b + j * t * t) % m := by
    have e1 : ∀ x y : Nat, x % m = y % m → ∀ z, (x * z) % m = (y * z) % m := fun x y h z => by rw [Nat.mul_mod, h, ← Nat.mul_mod]
    have e2 : (k * a) % m = (j * a) % m := e1 k j h a
    have e3 : (k * t * t) % m = (j * t * t) % m := e1 _ _ (e1 k j h t) t
    rw [Nat.add_mod, Nat.add_mod (k * a), e2, e3, ← Nat.add_mod (j * a), ← Nat.add_mod]
  rw [e]
theorem many_get {a b m i : Nat} {r : List Int} (h : (manyL a b m)[i]? = some r) : r = manyR a b m i := by
  unfold manyL at h
  rw [List.getElem?_map] at h
  obtain ⟨k, hk, rfl⟩ := Option.map_eq_some_iff.mp h
  obtain ⟨h1, h2⟩ := List.getElem?_eq_some_iff.mp hk
  rw [List.getElem_range] at h2
  rw [h2]
theorem many_used {a b m c : Nat} {us : List Nat} {ts : List St} (hm : 0 < m) (I : Inv 49 (manyL a b m) (fun k => k % m) c us ts) : us.length ≤ m := by
  have : us.length ≤ (List.range m).length := I.un.length_le_of_subset fun u hu => by
    obtain ⟨k, rfl⟩ := I.ur u hu
    exact List.mem_range.mpr (Nat.mod_lt _ hm)
  rwa [List.length_range] at this
theorem many_cls (a b m : Nat) : ∀ i j r u, (manyL a b m)[i]? = some r → (manyL a b m)[j]? = some u → i % m = j % m → r = u := fun i j r u h1 h2 e => by
  rw [many_get h1, many_get h2, many_same e]
theorem facts_many {a b m : Nat} (hm : m = 5 ∨ m = 7 ∨ m = 11) : Facts 49 (manyL a b m) :=
  facts_of (cls := fun k => k % m) (many_bits a b m) (many_cls a b m) fun c us ts h I => Nat.le_trans (many_used (by omega) I) (by omega)
theorem many_len (a b m : Nat) : (manyL a b m).length = 50 := by unfold manyL; rw [List.length_map, List.length_range]
theorem many_some {a b m : Nat} (hm : m = 5 ∨ m = 7 ∨ m = 11) : (wtsL 49 (manyL a b m)).isSome = true := by
  obtain ⟨us, ts, I, h1, _⟩ := inv_run (many_bits a b m) (many_cls a b m) 49 (Nat.le_refl _)
  have h2 := many_used (by omega) I
  have h3 := I.cnt
  rw [many_len] at h3
  unfold wtsL
  rw [h1]
  cases ts with
  | nil => rw [List.length_nil] at h3; omega
  | cons s ts => rfl
theorem bits_small {w : Nat} {rss : List (List Int)} (B : Bits w rss) : ∀ r ∈ rss, SmallL r := fun r hr x hx => by
  rcases B.bit r hr x hx with rfl | rfl
  · exact Nat.two_pow_pos _
  · exact Nat.one_lt_two_pow (by decide)
theorem rows_ok {w : Nat} {rss : List (List Int)} (B : Bits w rss) (f : Facts w rss) (h1 : rss.length ≤ 60) (h2 : w ≤ 60) (h3 : rss = [] → w = 0) : RowsOk w rss := ⟨B.len, h1, h2, h3, f.sm, f.po⟩
end K44
namespace K44
open PySem PySem.Spec PyProof.Rows L2 He SJ
open LamX (CodeO lamS_by Tabs tLam)
theorem all_tt {α : Type} (l : List α) : l.filter (fun _ => true) = l := List.filter_eq_self.mpr fun _ _ => rfl
theorem atI_nat {α : Type} {xs : List α} {i : Nat} (h : i < xs.length) : atI xs (i : Int) = some xs[i] := by
  obtain ⟨e, e1, e2⟩ := atI_in (xs := xs) (i := (i : Int)) (Int.natCast_nonneg i) (by omega)
  rw [Int.toNat_natCast, List.getElem?_eq_getElem h] at e1
  rw [e2, ← e1]
theorem at_get {l : List Int} {i : Nat} (h : i < l.length) : atI (l.map D.int) (i : Int) = some (.int (at_ l i)) := by
  rw [atI_nat (by rw [List.length_map]; exact h), List.getElem_map, at_eq, List.getElem?_eq_getElem h]
  rfl
theorem log_lt {x : Int} {k : Nat} (h : x.natAbs < 2 ^ k) (hk : 0 < k) : x.natAbs.log2 < k := by
  by_cases z : x.natAbs = 0
  · rw [z]; exact hk
  · exact (Nat.log2_lt z).mpr h
theorem small_at {l : List Int} (h : SmallL l) (i : Nat) : (at_ l i).natAbs < 2 ^ 1200 := by
  by_cases z : at_ l i = 0
  · rw [z]; exact Nat.two_pow_pos _
  · exact h _ (at_mem z)
theorem mul_ok {a b : Int} (h1 : a.natAbs < 2 ^ 1200) (h2 : b.natAbs < 2 ^ 1200) : CMulW a b := by
  have := log_lt h1 (by decide)
  have := log_lt h2 (by decide)
  show a.natAbs.log2 + b.natAbs.log2 < 1000000
  omega
theorem mix_big {l h : List Int} {c : Nat} (h1 : SmallL l) (h2 : SmallL h) : ∀ x ∈ mixL l h c, x.natAbs ≤ 2 * (2 ^ 1200 * 2 ^ 1200) := fun x hx => by
  obtain ⟨a, ha, b, hb, rfl⟩ := mix_mem hx
  rw [Nat.two_mul]
  refine natAbs_sub_le ?_ ?_
  · rw [Int.natAbs_mul]; exact Nat.mul_le_mul (Nat.le_of_lt (h1 a ha)) (Nat.le_of_lt (small_at h2 c))
  · rw [Int.natAbs_mul]; exact Nat.mul_le_mul (Nat.le_of_lt (h2 b hb)) (Nat.le_of_lt (small_at h1 c))
theorem div_ok {l h : List Int} {c : Nat} {y : Int} (h1 : SmallL l) (h2 : SmallL h) (hp : 0 < gcdL (mixL l h c)) : CDivW y (gcdL (mixL l h c) : Int) := by
  have hg := gcd_le (mix_big (c := c) h1 h2) hp
  refine ⟨by omega, ?_⟩
  rw [Int.natAbs_natCast]
  refine (Nat.log2_lt (by omega)).mpr (Nat.lt_of_le_of_lt hg ?_)
  rw [← Nat.pow_add]
  have : (2 : Nat) * 2 ^ (1200 + 1200) = 2 ^ 2401 := by rw [Nat.mul_comm, ← Nat.pow_succ]
  rw [this]
  exact Nat.pow_lt_pow_right (by decide) (by decide)
/-- a pair of a line and of its head -/
def mixD (l h : List Int) (c : Nat) : D → D
  | .tup [.int a, .int b] => .int (a * at_ h c - b * at_ l c)
  | _ => .non
theorem zip_mix (l h : List Int) (c : Nat) : ∀ a b : List Int, (zipD (a.map D.int) (b.map D.int)).map (mixD l h c) = (List.zipWith (fun a b => a * at_ h c - b * at_ l c) a b).map D.int
  | [], _ => by simp [zipD]
  | _ :: _, [] => by simp [zipD]
  | x :: a, y :: b => by
    have ih := zip_mix l h c a b
    unfold zipD at ih ⊢
    simp only [List.map_cons, List.zip_cons_cons, List.zipWith_cons_cons, ih]
    rfl
theorem zip_el {cs xs : List Int} {d : D} (h : d ∈ zipD (cs.map D.int) (xs.map D.int)) : ∃ c x, d = .tup [.int c, .int x] ∧ c ∈ cs ∧ x ∈ xs := by
  unfold zipD at h
  obtain ⟨q, hq, rfl⟩ := List.mem_map.mp h
  have m := List.of_mem_zip hq
  obtain ⟨c, hc, e1⟩ := List.mem_map.mp m.1
  obtain ⟨x, hx, e⟩ := List.mem_map.mp m.2
  exact ⟨c, x, by rw [← e, ← e1], hc, hx⟩
theorem zip_len (cs es : List D) : (zipD cs es).length ≤ cs.length := by
  unfold zipD
  rw [List.length_map, List.length_zip]
  omega
section
variable {K : PySem.W.Frag} {mg : Str → Option Value} {vs : List V} {H : Hp} {Q : VK} {E : XK}
theorem m_yes {O : Oc} {F0 : Hp} {ρ : Ro} {QT : Bool → Ro → Prop} (k : QT true ρ) : Mt K O F0 tYes ρ QT := fun F H σ Qh s R c => c true H F ρ (Same.refl _) R k
theorem ms_to {O : Oc} {F0 : Hp} {ts : TS} {ρ : Ro} {N : Hn} {P : Ro → Prop} (k : Ms K O F0 ts ρ { N with nx := P }) (h : ∀ ρ2, P ρ2 → N.nx ρ2) : Ms K O F0 ts ρ N := fun F H σ E s R c =>
  k F H σ E s R ⟨fun F2 H2 σ2 ρ2 s2 R2 q => c.nx F2 H2 σ2 ρ2 s2 R2 (h ρ2 q), c.rt, c.bk, c.ct, c.rf⟩
theorem pure_common_divisor (T : Tx K mg) (h : sp_common_divisor K vs H Q E) : t_common_divisor K { nx := fun _ H2 => Q .non H2, rt := Q } (start ["numbers", "found", "number", "rest"] vs) H := by
  refine body_pu h fun o w F0 ds Qd Ed ⟨xs, e, hl, q⟩ hW => ?_
  subst e
  refine ms_seq (s_asg (m_cI (q_v ?_)))
  refine ms_seq (ms_for [2] (mi_list (m_var rfl (q_v ⟨xs.map D.int, rfl, fun i ρ => ∃ s2 s3 : Sl, ρ = [.val (intsD xs), .val (.int ((xs.take i).foldl (fun g x => Nat.gcd g x.natAbs) 0 : Nat)), s2, s3], ⟨_, _, rfl⟩, fun i d ρ2 hd hI => ?_, fun ρ2 hI => ?_⟩))))
  rotate_left
  · obtain ⟨s2, s3, rfl⟩ := hI
    rw [List.length_map, List.take_length]
    exact ms_ret (m_var rfl (q_v q))
  obtain ⟨s2, s3, rfl⟩ := hI
  rw [List.getElem?_map] at hd
  obtain ⟨x, hx, rfl⟩ := Option.map_eq_some_iff.mp hd
  have et : (xs.take (i + 1)).foldl (fun g x => Nat.gcd g x.natAbs) 0 = Nat.gcd ((xs.take i).foldl (fun g x => Nat.gcd g x.natAbs) 0) x.natAbs := by
    rw [List.take_add_one, hx, List.foldl_append]
    rfl
  obtain ⟨g, eg⟩ : ∃ g, g = (xs.take i).foldl (fun g x => Nat.gcd g x.natAbs) 0 := ⟨_, rfl⟩
  rw [← eg]
  have ea : (if x < 0 then -x else x) = ((x.natAbs : Nat) : Int) := by split <;> omega
  refine mg_name (ms_seq (s_asg (m_cb (m_cons (m_var rfl (m_nil (c_absI (q_v ?_))))))))
  rw [ea]
  refine ms_while (I := fun m ρ => ∃ f r : Nat, m = r ∧ Nat.gcd f r = Nat.gcd g x.natAbs ∧ ρ = [.val (intsD xs), .val (.int (f : Nat)), .val (.int x), .val (.int (r : Nat))]) x.natAbs ⟨g, x.natAbs, rfl, rfl, rfl⟩ fun m ρ2 hI => ?_
  obtain ⟨f, r, rfl, e2, rfl⟩ := hI
  refine m_test (m_op (m_var rfl (m_cI (r_gtI (q_bl ?_)))))
  by_cases hr : m = 0
  · subst hr
    refine q_f ?_
    rw [Nat.gcd_zero_right] at e2
    exact ⟨.val (.int x), .val (.int ((0 : Nat) : Int)), by rw [et, ← eg, e2]⟩
  · have hr2 : decide ((0 : Int) < ((m : Nat) : Int)) = true := decide_eq_true (by omega)
    rw [hr2]
    refine q_t (ms_par (m_cons (m_var rfl (m_cons (m_op (m_var rfl (m_var rfl (r_mod (by omega) (m_nil (q_c (q_v (q_c (q_v (q_n ⟨_, _, rfl, f % m, Nat.mod_lt _ (by omega), m, f % m, rfl, ?_, ?_⟩))))))))))))))
    · rw [← e2, Nat.gcd_comm m (f % m), ← Nat.gcd_rec, Nat.gcd_comm]
    · rw [Int.natCast_emod]
      rfl
theorem pure_cleared (T : Tx K mg) (h : sp_cleared K vs H Q E) : t_cleared K { nx := fun _ H2 => Q .non H2, rt := Q } (start ["line", "head", "column", "found", "one", "two", "divisor"] vs) H := by
  refine body_pu h fun o w F0 ds Qd Ed ⟨l, hd, c, e, hl, hc, h10, s1, s2, hp, q⟩ hW => ?_
  subst e
  have hc2 : c < hd.length := by omega
  refine ms_seq (ms_if (m_test (m_op (m_op (m_var rfl (m_var rfl (r_ixL rfl (at_get hc) (m_cI (r_eqI (q_bl ?_))))))))))
  by_cases hz : at_ l c = 0
  · rw [decide_eq_true hz]
    refine q_t (ms_ret (m_var rfl (q_v ?_)))
    unfold clr at q
    rw [if_pos hz] at q
    exact q
  rw [decide_eq_false hz]
  have hg := hp hz
  refine q_f (ms_next (ms_seq (s_asg (v_lcM [4, 5] (fun _ => true) (mixD l hd c) (by decide) (by decide) (mi_zip (m_cons (m_var rfl (m_cons (m_var rfl (m_nil (q_c (q_v (q_c (q_v (q_n ⟨l.map D.int, hd.map D.int, rfl, ?_, fun v hv => ?_, fun e he oo ww => ?_, q_v ?_⟩)))))))))))))))
  · have := zip_len (l.map D.int) (hd.map D.int)
    rw [List.length_map] at this
    omega
  · rcases List.mem_cons.mp hv with rfl | hv
    · rfl
    · rw [List.mem_singleton.mp hv]; rfl
  · obtain ⟨a, b, rfl, ha, hb⟩ := zip_el he
    exact mg_pair ⟨rfl, rfl, m_yes ⟨rfl, rfl, fun _ => m_op (m_op (m_var rfl (m_op (m_var rfl (m_var rfl (r_ixL rfl (at_get hc2) (r_mulW (mul_ok (s1 a ha) (small_at s2 c)) (m_op (m_var rfl (m_op (m_var rfl (m_var rfl (r_ixL rfl (at_get hc) (r_mulW (mul_ok (s2 b hb) (small_at s1 c)) (r_subI ⟨rfl, rfl⟩)))))))))))))))⟩⟩
  rw [all_tt, zip_mix]
  have hm : List.zipWith (fun a b => a * at_ hd c - b * at_ l c) l hd = mixL l hd c := rfl
  rw [hm]
  refine ms_seq (s_asg (m_fn wr0 (m_cons (m_var rfl (m_nil (q_c (q_v (q_n ⟨mixL l hd c, rfl, by rw [mix_len hl]; exact h10, q_v ?_⟩))))))))
  refine ms_ret (v_lcM [4] (fun _ => true) (fun d => match d with | .int y => .int (y / (gcdL (mixL l hd c) : Int)) | _ => .non) (by decide) (by decide) (mi_list (m_var rfl (q_v ⟨(mixL l hd c).map D.int, rfl, by rw [List.length_map, mix_len hl]; omega, one_free rfl, fun e he oo ww => ?_, q_v ?_⟩))))
  · obtain ⟨y, hy, rfl⟩ := List.mem_map.mp he
    exact mg_name ⟨rfl, rfl, m_yes ⟨rfl, rfl, fun _ => m_op (m_var rfl (m_var rfl (r_fdvW (div_ok s1 s2 hg) ⟨rfl, rfl⟩)))⟩⟩
  · rw [all_tt, List.map_map]
    unfold clr at q
    rw [if_neg hz] at q
    have e : ((mixL l hd c).map ((fun d => match d with | .int y => D.int (y / (gcdL (mixL l hd c) : Int)) | _ => .non) ∘ D.int)) = ((mixL l hd c).map fun x => x / (gcdL (mixL l hd c) : Int)).map D.int := by
      rw [List.map_map]; rfl
    rw [e]
    exact q
end
end K44
namespace K44
open PySem PySem.Spec PyProof.Rows L2 He SJ
open LamX (CodeO lamS_by Tabs tLam)
def plc (c : Nat) (ls : List (List Int)) : List Int := (ls.zipIdx.filter fun q => decide (at_ q.1 c ≠ 0)).map fun q => (q.2 : Int)
theorem plc_go (c : Nat) : ∀ (ls : List (List Int)) (n : Nat), ((ls.zipIdx n).filter fun q => decide (at_ q.1 c ≠ 0)).head?.map (fun q => q.2) = (pivI c ls).map fun i => i + n
  | [], _ => rfl
  | l :: ls, n => by
    have ih := plc_go c ls (n + 1)
    unfold pivI at ih ⊢
    rw [List.zipIdx_cons, List.findIdx?_cons]
    by_cases z : at_ l c ≠ 0
    · rw [List.filter_cons_of_pos (by exact decide_eq_true z), decide_eq_true z]
      simp
    · rw [List.filter_cons_of_neg (by rw [decide_eq_false z]; exact Bool.false_ne_true), ih, decide_eq_false z]
      cases ls.findIdx? fun l => decide (at_ l c ≠ 0) with
      | none => rfl
      | some i => simp; omega
theorem plc_head (c : Nat) (ls : List (List Int)) : (plc c ls).head? = (pivI c ls).map fun i => (i : Int) := by
  have h := plc_go c ls 0
  unfold plc
  cases e : pivI c ls with
  | none =>
    rw [e] at h
    have h2 : ((ls.zipIdx 0).filter fun q => decide (at_ q.1 c ≠ 0)).head? = none := Option.map_eq_none_iff.mp h
    rw [List.head?_map, h2]; rfl
  | some i =>
    rw [e] at h
    obtain ⟨q, h1, h2⟩ := Option.map_eq_some_iff.mp h
    rw [List.head?_map, h1]
    show some ((q.2 : Nat) : Int) = some (i : Int)
    rw [h2]; rfl
def lineD : D → List Int
  | .lst xs => xs.filterMap fun d => match d with
    | .int x => some x
    | _ => none
  | _ => []
theorem line_ints (l : List Int) : lineD (intsD l) = l := by
  show (l.map D.int).filterMap _ = l
  rw [List.filterMap_map]
  have : ((fun d => match d with | .int x => some x | _ => none) ∘ D.int) = some := rfl
  rw [this, List.filterMap_some]
def placeB (c : Nat) : D → Bool
  | .tup [_, l] => decide (at_ (lineD l) c ≠ 0)
  | _ => false
def placeD : D → D
  | .tup [i, _] => i
  | _ => .non
theorem en_plc (c : Nat) (ls : List (List Int)) : ((enD (ls.map intsD)).filter (placeB c)).map placeD = (plc c ls).map D.int := by
  unfold enD plc
  rw [List.zipIdx_map, List.map_map, List.filter_map, List.map_map, List.map_map]
  congr 1
  refine List.filter_congr fun q _ => ?_
  show decide (at_ (lineD (intsD q.1)) c ≠ 0) = _
  rw [line_ints]
theorem pyOf_ints : ∀ xs : List Int, pyOfL (xs.map D.int) = some (xs.map PyData.int)
  | [] => by simp only [List.map_nil, pyOfL]
  | z :: zs => by simp only [List.map_cons, pyOfL, pyOf, pyOf_ints zs]
theorem sh_ints (xs : List Int) : SeqAt.shaped (.list (xs.map PyData.int)) = true := (Lay.lst (n := 0) fun d m => by obtain ⟨c, hc, rfl⟩ := List.mem_map.mp m; exact .int).sh (by omega)
theorem pyOf_rows : ∀ ls : List (List Int), pyOfL (ls.map intsD) = some (ls.map fun l => PyData.list (l.map PyData.int))
  | [] => by simp only [List.map_nil, pyOfL]
  | z :: zs => by simp only [List.map_cons, pyOfL, intsD, pyOf, pyOf_ints, Option.map_some, pyOf_rows zs]
theorem sh_rows (ls : List (List Int)) : SeqAt.shaped (.list (ls.map fun l => PyData.list (l.map PyData.int))) = true := (Lay.lst (n := 1) fun d m => by
  obtain ⟨l, hl, rfl⟩ := List.mem_map.mp m
  exact Lay.lst (n := 0) fun d m => by obtain ⟨c, hc, rfl⟩ := List.mem_map.mp m; exact .int).sh (by omega)
theorem eqv_nil (ps : List PyData) : PyData.eqv (.list ps) (.list []) = ps.isEmpty := by
  cases ps <;> simp [PyData.eqv, PyData.eqvAll]
theorem cut_nat (ds : List D) (n : Nat) : SJ.cutD ds (some (n : Int)) none = ds.drop n := by
  unfold SJ.cutD
  rw [HT.sIx_nat, HT.sIx_none]
  by_cases h : n ≤ ds.length
  · rw [Nat.min_eq_left h]
    exact List.take_of_length_le (by rw [List.length_drop]; omega)
  · rw [Nat.min_eq_right (by omega), List.drop_eq_nil_of_le (Nat.le_refl _), List.drop_eq_nil_of_le (by omega)]
    exact List.take_nil
def seqI : D → List Int
  | .tup xs => lineD (.lst xs)
  | d => lineD d
theorem ShR.length {es : List D} {rss : List (List Int)} (h : ShR es rss) : es.length = rss.length := by
  induction h with
  | nil => rfl
  | lst _ ih => rw [List.length_cons, List.length_cons, ih]
  | tup _ ih => rw [List.length_cons, List.length_cons, ih]
theorem ShR.at_ {es : List D} {rss : List (List Int)} (h : ShR es rss) : ∀ {i : Nat} {e : D}, es[i]? = some e → ∃ r, rss[i]? = some r ∧ seqI e = r ∧ (e = intsD r ∨ e = .tup (r.map D.int)) := by
  induction h with
  | nil => intro i e h; cases h
  | lst _ ih =>
    intro i e h
    cases i with
    | zero => cases h; exact ⟨_, rfl, line_ints _, .inl rfl⟩
    | succ i => exact ih h
  | tup _ ih =>
    intro i e h
    cases i with
    | zero => cases h; exact ⟨_, rfl, line_ints _, .inr rfl⟩
    | succ i => exact ih h
theorem ShR.seq {es : List D} {rss : List (List Int)} (h : ShR es rss) : es.map seqI = rss := by
  induction h with
  | nil => rfl
  | lst _ ih => rw [List.map_cons, ih]; congr 1; exact line_ints _
  | tup _ ih => rw [List.map_cons, ih]; congr 1; exact line_ints _
def augD (n : Nat) : D → D
  | .tup [.int i, e] => intsD (seqI e ++ idL n i.toNat)
  | _ => .non
theorem en_aug {es : List D} {rss : List (List Int)} (h : ShR es rss) : (enD es).map (augD rss.length) = (augL rss).map intsD := by
  unfold enD augL
  rw [List.map_map, List.map_map, ← h.seq, List.zipIdx_map, List.map_map, List.length_map]
  rfl
theorem en_len (ds : List D) : (enD ds).length = ds.length := by unfold enD; rw [List.length_map, List.length_zipIdx]
theorem en_el {ds : List D} {d : D} (h : d ∈ enD ds) : ∃ i e, ds[i]? = some e ∧ d = .tup [.int (i : Nat), e] := by
  obtain ⟨i, hi⟩ := List.getElem?_of_mem h
  obtain ⟨e, h1, h2⟩ := enD_get hi
  exact ⟨i, e, h1, h2⟩
def oneD (k : Nat) : D → D
  | .int j => .int (if (k : Int) = j then 1 else 0)
  | _ => .non
theorem one_id (n k : Nat) : (rngD 0 n).map (oneD k) = (idL n k).map D.int := by
  unfold rngD idL
  rw [List.map_map, List.map_map]
  refine List.map_congr_left fun j _ => ?_
  show D.int (if (k : Int) = 0 + (j : Int) then 1 else 0) = D.int (if k = j then 1 else 0)
  by_cases z : k = j
  · rw [if_pos (by omega), if_pos z]
  · rw [if_neg (by omega), if_neg z]
theorem max_of {w : Nat} {rss : List (List Int)} (h : ∀ r ∈ rss, r.length = w) (hn : rss = [] → w = 0) {m : Int} (h1 : m ∈ (0 : Int) :: rss.map fun r => (r.length : Int)) (h2 : ∀ y ∈ (0 : Int) :: rss.map fun r => (r.length : Int), y ≤ m) : m = w := by
  have h0 := h2 0 (List.mem_cons_self ..)
  cases rss with
  | nil =>
    rw [List.map_nil, List.mem_singleton] at h1
    rw [h1, hn rfl]; rfl
  | cons r rs =>
    have hr := h r (List.mem_cons_self ..)
    have h3 := h2 (r.length : Int) (List.mem_cons_of_mem _ (List.mem_cons_self ..))
    rcases List.mem_cons.mp h1 with rfl | h1
    · omega
    · obtain ⟨r2, hr2, rfl⟩ := List.mem_map.mp h1
      rw [h r2 hr2]
def lenX (e : D) : X := .val (.int ((seqI e).length : Nat))
def lenD : D → D
  | e => .int ((seqI e).length : Nat)
section
variable {K : PySem.W.Frag} {mg : Str → Option Value} {vs : List V} {H : Hp} {Q : VK} {E : XK}
theorem frzL_vals {ρ : Ro} : ∀ {ds : List D} {PL : List D → Ro → Prop}, PL ds ρ → FrzL (ds.map X.val) ρ PL
  | [], _, k => k
  | d :: ds, PL, k => frzL_vals (ds := ds) (PL := fun es ρ2 => PL (d :: es) ρ2) k
theorem at_head {α : Type} (d : α) (ds : List α) : atI (d :: ds) 0 = some d := atI_nat (xs := d :: ds) (i := 0) (Nat.succ_pos _)
theorem run_len (f : List Int → List Int → Nat → List Int) : ∀ (c : Nat) (ls : List (List Int)), (runG f ls c).length ≤ ls.length
  | 0, _ => Nat.le_refl _
  | c + 1, ls => by
    show (stepG f c (runG f ls c)).length ≤ _
    unfold stepG
    split
    · exact run_len f c ls
    · rw [List.length_map]
      exact Nat.le_trans (List.length_eraseIdx_le ..) (run_len f c ls)
theorem pure_weights (T : Tx K mg) (h : sp_weights K vs H Q E) : t_weights K { nx := fun _ H2 => Q .non H2, rt := Q } (start ["rows", "width", "row", "lines", "place", "at", "column", "places", "line", "head"] vs) H := by
  refine body_pu h fun o w0 F0 ds Qd Ed ⟨d, es, w, rss, e, hd, hS, hR, q⟩ hW => ?_
  subst e
  have hl := hS.length
  have hn := hR.n
  have hw := hR.w60
  have hel : ∀ e ∈ es, ∃ r ∈ rss, seqI e = r ∧ (e = intsD r ∨ e = .tup (r.map D.int)) := fun e he => by
    obtain ⟨i, hi⟩ := List.getElem?_of_mem he
    obtain ⟨r, h1, h2, h3⟩ := hS.at_ hi
    exact ⟨r, List.mem_of_getElem? h1, h2, h3⟩
  have lenok : ∀ (oo : Hp) (ww : Option V) (F1 : Hp) (ρ : Ro) (j : Nat) (e : D) (Q2 : X → Ro → Prop), e ∈ es → sl ρ j = .val e → Q2 (lenX e) ρ → Me K ⟨oo, ww, TB K⟩ F1 (tCB (rLenU K) (tCons (tVar j) tNil)) ρ Q2 := fun oo ww F1 ρ j e Q2 he hj k => by
    obtain ⟨r, _, h2, rfl | rfl⟩ := hel e he
    · refine m_cb (m_cons (m_var hj (m_nil (c_lenL rfl ?_))))
      rw [lenX, h2] at k
      rw [List.length_map]; exact k
    · refine m_cb (m_cons (m_var hj (m_nil (c_lenT rfl ?_))))
      rw [lenX, h2] at k
      rw [List.length_map]; exact k
  have elen : es.map lenD = (rss.map fun r => (r.length : Int)).map D.int := by
    rw [← hS.seq, List.map_map, List.map_map]; rfl
  refine ms_seq (ms_to (P := fun ρ => ρ = [.val d, .val (.int (w : Nat)), .none, .none, .none, .none, .none, .none, .none, .none]) ?_ fun ρ2 hρ => ?_)
  · rcases hd with rfl | rfl
    · refine s_asg (m_cb (m_cons (m_op (v_lst (m_cons (m_cI (m_nil (q_c (q_v (q_n ⟨by decide, v_lcM [2] (fun _ => true) lenD (by decide) (by decide) (mi_sqL (mi_list (m_var rfl (q_v ⟨es, rfl, by omega, one_free rfl, fun e he oo ww => mg_name ⟨rfl, rfl, m_yes ⟨rfl, rfl, fun _ => lenok oo ww F0 _ 2 e _ he rfl ⟨rfl, rfl⟩⟩⟩, ?_⟩))))⟩))))))))))
      rw [all_tt, elen]
      refine r_catL rfl rfl ?_ (m_nil (c_maxL (ns := 0 :: rss.map fun r => (r.length : Int)) rfl (Nat.succ_pos _) fun m h1 h2 => q_v ?_))
      · rw [List.length_map, List.length_map]; show 1 + _ ≤ _; omega
      · rw [max_of hR.len hR.nil h1 h2]; rfl
    · refine s_asg (m_cb (m_cons (m_op (v_lst (m_cons (m_cI (m_nil (q_c (q_v (q_n ⟨by decide, v_lcM [2] (fun _ => true) lenD (by decide) (by decide) (mi_sqT (mi_tup (m_var rfl (q_v ⟨es, rfl, by omega, one_free rfl, fun e he oo ww => mg_name ⟨rfl, rfl, m_yes ⟨rfl, rfl, fun _ => lenok oo ww F0 _ 2 e _ he rfl ⟨rfl, rfl⟩⟩⟩, ?_⟩))))⟩))))))))))
      rw [all_tt, elen]
      refine r_catL rfl rfl ?_ (m_nil (c_maxL (ns := 0 :: rss.map fun r => (r.length : Int)) rfl (Nat.succ_pos _) fun m h1 h2 => q_v ?_))
      · rw [List.length_map, List.length_map]; show 1 + _ ≤ _; omega
      · rw [max_of hR.len hR.nil h1 h2]; rfl
  subst hρ
  refine ms_seq (ms_to (P := fun ρ => ρ = [.val d, .val (.int (w : Nat)), .none, .own (.lst ((augL rss).map intsD)), .none, .none, .none, .none, .none, .none]) ?_ fun ρ2 hρ => ?_)
  · refine s_asgF (n := 2) (mf_lcM [5, 2] (fun _ => true) (augD rss.length) (by decide) (by decide) ?_)
    rcases hd with rfl | rfl
    · refine mi_enuL (m_cons (m_var rfl (m_nil ⟨es, rfl, by rw [en_len]; omega, fun v hv => ?_, fun e0 he0 oo ww => ?_, ?_⟩)))
      · rcases List.mem_cons.mp hv with rfl | hv
        · rfl
        · rw [List.mem_singleton.mp hv]; rfl
      · obtain ⟨i, e, h1, rfl⟩ := en_el he0
        obtain ⟨r, hr, h2, h3⟩ := hel e (List.mem_of_getElem? h1)
        have hrl := hR.len r hr
        refine mg_pair ⟨rfl, rfl, m_yes ⟨rfl, rfl, fun _ => v_lst (ma_star (m_var rfl (q_v ⟨r.map D.int, ?_, ma_star (v_lcM [4] (fun _ => true) (oneD i) (by decide) (by decide) (mi_rng1 (m_cons (m_cb (m_cons (m_var rfl (m_nil (c_lenL rfl (m_nil ⟨(es.length : Int), rfl, by omega, ?_, one_free rfl, fun d2 hd2 oo2 ww2 => ?_, q_v ⟨_, .inr rfl, m_nil ?_⟩⟩)))))))))⟩)))⟩⟩
        · rcases h3 with rfl | rfl
          · exact .inr rfl
          · exact .inl rfl
        · unfold rngD; rw [List.length_map, List.length_range]; omega
        · obtain ⟨j, hj, rfl⟩ := List.mem_map.mp hd2
          refine mg_name ⟨rfl, rfl, m_yes ⟨rfl, rfl, fun _ => m_cb (m_cons (m_op (m_var rfl (m_var rfl (r_eqI (m_nil (c_intB ⟨?_, rfl⟩)))))))⟩⟩
          show X.val (.int (if decide ((i : Int) = 0 + (j : Int)) = true then 1 else 0)) = X.val (.int (if (i : Int) = 0 + (j : Int) then 1 else 0))
          by_cases z : (i : Int) = 0 + (j : Int)
          · rw [decide_eq_true z, if_pos rfl, if_pos z]
          · rw [decide_eq_false z, if_neg Bool.false_ne_true, if_neg z]
        · rw [all_tt, Int.toNat_natCast, one_id, List.append_nil, ← List.map_append]
          refine frzL_vals ⟨?_, ?_, rfl⟩
          · rw [List.length_append, List.length_map, List.length_map, id_len]; omega
          · show X.val (.lst (r.map D.int ++ (idL es.length i).map D.int)) = X.val (intsD (seqI e ++ idL rss.length (i : Int).toNat))
            rw [h2, Int.toNat_natCast, ← hl, ← List.map_append]
            rfl
      · rw [all_tt, en_aug hS]
        exact ⟨by show 3 < 10; decide, rfl⟩
    · refine mi_enuT (m_cons (m_var rfl (m_nil ⟨es, rfl, by rw [en_len]; omega, fun v hv => ?_, fun e0 he0 oo ww => ?_, ?_⟩)))
      · rcases List.mem_cons.mp hv with rfl | hv
        · rfl
        · rw [List.mem_singleton.mp hv]; rfl
      · obtain ⟨i, e, h1, rfl⟩ := en_el he0
        obtain ⟨r, hr, h2, h3⟩ := hel e (List.mem_of_getElem? h1)
        have hrl := hR.len r hr
        refine mg_pair ⟨rfl, rfl, m_yes ⟨rfl, rfl, fun _ => v_lst (ma_star (m_var rfl (q_v ⟨r.map D.int, ?_, ma_star (v_lcM [4] (fun _ => true) (oneD i) (by decide) (by decide) (mi_rng1 (m_cons (m_cb (m_cons (m_var rfl (m_nil (c_lenT rfl (m_nil ⟨(es.length : Int), rfl, by omega, ?_, one_free rfl, fun d2 hd2 oo2 ww2 => ?_, q_v ⟨_, .inr rfl, m_nil ?_⟩⟩)))))))))⟩)))⟩⟩
        · rcases h3 with rfl | rfl
          · exact .inr rfl
          · exact .inl rfl
        · unfold rngD; rw [List.length_map, List.length_range]; omega
        · obtain ⟨j, hj, rfl⟩ := List.mem_map.mp hd2
          refine mg_name ⟨rfl, rfl, m_yes ⟨rfl, rfl, fun _ => m_cb (m_cons (m_op (m_var rfl (m_var rfl (r_eqI (m_nil (c_intB ⟨?_, rfl⟩)))))))⟩⟩
          show X.val (.int (if decide ((i : Int) = 0 + (j : Int)) = true then 1 else 0)) = X.val (.int (if (i : Int) = 0 + (j : Int) then 1 else 0))
          by_cases z : (i : Int) = 0 + (j : Int)
          · rw [decide_eq_true z, if_pos rfl, if_pos z]
          · rw [decide_eq_false z, if_neg Bool.false_ne_true, if_neg z]
        · rw [all_tt, Int.toNat_natCast, one_id, List.append_nil, ← List.map_append]
          refine frzL_vals ⟨?_, ?_, rfl⟩
          · rw [List.length_append, List.length_map, List.length_map, id_len]; omega
          · show X.val (.lst (r.map D.int ++ (idL es.length i).map D.int)) = X.val (intsD (seqI e ++ idL rss.length (i : Int).toNat))
            rw [h2, Int.toNat_natCast, ← hl, ← List.map_append]
            rfl
      · rw [all_tt, en_aug hS]
        exact ⟨by show 3 < 10; decide, rfl⟩
  subst hρ
  refine ms_seq (ms_for [6] (mi_rng1 (m_cons (m_var rfl (m_nil ⟨(w : Int), rfl, by omega, fun c ρ => ∃ s6 s7 s9 : Sl, s6.mut = false ∧ s7.mut = false ∧ s9.mut = false ∧ ρ = [.val d, .val (.int (w : Nat)), .none, .own (.lst ((runG clr (augL rss) c).map intsD)), .none, .none, s6, s7, .none, s9], ⟨.none, .none, .none, rfl, rfl, rfl, rfl⟩, fun c dc ρ2 hdc hI => ?_, fun ρ2 hI => ?_⟩)))))
  · obtain ⟨s6, s7, s9, m6, m7, m9, rfl⟩ := hI
    rw [Int.toNat_natCast] at hdc
    unfold rngD at hdc
    rw [List.getElem?_map] at hdc
    obtain ⟨c2, hc2, rfl⟩ := Option.map_eq_some_iff.mp hdc
    obtain ⟨hcw, hce⟩ := List.getElem?_eq_some_iff.mp hc2
    rw [List.length_range] at hcw
    rw [List.getElem_range] at hce
    subst hce
    obtain ⟨L, eL⟩ : ∃ L, L = runG clr (augL rss) c := ⟨_, rfl⟩
    have hsm := hR.sm c (Nat.le_of_lt hcw)
    have hpo := fun i h => hR.po c i h hcw
    have hnext : runG clr (augL rss) (c + 1) = stepG clr c L := by rw [eL]; rfl
    rw [← eL] at hsm hpo ⊢
    have hLl : L.length ≤ 60 := by
      rw [eL]
      exact Nat.le_trans (run_len clr c (augL rss)) (by unfold augL; rw [List.length_map, List.length_zipIdx]; exact hn)
    refine mg_name ?_
    rw [Int.zero_add]
    refine ms_seq (s_asg (m_f (mf_melt (j := 3) (ds := L.map intsD) rfl ?_ (mf_lcM [5, 8] (placeB c) placeD (by decide) (by decide) (mi_enL (m_cons (m_var rfl (m_nil ⟨L.map intsD, rfl, by rw [en_len, List.length_map]; omega, fun v hv => ?_, fun e0 he0 oo ww => ?_, plc c L, congrArg D.lst (en_plc c L), q_v ?_⟩))))))))
    · intro l hl3
      rcases l with _ | _ | _ | _ | _ | _ | _ | _ | _ | _ | l
      all_goals first | rfl | exact absurd rfl hl3 | exact m7 | exact m9
    · rcases List.mem_cons.mp hv with rfl | hv
      · rfl
      · rw [List.mem_singleton.mp hv]; rfl
    · obtain ⟨i, e, h1, rfl⟩ := en_el he0
      rw [List.getElem?_map] at h1
      obtain ⟨l, hl1, rfl⟩ := Option.map_eq_some_iff.mp h1
      obtain ⟨hs1, hs2⟩ := hsm l (List.mem_of_getElem? hl1)
      refine mg_pair ⟨rfl, rfl, m_test (m_op (m_op (m_var rfl (m_var rfl (r_ixL rfl (at_get (l := l) (by omega)) (m_cI (r_neI (q_bl ⟨rfl, ?_, fun _ => m_var rfl ⟨rfl, rfl⟩⟩))))))))⟩
      show (!decide (at_ l c = 0)) = decide (at_ (lineD (intsD l)) c ≠ 0)
      rw [line_ints]
      by_cases z : at_ l c = 0
      · rw [decide_eq_true z, decide_eq_false (fun y => y z)]; rfl
      · rw [decide_eq_false z, decide_eq_true z]; rfl
    refine ms_if (m_test (m_op (m_var rfl (v_lst (m_nil (q_n ⟨by decide, r_neD (pd := .list ((plc c L).map PyData.int)) (pe := .list []) rfl rfl (by simp only [intsD, pyOf, pyOf_ints, Option.map_some]) rfl (sh_ints _) rfl (q_bl ?_)⟩))))))
    rw [eqv_nil]
    have hh := plc_head c L
    cases ep : pivI c L with
    | none =>
      rw [ep] at hh
      have e0 : plc c L = [] := List.head?_eq_none_iff.mp hh
      have es1 : runG clr (augL rss) (c + 1) = L := by rw [hnext]; unfold stepG; rw [ep]
      rw [e0]
      exact q_f (ms_next ⟨_, _, _, rfl, rfl, m9, by rw [es1]; rfl⟩)
    | some i =>
      rw [ep] at hh
      obtain ⟨rest, e0⟩ : ∃ rest, plc c L = (i : Int) :: rest := by
        cases hp : plc c L with
        | nil => rw [hp] at hh; cases hh
        | cons x xs => rw [hp] at hh; cases hh; exact ⟨xs, rfl⟩
      obtain ⟨hi, _, _⟩ := List.findIdx?_eq_some_iff_getElem.mp ep
      obtain ⟨h, eh⟩ : ∃ h, L[i]? = some h := ⟨_, List.getElem?_eq_getElem hi⟩
      have hh2 := List.mem_of_getElem? eh
      obtain ⟨hs1, hs2⟩ := hsm h hh2
      rw [e0]
      refine q_t (ms_seq (s_asg (m_popAt rfl (m_op (m_var rfl (m_cI (r_ixL (ds := ((i : Int) :: rest).map D.int) rfl (at_head _ _) ⟨i, L.map intsD, intsD h, rfl, rfl, by omega, by rw [List.getElem?_map, eh]; rfl, q_v ?_⟩)))))))
      refine s_asgF (n := 2) (mf_lcM [8] (fun _ => true) (fun e => intsD (clr (lineD e) h c)) (by decide) (by decide) (mi_list (m_varS rfl (q_own rfl ⟨(L.map intsD).eraseIdx i, rfl, ?_, one_free rfl, fun e he oo ww => ?_, ?_, ?_⟩))))
      · rw [map_erase, List.length_map]
        exact Nat.le_trans (List.length_eraseIdx_le ..) (by omega)
      · rw [map_erase] at he
        obtain ⟨l, hl1, rfl⟩ := List.mem_map.mp he
        obtain ⟨ls1, ls2⟩ := hsm l (List.mem_of_mem_eraseIdx hl1)
        refine mg_name ⟨rfl, rfl, m_yes ⟨rfl, rfl, fun _ => m_fn wr0 (m_cons (m_var rfl (m_cons (m_var rfl (m_cons (m_var rfl (m_nil (q_c (q_v (q_c (q_v (q_c (q_v (q_n ⟨l, h, c, rfl, by omega, by omega, by omega, ls1, hs1, hpo i h ep eh l hl1, ?_, rfl⟩))))))))))))))⟩⟩
        rw [line_ints]
      · show 3 < 10; decide
      · refine ⟨.val (.int (c : Nat)), .val (intsD ((i : Int) :: rest)), .val (intsD h), rfl, rfl, rfl, ?_⟩
        have es1 : runG clr (augL rss) (c + 1) = (L.eraseIdx i).map fun l => clr l h c := by
          rw [hnext]; unfold stepG; rw [ep]
          show (L.eraseIdx i).map (fun l => clr l (L.getD i []) c) = _
          rw [List.getD_eq_getElem?_getD, eh]; rfl
        have es2 : (((L.map intsD).eraseIdx i).filter (fun _ => true)).map (fun e => intsD (clr (lineD e) h c)) = ((L.eraseIdx i).map fun l => clr l h c).map intsD := by
          rw [all_tt, map_erase, List.map_map, List.map_map]
          exact List.map_congr_left fun l _ => by show intsD (clr (lineD (intsD l)) h c) = _; rw [line_ints]; rfl
        rw [es1, es2]
        rfl
  · obtain ⟨s6, s7, s9, m6, m7, m9, rfl⟩ := hI
    have elw : (rngD 0 ((w : Int)).toNat).length = w := by unfold rngD; rw [List.length_map, List.length_range, Int.toNat_natCast]
    rw [elw]
    unfold wtsL at q
    cases eL : runG clr (augL rss) w with
    | nil =>
      rw [eL] at q
      exact ms_ret (m_ife (m_test (m_op (m_varS rfl (v_lst (m_nil (q_n ⟨by decide, r_neD (d := .lst []) (e := .lst []) (pd := .list []) (pe := .list []) rfl rfl rfl rfl rfl rfl (q_bl (q_f (m_cN (q_v q))))⟩)))))))
    | cons l ls =>
      rw [eL] at q
      refine ms_ret (m_ife (m_test (m_op (m_varS rfl (v_lst (m_nil (q_n ⟨by decide, r_neD (d := .lst ((l :: ls).map intsD)) (e := .lst []) (pd := .list ((l :: ls).map fun l => PyData.list (l.map PyData.int))) (pe := .list []) rfl rfl (by simp only [pyOf, pyOf_rows, Option.map_some]) rfl (sh_rows _) rfl (q_bl ?_)⟩)))))))
      rw [eqv_nil]
      refine q_t (v_sl (m_op (m_varS rfl (m_cI (r_ixL (ds := (l :: ls).map intsD) rfl (at_head _ _) (mo_part (m_var rfl ⟨(w : Int), rfl, mo_no ⟨l.map D.int, rfl, q_v ?_⟩⟩)))))))
      rw [cut_nat, ← List.map_drop]
      exact q
end
end K44
namespace K44
open PySem PySem.Spec PyProof.Rows L2 He SJ
open LamX (CodeO lamS_by Tabs tLam)
local macro_rules | `(tactic| walk_at "mr") => `(tactic| repeat' (first
  | with_reducible apply ms_seq | with_reducible apply ms_if | with_reducible apply ms_ret | with_reducible apply ms_next | with_reducible apply s_asg
  | ((with_reducible apply g_var); first | refine m_var rfl ?_ | refine m_varS rfl ?_)
  | with_reducible apply m_cI | with_reducible apply m_cS | with_reducible apply m_cB | with_reducible apply m_cN | with_reducible apply m_cC | with_reducible apply m_cT
  | with_reducible apply m_op | with_reducible apply m_cb | with_reducible apply m_nil | with_reducible apply m_cons | with_reducible apply m_test | with_reducible apply m_B | with_reducible apply q_bl
  | with_reducible apply m_and | with_reducible apply m_or | with_reducible apply m_not | with_reducible apply m_andV | with_reducible apply m_orV | with_reducible apply m_notV | with_reducible apply m_ife | with_reducible apply m_chain
  | with_reducible apply q_v | ((with_reducible apply g_slot); refine q_own rfl ?_) | with_reducible apply q_n | with_reducible apply q_c | with_reducible apply q_t | with_reducible apply q_f | with_reducible apply m_yes
  | with_reducible apply r_addI | with_reducible apply r_subI | with_reducible apply r_eqI | with_reducible apply r_neI | with_reducible apply r_eqS | with_reducible apply r_neS | with_reducible apply r_ltI | with_reducible apply r_leI | with_reducible apply r_gtI | with_reducible apply r_geI
  | with_reducible apply r_isN | with_reducible apply r_isnN | with_reducible apply c_intI | with_reducible apply c_intB | with_reducible apply v_lst | with_reducible apply m_tup | ((with_reducible apply g_le); refine ⟨Nat.le_of_ble_eq_true rfl, ?_⟩) | with_reducible apply v_sl | with_reducible apply v_dnew
  | ((with_reducible apply g_dget); refine m_dget ?_) | refine get_str rfl rfl ?_
  | with_reducible apply m_fld | with_reducible apply m_con | refine ⟨_, _, _, rfl, by walk_at "fd", rfl, ?_⟩
  | ((with_reducible apply g_fn); first | refine m_fn wr0 ?_ | refine m_fn (by assumption) ?_ | refine m_fnP ?_ rfl)
  | ((with_reducible apply g_nw); refine m_nw wr0 ?_) | ((with_reducible apply g_ownGet); refine m_ownGet wr0 ?_) | ((with_reducible apply g_ownIn); refine r_ownIn ?_)
  | ((with_reducible apply g_inS); first | refine r_inStrs rfl ?_ | refine r_inStrsT rfl ?_ | refine r_ninStrsT rfl ?_) | ((with_reducible apply g_len); first | refine c_lenL rfl ?_ | refine c_lenT rfl ?_ | refine c_lenD rfl ?_)
  | ((with_reducible apply g_list); first | refine c_listv (.inl rfl) ?_ | refine c_listv (.inr rfl) ?_) | ((with_reducible apply g_tupU); first | refine c_tupleL rfl ?_ | refine c_tupleT ?_) | ((with_reducible apply g_pr); refine m_pr ?_) | refine ⟨_, _, _, rfl, by walk_at "cl", by walk_at "pr", ?_⟩ | refine ⟨_, rfl, ?_⟩ | fail))
local macro_rules | `(tactic| walk_at "me") => `(tactic| repeat' (first
  | ((with_reducible apply g_var); first | refine m_var rfl ?_ | refine m_varS rfl ?_)
  | with_reducible apply m_cI | with_reducible apply m_cS | with_reducible apply m_cB | with_reducible apply m_cN | with_reducible apply m_cC | with_reducible apply m_cT
  | with_reducible apply m_op | with_reducible apply m_cb | with_reducible apply m_nil | with_reducible apply m_cons | with_reducible apply m_test | with_reducible apply m_B | with_reducible apply q_bl
  | with_reducible apply m_and | with_reducible apply m_or | with_reducible apply m_not | with_reducible apply m_andV | with_reducible apply m_orV | with_reducible apply m_notV | with_reducible apply m_ife | with_reducible apply m_chain
  | with_reducible apply q_v | ((with_reducible apply g_slot); refine q_own rfl ?_) | with_reducible apply q_n | with_reducible apply q_c | with_reducible apply q_t | with_reducible apply q_f | with_reducible apply m_yes
  | with_reducible apply r_addI | with_reducible apply r_subI | with_reducible apply r_eqI | with_reducible apply r_neI | with_reducible apply r_eqS | with_reducible apply r_neS | with_reducible apply r_ltI | with_reducible apply r_leI | with_reducible apply r_gtI | with_reducible apply r_geI
  | with_reducible apply r_isN | with_reducible apply r_isnN | with_reducible apply c_intI | with_reducible apply c_intB | with_reducible apply v_lst | with_reducible apply m_tup | ((with_reducible apply g_le); refine ⟨Nat.le_of_ble_eq_true rfl, ?_⟩) | with_reducible apply v_sl | with_reducible apply v_dnew
  | ((with_reducible apply g_dget); refine m_dget ?_) | refine get_str rfl rfl ?_
  | with_reducible apply m_fld | with_reducible apply m_con | refine ⟨_, _, _, rfl, by walk_at "fd", rfl, ?_⟩
  | ((with_reducible apply g_fn); first | refine m_fn wr0 ?_ | refine m_fn (by assumption) ?_ | refine m_fnP ?_ rfl)
  | ((with_reducible apply g_nw); refine m_nw wr0 ?_) | ((with_reducible apply g_ownGet); refine m_ownGet wr0 ?_) | ((with_reducible apply g_ownIn); refine r_ownIn ?_)
  | ((with_reducible apply g_inS); first | refine r_inStrs rfl ?_ | refine r_inStrsT rfl ?_ | refine r_ninStrsT rfl ?_) | ((with_reducible apply g_len); first | refine c_lenL rfl ?_ | refine c_lenT rfl ?_ | refine c_lenD rfl ?_)
  | ((with_reducible apply g_list); first | refine c_listv (.inl rfl) ?_ | refine c_listv (.inr rfl) ?_) | ((with_reducible apply g_tupU); first | refine c_tupleL rfl ?_ | refine c_tupleT ?_) | ((with_reducible apply g_pr); refine m_pr ?_) | refine ⟨_, _, _, rfl, by walk_at "cl", by walk_at "pr", ?_⟩ | refine ⟨_, rfl, ?_⟩ | fail))
section
variable {K : PySem.W.Frag} {mg : Str → Option Value} {vs : List V} {H : Hp} {Q : VK} {E : XK}
theorem pure_Lpen (T : Tx K mg) (h : sp_Lpen K vs H Q E) : t_Lpen K { nx := fun _ H2 => Q .non H2, rt := Q } (start ["_law_script"] vs) H := pen_ok h
theorem pure_Ldraw (T : Tx K mg) (h : sp_Ldraw K vs H Q E) : t_Ldraw K { nx := fun _ H2 => Q .non H2, rt := Q } (start ["_law_pen_here", "_law_many", "_law_digit", "_law_at", "_law_cell", "_law_great", "_law_mixed"] vs) H :=
  draw_okB (c1 := 90023) (c2 := 109) (m1 := 2147483563) (c3 := 50047) (c4 := 19) (m2 := 2147483587) (c5 := 43) (c6 := 60037) (c7 := 17) (m3 := 2147483629) (draw_of h) (by decide) (by decide) (by decide) (by decide) (by decide) (by decide) (by decide) (by decide) (by decide)
theorem pure_Lpick (T : Tx K mg) (h : sp_Lpick K vs H Q E) : t_Lpick K { nx := fun _ H2 => Q .non H2, rt := Q } (start ["_law_pen_here", "_law_some"] vs) H := by
  refine body_pp h fun o w F0 m ds Qd ⟨es, hd, h1, h2, h3, q⟩ => ?_
  have hpos : 0 < es.length := Nat.pos_of_ne_zero fun z => h2 (List.eq_nil_of_length_eq_zero z)
  rcases hd with rfl | rfl
  · refine ms_ret (m_op (m_var rfl (m_fnP (m_cons (m_cb (m_cons (m_var rfl (m_nil (c_lenL rfl (m_nil ⟨_, rfl, _, rfl, h1, by omega, by omega, fun r r0 r1 => ?_⟩))))))) rfl)))
    obtain ⟨e, e1, e2⟩ := atI_in r0 r1
    exact r_ixL rfl e2 (q_v ⟨_, rfl, q e (List.mem_of_getElem? e1)⟩)
  · refine ms_ret (m_op (m_var rfl (m_fnP (m_cons (m_cb (m_cons (m_var rfl (m_nil (c_lenT rfl (m_nil ⟨_, rfl, _, rfl, h1, by omega, by omega, fun r r0 r1 => ?_⟩))))))) rfl)))
    obtain ⟨e, e1, e2⟩ := atI_in r0 r1
    exact r_ixT rfl e2 (q_v ⟨_, rfl, q e (List.mem_of_getElem? e1)⟩)
end
end K44
namespace K44
open PySem PySem.Spec PyProof.Rows L2 He SJ
open LamX (CodeO lamS_by Tabs tLam)
local macro_rules | `(tactic| walk_at "mr") => `(tactic| repeat' (first
  | with_reducible apply ms_seq | with_reducible apply ms_if | with_reducible apply ms_ret | with_reducible apply ms_next | with_reducible apply s_asg
  | ((with_reducible apply g_var); first | refine m_var rfl ?_ | refine m_varS rfl ?_)
  | with_reducible apply m_cI | with_reducible apply m_cS | with_reducible apply m_cB | with_reducible apply m_cN | with_reducible apply m_cC | with_reducible apply m_cT
  | with_reducible apply m_op | with_reducible apply m_cb | with_reducible apply m_nil | with_reducible apply m_cons | with_reducible apply m_test | with_reducible apply m_B | with_reducible apply q_bl
  | with_reducible apply m_and | with_reducible apply m_or | with_reducible apply m_not | with_reducible apply m_andV | with_reducible apply m_orV | with_reducible apply m_notV | with_reducible apply m_ife | with_reducible apply m_chain
  | with_reducible apply q_v | ((with_reducible apply g_slot); refine q_own rfl ?_) | with_reducible apply q_n | with_reducible apply q_c | with_reducible apply q_t | with_reducible apply q_f | with_reducible apply m_yes
  | with_reducible apply r_addI | with_reducible apply r_subI | with_reducible apply r_eqI | with_reducible apply r_neI | with_reducible apply r_eqS | with_reducible apply r_neS | with_reducible apply r_ltI | with_reducible apply r_leI | with_reducible apply r_gtI | with_reducible apply r_geI
  | with_reducible apply r_isN | with_reducible apply r_isnN | with_reducible apply c_intI | with_reducible apply c_intB | with_reducible apply v_lst | with_reducible apply m_tup | ((with_reducible apply g_le); refine ⟨Nat.le_of_ble_eq_true rfl, ?_⟩) | with_reducible apply v_sl | with_reducible apply v_dnew
  | ((with_reducible apply g_dget); refine m_dget ?_) | refine get_str rfl rfl ?_
  | with_reducible apply m_fld | with_reducible apply m_con | refine ⟨_, _, _, rfl, by walk_at "fd", rfl, ?_⟩
  | ((with_reducible apply g_fn); first | refine m_fn wr0 ?_ | refine m_fn (by assumption) ?_ | refine m_fnP ?_ rfl)
  | ((with_reducible apply g_nw); refine m_nw wr0 ?_) | ((with_reducible apply g_ownGet); refine m_ownGet wr0 ?_) | ((with_reducible apply g_ownIn); refine r_ownIn ?_)
  | ((with_reducible apply g_inS); first | refine r_inStrs rfl ?_ | refine r_inStrsT rfl ?_ | refine r_ninStrsT rfl ?_) | ((with_reducible apply g_len); first | refine c_lenL rfl ?_ | refine c_lenT rfl ?_ | refine c_lenD rfl ?_)
  | ((with_reducible apply g_list); first | refine c_listv (.inl rfl) ?_ | refine c_listv (.inr rfl) ?_) | ((with_reducible apply g_tupU); first | refine c_tupleL rfl ?_ | refine c_tupleT ?_) | ((with_reducible apply g_pr); refine m_pr ?_) | refine ⟨_, _, _, rfl, by walk_at "cl", by walk_at "pr", ?_⟩ | refine ⟨_, rfl, ?_⟩ | fail))
local macro_rules | `(tactic| walk_at "me") => `(tactic| repeat' (first
  | ((with_reducible apply g_var); first | refine m_var rfl ?_ | refine m_varS rfl ?_)
  | with_reducible apply m_cI | with_reducible apply m_cS | with_reducible apply m_cB | with_reducible apply m_cN | with_reducible apply m_cC | with_reducible apply m_cT
  | with_reducible apply m_op | with_reducible apply m_cb | with_reducible apply m_nil | with_reducible apply m_cons | with_reducible apply m_test | with_reducible apply m_B | with_reducible apply q_bl
  | with_reducible apply m_and | with_reducible apply m_or | with_reducible apply m_not | with_reducible apply m_andV | with_reducible apply m_orV | with_reducible apply m_notV | with_reducible apply m_ife | with_reducible apply m_chain
  | with_reducible apply q_v | ((with_reducible apply g_slot); refine q_own rfl ?_) | with_reducible apply q_n | with_reducible apply q_c | with_reducible apply q_t | with_reducible apply q_f | with_reducible apply m_yes
  | with_reducible apply r_addI | with_reducible apply r_subI | with_reducible apply r_eqI | with_reducible apply r_neI | with_reducible apply r_eqS | with_reducible apply r_neS | with_reducible apply r_ltI | with_reducible apply r_leI | with_reducible apply r_gtI | with_reducible apply r_geI
  | with_reducible apply r_isN | with_reducible apply r_isnN | with_reducible apply c_intI | with_reducible apply c_intB | with_reducible apply v_lst | with_reducible apply m_tup | ((with_reducible apply g_le); refine ⟨Nat.le_of_ble_eq_true rfl, ?_⟩) | with_reducible apply v_sl | with_reducible apply v_dnew
  | ((with_reducible apply g_dget); refine m_dget ?_) | refine get_str rfl rfl ?_
  | with_reducible apply m_fld | with_reducible apply m_con | refine ⟨_, _, _, rfl, by walk_at "fd", rfl, ?_⟩
  | ((with_reducible apply g_fn); first | refine m_fn wr0 ?_ | refine m_fn (by assumption) ?_ | refine m_fnP ?_ rfl)
  | ((with_reducible apply g_nw); refine m_nw wr0 ?_) | ((with_reducible apply g_ownGet); refine m_ownGet wr0 ?_) | ((with_reducible apply g_ownIn); refine r_ownIn ?_)
  | ((with_reducible apply g_inS); first | refine r_inStrs rfl ?_ | refine r_inStrsT rfl ?_ | refine r_ninStrsT rfl ?_) | ((with_reducible apply g_len); first | refine c_lenL rfl ?_ | refine c_lenT rfl ?_ | refine c_lenD rfl ?_)
  | ((with_reducible apply g_list); first | refine c_listv (.inl rfl) ?_ | refine c_listv (.inr rfl) ?_) | ((with_reducible apply g_tupU); first | refine c_tupleL rfl ?_ | refine c_tupleT ?_) | ((with_reducible apply g_pr); refine m_pr ?_) | refine ⟨_, _, _, rfl, by walk_at "cl", by walk_at "pr", ?_⟩ | refine ⟨_, rfl, ?_⟩ | fail))
theorem bits_snoc {w : Nat} {rss : List (List Int)} {r : List Int} (h : Bits w rss) (h1 : r.length = w) (h2 : ∀ x ∈ r, x = 0 ∨ x = 1) : Bits w (rss ++ [r]) := by
  refine ⟨fun y hy => ?_, fun y hy x hx => ?_⟩
  · rcases List.mem_append.mp hy with hy | hy
    · exact h.len y hy
    · rw [List.mem_singleton.mp hy]; exact h1
  · rcases List.mem_append.mp hy with hy | hy
    · exact h.bit y hy x hx
    · rw [List.mem_singleton.mp hy] at hx; exact h2 x hx
theorem max_mem {a b : List Int} (e : a.length = b.length) (ha : ∀ x ∈ a, x = 0 ∨ x = 1) (hb : ∀ x ∈ b, x = 0 ∨ x = 1) : (List.zipWith (fun i j => if j > i then j else i) a b).length = a.length ∧ ∀ x ∈ List.zipWith (fun i j : Int => if j > i then j else i) a b, x = 0 ∨ x = 1 := by
  refine ⟨by rw [List.length_zipWith]; omega, fun x hx => ?_⟩
  obtain ⟨i, hi⟩ := List.getElem?_of_mem hx
  rw [List.getElem?_zipWith] at hi
  cases e1 : a[i]? with
  | none => rw [e1] at hi; cases hi
  | some u =>
    cases e2 : b[i]? with
    | none => rw [e1, e2] at hi; cases hi
    | some v =>
      rw [e1, e2] at hi
      cases hi
      rcases ha u (List.mem_of_getElem? e1) with rfl | rfl <;> rcases hb v (List.mem_of_getElem? e2) with rfl | rfl <;> decide
def maxD : D → D
  | .tup [.int i, .int j] => .int (if j > i then j else i)
  | _ => .non
theorem zip_max : ∀ a b : List Int, (zipD (a.map D.int) (b.map D.int)).map maxD = (List.zipWith (fun i j : Int => if j > i then j else i) a b).map D.int
  | [], _ => by simp [zipD]
  | _ :: _, [] => by simp [zipD]
  | x :: a, y :: b => by
    have ih := zip_max a b
    unfold zipD at ih ⊢
    simp only [List.map_cons, List.zip_cons_cons, List.zipWith_cons_cons, ih]
    rfl
theorem many_at (a b m k t : Nat) : (if decide (((k : Int) * a + t * b + k * t * t) % m < 3) = true then (1 : Int) else 0) = if (k * a + t * b + k * t * t) % m < 3 then 1 else 0 := by
  have e : (((k : Int) * a + t * b + k * t * t) % m) = (((k * a + t * b + k * t * t) % m : Nat) : Int) := by simp
  rw [e]
  by_cases z : (k * a + t * b + k * t * t) % m < 3
  · rw [decide_eq_true (show (((k * a + t * b + k * t * t) % m : Nat) : Int) < 3 by omega), if_pos rfl, if_pos z]
  · rw [decide_eq_false (show ¬ (((k * a + t * b + k * t * t) % m : Nat) : Int) < 3 by omega), if_neg Bool.false_ne_true, if_neg z]
def bitD (a b m k : Nat) : D → D
  | .int t => .int (if (k * a + t.toNat * b + k * t.toNat * t.toNat) % m < 3 then 1 else 0)
  | _ => .non
def rowD (a b m : Nat) : D → D
  | .int k => intsD (manyR a b m k.toNat)
  | _ => .non
section
variable {K : PySem.W.Frag} {mg : Str → Option Value} {vs : List V} {H : Hp} {Q : VK} {E : XK}
theorem pure_Lmany_rows (T : Tx K mg) (h : sp_Lmany_rows K vs H Q E) : t_Lmany_rows K { nx := fun _ H2 => Q .non H2, rt := Q } (start ["_law_pen_here", "_law_one", "_law_other", "_law_part", "_law_at", "_law_k"] vs) H := by
  refine body_pp h fun o w F0 n ds Qd ⟨e, hn, q⟩ => ?_
  subst e
  refine ms_seq (ms_asgG (js := [1, 2, 3]) (m_tup (m_cons (m_op (m_cI (m_fnP (m_cons (m_cI (m_nil ⟨n, rfl, 90, rfl, by omega, by decide, by decide, fun a a0 a1 => r_addI ?_⟩))) rfl))))))
  refine m_cons (m_op (m_cI (m_fnP (m_cons (m_cI (m_nil ⟨n + 1, rfl, 90, rfl, by omega, by decide, by decide, fun b b0 b1 => r_addI ?_⟩))) rfl)))
  refine m_cons (m_op (v_lst (m_cons (m_cI (m_cons (m_cI (m_cons (m_cI (m_nil (q_c (q_v (q_c (q_v (q_c (q_v (q_n ⟨Nat.le_of_ble_eq_true rfl, m_fnP (m_cons (m_cI (m_nil ⟨n + 2, rfl, 3, rfl, by omega, by decide, by decide, fun t t0 t1 => ?_⟩))) rfl⟩))))))))))))))))
  obtain ⟨e, e1, e2⟩ := atI_in (xs := [D.int 5, .int 7, .int 11]) t0 t1
  obtain ⟨m, rfl, hm⟩ : ∃ m : Nat, e = .int (m : Nat) ∧ (m = 5 ∨ m = 7 ∨ m = 11) := by
    rcases List.mem_cons.mp (List.mem_of_getElem? e1) with rfl | h
    · exact ⟨5, rfl, .inl rfl⟩
    · rcases List.mem_cons.mp h with rfl | h
      · exact ⟨7, rfl, .inr (.inl rfl)⟩
      · rw [List.mem_singleton.mp h]; exact ⟨11, rfl, .inr (.inr rfl)⟩
  obtain ⟨a2, ea⟩ : ∃ a2 : Nat, 1 + a = (a2 : Nat) := ⟨(1 + a).toNat, by omega⟩
  obtain ⟨b2, eb⟩ : ∃ b2 : Nat, 1 + b = (b2 : Nat) := ⟨(1 + b).toNat, by omega⟩
  rw [ea, eb]
  refine r_ixL rfl e2 (m_nil ⟨Nat.le_of_ble_eq_true rfl, q_v (mg_trip ?_)⟩)
  have ha2 : a2 ≤ 90 := by omega
  have hb2 : b2 ≤ 90 := by omega
  refine ms_ret (v_lcM [5] (fun _ => true) (rowD a2 b2 m) (by decide) (by decide) (mi_rng1 (m_cons (m_cI (m_nil ⟨50, rfl, by decide, by unfold rngD; rw [List.length_map, List.length_range]; decide, one_free rfl, fun d hd oo ww => ?_, q_v ⟨_, rfl, ?_⟩⟩)))))
  · obtain ⟨k, hk, rfl⟩ := List.mem_map.mp hd
    rw [Int.zero_add]
    have hk2 : k < 50 := List.mem_range.mp hk
    refine mg_name ⟨rfl, rfl, m_yes ⟨rfl, rfl, fun _ => v_lcM [4] (fun _ => true) (bitD a2 b2 m k) (by decide) (by decide) (mi_rng1 (m_cons (m_cI (m_nil ⟨49, rfl, by decide, by unfold rngD; rw [List.length_map, List.length_range]; decide, one_free rfl, fun d2 hd2 oo2 ww2 => ?_, ?_⟩))))⟩⟩
    · obtain ⟨t2, ht, rfl⟩ := List.mem_map.mp hd2
      rw [Int.zero_add]
      have ht2 : t2 < 49 := List.mem_range.mp ht
      have sm : ∀ x y : Nat, x < 100 → CMul (x : Int) (y : Int) := fun x y hx => .inl ⟨by omega, by omega⟩
      have sm2 : CMul ((k : Int) * (t2 : Int)) (t2 : Int) := .inr ⟨by omega, by omega⟩
      refine mg_name ⟨rfl, rfl, m_yes ⟨rfl, rfl, fun _ => m_cb (m_cons (m_op (m_op (m_cb (m_cons (m_op (m_op (m_op (m_var rfl (m_var rfl (r_mulI (sm k a2 (by omega)) (m_op (m_var rfl (m_var rfl (r_mulI (sm t2 b2 (by omega)) (r_addI (m_op (m_op (m_var rfl (m_var rfl (r_mulI (sm k t2 (by omega)) (m_var rfl (r_mulI sm2 (r_addI (m_nil (c_intI (m_var rfl (r_mod (by omega) (m_cI (r_ltI (m_nil (c_intB ⟨?_, rfl⟩))))))))))))))))))))))))))))))))⟩⟩
      rw [many_at]
      rfl
    · refine ⟨?_, rfl⟩
      rw [all_tt]
      show X.val (.lst _) = X.val (intsD (manyR a2 b2 m k))
      unfold manyR intsD rngD
      rw [List.map_map, List.map_map]
      refine congrArg (fun l => X.val (.lst l)) (List.map_congr_left fun t _ => ?_)
      show bitD a2 b2 m k (.int (0 + (t : Int))) = _
      rw [Int.zero_add]
      show D.int _ = D.int _
      rw [Int.toNat_natCast]
  · rw [all_tt]
    have e5 : (rngD 0 (50 : Int).toNat).map (rowD a2 b2 m) = (manyL a2 b2 m).map intsD := by
      unfold rngD manyL
      rw [List.map_map, List.map_map]
      refine List.map_congr_left fun k _ => ?_
      show rowD a2 b2 m (.int (0 + (k : Int))) = _
      rw [Int.zero_add]
      show intsD (manyR a2 b2 m ((k : Int)).toNat) = _
      rw [Int.toNat_natCast]
      rfl
    rw [e5]
    exact q a2 b2 m hm
end
end K44
namespace K44
open PySem PySem.Spec PyProof.Rows L2 He SJ
open LamX (CodeO lamS_by Tabs tLam)
local macro_rules | `(tactic| walk_at "mr") => `(tactic| repeat' (first
  | with_reducible apply ms_seq | with_reducible apply ms_if | with_reducible apply ms_ret | with_reducible apply ms_next | with_reducible apply s_asg
  | ((with_reducible apply g_var); first | refine m_var rfl ?_ | refine m_varS rfl ?_)
  | with_reducible apply m_cI | with_reducible apply m_cS | with_reducible apply m_cB | with_reducible apply m_cN | with_reducible apply m_cC | with_reducible apply m_cT
  | with_reducible apply m_op | with_reducible apply m_cb | with_reducible apply m_nil | with_reducible apply m_cons | with_reducible apply m_test | with_reducible apply m_B | with_reducible apply q_bl
  | with_reducible apply m_and | with_reducible apply m_or | with_reducible apply m_not | with_reducible apply m_andV | with_reducible apply m_orV | with_reducible apply m_notV | with_reducible apply m_ife | with_reducible apply m_chain
  | with_reducible apply q_v | ((with_reducible apply g_slot); refine q_own rfl ?_) | with_reducible apply q_n | with_reducible apply q_c | with_reducible apply q_t | with_reducible apply q_f | with_reducible apply m_yes
  | with_reducible apply r_addI | with_reducible apply r_subI | with_reducible apply r_eqI | with_reducible apply r_neI | with_reducible apply r_eqS | with_reducible apply r_neS | with_reducible apply r_ltI | with_reducible apply r_leI | with_reducible apply r_gtI | with_reducible apply r_geI
  | with_reducible apply r_isN | with_reducible apply r_isnN | with_reducible apply c_intI | with_reducible apply c_intB | with_reducible apply v_lst | with_reducible apply m_tup | ((with_reducible apply g_le); refine ⟨Nat.le_of_ble_eq_true rfl, ?_⟩) | with_reducible apply v_sl | with_reducible apply v_dnew
  | ((with_reducible apply g_dget); refine m_dget ?_) | refine get_str rfl rfl ?_
  | with_reducible apply m_fld | with_reducible apply m_con | refine ⟨_, _, _, rfl, by walk_at "fd", rfl, ?_⟩
  | ((with_reducible apply g_fn); first | refine m_fn wr0 ?_ | refine m_fn (by assumption) ?_ | refine m_fnP ?_ rfl)
  | ((with_reducible apply g_nw); refine m_nw wr0 ?_) | ((with_reducible apply g_ownGet); refine m_ownGet wr0 ?_) | ((with_reducible apply g_ownIn); refine r_ownIn ?_)
  | ((with_reducible apply g_inS); first | refine r_inStrs rfl ?_ | refine r_inStrsT rfl ?_ | refine r_ninStrsT rfl ?_) | ((with_reducible apply g_len); first | refine c_lenL rfl ?_ | refine c_lenT rfl ?_ | refine c_lenD rfl ?_)
  | ((with_reducible apply g_list); first | refine c_listv (.inl rfl) ?_ | refine c_listv (.inr rfl) ?_) | ((with_reducible apply g_tupU); first | refine c_tupleL rfl ?_ | refine c_tupleT ?_) | ((with_reducible apply g_pr); refine m_pr ?_) | refine ⟨_, _, _, rfl, by walk_at "cl", by walk_at "pr", ?_⟩ | refine ⟨_, rfl, ?_⟩ | fail))
local macro_rules | `(tactic| walk_at "me") => `(tactic| repeat' (first
  | ((with_reducible apply g_var); first | refine m_var rfl ?_ | refine m_varS rfl ?_)
  | with_reducible apply m_cI | with_reducible apply m_cS | with_reducible apply m_cB | with_reducible apply m_cN | with_reducible apply m_cC | with_reducible apply m_cT
  | with_reducible apply m_op | with_reducible apply m_cb | with_reducible apply m_nil | with_reducible apply m_cons | with_reducible apply m_test | with_reducible apply m_B | with_reducible apply q_bl
  | with_reducible apply m_and | with_reducible apply m_or | with_reducible apply m_not | with_reducible apply m_andV | with_reducible apply m_orV | with_reducible apply m_notV | with_reducible apply m_ife | with_reducible apply m_chain
  | with_reducible apply q_v | ((with_reducible apply g_slot); refine q_own rfl ?_) | with_reducible apply q_n | with_reducible apply q_c | with_reducible apply q_t | with_reducible apply q_f | with_reducible apply m_yes
  | with_reducible apply r_addI | with_reducible apply r_subI | with_reducible apply r_eqI | with_reducible apply r_neI | with_reducible apply r_eqS | with_reducible apply r_neS | with_reducible apply r_ltI | with_reducible apply r_leI | with_reducible apply r_gtI | with_reducible apply r_geI
  | with_reducible apply r_isN | with_reducible apply r_isnN | with_reducible apply c_intI | with_reducible apply c_intB | with_reducible apply v_lst | with_reducible apply m_tup | ((with_reducible apply g_le); refine ⟨Nat.le_of_ble_eq_true rfl, ?_⟩) | with_reducible apply v_sl | with_reducible apply v_dnew
  | ((with_reducible apply g_dget); refine m_dget ?_) | refine get_str rfl rfl ?_
  | with_reducible apply m_fld | with_reducible apply m_con | refine ⟨_, _, _, rfl, by walk_at "fd", rfl, ?_⟩
  | ((with_reducible apply g_fn); first | refine m_fn wr0 ?_ | refine m_fn (by assumption) ?_ | refine m_fnP ?_ rfl)
  | ((with_reducible apply g_nw); refine m_nw wr0 ?_) | ((with_reducible apply g_ownGet); refine m_ownGet wr0 ?_) | ((with_reducible apply g_ownIn); refine r_ownIn ?_)
  | ((with_reducible apply g_inS); first | refine r_inStrs rfl ?_ | refine r_inStrsT rfl ?_ | refine r_ninStrsT rfl ?_) | ((with_reducible apply g_len); first | refine c_lenL rfl ?_ | refine c_lenT rfl ?_ | refine c_lenD rfl ?_)
  | ((with_reducible apply g_list); first | refine c_listv (.inl rfl) ?_ | refine c_listv (.inr rfl) ?_) | ((with_reducible apply g_tupU); first | refine c_tupleL rfl ?_ | refine c_tupleT ?_) | ((with_reducible apply g_pr); refine m_pr ?_) | refine ⟨_, _, _, rfl, by walk_at "cl", by walk_at "pr", ?_⟩ | refine ⟨_, rfl, ?_⟩ | fail))
section
variable {K : PySem.W.Frag} {mg : Str → Option Value} {vs : List V} {H : Hp} {Q : VK} {E : XK}
theorem rows_ne {rss : List (List Int)} : (rss.map fun l => PyData.list (l.map PyData.int)).isEmpty = decide (rss = []) := by
  cases rss <;> rfl
theorem rep_zero : ∀ n : Nat, (List.replicate n [D.int 0]).flatten = (List.replicate n (0 : Int)).map D.int
  | 0 => rfl
  | n + 1 => by rw [List.replicate_succ, List.flatten_cons, rep_zero n, List.replicate_succ, List.map_cons]; rfl
theorem pick_row {rss : List (List Int)} {n : Nat} {Qd : D → Nat → Prop} (hn : n < 100000) (hne : rss ≠ []) (hl : rss.length ≤ 14) (k : ∀ r ∈ rss, Qd (intsD r) (n + 1)) : PPick n [.lst (rss.map intsD)] Qd := by
  refine ⟨rss.map intsD, .inl rfl, hn, fun z => hne (List.map_eq_nil_iff.mp z), by rw [List.length_map]; omega, fun e he => ?_⟩
  obtain ⟨r, hr, rfl⟩ := List.mem_map.mp he
  exact k r hr
theorem pure_Lrows (T : Tx K mg) (h : sp_Lrows K vs H Q E) : t_Lrows K { nx := fun _ H2 => Q .non H2, rt := Q } (start ["_law_pen_here", "_law_width", "_law_found", "_law_turn", "_law_way", "_law_row", "_law_at", "_law_one", "_law_other"] vs) H := by
  refine body_pp h fun o w F0 n ds Qd ⟨e, hn, q⟩ => ?_
  subst e
  refine ms_seq (ms_parVF (by decide) (by decide) (by decide) (m_fnP (m_cons (m_cI (m_nil ⟨n, rfl, 10, rfl, by omega, by decide, by decide, fun wd0 w0 w1 => q_v (mf_lst (m_nil (q_n ⟨Nat.zero_le _, by show 2 < 9; decide, ?_⟩)))⟩))) rfl))
  obtain ⟨wd, rfl⟩ : ∃ wd : Nat, wd0 = (wd : Nat) := ⟨wd0.toNat, by omega⟩
  have hwd : wd ≤ 9 := by omega
  refine ms_seq (ms_for [3] (mi_rng1 (m_cons (m_fnP (m_cons (m_cI (m_nil ⟨n + 1, rfl, 15, rfl, by omega, by decide, by decide, fun kk k0 k1 => ?_⟩))) rfl))))
  refine m_nil ⟨kk, rfl, ⟨by omega, by omega⟩, fun i ρ => ∃ (rss : List (List Int)) (m : Nat) (s3 s4 s5 : Sl), Bits wd rss ∧ rss.length ≤ i ∧ m ≤ n + 2 + 13 * i ∧ ρ = [.pen m, .val (.int (wd : Nat)), .own (.lst (rss.map intsD)), s3, s4, s5, .none, .none, .none], ⟨[], n + 1 + 1, _, _, _, ⟨(fun r hr => nomatch hr), (fun r hr => nomatch hr)⟩, Nat.zero_le _, by omega, rfl⟩, fun i d ρ2 hd hI => ?_, fun ρ2 hI => ?_⟩
  rotate_left
  · obtain ⟨rss, m, s3, s4, s5, hB, hl, hm, rfl⟩ := hI
    have hk : (rngD 0 kk.toNat).length ≤ 14 := by unfold rngD; rw [List.length_map, List.length_range]; omega
    refine ms_ret (m_varS rfl (q_own rfl ⟨m, rfl, ?_⟩))
    by_cases hz : rss = []
    · subst hz
      exact q 0 [] m ⟨(fun r hr => nomatch hr), (fun r hr => nomatch hr)⟩ (Nat.zero_le _) (by decide) (fun _ => rfl) (by omega)
    · exact q wd rss m hB (by omega) hwd (fun z => absurd z hz) (by omega)
  obtain ⟨rss, m, s3, s4, s5, hB, hl, hm, rfl⟩ := hI
  have hi : i < 14 := by
    have h1 := (List.getElem?_eq_some_iff.mp hd).1
    unfold rngD at h1
    rw [List.length_map, List.length_range] at h1
    omega
  refine mg_name (ms_seq (s_asg (m_fnP (m_cons (m_cI (m_nil ⟨m, rfl, 6, rfl, by omega, by decide, by decide, fun way y0 y1 => q_v ?_⟩))) rfl)))
  -- a drawn row
  refine ms_seq (s_asg (m_f (mf_lc [6] (by decide) (by decide) (mi_rng1 (m_cons (m_var rfl (m_nil ⟨(wd : Int), rfl, by omega, by unfold rngD; rw [List.length_map, List.length_range]; omega, fun j acc ρ => ∃ xs : List Int, acc = xs.map D.int ∧ xs.length = j ∧ (∀ x ∈ xs, x = 0 ∨ x = 1) ∧ ρ = [.pen (m + 1 + j), .val (.int (wd : Nat)), .own (.lst (rss.map intsD)), .val d, .val (.int way), s5, .none, .none, .none], ⟨[], rfl, rfl, (fun x hx => nomatch hx), rfl⟩, fun j e acc ρ2 he _ hI => ?_, fun acc ρ2 hI => ?_⟩)))))))
  · obtain ⟨xs, rfl, hx1, hx2, rfl⟩ := hI
    have hj : j < wd := by
      have h1 := (List.getElem?_eq_some_iff.mp he).1
      unfold rngD at h1
      rw [List.length_map, List.length_range] at h1
      omega
    refine ⟨one_free rfl, fun oo ww => mg_name ⟨rfl, m_yes (q_t (m_fnP (m_cons (m_cI (m_nil ⟨m + 1 + j, rfl, 2, rfl, by omega, by decide, by decide, fun r r0 r1 => q_v ⟨rfl, xs ++ [r], by rw [List.map_append]; rfl, by rw [List.length_append, hx1]; rfl, ?_, rfl⟩⟩))) rfl))⟩⟩
    intro x hx
    rcases List.mem_append.mp hx with hx | hx
    · exact hx2 x hx
    · rw [List.mem_singleton.mp hx]; omega
  obtain ⟨xs, rfl, hxl, hxb, rfl⟩ := hI
  have hlw : (rngD 0 ((wd : Int)).toNat).length = wd := by unfold rngD; rw [List.length_map, List.length_range, Int.toNat_natCast]
  rw [hlw] at hxl ⊢
  refine q_v ?_
  obtain ⟨m2, em2⟩ : ∃ m2, m2 = m + 1 + wd := ⟨_, rfl⟩
  rw [← em2]
  show Ms K _ F0 _ [.pen m2, .val (.int (wd : Nat)), .own (.lst (rss.map intsD)), .val d, .val (.int way), .val (intsD xs), .none, .none, .none] _
  have hlr : rss.length ≤ 14 := by omega
  have neq : ∀ (ρ : Ro) (Q2 : X → Ro → Prop), sl ρ 2 = .own (.lst (rss.map intsD)) → Q2 (.val (.bl (!decide (rss = [])))) ρ → Me K ⟨o, w, TB K⟩ F0 (tOp (rNeU K) (tVar 2) (tLst tNil)) ρ Q2 := fun ρ Q2 hs k => by
    refine m_op (m_varS (by rw [hs]; rfl) (v_lst (m_nil (q_n ⟨Nat.zero_le _, r_neD (d := .lst (rss.map intsD)) (e := .lst []) (pd := .list (rss.map fun l => PyData.list (l.map PyData.int))) (pe := .list []) ?_ rfl (by simp only [pyOf, pyOf_rows, Option.map_some]) rfl (sh_rows _) rfl ?_⟩))))
    · show (match sl ρ 2 with
        | .own d => some d
        | .val d => some d
        | _ => none) = _
      rw [hs]
    · rw [eqv_nil, rows_ne]
      exact k
  -- one that is there
  refine ms_seq (ms_to (P := fun ρ => ∃ (m3 : Nat) (r : List Int), m3 ≤ m2 + 1 ∧ r.length = wd ∧ (∀ x ∈ r, x = 0 ∨ x = 1) ∧ ρ = [.pen m3, .val (.int (wd : Nat)), .own (.lst (rss.map intsD)), .val d, .val (.int way), .val (intsD r), .none, .none, .none]) ?_ fun ρ2 hρ => ?_)
  · refine ms_if (m_and (m_test (m_op (m_var rfl (m_cI (r_eqI (q_bl ?_)))))))
    by_cases h1 : way = 0
    · rw [decide_eq_true h1]
      refine q_t (m_test (neq _ _ rfl (q_bl ?_)))
      by_cases h2 : rss = []
      · rw [decide_eq_true h2]
        exact q_f (ms_next ⟨m2, xs, by omega, hxl, hxb, rfl⟩)
      · rw [decide_eq_false h2]
        refine q_t (s_asg (m_fnPL (j := 2) (by decide) rfl rfl h2 (pick_row (by omega) h2 hlr fun r hr => ⟨r, rfl, q_v ⟨m2 + 1, r, by omega, hB.len r hr, hB.bit r hr, rfl⟩⟩)))
    · rw [decide_eq_false h1]
      exact q_f (ms_next ⟨m2, xs, by omega, hxl, hxb, rfl⟩)
  obtain ⟨m3, r3, hm3, hl3, hb3, rfl⟩ := hρ
  -- zeros
  refine ms_seq (ms_to (P := fun ρ => ∃ r : List Int, r.length = wd ∧ (∀ x ∈ r, x = 0 ∨ x = 1) ∧ ρ = [.pen m3, .val (.int (wd : Nat)), .own (.lst (rss.map intsD)), .val d, .val (.int way), .val (intsD r), .none, .none, .none]) ?_ fun ρ2 hρ => ?_)
  · refine ms_if (m_test (m_op (m_var rfl (m_cI (r_eqI (q_bl ?_))))))
    by_cases h1 : way = 1
    · rw [decide_eq_true h1]
      refine q_t (s_asg (v_repL (v_lst (m_cons (m_cI (m_nil (q_c (q_v (q_n ⟨Nat.le_of_ble_eq_true rfl, m_var rfl ⟨[.int 0], (wd : Int), rfl, rfl, by omega, by omega, Nat.le_of_ble_eq_true rfl, q_v ⟨rfl, q_v ⟨List.replicate wd 0, List.length_replicate, fun x hx => .inl (List.eq_of_mem_replicate hx), ?_⟩⟩⟩⟩)))))))))
      rw [Int.toNat_natCast, rep_zero]
      rfl
    · rw [decide_eq_false h1]
      exact q_f (ms_next ⟨r3, hl3, hb3, rfl⟩)
  obtain ⟨r4, hl4, hb4, rfl⟩ := hρ
  -- a union
  refine ms_seq (ms_to (P := fun ρ => ∃ (m5 : Nat) (r : List Int), m5 ≤ m3 + 2 ∧ r.length = wd ∧ (∀ x ∈ r, x = 0 ∨ x = 1) ∧ ρ = [.pen m5, .val (.int (wd : Nat)), .own (.lst (rss.map intsD)), .val d, .val (.int way), .val (intsD r), .none, .none, .none]) ?_ fun ρ2 hρ => ?_)
  · refine ms_if (m_and (m_test (m_op (m_var rfl (m_cI (r_eqI (q_bl ?_)))))))
    by_cases h1 : way = 2
    · rw [decide_eq_true h1]
      refine q_t (m_test (neq _ _ rfl (q_bl ?_)))
      by_cases h2 : rss = []
      · rw [decide_eq_true h2]
        exact q_f (ms_next ⟨m3, r4, by omega, hl4, hb4, rfl⟩)
      · rw [decide_eq_false h2]
        refine q_t (s_asg (v_lcM [7, 8] (fun _ => true) maxD (by decide) (by decide) (mi_zip (m_cons (m_fnPL (j := 2) (by decide) rfl rfl h2 (pick_row (by omega) h2 hlr fun a ha => ⟨a, rfl, m_cons (m_fnPL (j := 2) (by decide) rfl rfl h2 (pick_row (by omega) h2 hlr fun b hb => ⟨b, rfl, m_nil (q_c (q_v (q_c (q_v (q_n ⟨a.map D.int, b.map D.int, rfl, ?_, fun v hv => ?_, fun e he oo ww => ?_, q_v ?_⟩)))))⟩))⟩))))))
        · have h3 := zip_len (a.map D.int) (b.map D.int)
          rw [List.length_map, hB.len a ha] at h3
          omega
        · rcases List.mem_cons.mp hv with rfl | hv
          · rfl
          · rw [List.mem_singleton.mp hv]; rfl
        · obtain ⟨x, y, rfl, hx, hy⟩ := zip_el he
          exact mg_pair ⟨rfl, rfl, m_yes ⟨rfl, rfl, fun _ => m_cb (m_cons (m_var rfl (m_cons (m_var rfl (m_nil (c_max2 ⟨rfl, rfl⟩))))))⟩⟩
        · rw [all_tt, zip_max]
          obtain ⟨g1, g2⟩ := max_mem (a := a) (b := b) (by rw [hB.len a ha, hB.len b hb]) (hB.bit a ha) (hB.bit b hb)
          exact ⟨m3 + 1 + 1, _, by omega, by rw [g1]; exact hB.len a ha, g2, rfl⟩
    · rw [decide_eq_false h1]
      exact q_f (ms_next ⟨m3, r4, by omega, hl4, hb4, rfl⟩)
  obtain ⟨m5, r5, hm5, hl5, hb5, rfl⟩ := hρ
  refine ms_append rfl (m_f (mf_list (m_var rfl ⟨r5.map D.int, .inl rfl, q_v ⟨_, rfl, by rw [List.length_map]; omega, rss ++ [r5], m5, .val d, .val (.int way), .val (intsD r5), bits_snoc hB hl5 hb5, ?_, ?_, ?_⟩⟩)))
  · rw [List.length_append]; show rss.length + 1 ≤ i + 1; omega
  · omega
  · rw [List.map_append]; rfl
end
end K44
namespace K44
open PySem PySem.Spec PyProof.Rows L2 He SJ
open LamX (CodeO lamS_by Tabs tLam)
local macro_rules | `(tactic| walk_at "mr") => `(tactic| repeat' (first
  | with_reducible apply ms_seq | with_reducible apply ms_if | with_reducible apply ms_ret | with_reducible apply ms_next | with_reducible apply s_asg
  | ((with_reducible apply g_var); first | refine m_var rfl ?_ | refine m_varS rfl ?_)
  | with_reducible apply m_cI | with_reducible apply m_cS | with_reducible apply m_cB | with_reducible apply m_cN | with_reducible apply m_cC | with_reducible apply m_cT
  | with_reducible apply m_op | with_reducible apply m_cb | with_reducible apply m_nil | with_reducible apply m_cons | with_reducible apply m_test | with_reducible apply m_B | with_reducible apply q_bl
  | with_reducible apply m_and | with_reducible apply m_or | with_reducible apply m_not | with_reducible apply m_andV | with_reducible apply m_orV | with_reducible apply m_notV | with_reducible apply m_ife | with_reducible apply m_chain
  | with_reducible apply q_v | ((with_reducible apply g_slot); refine q_own rfl ?_) | with_reducible apply q_n | with_reducible apply q_c | with_reducible apply q_t | with_reducible apply q_f | with_reducible apply m_yes
  | with_reducible apply r_addI | with_reducible apply r_subI | with_reducible apply r_eqI | with_reducible apply r_neI | with_reducible apply r_eqS | with_reducible apply r_neS | with_reducible apply r_ltI | with_reducible apply r_leI | with_reducible apply r_gtI | with_reducible apply r_geI
  | with_reducible apply r_isN | with_reducible apply r_isnN | with_reducible apply c_intI | with_reducible apply c_intB | with_reducible apply v_lst | with_reducible apply m_tup | ((with_reducible apply g_le); refine ⟨Nat.le_of_ble_eq_true rfl, ?_⟩) | with_reducible apply v_sl | with_reducible apply v_dnew
  | ((with_reducible apply g_dget); refine m_dget ?_) | refine get_str rfl rfl ?_
  | with_reducible apply m_fld | with_reducible apply m_con | refine ⟨_, _, _, rfl, by walk_at "fd", rfl, ?_⟩
  | ((with_reducible apply g_fn); first | refine m_fn wr0 ?_ | refine m_fn (by assumption) ?_ | refine m_fnP ?_ rfl)
  | ((with_reducible apply g_nw); refine m_nw wr0 ?_) | ((with_reducible apply g_ownGet); refine m_ownGet wr0 ?_) | ((with_reducible apply g_ownIn); refine r_ownIn ?_)
  | ((with_reducible apply g_inS); first | refine r_inStrs rfl ?_ | refine r_inStrsT rfl ?_ | refine r_ninStrsT rfl ?_) | ((with_reducible apply g_len); first | refine c_lenL rfl ?_ | refine c_lenT rfl ?_ | refine c_lenD rfl ?_)
  | ((with_reducible apply g_list); first | refine c_listv (.inl rfl) ?_ | refine c_listv (.inr rfl) ?_) | ((with_reducible apply g_tupU); first | refine c_tupleL rfl ?_ | refine c_tupleT ?_) | ((with_reducible apply g_pr); refine m_pr ?_) | refine ⟨_, _, _, rfl, by walk_at "cl", by walk_at "pr", ?_⟩ | refine ⟨_, rfl, ?_⟩ | fail))
local macro_rules | `(tactic| walk_at "me") => `(tactic| repeat' (first
  | ((with_reducible apply g_var); first | refine m_var rfl ?_ | refine m_varS rfl ?_)
  | with_reducible apply m_cI | with_reducible apply m_cS | with_reducible apply m_cB | with_reducible apply m_cN | with_reducible apply m_cC | with_reducible apply m_cT
  | with_reducible apply m_op | with_reducible apply m_cb | with_reducible apply m_nil | with_reducible apply m_cons | with_reducible apply m_test | with_reducible apply m_B | with_reducible apply q_bl
  | with_reducible apply m_and | with_reducible apply m_or | with_reducible apply m_not | with_reducible apply m_andV | with_reducible apply m_orV | with_reducible apply m_notV | with_reducible apply m_ife | with_reducible apply m_chain
  | with_reducible apply q_v | ((with_reducible apply g_slot); refine q_own rfl ?_) | with_reducible apply q_n | with_reducible apply q_c | with_reducible apply q_t | with_reducible apply q_f | with_reducible apply m_yes
  | with_reducible apply r_addI | with_reducible apply r_subI | with_reducible apply r_eqI | with_reducible apply r_neI | with_reducible apply r_eqS | with_reducible apply r_neS | with_reducible apply r_ltI | with_reducible apply r_leI | with_reducible apply r_gtI | with_reducible apply r_geI
  | with_reducible apply r_isN | with_reducible apply r_isnN | with_reducible apply c_intI | with_reducible apply c_intB | with_reducible apply v_lst | with_reducible apply m_tup | ((with_reducible apply g_le); refine ⟨Nat.le_of_ble_eq_true rfl, ?_⟩) | with_reducible apply v_sl | with_reducible apply v_dnew
  | ((with_reducible apply g_dget); refine m_dget ?_) | refine get_str rfl rfl ?_
  | with_reducible apply m_fld | with_reducible apply m_con | refine ⟨_, _, _, rfl, by walk_at "fd", rfl, ?_⟩
  | ((with_reducible apply g_fn); first | refine m_fn wr0 ?_ | refine m_fn (by assumption) ?_ | refine m_fnP ?_ rfl)
  | ((with_reducible apply g_nw); refine m_nw wr0 ?_) | ((with_reducible apply g_ownGet); refine m_ownGet wr0 ?_) | ((with_reducible apply g_ownIn); refine r_ownIn ?_)
  | ((with_reducible apply g_inS); first | refine r_inStrs rfl ?_ | refine r_inStrsT rfl ?_ | refine r_ninStrsT rfl ?_) | ((with_reducible apply g_len); first | refine c_lenL rfl ?_ | refine c_lenT rfl ?_ | refine c_lenD rfl ?_)
  | ((with_reducible apply g_list); first | refine c_listv (.inl rfl) ?_ | refine c_listv (.inr rfl) ?_) | ((with_reducible apply g_tupU); first | refine c_tupleL rfl ?_ | refine c_tupleT ?_) | ((with_reducible apply g_pr); refine m_pr ?_) | refine ⟨_, _, _, rfl, by walk_at "cl", by walk_at "pr", ?_⟩ | refine ⟨_, rfl, ?_⟩ | fail))
def mixE (h : List Int) (c : Nat) : D → D
  | e => intsD (mixL (lineD e) h c)
section
variable {K : PySem.W.Frag} {mg : Str → Option Value} {vs : List V} {H : Hp} {Q : VK} {E : XK}
theorem pure_Lis_bound (T : Tx K mg) (h : sp_Lis_bound K vs H Q E) : t_Lis_bound K { nx := fun _ H2 => Q .non H2, rt := Q } (start ["_law_some_so", "_law_lines", "_law_row", "_law_at", "_law_some", "_law_k", "_law_line", "_law_head", "_law_one", "_law_two"] vs) H := by
  refine body_pu h fun o w0 F0 ds Qd Ed ⟨w, rss, e, hB, hn, hw, hnil, q⟩ hW => ?_
  subst e
  have hF := facts_few hB (by omega)
  refine ms_seq (s_asgF (n := 0) (mf_lcM [2] (fun _ => true) (fun d => d) (by decide) (by decide) (mi_list (m_var rfl (q_v ⟨rss.map intsD, rfl, by rw [List.length_map]; omega, one_free rfl, fun d hd oo ww => ?_, ?_⟩)))))
  · obtain ⟨r, hr, rfl⟩ := List.mem_map.mp hd
    exact mg_name ⟨rfl, rfl, m_yes ⟨rfl, rfl, fun _ => m_f (mf_list (m_var rfl ⟨r.map D.int, .inl rfl, rfl, rfl⟩))⟩⟩
  rw [all_tt, List.map_id']
  refine ⟨by show 1 < 10; decide, ?_⟩
  have ne_nil : ∀ (x : X) (ρ : Ro) (L : List (List Int)) (Q2 : X → Ro → Prop), seeD x ρ = some (.lst (L.map intsD)) → Q2 (.val (.bl (!decide (L = [])))) ρ → Me K ⟨o, w0, TB K⟩ F0 (tLst tNil) ρ fun y ρ2 => Mr K ⟨o, w0, TB K⟩ F0 (rNeU K) x y ρ2 Q2 := fun x ρ L Q2 hx k => by
    refine v_lst (m_nil (q_n ⟨Nat.zero_le _, r_neD (d := .lst (L.map intsD)) (e := .lst []) (pd := .list (L.map fun l => PyData.list (l.map PyData.int))) (pe := .list []) hx rfl (by simp only [pyOf, pyOf_rows, Option.map_some]) rfl (sh_rows _) rfl ?_⟩))
    rw [eqv_nil, rows_ne]
    exact k
  have cnt : ∀ (QL : List D → Ro → Prop), QL (rngD 0 w) [.val (.lst (rss.map intsD)), .own (.lst (rss.map intsD)), .none, .none, .none, .none, .none, .none, .none, .none] → Mi K ⟨o, w0, TB K⟩ F0 (iRng1 (tCons (tIf (tTest (tOp (rNeU K) (tVar 0) (tLst tNil))) (tCB (rLenU K) (tCons (tOp (rIx K) (tVar 0) (tC (.int 0))) tNil)) (tC (.int 0))) tNil)) [.val (.lst (rss.map intsD)), .own (.lst (rss.map intsD)), .none, .none, .none, .none, .none, .none, .none, .none] QL := fun QL k => by
    refine mi_rng1 (m_cons (m_ife (m_test (m_op (m_var rfl (ne_nil _ _ rss _ rfl (q_bl ?_)))))))
    cases rss with
    | nil =>
      refine q_f (m_cI (m_nil ⟨0, rfl, by decide, ?_⟩))
      rw [hnil rfl] at k
      exact k
    | cons r rs =>
      refine q_t (m_cb (m_cons (m_op (m_var rfl (m_cI (r_ixL (ds := (r :: rs).map intsD) rfl (at_head _ _) (m_nil (c_lenL rfl (m_nil ⟨((r.map D.int).length : Nat), rfl, ?_, ?_⟩)))))))))
      · rw [List.length_map, hB.len r (List.mem_cons_self ..)]; omega
      · rw [List.length_map, hB.len r (List.mem_cons_self ..), Int.toNat_natCast]
        exact k
  refine ms_seq (ms_for [3] (cnt _ ⟨fun c ρ => ∃ s3 s4 s7 : Sl, s3.mut = false ∧ s4.mut = false ∧ s7.mut = false ∧ ρ = [.val (.lst (rss.map intsD)), .own (.lst ((runG mixL rss c).map intsD)), .none, s3, s4, .none, .none, s7, .none, .none], ⟨.none, .none, .none, rfl, rfl, rfl, rfl⟩, fun c dc ρ2 hdc hI => ?_, fun ρ2 hI => ?_⟩))
  rotate_left
  · obtain ⟨s3, s4, s7, m3, m4, m7, rfl⟩ := hI
    have elw : (rngD 0 w).length = w := by unfold rngD; rw [List.length_map, List.length_range]
    rw [elw]
    refine ms_ret (m_op (m_varS rfl (ne_nil _ _ (runG mixL rss w) _ rfl (q_v ?_))))
    have e : (!decide (runG mixL rss w = [])) = decide (runG mixL rss w ≠ []) := by
      by_cases z : runG mixL rss w = []
      · rw [decide_eq_true z, decide_eq_false (fun y => y z)]; rfl
      · rw [decide_eq_false z, decide_eq_true z]; rfl
    rw [e]
    exact q
  obtain ⟨s3, s4, s7, m3, m4, m7, rfl⟩ := hI
  unfold rngD at hdc
  rw [List.getElem?_map] at hdc
  obtain ⟨c2, hc2, rfl⟩ := Option.map_eq_some_iff.mp hdc
  obtain ⟨hcw, hce⟩ := List.getElem?_eq_some_iff.mp hc2
  rw [List.length_range] at hcw
  rw [List.getElem_range] at hce
  subst hce
  obtain ⟨L, eL⟩ : ∃ L, L = runG mixL rss c := ⟨_, rfl⟩
  have hsm := hF.sl c (Nat.le_of_lt hcw)
  have hnext : runG mixL rss (c + 1) = stepG mixL c L := by rw [eL]; rfl
  have hLl : L.length ≤ 60 := by
    rw [eL]
    exact Nat.le_trans (run_len mixL c rss) (by omega)
  rw [← eL] at hsm ⊢
  refine mg_name ?_
  rw [Int.zero_add]
  refine ms_seq (s_asg (m_f (mf_melt (j := 1) (ds := L.map intsD) rfl ?_ (mf_lcM [5, 6] (placeB c) placeD (by decide) (by decide) (mi_enL (m_cons (m_var rfl (m_nil ⟨L.map intsD, rfl, by rw [en_len, List.length_map]; omega, fun v hv => ?_, fun e0 he0 oo ww => ?_, plc c L, congrArg D.lst (en_plc c L), q_v ?_⟩))))))))
  · intro l hl3
    rcases l with _ | _ | _ | _ | _ | _ | _ | _ | _ | _ | l
    all_goals first | rfl | exact absurd rfl hl3 | exact m4 | exact m7
  · rcases List.mem_cons.mp hv with rfl | hv
    · rfl
    · rw [List.mem_singleton.mp hv]; rfl
  · obtain ⟨i, e, h1, rfl⟩ := en_el he0
    rw [List.getElem?_map] at h1
    obtain ⟨l, hl1, rfl⟩ := Option.map_eq_some_iff.mp h1
    obtain ⟨hs1, hs2⟩ := hsm l (List.mem_of_getElem? hl1)
    refine mg_pair ⟨rfl, rfl, m_test (m_op (m_op (m_var rfl (m_var rfl (r_ixL rfl (at_get (l := l) (by omega)) (m_cI (r_neI (q_bl ⟨rfl, ?_, fun _ => m_var rfl ⟨rfl, rfl⟩⟩))))))))⟩
    show (!decide (at_ l c = 0)) = decide (at_ (lineD (intsD l)) c ≠ 0)
    rw [line_ints]
    by_cases z : at_ l c = 0
    · rw [decide_eq_true z, decide_eq_false (fun y => y z)]; rfl
    · rw [decide_eq_false z, decide_eq_true z]; rfl
  refine ms_if (m_test (m_op (m_var rfl (v_lst (m_nil (q_n ⟨by decide, r_neD (pd := .list ((plc c L).map PyData.int)) (pe := .list []) rfl rfl (by simp only [intsD, pyOf, pyOf_ints, Option.map_some]) rfl (sh_ints _) rfl (q_bl ?_)⟩))))))
  rw [eqv_nil]
  have hh := plc_head c L
  cases ep : pivI c L with
  | none =>
    rw [ep] at hh
    have e0 : plc c L = [] := List.head?_eq_none_iff.mp hh
    have es1 : runG mixL rss (c + 1) = L := by rw [hnext]; unfold stepG; rw [ep]
    rw [e0]
    exact q_f (ms_next ⟨_, _, _, rfl, rfl, m7, by rw [es1]; rfl⟩)
  | some i =>
    rw [ep] at hh
    obtain ⟨rest, e0⟩ : ∃ rest, plc c L = (i : Int) :: rest := by
      cases hp : plc c L with
      | nil => rw [hp] at hh; cases hh
      | cons x xs => rw [hp] at hh; cases hh; exact ⟨xs, rfl⟩
    obtain ⟨hi, _, _⟩ := List.findIdx?_eq_some_iff_getElem.mp ep
    obtain ⟨hd, eh⟩ : ∃ h, L[i]? = some h := ⟨_, List.getElem?_eq_getElem hi⟩
    have hh2 := List.mem_of_getElem? eh
    obtain ⟨hs1, hs2⟩ := hsm hd hh2
    rw [e0]
    refine q_t (ms_seq (s_asg (m_popAt rfl (m_op (m_var rfl (m_cI (r_ixL (ds := ((i : Int) :: rest).map D.int) rfl (at_head _ _) ⟨i, L.map intsD, intsD hd, rfl, rfl, by omega, by rw [List.getElem?_map, eh]; rfl, q_v ?_⟩)))))))
    refine s_asgF (n := 0) (mf_lcM [6] (fun _ => true) (mixE hd c) (by decide) (by decide) (mi_list (m_varS rfl (q_own rfl ⟨(L.map intsD).eraseIdx i, rfl, ?_, one_free rfl, fun e he oo ww => ?_, ?_, ?_⟩))))
    · rw [map_erase, List.length_map]
      exact Nat.le_trans (List.length_eraseIdx_le ..) (by omega)
    · rw [map_erase] at he
      obtain ⟨l, hl1, rfl⟩ := List.mem_map.mp he
      obtain ⟨ls1, ls2⟩ := hsm l (List.mem_of_mem_eraseIdx hl1)
      have hc1 : c < l.length := by omega
      have hc2 : c < hd.length := by omega
      refine mg_name ⟨rfl, rfl, m_yes ⟨rfl, rfl, fun _ => v_lcM [8, 9] (fun _ => true) (mixD l hd c) (by decide) (by decide) (mi_zip (m_cons (m_var rfl (m_cons (m_var rfl (m_nil (q_c (q_v (q_c (q_v (q_n ⟨l.map D.int, hd.map D.int, rfl, ?_, fun v hv => ?_, fun e he oo ww => ?_, ?_⟩)))))))))))⟩⟩
      · have := zip_len (l.map D.int) (hd.map D.int)
        rw [List.length_map] at this
        omega
      · rcases List.mem_cons.mp hv with rfl | hv
        · rfl
        · rw [List.mem_singleton.mp hv]; rfl
      · obtain ⟨a, b, rfl, ha, hb⟩ := zip_el he
        exact mg_pair ⟨rfl, rfl, m_yes ⟨rfl, rfl, fun _ => m_op (m_op (m_var rfl (m_op (m_var rfl (m_var rfl (r_ixL rfl (at_get hc2) (r_mulW (mul_ok (ls1 a ha) (small_at hs1 c)) (m_op (m_var rfl (m_op (m_var rfl (m_var rfl (r_ixL rfl (at_get hc1) (r_mulW (mul_ok (hs1 b hb) (small_at ls1 c)) (r_subI ⟨rfl, rfl⟩)))))))))))))))⟩⟩
      · rw [all_tt, zip_mix]
        refine ⟨?_, rfl⟩
        show X.val (.lst ((mixL l hd c).map D.int)) = X.val (intsD (mixL (lineD (intsD l)) hd c))
        rw [line_ints]
        rfl
    · show 1 < 10; decide
    · refine ⟨.val (.int (c : Nat)), .val (intsD ((i : Int) :: rest)), .val (intsD hd), rfl, rfl, rfl, ?_⟩
      have es1 : runG mixL rss (c + 1) = (L.eraseIdx i).map fun l => mixL l hd c := by
        rw [hnext]; unfold stepG; rw [ep]
        show (L.eraseIdx i).map (fun l => mixL l (L.getD i []) c) = _
        rw [List.getD_eq_getElem?_getD, eh]; rfl
      have es2 : (((L.map intsD).eraseIdx i).filter (fun _ => true)).map (mixE hd c) = ((L.eraseIdx i).map fun l => mixL l hd c).map intsD := by
        rw [all_tt, map_erase, List.map_map, List.map_map]
        exact List.map_congr_left fun l _ => by show intsD (mixL (lineD (intsD l)) hd c) = _; rw [line_ints]; rfl
      rw [es1, es2]
      rfl
end
end K44
namespace K44
open PySem PySem.Spec PyProof.Rows L2 He SJ
open LamX (CodeO lamS_by Tabs tLam)
local macro_rules | `(tactic| walk_at "mr") => `(tactic| repeat' (first
  | with_reducible apply ms_seq | with_reducible apply ms_if | with_reducible apply ms_ret | with_reducible apply ms_next | with_reducible apply s_asg
  | ((with_reducible apply g_var); first | refine m_var rfl ?_ | refine m_varS rfl ?_)
  | with_reducible apply m_cI | with_reducible apply m_cS | with_reducible apply m_cB | with_reducible apply m_cN | with_reducible apply m_cC | with_reducible apply m_cT
  | with_reducible apply m_op | with_reducible apply m_cb | with_reducible apply m_nil | with_reducible apply m_cons | with_reducible apply m_test | with_reducible apply m_B | with_reducible apply q_bl
  | with_reducible apply m_and | with_reducible apply m_or | with_reducible apply m_not | with_reducible apply m_andV | with_reducible apply m_orV | with_reducible apply m_notV | with_reducible apply m_ife | with_reducible apply m_chain
  | with_reducible apply q_v | ((with_reducible apply g_slot); refine q_own rfl ?_) | with_reducible apply q_n | with_reducible apply q_c | with_reducible apply q_t | with_reducible apply q_f | with_reducible apply m_yes
  | with_reducible apply r_addI | with_reducible apply r_subI | with_reducible apply r_eqI | with_reducible apply r_neI | with_reducible apply r_eqS | with_reducible apply r_neS | with_reducible apply r_ltI | with_reducible apply r_leI | with_reducible apply r_gtI | with_reducible apply r_geI
  | with_reducible apply r_isN | with_reducible apply r_isnN | with_reducible apply c_intI | with_reducible apply c_intB | with_reducible apply v_lst | with_reducible apply m_tup | ((with_reducible apply g_le); refine ⟨Nat.le_of_ble_eq_true rfl, ?_⟩) | with_reducible apply v_sl | with_reducible apply v_dnew
  | ((with_reducible apply g_dget); refine m_dget ?_) | refine get_str rfl rfl ?_
  | with_reducible apply m_fld | with_reducible apply m_con | refine ⟨_, _, _, rfl, by walk_at "fd", rfl, ?_⟩
  | ((with_reducible apply g_fn); first | refine m_fn wr0 ?_ | refine m_fn (by assumption) ?_ | refine m_fnP ?_ rfl)
  | ((with_reducible apply g_nw); refine m_nw wr0 ?_) | ((with_reducible apply g_ownGet); refine m_ownGet wr0 ?_) | ((with_reducible apply g_ownIn); refine r_ownIn ?_)
  | ((with_reducible apply g_inS); first | refine r_inStrs rfl ?_ | refine r_inStrsT rfl ?_ | refine r_ninStrsT rfl ?_) | ((with_reducible apply g_len); first | refine c_lenL rfl ?_ | refine c_lenT rfl ?_ | refine c_lenD rfl ?_)
  | ((with_reducible apply g_list); first | refine c_listv (.inl rfl) ?_ | refine c_listv (.inr rfl) ?_) | ((with_reducible apply g_tupU); first | refine c_tupleL rfl ?_ | refine c_tupleT ?_) | ((with_reducible apply g_pr); refine m_pr ?_) | refine ⟨_, _, _, rfl, by walk_at "cl", by walk_at "pr", ?_⟩ | refine ⟨_, rfl, ?_⟩ | fail))
local macro_rules | `(tactic| walk_at "me") => `(tactic| repeat' (first
  | ((with_reducible apply g_var); first | refine m_var rfl ?_ | refine m_varS rfl ?_)
  | with_reducible apply m_cI | with_reducible apply m_cS | with_reducible apply m_cB | with_reducible apply m_cN | with_reducible apply m_cC | with_reducible apply m_cT
  | with_reducible apply m_op | with_reducible apply m_cb | with_reducible apply m_nil | with_reducible apply m_cons | with_reducible apply m_test | with_reducible apply m_B | with_reducible apply q_bl
  | with_reducible apply m_and | with_reducible apply m_or | with_reducible apply m_not | with_reducible apply m_andV | with_reducible apply m_orV | with_reducible apply m_notV | with_reducible apply m_ife | with_reducible apply m_chain
  | with_reducible apply q_v | ((with_reducible apply g_slot); refine q_own rfl ?_) | with_reducible apply q_n | with_reducible apply q_c | with_reducible apply q_t | with_reducible apply q_f | with_reducible apply m_yes
  | with_reducible apply r_addI | with_reducible apply r_subI | with_reducible apply r_eqI | with_reducible apply r_neI | with_reducible apply r_eqS | with_reducible apply r_neS | with_reducible apply r_ltI | with_reducible apply r_leI | with_reducible apply r_gtI | with_reducible apply r_geI
  | with_reducible apply r_isN | with_reducible apply r_isnN | with_reducible apply c_intI | with_reducible apply c_intB | with_reducible apply v_lst | with_reducible apply m_tup | ((with_reducible apply g_le); refine ⟨Nat.le_of_ble_eq_true rfl, ?_⟩) | with_reducible apply v_sl | with_reducible apply v_dnew
  | ((with_reducible apply g_dget); refine m_dget ?_) | refine get_str rfl rfl ?_
  | with_reducible apply m_fld | with_reducible apply m_con | refine ⟨_, _, _, rfl, by walk_at "fd", rfl, ?_⟩
  | ((with_reducible apply g_fn); first | refine m_fn wr0 ?_ | refine m_fn (by assumption) ?_ | refine m_fnP ?_ rfl)
  | ((with_reducible apply g_nw); refine m_nw wr0 ?_) | ((with_reducible apply g_ownGet); refine m_ownGet wr0 ?_) | ((with_reducible apply g_ownIn); refine r_ownIn ?_)
  | ((with_reducible apply g_inS); first | refine r_inStrs rfl ?_ | refine r_inStrsT rfl ?_ | refine r_ninStrsT rfl ?_) | ((with_reducible apply g_len); first | refine c_lenL rfl ?_ | refine c_lenT rfl ?_ | refine c_lenD rfl ?_)
  | ((with_reducible apply g_list); first | refine c_listv (.inl rfl) ?_ | refine c_listv (.inr rfl) ?_) | ((with_reducible apply g_tupU); first | refine c_tupleL rfl ?_ | refine c_tupleT ?_) | ((with_reducible apply g_pr); refine m_pr ?_) | refine ⟨_, _, _, rfl, by walk_at "cl", by walk_at "pr", ?_⟩ | refine ⟨_, rfl, ?_⟩ | fail))
def dotD (c : Nat) : D → D
  | .tup [.int x, e] => .int (x * at_ (seqI e) c)
  | _ => .non
theorem zip_dot (c : Nat) : ∀ (ws : List Int) (es : List D), (zipD (ws.map D.int) es).map (dotD c) = (List.zipWith (fun x r => x * at_ r c) ws (es.map seqI)).map D.int
  | [], _ => by simp [zipD]
  | _ :: _, [] => by simp [zipD]
  | x :: ws, e :: es => by
    have ih := zip_dot c ws es
    unfold zipD at ih ⊢
    simp only [List.map_cons, List.zip_cons_cons, List.zipWith_cons_cons, ih]
    rfl
theorem zip_elD {ws : List Int} {es : List D} {d : D} (h : d ∈ zipD (ws.map D.int) es) : ∃ x e, d = .tup [.int x, e] ∧ x ∈ ws ∧ e ∈ es := by
  unfold zipD at h
  obtain ⟨q, hq, rfl⟩ := List.mem_map.mp h
  have m := List.of_mem_zip hq
  obtain ⟨x, hx, e1⟩ := List.mem_map.mp m.1
  exact ⟨x, q.2, by rw [← e1], hx, m.2⟩
def nzB : D → Bool
  | .int x => decide (x ≠ 0)
  | _ => false
theorem nz_map (ws : List Int) : ((ws.map D.int).filter nzB).map (fun d => d) = (ws.filter fun x => decide (x ≠ 0)).map D.int := by
  rw [List.map_id', List.filter_map]
  rfl
theorem ShR.rows : ∀ rss : List (List Int), ShR (rss.map intsD) rss
  | [] => .nil
  | _ :: rss => .lst (ShR.rows rss)
theorem ShR.snoc {es : List D} {rss : List (List Int)} {e : D} {r : List Int} (h : ShR es rss) (he : e = intsD r ∨ e = .tup (r.map D.int)) : ShR (es ++ [e]) (rss ++ [r]) := by
  induction h with
  | nil =>
    rcases he with rfl | rfl
    · exact .lst .nil
    · exact .tup .nil
  | lst _ ih => exact .lst ih
  | tup _ ih => exact .tup ih
theorem sh_big {i : Int} (h : i.natAbs < 2 ^ 1200) : Sh 2 1201 (.int i) := by
  have hl := log_lt h (by decide)
  refine ⟨decide_eq_true (by omega), by simp only [PyData.depth]; exact Nat.zero_le _, ?_⟩
  simp only [PyData.shown]
  show (PySem.Str.ofString (toString i)).length ≤ 1201
  rw [PySem.ofString_length]
  exact PySem.int_text_length_le (k := 1200) (by decide) hl
theorem pyQ_ints : ∀ xs : List Int, pyQL (xs.map D.int) = some (xs.map PyData.int)
  | [] => by simp only [List.map_nil, pyQL]
  | z :: zs => by simp only [List.map_cons, pyQL, pyQ, pyQ_ints zs]
theorem told_rq {ws : List Int} (h : SmallL ws) (hl : ws.length ≤ 60) : ReprQ (intsD ws) (.list (ws.map PyData.int)) := by
  refine ⟨by simp only [intsD, pyQ, pyQ_ints, Option.map_some], 3, _, sh_list (n := 2) (w := 1201) fun d hd => ?_, by decide, by rw [List.length_map]; omega⟩
  obtain ⟨x, hx, rfl⟩ := List.mem_map.mp hd
  exact sh_big (h x hx)
theorem non_rq : ReprQ .non .none := ⟨rfl, 2, 100, ⟨rfl, by decide, by decide +kernel⟩, by decide, by decide⟩
theorem out_rq {o : Option (List Int)} (h : ∀ ws, o = some ws → SmallL ws ∧ ws.length ≤ 60) : ∃ pd, ReprQ (outW o) pd := by
  cases o with
  | none => exact ⟨_, non_rq⟩
  | some ws => exact ⟨_, told_rq (h ws rfl).1 (h ws rfl).2⟩
theorem sh_bit {i : Int} (h : i = 0 ∨ i = 1) : Sh 2 1 (.int i) := by
  rcases h with rfl | rfl <;> exact ⟨by decide, by simp only [PyData.depth]; exact Nat.zero_le _, by decide +kernel⟩
theorem rows_q {es : List D} {rss : List (List Int)} {w : Nat} (h : ShR es rss) (hB : ∀ r ∈ rss, r.length = w ∧ ∀ x ∈ r, x = 0 ∨ x = 1) (hw : w ≤ 60) : ∃ ps, pyQL es = some ps ∧ ps.length = es.length ∧ ∀ p ∈ ps, Sh 3 200 p := by
  induction h with
  | nil => exact ⟨[], by simp only [pyQL], rfl, fun p hp => nomatch hp⟩
  | @lst r es rss _ ih =>
    obtain ⟨ps, p1, p2, p3⟩ := ih fun r hr => hB r (List.mem_cons_of_mem _ hr)
    obtain ⟨b1, b2⟩ := hB r (List.mem_cons_self ..)
    refine ⟨.list (r.map PyData.int) :: ps, by simp only [pyQL, intsD, pyQ, pyQ_ints, Option.map_some, p1], by rw [List.length_cons, List.length_cons, p2], fun p hp => ?_⟩
    rcases List.mem_cons.mp hp with rfl | hp
    · refine (sh_list (n := 2) (w := 1) fun d hd => ?_).mono (Nat.le_refl _) (by rw [List.length_map]; omega)
      obtain ⟨x, hx, rfl⟩ := List.mem_map.mp hd
      exact sh_bit (b2 x hx)
    · exact p3 p hp
  | @tup r es rss _ ih =>
    obtain ⟨ps, p1, p2, p3⟩ := ih fun r hr => hB r (List.mem_cons_of_mem _ hr)
    obtain ⟨b1, b2⟩ := hB r (List.mem_cons_self ..)
    refine ⟨.tuple (r.map PyData.int) :: ps, by simp only [pyQL, pyQ, pyQ_ints, Option.map_some, p1], by rw [List.length_cons, List.length_cons, p2], fun p hp => ?_⟩
    rcases List.mem_cons.mp hp with rfl | hp
    · refine (sh_tup (n := 2) (w := 1) fun d hd => ?_).mono (Nat.le_refl _) (by rw [List.length_map]; omega)
      obtain ⟨x, hx, rfl⟩ := List.mem_map.mp hd
      exact sh_bit (b2 x hx)
    · exact p3 p hp
theorem rows_rq {es : List D} {rss : List (List Int)} {w : Nat} {d : D} (h : ShR es rss) (hB : Bits w rss) (hw : w ≤ 60) (hn : rss.length ≤ 60) (hd : d = .lst es ∨ d = .tup es) : ∃ pd, ReprQ d pd := by
  obtain ⟨ps, p1, p2, p3⟩ := rows_q h (fun r hr => ⟨hB.len r hr, hB.bit r hr⟩) hw
  have hl := h.length
  rcases hd with rfl | rfl
  · exact ⟨.list ps, by simp only [pyQ, p1, Option.map_some], 4, _, sh_list p3, by decide, by rw [p2]; omega⟩
  · exact ⟨.tuple ps, by simp only [pyQ, p1, Option.map_some], 4, _, sh_tup p3, by decide, by rw [p2]; omega⟩
section
variable {K : PySem.W.Frag} {mg : Str → Option Value} {vs : List V} {H : Hp} {Q : VK} {E : XK}
theorem pure_Lare_weights (T : Tx K mg) (h : sp_Lare_weights K vs H Q E) : t_Lare_weights K { nx := fun _ H2 => Q .non H2, rt := Q } (start ["_law_some_so", "_law_told", "_law_one", "_law_at", "_law_row"] vs) H := by
  refine body_pu h fun o w0 F0 ds Qd Ed ⟨es, w, rss, ws, e, hS, hne, hr, hn, hw, hSol, q⟩ hW => ?_
  subst e
  have hl := hS.length
  have hwl := hSol.len
  refine ms_seq (ms_if (m_or (m_not (m_B (m_cb (m_cons (m_var rfl (m_cons (m_cT (m_nil (c_isiY (d := intsD ws) rfl trivial T.kl_list (q_bl (q_f ?_)))))))))))))
  refine m_test (m_op (m_cb (m_cons (m_var rfl (m_nil (c_lenL rfl (m_cb (m_cons (m_var rfl (m_nil (c_lenL rfl (r_neI (q_bl ?_)))))))))))))
  rw [List.length_map, hwl, hl, decide_eq_true rfl]
  refine q_f (ms_next (ms_seq (ms_if (m_test (m_op (v_lcM [2] (fun _ => false) (fun d => d) (by decide) (by decide) (mi_list (m_var rfl (q_v ⟨ws.map D.int, rfl, by rw [List.length_map]; omega, one_free rfl, fun d hd oo ww => ?_, ?_⟩)))))))))
  · obtain ⟨x, hx, rfl⟩ := List.mem_map.mp hd
    exact mg_name ⟨rfl, rfl, m_or (m_not (m_B (m_cb (m_cons (m_var rfl (m_cons (m_cT (m_nil (c_isiY (d := .int x) rfl trivial T.ki_int (q_bl (q_f (m_B (m_cb (m_cons (m_var rfl (m_cons (m_cT (m_nil (c_isiY (d := .int x) rfl trivial T.kb_int (q_bl ⟨rfl, rfl, fun z => nomatch z⟩))))))))))))))))))))⟩
  rw [List.filter_eq_nil_iff.mpr (fun _ _ => Bool.false_ne_true)]
  refine v_lst (m_nil (q_n ⟨Nat.zero_le _, r_neD (d := .lst []) (e := .lst []) (pd := .list []) (pe := .list []) rfl rfl rfl rfl rfl rfl (q_bl (q_f (ms_next ?_)))⟩))
  obtain ⟨e0, es2, r0, rfl, hr0, he0⟩ : ∃ e0 es2 r0, es = e0 :: es2 ∧ r0 ∈ rss ∧ (e0 = intsD r0 ∨ e0 = .tup (r0.map D.int)) := by
    cases es with
    | nil =>
      cases rss with
      | nil => exact absurd rfl hne
      | cons r rs => cases hl
    | cons e0 es2 =>
      obtain ⟨r, h1, _, h3⟩ := hS.at_ (i := 0) rfl
      exact ⟨e0, es2, r, rfl, List.mem_of_getElem? h1, h3⟩
  have hw0 := (hr r0 hr0).1
  have cnt : ∀ (QL : List D → Ro → Prop), QL (rngD 0 w) [.val (.lst (e0 :: es2)), .val (intsD ws), .none, .none, .none] → Mi K ⟨o, w0, TB K⟩ F0 (iRng1 (tCons (tCB (rLenU K) (tCons (tOp (rIx K) (tVar 0) (tC (.int 0))) tNil)) tNil)) [.val (.lst (e0 :: es2)), .val (intsD ws), .none, .none, .none] QL := fun QL k => by
    rcases he0 with rfl | rfl
    · refine mi_rng1 (m_cons (m_cb (m_cons (m_op (m_var rfl (m_cI (r_ixL rfl (at_head _ _) (m_nil (c_lenL rfl (m_nil ⟨((r0.map D.int).length : Nat), rfl, ?_, ?_⟩))))))))))
      · rw [List.length_map, hw0]; omega
      · rw [List.length_map, hw0, Int.toNat_natCast]; exact k
    · refine mi_rng1 (m_cons (m_cb (m_cons (m_op (m_var rfl (m_cI (r_ixL rfl (at_head _ _) (m_nil (c_lenT rfl (m_nil ⟨((r0.map D.int).length : Nat), rfl, ?_, ?_⟩))))))))))
      · rw [List.length_map, hw0]; omega
      · rw [List.length_map, hw0, Int.toNat_natCast]; exact k
  refine ms_seq (ms_for [3] (cnt _ ⟨fun c ρ => ∃ s3 : Sl, ρ = [.val (.lst (e0 :: es2)), .val (intsD ws), .none, s3, .none], ⟨_, rfl⟩, fun c dc ρ2 hdc hI => ?_, fun ρ2 hI => ?_⟩))
  · obtain ⟨s3, rfl⟩ := hI
    unfold rngD at hdc
    rw [List.getElem?_map] at hdc
    obtain ⟨c2, hc2, rfl⟩ := Option.map_eq_some_iff.mp hdc
    obtain ⟨hcw, hce⟩ := List.getElem?_eq_some_iff.mp hc2
    rw [List.length_range] at hcw
    rw [List.getElem_range] at hce
    subst hce
    refine mg_name ?_
    rw [Int.zero_add]
    refine ms_if (m_test (m_op (m_cb (m_cons (v_lcM [2, 4] (fun _ => true) (dotD c) (by decide) (by decide) (mi_zip (m_cons (m_var rfl (m_cons (m_var rfl (m_nil (q_c (q_v (q_c (q_v (q_n ⟨ws.map D.int, e0 :: es2, rfl, ?_, fun v hv => ?_, fun e he oo ww => ?_, ?_⟩))))))))))))))))
    · have := zip_len (ws.map D.int) (e0 :: es2)
      rw [List.length_map] at this
      omega
    · rcases List.mem_cons.mp hv with rfl | hv
      · rfl
      · rw [List.mem_singleton.mp hv]; rfl
    · obtain ⟨x, e, rfl, hx, hee⟩ := zip_elD he
      obtain ⟨i, hi⟩ := List.getElem?_of_mem hee
      obtain ⟨r, h1, h2, h3⟩ := hS.at_ hi
      obtain ⟨g1, g2⟩ := hr r (List.mem_of_getElem? h1)
      have hcr : c < r.length := by omega
      refine mg_pair ⟨rfl, rfl, m_yes ⟨rfl, rfl, fun _ => ?_⟩⟩
      rcases h3 with rfl | rfl
      · refine m_op (m_var rfl (m_op (m_var rfl (m_var rfl (r_ixL rfl (at_get hcr) (r_mulW (mul_ok (hSol.sm x hx) (small_at g2 c)) ⟨?_, rfl⟩))))))
        show X.val (.int _) = X.val (.int (x * at_ (seqI _) c))
        rw [h2]
      · refine m_op (m_var rfl (m_op (m_var rfl (m_var rfl (r_ixT rfl (at_get hcr) (r_mulW (mul_ok (hSol.sm x hx) (small_at g2 c)) ⟨?_, rfl⟩))))))
        show X.val (.int _) = X.val (.int (x * at_ (seqI _) c))
        rw [h2]
    · rw [all_tt, zip_dot, hS.seq]
      refine m_nil (c_sumL rfl (m_cI (r_neI (q_bl ?_))))
      have hdot := hSol.dot c hcw
      unfold dotL at hdot
      rw [hdot, decide_eq_true rfl]
      exact q_f (ms_next ⟨_, rfl⟩)
  obtain ⟨s3, rfl⟩ := hI
  refine ms_ret (m_op (v_lcM [2] nzB (fun d => d) (by decide) (by decide) (mi_list (m_var rfl (q_v ⟨ws.map D.int, rfl, by rw [List.length_map]; omega, one_free rfl, fun d hd oo ww => ?_, ?_⟩)))))
  · obtain ⟨x, hx, rfl⟩ := List.mem_map.mp hd
    refine mg_name ⟨rfl, rfl, m_test (m_op (m_var rfl (m_cI (r_neI (q_bl ⟨rfl, ?_, fun _ => m_var rfl ⟨rfl, rfl⟩⟩)))))⟩
    show (!decide (x = 0)) = decide (x ≠ 0)
    by_cases z : x = 0
    · rw [decide_eq_true z, decide_eq_false (fun y => y z)]; rfl
    · rw [decide_eq_false z, decide_eq_true z]; rfl
  rw [nz_map]
  refine v_lst (m_nil (q_n ⟨Nat.zero_le _, r_neD (d := intsD (ws.filter fun x => decide (x ≠ 0))) (e := .lst []) (pd := .list ((ws.filter fun x => decide (x ≠ 0)).map PyData.int)) (pe := .list []) rfl rfl (by simp only [intsD, pyOf, pyOf_ints, Option.map_some]) rfl (sh_ints _) rfl (q_v ?_)⟩))
  rw [eqv_nil]
  obtain ⟨x, hx, hx0⟩ := hSol.ne
  have hf : ws.filter (fun x => decide (x ≠ 0)) ≠ [] := fun z => by
    have : x ∈ ws.filter (fun x => decide (x ≠ 0)) := List.mem_filter.mpr ⟨hx, decide_eq_true hx0⟩
    rw [z] at this
    cases this
  cases hc : ws.filter (fun x => decide (x ≠ 0)) with
  | nil => exact absurd hc hf
  | cons y ys => exact q
end
end K44
namespace K44
open PySem PySem.Spec PyProof.Rows L2 He SJ
open LamX (CodeO lamS_by Tabs tLam)
local macro_rules | `(tactic| walk_at "mr") => `(tactic| repeat' (first
  | with_reducible apply ms_seq | with_reducible apply ms_if | with_reducible apply ms_ret | with_reducible apply ms_next | with_reducible apply s_asg
  | ((with_reducible apply g_var); first | refine m_var rfl ?_ | refine m_varS rfl ?_)
  | with_reducible apply m_cI | with_reducible apply m_cS | with_reducible apply m_cB | with_reducible apply m_cN | with_reducible apply m_cC | with_reducible apply m_cT
  | with_reducible apply m_op | with_reducible apply m_cb | with_reducible apply m_nil | with_reducible apply m_cons | with_reducible apply m_test | with_reducible apply m_B | with_reducible apply q_bl
  | with_reducible apply m_and | with_reducible apply m_or | with_reducible apply m_not | with_reducible apply m_andV | with_reducible apply m_orV | with_reducible apply m_notV | with_reducible apply m_ife | with_reducible apply m_chain
  | with_reducible apply q_v | ((with_reducible apply g_slot); refine q_own rfl ?_) | with_reducible apply q_n | with_reducible apply q_c | with_reducible apply q_t | with_reducible apply q_f | with_reducible apply m_yes
  | with_reducible apply r_addI | with_reducible apply r_subI | with_reducible apply r_eqI | with_reducible apply r_neI | with_reducible apply r_eqS | with_reducible apply r_neS | with_reducible apply r_ltI | with_reducible apply r_leI | with_reducible apply r_gtI | with_reducible apply r_geI
  | with_reducible apply r_isN | with_reducible apply r_isnN | with_reducible apply c_intI | with_reducible apply c_intB | with_reducible apply v_lst | with_reducible apply m_tup | ((with_reducible apply g_le); refine ⟨Nat.le_of_ble_eq_true rfl, ?_⟩) | with_reducible apply v_sl | with_reducible apply v_dnew
  | ((with_reducible apply g_dget); refine m_dget ?_) | refine get_str rfl rfl ?_
  | with_reducible apply m_fld | with_reducible apply m_con | refine ⟨_, _, _, rfl, by walk_at "fd", rfl, ?_⟩
  | ((with_reducible apply g_fn); first | refine m_fn wr0 ?_ | refine m_fn (by assumption) ?_ | refine m_fnP ?_ rfl)
  | ((with_reducible apply g_nw); refine m_nw wr0 ?_) | ((with_reducible apply g_ownGet); refine m_ownGet wr0 ?_) | ((with_reducible apply g_ownIn); refine r_ownIn ?_)
  | ((with_reducible apply g_inS); first | refine r_inStrs rfl ?_ | refine r_inStrsT rfl ?_ | refine r_ninStrsT rfl ?_) | ((with_reducible apply g_len); first | refine c_lenL rfl ?_ | refine c_lenT rfl ?_ | refine c_lenD rfl ?_)
  | ((with_reducible apply g_list); first | refine c_listv (.inl rfl) ?_ | refine c_listv (.inr rfl) ?_) | ((with_reducible apply g_tupU); first | refine c_tupleL rfl ?_ | refine c_tupleT ?_) | ((with_reducible apply g_pr); refine m_pr ?_) | refine ⟨_, _, _, rfl, by walk_at "cl", by walk_at "pr", ?_⟩ | refine ⟨_, rfl, ?_⟩ | fail))
local macro_rules | `(tactic| walk_at "me") => `(tactic| repeat' (first
  | ((with_reducible apply g_var); first | refine m_var rfl ?_ | refine m_varS rfl ?_)
  | with_reducible apply m_cI | with_reducible apply m_cS | with_reducible apply m_cB | with_reducible apply m_cN | with_reducible apply m_cC | with_reducible apply m_cT
  | with_reducible apply m_op | with_reducible apply m_cb | with_reducible apply m_nil | with_reducible apply m_cons | with_reducible apply m_test | with_reducible apply m_B | with_reducible apply q_bl
  | with_reducible apply m_and | with_reducible apply m_or | with_reducible apply m_not | with_reducible apply m_andV | with_reducible apply m_orV | with_reducible apply m_notV | with_reducible apply m_ife | with_reducible apply m_chain
  | with_reducible apply q_v | ((with_reducible apply g_slot); refine q_own rfl ?_) | with_reducible apply q_n | with_reducible apply q_c | with_reducible apply q_t | with_reducible apply q_f | with_reducible apply m_yes
  | with_reducible apply r_addI | with_reducible apply r_subI | with_reducible apply r_eqI | with_reducible apply r_neI | with_reducible apply r_eqS | with_reducible apply r_neS | with_reducible apply r_ltI | with_reducible apply r_leI | with_reducible apply r_gtI | with_reducible apply r_geI
  | with_reducible apply r_isN | with_reducible apply r_isnN | with_reducible apply c_intI | with_reducible apply c_intB | with_reducible apply v_lst | with_reducible apply m_tup | ((with_reducible apply g_le); refine ⟨Nat.le_of_ble_eq_true rfl, ?_⟩) | with_reducible apply v_sl | with_reducible apply v_dnew
  | ((with_reducible apply g_dget); refine m_dget ?_) | refine get_str rfl rfl ?_
  | with_reducible apply m_fld | with_reducible apply m_con | refine ⟨_, _, _, rfl, by walk_at "fd", rfl, ?_⟩
  | ((with_reducible apply g_fn); first | refine m_fn wr0 ?_ | refine m_fn (by assumption) ?_ | refine m_fnP ?_ rfl)
  | ((with_reducible apply g_nw); refine m_nw wr0 ?_) | ((with_reducible apply g_ownGet); refine m_ownGet wr0 ?_) | ((with_reducible apply g_ownIn); refine r_ownIn ?_)
  | ((with_reducible apply g_inS); first | refine r_inStrs rfl ?_ | refine r_inStrsT rfl ?_ | refine r_ninStrsT rfl ?_) | ((with_reducible apply g_len); first | refine c_lenL rfl ?_ | refine c_lenT rfl ?_ | refine c_lenD rfl ?_)
  | ((with_reducible apply g_list); first | refine c_listv (.inl rfl) ?_ | refine c_listv (.inr rfl) ?_) | ((with_reducible apply g_tupU); first | refine c_tupleL rfl ?_ | refine c_tupleT ?_) | ((with_reducible apply g_pr); refine m_pr ?_) | refine ⟨_, _, _, rfl, by walk_at "cl", by walk_at "pr", ?_⟩ | refine ⟨_, rfl, ?_⟩ | fail))
section
variable {K : PySem.W.Frag} {mg : Str → Option Value} {vs : List V} {H : Hp} {Q : VK} {E : XK}
theorem pure_Lright (T : Tx K mg) (h : sp_Lright K vs H Q E) : t_Lright K { nx := fun _ H2 => Q .non H2, rt := Q } (start ["_law_pen_here", "_law_some_so", "_law_is_bound_here", "_law_handed", "_law_row", "_law_kept", "_law_told"] vs) H := by
  refine body_pp h fun o w0 F0 n ds Qd ⟨w, rss, b, e, hB, hR, hb, hs, hn, q⟩ => ?_
  subst e
  have h60 := hR.n
  refine ms_seq (s_asg (m_f (mf_lc [4] (by decide) (by decide) (mi_list (m_var rfl (q_v ⟨rss.map intsD, rfl, by rw [List.length_map]; omega, fun j acc ρ => ShR acc (rss.take j) ∧ ρ = [.pen (n + j), .val (.lst (rss.map intsD)), .val (.bl b), .none, .none, .none, .none], ⟨.nil, rfl⟩, fun j e acc ρ2 he _ hI => ?_, fun acc ρ2 hI => ?_⟩))))))
  · obtain ⟨hA, rfl⟩ := hI
    rw [List.getElem?_map] at he
    obtain ⟨r, hr, rfl⟩ := Option.map_eq_some_iff.mp he
    have hj : j < rss.length := (List.getElem?_eq_some_iff.mp hr).1
    have htk : rss.take (j + 1) = rss.take j ++ [r] := by rw [List.take_add_one, hr]; rfl
    refine ⟨one_free rfl, fun oo ww => mg_name ⟨rfl, m_yes (q_t (m_ife (m_test (m_op (m_fnP (m_cons (m_cI (m_nil ⟨n + j, rfl, 2, rfl, by omega, by decide, by decide, fun t t0 t1 => m_cI (r_eqI (q_bl ?_))⟩))) rfl)))))⟩⟩
    by_cases h1 : t = 0
    · rw [decide_eq_true h1]
      exact q_t (m_cb (m_cons (m_var rfl (m_nil (c_tupleL rfl (q_v ⟨rfl, by rw [htk]; exact hA.snoc (.inr rfl), rfl⟩))))))
    · rw [decide_eq_false h1]
      exact q_f (m_f (mf_list (m_var rfl ⟨r.map D.int, .inl rfl, q_v ⟨rfl, by rw [htk]; exact hA.snoc (.inl rfl), rfl⟩⟩)))
  obtain ⟨hS, rfl⟩ := hI
  rw [List.length_map, List.take_length] at hS
  rw [List.length_map]
  refine q_v ?_
  refine ms_seq (ms_to (P := fun ρ => ∃ d, (d = .lst acc ∨ d = .tup acc) ∧ ρ = [.pen (n + rss.length + 1), .val (.lst (rss.map intsD)), .val (.bl b), .val d, .none, .none, .none]) ?_ fun ρ2 hρ => ?_)
  · refine s_asg (m_ife (m_test (m_op (m_fnP (m_cons (m_cI (m_nil ⟨n + rss.length, rfl, 3, rfl, by omega, by decide, by decide, fun t t0 t1 => m_cI (r_eqI (q_bl ?_))⟩))) rfl))))
    by_cases h1 : t = 0
    · rw [decide_eq_true h1]
      exact q_t (m_cb (m_cons (m_var rfl (m_nil (c_tupleL rfl (q_v ⟨_, .inr rfl, rfl⟩))))))
    · rw [decide_eq_false h1]
      exact q_f (m_var rfl (q_v ⟨_, .inl rfl, rfl⟩))
  obtain ⟨d, hd, rfl⟩ := hρ
  obtain ⟨pd, hrq⟩ := rows_rq hS hB hR.w60 h60 hd
  obtain ⟨pd2, hrq2⟩ := out_rq (o := wtsL w rss) fun ws e => ⟨(hs ws e).sm, by rw [(hs ws e).len]; exact h60⟩
  refine ms_seq (s_asg (m_cb (m_cons (m_var rfl (m_nil (c_reprQD rfl hrq (q_v ?_)))))))
  refine ms_seq (s_asg (m_fn wr0 (m_cons (m_var rfl (m_nil (q_c (q_v (q_n ⟨d, acc, w, rss, rfl, hd, hS, hR, q_v ?_⟩))))))))
  refine ms_seq (ms_if (m_or (m_test (m_op (m_cb (m_cons (m_fnK (fun z => rfl) wr0 (m_cons (m_var rfl (m_nil (q_c (q_v (q_n ⟨rfl, d, acc, w, rss, rfl, hd, hS, hR, m_nil (c_reprQD rfl hrq2 (m_cb (m_cons (m_var rfl (m_nil (c_reprQD rfl hrq2 (r_neS (q_bl ?_))))))))⟩)))))))))))))
  rw [decide_eq_true rfl]
  refine q_f (m_test (m_op (m_cb (m_cons (m_var rfl (m_nil (c_reprQD rfl hrq (m_var rfl (r_neS (q_bl ?_))))))))))
  rw [decide_eq_true rfl]
  refine q_f (ms_next (ms_ret (m_ife (m_B (m_var rfl (q_bl ?_))))))
  cases ew : wtsL w rss with
  | none =>
    rw [ew] at hb
    subst hb
    exact q_f (m_op (m_var rfl (m_cN (r_isN (q_v ⟨_, rfl, q _ (by omega)⟩)))))
  | some ws =>
    rw [ew] at hb
    subst hb
    have hSol := hs ws ew
    have hne : rss ≠ [] := fun z => by
      obtain ⟨x, hx, _⟩ := hSol.ne
      have hl := hSol.len
      rw [z] at hl
      rw [List.eq_nil_of_length_eq_zero hl] at hx
      cases hx
    exact q_t (m_fn wr0 (m_cons (m_var rfl (m_cons (m_var rfl (m_nil (q_c (q_v (q_c (q_v (q_n ⟨rss.map intsD, w, rss, ws, rfl, ShR.rows rss, hne, fun r hr => ⟨hB.len r hr, bits_small hB r hr⟩, h60, hR.w60, hSol, q_v ⟨_, rfl, q _ (by omega)⟩⟩)))))))))))
theorem three : wtsL 2 [[1, 0], [0, 1], [1, 1]] = some [-1, -1, 1] := by decide +kernel
theorem one_row : wtsL 0 [[]] = some [1] := by decide +kernel
theorem no_row : wtsL 0 [] = none := by decide +kernel
theorem small_ok {w : Nat} {rss : List (List Int)} (hB : Bits w rss) (hw : w ≤ 9) (hl : rss.length ≤ 14) (hn : rss = [] → w = 0) : RowsOk w rss := rows_ok hB (facts_few hB (by omega)) (by omega) (by omega) hn
theorem three_bits : Bits 2 [[1, 0], [0, 1], [1, 1]] := ⟨by decide, by decide⟩
theorem one_bits : Bits 0 [[]] := ⟨by decide, by decide⟩
theorem no_bits : Bits 0 [] := ⟨by decide, by decide⟩
theorem pure_law (T : Tx K mg) (h : sp_law K vs H Q E) : t_law K { nx := fun _ H2 => Q .non H2, rt := Q } (start ["_law_script", "_law_pen_here", "_law_turn", "_law_some_so", "_law_told"] vs) H := by
  refine body_law h (by decide) fun o w F0 => ?_
  refine ms_seq (ms_for [2] (mi_rng1 (m_cons (m_cI (m_nil ⟨8, rfl, by decide, fun i ρ => ∃ n s2 s3, n ≤ 1000 * i ∧ ρ = [.none, .pen n, s2, s3, .none], ⟨0, _, _, Nat.zero_le _, rfl⟩, fun i d ρ2 hd hI => ?_, fun ρ2 hI => ?_⟩)))))
  · obtain ⟨n, s2, s3, hn, rfl⟩ := hI
    have hi : i < 8 := (List.getElem?_eq_some_iff.mp hd).1
    refine mg_name (ms_seq (s_asg (m_fnP (m_nil ⟨n, rfl, rfl, by omega, fun wd rss n2 hB hl hw hnil h2 => q_v ?_⟩) rfl)))
    have hF := facts_few hB (by omega)
    have hR := small_ok hB hw hl hnil
    exact ms_if (m_not (m_B (m_fnP (m_cons (m_var rfl (m_cons (m_fn wr0 (m_cons (m_var rfl (m_nil (q_c (q_v (q_n ⟨wd, rss, rfl, hB, hl, hw, hnil, m_nil ⟨n2, rfl, wd, rss, _, rfl, hB, hR, hF.eq.symm, hF.so, by omega, fun n3 h3 => q_bl (q_f (ms_next ⟨n3, _, _, by omega, rfl⟩))⟩⟩)))))))))) rfl)))
  obtain ⟨n, s2, s3, hn, rfl⟩ := hI
  have hn8 : n ≤ 8000 := hn
  refine ms_seq (ms_to (P := fun ρ => ∃ n, ρ = [.none, .pen n, s2, s3, .none]) ?_ fun ρ2 hρ => ?_)
  · refine ms_if (m_and (m_test (m_op (m_fnP (m_cons (m_cI (m_nil ⟨n, rfl, 4, rfl, by omega, by decide, by decide, fun t t0 t1 => m_cI (r_eqI (q_bl ?_))⟩))) rfl))))
    by_cases h1 : t = 0
    · rw [decide_eq_true h1]
      refine q_t (m_not (m_B (m_fnP (m_cons (m_fnP (m_nil ⟨n + 1, rfl, rfl, by omega, fun a b m hm => ?_⟩) rfl)) rfl)))
      have hF := facts_many (a := a) (b := b) hm
      have hl := many_len a b m
      exact m_cons (m_cB (m_nil ⟨n + 1 + 3, rfl, 49, manyL a b m, true, rfl, many_bits a b m, rows_ok (many_bits a b m) hF (by omega) (by decide) (fun z => by rw [z] at hl; cases hl), (many_some hm).symm, hF.so, by omega, fun n3 h3 => q_bl (q_f (ms_next ⟨n3, rfl⟩))⟩))
    · rw [decide_eq_false h1]
      exact q_f (ms_next ⟨_, rfl⟩)
  obtain ⟨n2, rfl⟩ := hρ
  refine ms_seq (s_asg (m_fn wr0 (m_cons (v_lst (m_cons (v_lst (m_cons (m_cI (m_cons (m_cI (m_nil (q_c (q_v (q_c (q_v (q_n ⟨by decide, ?_⟩)))))))))) ))))))
  refine m_cons (v_lst (m_cons (m_cI (m_cons (m_cI (m_nil (q_c (q_v (q_c (q_v (q_n ⟨by decide, ?_⟩)))))))))))
  refine m_cons (v_lst (m_cons (m_cI (m_cons (m_cI (m_nil (q_c (q_v (q_c (q_v (q_n ⟨by decide, ?_⟩)))))))))))
  refine m_nil (q_c (q_v (q_c (q_v (q_c (q_v (q_n ⟨by decide, ?_⟩)))))))
  refine m_nil (q_c (q_v (q_n ⟨_, [intsD [1, 0], intsD [0, 1], intsD [1, 1]], 2, [[1, 0], [0, 1], [1, 1]], rfl, .inl rfl, .lst (.lst (.lst .nil)), small_ok three_bits (by decide) (by decide) (fun z => nomatch z), q_v ?_⟩)))
  rw [three]
  have nok : RowsOk 0 [] := small_ok no_bits (by decide) (by decide) fun _ => rfl
  have ook : RowsOk 0 [[]] := small_ok one_bits (by decide) (by decide) (fun z => nomatch z)
  have osol : Sol 0 [[]] [1] := (facts_few one_bits (by decide)).so [1] one_row
  refine ms_seq (ms_if (m_or (m_test (m_op (m_fn wr0 (m_cons (v_lst (m_nil (q_n ⟨Nat.zero_le _, m_nil (q_c (q_v (q_n ⟨.lst [], [], 0, [], rfl, .inl rfl, .nil, nok, ?_⟩)))⟩)))))))))
  rw [no_row]
  refine m_cN (r_isnN (q_bl (q_f ?_)))
  refine m_or (m_test (m_op (m_fn wr0 (m_cons (m_tup (m_nil (q_n ⟨Nat.zero_le _, m_nil (q_c (q_v (q_n ⟨.tup [], [], 0, [], rfl, .inr rfl, .nil, nok, ?_⟩)))⟩)))))))
  rw [no_row]
  refine m_cN (r_isnN (q_bl (q_f ?_)))
  refine m_not (m_B (m_fn wr0 (m_cons (v_lst (m_cons (m_tup (m_nil (q_n ⟨Nat.zero_le _, m_nil (q_c (q_v (q_n ⟨by decide, ?_⟩)))⟩))))))))
  refine m_cons (m_fn wr0 (m_cons (v_lst (m_cons (m_tup (m_nil (q_n ⟨Nat.zero_le _, m_nil (q_c (q_v (q_n ⟨by decide, ?_⟩)))⟩)))))))
  refine m_nil (q_c (q_v (q_n ⟨_, [.tup []], 0, [[]], rfl, .inl rfl, .tup (r := []) .nil, ook, ?_⟩)))
  rw [one_row]
  refine m_nil (q_c (q_v (q_c (q_v (q_n ⟨[.tup []], 0, [[]], [1], rfl, .tup (r := []) .nil, (fun z => nomatch z), (fun r hr => ?_), by decide, by decide, osol, q_bl (q_f (ms_next ?_))⟩)))))
  · rw [List.mem_singleton.mp hr]
    exact ⟨rfl, fun x hx => nomatch hx⟩
  exact ms_ret (m_chain (m_op (m_var rfl (m_cI (r_ixL (e := .int (-1)) rfl rfl (m_op (m_var rfl (m_cI (r_ixL (e := .int (-1)) rfl rfl (r_eqI (q_bl (q_t (m_op (m_cI (m_op (m_var rfl (m_cI (r_ixL (e := .int 1) rfl rfl (r_subI (r_eqI (q_v rfl)))))))))))))))))))))
end
end K44
namespace K44
open PySem PySem.Spec PyProof.Rows L2 He SJ
open LamX (CodeO lamS_by Tabs tLam)
section
variable {K : PySem.W.Frag} {vs : List V} {H : Hp} {Q : VK} {E : XK}
theorem len_common_divisor (h : sp_common_divisor K vs H Q E) : vs.length = 1 := len_pu (P := P_common_divisor) (fun ds Q E h => by rcases h with ⟨_, e, _⟩ <;> (rw [e]; rfl)) h
theorem len_cleared (h : sp_cleared K vs H Q E) : vs.length = 3 := len_pu (P := P_cleared) (fun ds Q E h => by rcases h with ⟨_, _, _, e, _⟩ <;> (rw [e]; rfl)) h
theorem len_weights (h : sp_weights K vs H Q E) : vs.length = 1 := len_pu (P := P_weights) (fun ds Q E h => by rcases h with ⟨_, _, _, _, e, _⟩ <;> (rw [e]; rfl)) h
theorem len_Lpen (h : sp_Lpen K vs H Q E) : vs.length = 1 := len_pen h
theorem len_Ldraw (h : sp_Ldraw K vs H Q E) : vs.length = 2 := len_pp (P := P_Ldraw) (fun m ds Q h => by obtain ⟨_, e, _⟩ := h; rw [e]; rfl) h
theorem len_Lpick (h : sp_Lpick K vs H Q E) : vs.length = 2 := len_pp (P := P_Lpick) (fun m ds Q h => by obtain ⟨_, e | e, _⟩ := h <;> (rw [e]; rfl)) h
theorem len_Lrows (h : sp_Lrows K vs H Q E) : vs.length = 1 := len_pp (P := P_Lrows) (fun m ds Q h => by rcases h with ⟨e, _⟩ <;> (rw [e]; rfl)) h
theorem len_Lmany_rows (h : sp_Lmany_rows K vs H Q E) : vs.length = 1 := len_pp (P := P_Lmany_rows) (fun m ds Q h => by rcases h with ⟨e, _⟩ <;> (rw [e]; rfl)) h
theorem len_Lis_bound (h : sp_Lis_bound K vs H Q E) : vs.length = 1 := len_pu (P := P_Lis_bound) (fun ds Q E h => by rcases h with ⟨_, _, e, _⟩ <;> (rw [e]; rfl)) h
theorem len_Lare_weights (h : sp_Lare_weights K vs H Q E) : vs.length = 2 := len_pu (P := P_Lare_weights) (fun ds Q E h => by rcases h with ⟨_, _, _, _, e, _⟩ <;> (rw [e]; rfl)) h
theorem len_Lright (h : sp_Lright K vs H Q E) : vs.length = 3 := len_pp (P := P_Lright) (fun m ds Q h => by rcases h with ⟨_, _, _, e, _⟩ <;> (rw [e]; rfl)) h
theorem len_law (h : sp_law K vs H Q E) : vs.length = 1 := SJ.len_law h
end
end K44
namespace K44
open PySem PySem.Spec PyProof.Rows L2 He SJ
open LamX (CodeO lamS_by Tabs tLam)
section
variable {P : Program} {w : World} {K : PySem.W.Frag} {mg : Str → Option Value} {base : Heap}
theorem ok_common_divisor {fd : FuncData} (T : Tx K mg) (F : Fn_common_divisor K fd) : Fk P w K mg base 1 (a_common_divisor K) fd ["numbers"] (sp_common_divisor K) := by
  refine fk_of F sc_common_divisor (fun vs H Q E h => len_common_divisor h) (fun cdv A outer s H vs Q E hr h => ⟨t_common_divisor K, ?_, pure_common_divisor T h⟩)
  exact (pss_cons (ps_set (i := 1) sc_common_divisor.nd rfl (by first | exact Or.inl rfl | exact Or.inr rfl) pe_int) (pss_cons (ps_for (passes_of rfl) rfl (pi_list (pv 0)) (pg_name (i := 2) sc_common_divisor.nd rfl (by first | exact Or.inl rfl | exact Or.inr rfl)) (pss_cons (ps_set (i := 3) sc_common_divisor.nd rfl (by first | exact Or.inl rfl | exact Or.inr rfl) (pe_callB c_abs rfl T.f_abs (by decide +kernel) (pa_cons (pv 2) pa_nil))) (pss_one (ps_while (passes_of rfl) (pt_cmpR o_gt (pv 3) pe_int (nomark _)) (pss_one (ps_par (i := 1) (j := 3) rfl sc_common_divisor.nd rfl rfl (by decide) rfl rfl (pa_cons (pv 3) (pa_cons (pe_op o_mod (pv 1) (pv 3)) pa_nil)) (by rfl))))))) (pss_one (ps_ret (pv 1)))))
theorem ok_cleared {fd : FuncData} (T : Tx K mg) (F : Fn_cleared K fd) : Fk P w K mg base 2 (a_cleared K) fd ["line", "head", "column"] (sp_cleared K) := by
  obtain ⟨fd_common_divisor, F_common_divisor⟩ := T.d_common_divisor
  have G_common_divisor := ok_common_divisor (P := P) (w := w) (base := base) T F_common_divisor
  have b_common_divisor := F_common_divisor.bindsN (ps := ["numbers"]) fun _ _ _ _ _ _ us hl => match us, hl with | [_], _ => rfl
  refine fk_of F sc_cleared (fun vs H Q E h => len_cleared h) (fun cdv A outer s H vs Q E hr h => ⟨t_cleared K, ?_, pure_cleared T h⟩)
  exact (pss_cons (ps_if (pt_cmpR (o_eq hr.units) (pe_ix ix_seq (pv 0) (pv 2) (fun _ _ => rfl)) pe_int (nomark _)) (pss_one (ps_ret (pv 0))) pss_nil) (pss_cons (ps_setLc (i := 3) (own := [("one", 4), ("two", 5)]) rfl sc_cleared.nd rfl rfl (sw_true rfl rfl rfl (by decide +kernel)) (pi_zip rfl T.f_zip (pa_cons (pv 0) (pa_cons (pv 1) pa_nil))) (blkOk_by (own := [("one", 4), ("two", 5)]) (N := ["line", "head", "column", "found", "one", "two", "divisor"]) (sc := defScope s_cleared) (by decide +kernel)) (fun _ _ _ _ _ => (pg_tup rfl (pgs_cons (pg_name (i := 4) sc_cleared.nd rfl (by first | exact Or.inl rfl | exact Or.inr rfl)) (pgs_cons (pg_name (i := 5) sc_cleared.nd rfl (by first | exact Or.inl rfl | exact Or.inr rfl)) pgs_nil)))) (fun _ _ _ _ _ => pts_nil) (fun _ _ _ _ _ => (pe_op o_sub (pe_op op_mulW (pv 4) (pe_ix ix_seq (pv 1) (pv 2) (fun _ _ => rfl))) (pe_op op_mulW (pv 5) (pe_ix ix_seq (pv 0) (pv 2) (fun _ _ => rfl)))))) (pss_cons (ps_set (i := 6) sc_cleared.nd rfl (by first | exact Or.inl rfl | exact Or.inr rfl) (pe_fn G_common_divisor (hr.mono (by decide)) rfl T.g_common_divisor F_common_divisor.kp b_common_divisor .nil takes0 (pa_cons (pv 3) pa_nil))) (pss_one (ps_ret (pe_lc (own := [("one", 4)]) rfl sc_cleared.nd (pi_list (pv 3)) (blkOk_by (own := [("one", 4)]) (N := ["line", "head", "column", "found", "one", "two", "divisor"]) (sc := defScope s_cleared) (by decide +kernel)) (fun _ _ _ _ _ => (pg_name (i := 4) sc_cleared.nd rfl (by first | exact Or.inl rfl | exact Or.inr rfl))) (fun _ _ _ _ _ => pts_nil) (fun _ _ _ _ _ => (pe_op op_fdivW (pv 4) (pv 6)))))))))
theorem ok_weights {fd : FuncData} (T : Tx K mg) (F : Fn_weights K fd) : Fk P w K mg base 3 (a_weights K) fd ["rows"] (sp_weights K) := by
  obtain ⟨fd_cleared, F_cleared⟩ := T.d_cleared
  have G_cleared := ok_cleared (P := P) (w := w) (base := base) T F_cleared
  have b_cleared := F_cleared.bindsN (ps := ["line", "head", "column"]) fun _ _ _ _ _ _ us hl => match us, hl with | [_, _, _], _ => rfl
  refine fk_of F sc_weights (fun vs H Q E h => len_weights h) (fun cdv A outer s H vs Q E hr h => ⟨t_weights K, ?_, pure_weights T h⟩)
  exact (pss_cons (ps_set (i := 1) sc_weights.nd rfl (by first | exact Or.inl rfl | exact Or.inr rfl) (pe_callB (cr_max rfl) rfl T.f_max (by decide +kernel) (pa_cons (pe_op o_add (pe_lst (pa_cons pe_int pa_nil)) (pe_lc (own := [("row", 2)]) rfl sc_weights.nd (pi_sq (pv 0)) (blkOk_by (own := [("row", 2)]) (N := ["rows", "width", "row", "lines", "place", "at", "column", "places", "line", "head"]) (sc := defScope s_weights) (by decide +kernel)) (fun _ _ _ _ _ => (pg_name (i := 2) sc_weights.nd rfl (by first | exact Or.inl rfl | exact Or.inr rfl))) (fun _ _ _ _ _ => pts_nil) (fun _ _ _ _ _ => (pe_callB c_len rfl T.f_len (by decide +kernel) (pa_cons (pv 2) pa_nil))))) pa_nil))) (pss_cons (ps_setLc (i := 3) (own := [("at", 5), ("row", 2)]) rfl sc_weights.nd rfl rfl (sw_true rfl rfl rfl (by decide +kernel)) (pi_enumU rfl T.f_enumerate (pa_cons (pv 0) pa_nil)) (blkOk_by (own := [("at", 5), ("row", 2)]) (N := ["rows", "width", "row", "lines", "place", "at", "column", "places", "line", "head"]) (sc := defScope s_weights) (by decide +kernel)) (fun _ _ _ _ _ => (pg_tup rfl (pgs_cons (pg_name (i := 5) sc_weights.nd rfl (by first | exact Or.inl rfl | exact Or.inr rfl)) (pgs_cons (pg_name (i := 2) sc_weights.nd rfl (by first | exact Or.inl rfl | exact Or.inr rfl)) pgs_nil)))) (fun _ _ _ _ _ => pts_nil) (fun _ _ _ _ _ => (pe_lst (StX.pa_star (pv 2) (StX.pa_star (pe_lc (own := [("place", 4)]) rfl sc_weights.nd (pi_range1 rfl T.f_range (pa_cons (pe_callB c_len rfl T.f_len (by decide +kernel) (pa_cons (pv 0) pa_nil)) pa_nil)) (blkOk_by (own := [("place", 4)]) (N := ["rows", "width", "row", "lines", "place", "at", "column", "places", "line", "head"]) (by kernel_rfl)) (fun _ _ _ _ _ => (pg_name (i := 4) sc_weights.nd rfl (by first | exact Or.inl rfl | exact Or.inr rfl))) (fun _ _ _ _ _ => pts_nil) (fun _ _ _ _ _ => (pe_callTy c_int rfl T.f_int (by decide +kernel) (pa_cons (pe_cmpR (o_eq hr.units) (pv 5) (pv 4) (nomark _)) pa_nil)))) pa_nil))))) (pss_cons (ps_for (passes_of rfl) rfl (pi_range1 rfl T.f_range (pa_cons (pv 1) pa_nil)) (pg_name (i := 6) sc_weights.nd rfl (by first | exact Or.inl rfl | exact Or.inr rfl)) (pss_cons (ps_setLc (i := 7) (own := [("at", 5), ("line", 8)]) rfl sc_weights.nd rfl rfl (sw_true rfl rfl rfl (by decide +kernel)) (pi_enum rfl T.f_enumerate (pa_cons (pv 3) pa_nil)) (blkOk_by (own := [("at", 5), ("line", 8)]) (N := ["rows", "width", "row", "lines", "place", "at", "column", "places", "line", "head"]) (sc := defScope s_weights) (by decide +kernel)) (fun _ _ _ _ _ => (pg_tup rfl (pgs_cons (pg_name (i := 5) sc_weights.nd rfl (by first | exact Or.inl rfl | exact Or.inr rfl)) (pgs_cons (pg_name (i := 8) sc_weights.nd rfl (by first | exact Or.inl rfl | exact Or.inr rfl)) pgs_nil)))) (fun _ _ _ _ _ => (pts_one (pt_cmpR (o_ne hr.units) (pe_ix ix_seq (pv 8) (pv 6) (fun _ _ => rfl)) pe_int (nomark _)))) (fun _ _ _ _ _ => (pv 5))) (pss_one (ps_if (pt_cmpR (o_ne hr.units) (pv 7) (pe_lst pa_nil) (nomark _)) (pss_cons (ps_set (i := 9) sc_weights.nd rfl (by first | exact Or.inl rfl | exact Or.inr rfl) (pe_bm PySem.F.plainAttrs_list PySem.F.slot_list_pop PySem.F.type_list_pop mt_popAt (pv 3) (pa_cons (pe_ix ix_seq (pv 7) pe_int (fun _ _ => rfl)) pa_nil))) (pss_one (ps_setLc (i := 3) (own := [("line", 8)]) rfl sc_weights.nd rfl rfl (sw_true rfl rfl rfl (by decide +kernel)) (pi_list (pv 3)) (blkOk_by (own := [("line", 8)]) (N := ["rows", "width", "row", "lines", "place", "at", "column", "places", "line", "head"]) (sc := defScope s_weights) (by decide +kernel)) (fun _ _ _ _ _ => (pg_name (i := 8) sc_weights.nd rfl (by first | exact Or.inl rfl | exact Or.inr rfl))) (fun _ _ _ _ _ => pts_nil) (fun _ _ _ _ _ => (pe_fn G_cleared (hr.mono (by decide)) rfl T.g_cleared F_cleared.kp b_cleared .nil takes0 (pa_cons (pv 8) (pa_cons (pv 9) (pa_cons (pv 6) pa_nil)))))))) pss_nil)))) (pss_one (ps_ret (pe_ifExp (pt_cmpR (o_ne hr.units) (pv 3) (pe_lst pa_nil) (nomark _)) (pe_slice sl_u (pe_ix ix_seq (pv 3) pe_int (fun _ _ => rfl)) (po_some (pv 1)) po_none) pe_non))))))
theorem ok_Lpen {fd : FuncData} (T : Tx K mg) (F : Fn_Lpen K fd) : Fk P w K mg base 1 (a_Lpen K) fd ["_law_script"] (sp_Lpen K) := by
  refine fk_of F sc_Lpen (fun vs H Q E h => len_Lpen h) (fun cdv A outer s H vs Q E hr h => ⟨t_Lpen K, ?_, pure_Lpen T h⟩)
  exact (pss_one (ps_ret (pe_lst (pa_cons (pe_callTy c_list rfl T.f_list (by decide +kernel) (pa_cons (pe_slice sl_u (pv 0) po_none (po_some pe_int)) pa_nil)) (pa_cons pe_int (pa_cons pe_int pa_nil))))))
theorem ok_Ldraw {fd : FuncData} (T : Tx K mg) (F : Fn_Ldraw K fd) : Fk P w K mg base 1 (a_Ldraw K) fd ["_law_pen_here", "_law_many"] (sp_Ldraw K) := by
  refine fk_of F sc_Ldraw (fun vs H Q E h => len_Ldraw h) (fun cdv A outer s H vs Q E hr h => ⟨t_Ldraw K, ?_, pure_Ldraw T h⟩)
  exact (pss_cons (ps_if (pt_cmpR o_gt (pe_ix ix_seq (pv 0) pe_int (fun _ _ => rfl)) pe_int (nomark _)) (pss_cons (ps_set (i := 2) sc_Ldraw.nd rfl (by first | exact Or.inl rfl | exact Or.inr rfl) (pe_op o_mod (pe_callTy c_int rfl T.f_int (by decide +kernel) (pa_cons (pe_ix ix_seq (pv 0) pe_int (fun _ _ => rfl)) pa_nil)) (pv 1))) (pss_cons (ps_asg (pe_op o_fdv (pe_callTy c_int rfl T.f_int (by decide +kernel) (pa_cons (pe_ix ix_seq (pv 0) pe_int (fun _ _ => rfl)) pa_nil)) (pv 1)) (pg_sub (pv 0) pe_int set_list)) (pss_one (ps_ret (pv 2))))) pss_nil) (pss_cons (ps_set (i := 3) sc_Ldraw.nd rfl (by first | exact Or.inl rfl | exact Or.inr rfl) (pe_ix ix_seq (pv 0) pe_int (fun _ _ => rfl))) (pss_cons (ps_asg (pe_op o_add (pv 3) pe_int) (pg_sub (pv 0) pe_int set_list)) (pss_cons (ps_set (i := 4) sc_Ldraw.nd rfl (by first | exact Or.inl rfl | exact Or.inr rfl) (pe_op o_add (pe_op o_mul pe_int (pv 3)) pe_int)) (pss_cons (ps_if (pt_cmpR (o_ne hr.units) (pe_ix ix_seq (pv 0) pe_int (fun _ _ => rfl)) (pe_lst pa_nil) (nomark _)) (pss_one (ps_set (i := 4) sc_Ldraw.nd rfl (by first | exact Or.inl rfl | exact Or.inr rfl) (pe_ix ix_seq (pe_ix ix_seq (pv 0) pe_int (fun _ _ => rfl)) (pe_op o_mod (pe_callTy c_int rfl T.f_int (by decide +kernel) (pa_cons (pv 3) pa_nil)) (pe_callB c_len rfl T.f_len (by decide +kernel) (pa_cons (pe_ix ix_seq (pv 0) pe_int (fun _ _ => rfl)) pa_nil))) (fun _ _ => rfl)))) pss_nil) (pss_cons (ps_if (PW.pt (pw_and (pt_cmpR o_lt (pv 3) (pe_callB c_len rfl T.f_len (by decide +kernel) (pa_cons (pe_ix ix_seq (pv 0) pe_int (fun _ _ => rfl)) pa_nil)) (nomark _)) (pw_and1 (pt_cmpR o_ge (pe_callB c_abs rfl T.f_abs (by decide +kernel) (pa_cons (pv 4) pa_nil)) (pe_op o_pow pe_int pe_int) (nomark _))))) (pss_cons (ps_set (i := 5) sc_Ldraw.nd rfl (by first | exact Or.inl rfl | exact Or.inr rfl) (pe_op o_add (pe_op o_mul pe_int (pe_callB c_abs rfl T.f_abs (by decide +kernel) (pa_cons (pv 4) pa_nil))) (pe_callTy c_int rfl T.f_int (by decide +kernel) (pa_cons (pe_cmpR o_lt (pv 4) pe_int (nomark _)) pa_nil)))) (pss_cons (ps_asg (pe_op o_fdv (pv 5) (pv 1)) (pg_sub (pv 0) pe_int set_list)) (pss_one (ps_ret (pe_op o_mod (pe_callTy c_int rfl T.f_int (by decide +kernel) (pa_cons (pv 5) pa_nil)) (pv 1)))))) pss_nil) (pss_cons (ps_set (i := 6) sc_Ldraw.nd rfl (by first | exact Or.inl rfl | exact Or.inr rfl) (pe_op o_mod (pe_callTy c_int rfl T.f_int (by decide +kernel) (pa_cons (pe_op o_pow (pe_op o_add (pe_op o_add (pe_op o_mod (pe_callTy c_int rfl T.f_int (by decide +kernel) (pa_cons (pv 4) pa_nil)) pe_int) (pe_op o_mul pe_int (pv 3))) pe_int) pe_int) pa_nil)) pe_int)) (pss_cons (ps_set (i := 6) sc_Ldraw.nd rfl (by first | exact Or.inl rfl | exact Or.inr rfl) (pe_op o_mod (pe_callTy c_int rfl T.f_int (by decide +kernel) (pa_cons (pe_op o_pow (pe_op o_add (pe_op o_add (pe_op o_mul (pv 6) (pe_op o_add (pe_op o_mul pe_int (pv 3)) pe_int)) (pe_op o_mul (pe_op o_mul pe_int (pv 3)) (pv 3))) pe_int) pe_int) pa_nil)) pe_int)) (pss_one (ps_ret (pe_op o_mod (pe_callTy c_int rfl T.f_int (by decide +kernel) (pa_cons (pe_op o_fdv (pv 6) pe_int) pa_nil)) (pv 1))))))))))))
theorem ok_Lpick {fd : FuncData} (T : Tx K mg) (F : Fn_Lpick K fd) : Fk P w K mg base 2 (a_Lpick K) fd ["_law_pen_here", "_law_some"] (sp_Lpick K) := by
  obtain ⟨fd_Ldraw, F_Ldraw⟩ := T.d_Ldraw
  have G_Ldraw := ok_Ldraw (P := P) (w := w) (base := base) T F_Ldraw
  have b_Ldraw := F_Ldraw.bindsN (ps := ["_law_pen_here", "_law_many"]) fun _ _ _ _ _ _ us hl => match us, hl with | [_, _], _ => rfl
  refine fk_of F sc_Lpick (fun vs H Q E h => len_Lpick h) (fun cdv A outer s H vs Q E hr h => ⟨t_Lpick K, ?_, pure_Lpick T h⟩)
  exact (pss_one (ps_ret (pe_ix ix_seq (pv 1) (pe_fn G_Ldraw (hr.mono (by decide)) rfl T.g_Ldraw F_Ldraw.kp b_Ldraw .nil takes0 (pa_cons (pv 0) (pa_cons (pe_callB c_len rfl T.f_len (by decide +kernel) (pa_cons (pv 1) pa_nil)) pa_nil))) (fun _ _ => rfl))))
theorem ok_Lrows {fd : FuncData} (T : Tx K mg) (F : Fn_Lrows K fd) : Fk P w K mg base 3 (a_Lrows K) fd ["_law_pen_here"] (sp_Lrows K) := by
  obtain ⟨fd_Ldraw, F_Ldraw⟩ := T.d_Ldraw
  have G_Ldraw := ok_Ldraw (P := P) (w := w) (base := base) T F_Ldraw
  have b_Ldraw := F_Ldraw.bindsN (ps := ["_law_pen_here", "_law_many"]) fun _ _ _ _ _ _ us hl => match us, hl with | [_, _], _ => rfl
  obtain ⟨fd_Lpick, F_Lpick⟩ := T.d_Lpick
  have G_Lpick := ok_Lpick (P := P) (w := w) (base := base) T F_Lpick
  have b_Lpick := F_Lpick.bindsN (ps := ["_law_pen_here", "_law_some"]) fun _ _ _ _ _ _ us hl => match us, hl with | [_, _], _ => rfl
  refine fk_of F sc_Lrows (fun vs H Q E h => len_Lrows h) (fun cdv A outer s H vs Q E hr h => ⟨t_Lrows K, ?_, pure_Lrows T h⟩)
  exact (pss_cons (ps_par (i := 1) (j := 2) rfl sc_Lrows.nd rfl rfl (by decide) rfl rfl (pa_cons (pe_fn G_Ldraw (hr.mono (by decide)) rfl T.g_Ldraw F_Ldraw.kp b_Ldraw .nil takes0 (pa_cons (pv 0) (pa_cons pe_int pa_nil))) (pa_cons (pe_lst pa_nil) pa_nil)) (by rfl)) (pss_cons (ps_for (passes_of rfl) rfl (pi_range1 rfl T.f_range (pa_cons (pe_fn G_Ldraw (hr.mono (by decide)) rfl T.g_Ldraw F_Ldraw.kp b_Ldraw .nil takes0 (pa_cons (pv 0) (pa_cons pe_int pa_nil))) pa_nil)) (pg_name (i := 3) sc_Lrows.nd rfl (by first | exact Or.inl rfl | exact Or.inr rfl)) (pss_cons (ps_set (i := 4) sc_Lrows.nd rfl (by first | exact Or.inl rfl | exact Or.inr rfl) (pe_fn G_Ldraw (hr.mono (by decide)) rfl T.g_Ldraw F_Ldraw.kp b_Ldraw .nil takes0 (pa_cons (pv 0) (pa_cons pe_int pa_nil)))) (pss_cons (ps_setLc (i := 5) (own := [("_law_at", 6)]) rfl sc_Lrows.nd rfl rfl (sw_true rfl rfl rfl (by decide +kernel)) (pi_range1 rfl T.f_range (pa_cons (pv 1) pa_nil)) (blkOk_by (own := [("_law_at", 6)]) (N := ["_law_pen_here", "_law_width", "_law_found", "_law_turn", "_law_way", "_law_row", "_law_at", "_law_one", "_law_other"]) (sc := defScope s_Lrows) (by decide +kernel)) (fun _ _ _ _ _ => (pg_name (i := 6) sc_Lrows.nd rfl (by first | exact Or.inl rfl | exact Or.inr rfl))) (fun _ _ _ _ _ => pts_nil) (fun _ _ _ _ _ => (pe_fn G_Ldraw (hr.mono (by decide)) rfl T.g_Ldraw F_Ldraw.kp b_Ldraw .nil takes0 (pa_cons (pv 0) (pa_cons pe_int pa_nil))))) (pss_cons (ps_if (PW.pt (pw_and (pt_cmpR (o_eq hr.units) (pv 4) pe_int (nomark _)) (pw_and1 (pt_cmpR (o_ne hr.units) (pv 2) (pe_lst pa_nil) (nomark _))))) (pss_one (ps_set (i := 5) sc_Lrows.nd rfl (by first | exact Or.inl rfl | exact Or.inr rfl) (pe_fn G_Lpick (hr.mono (by decide)) rfl T.g_Lpick F_Lpick.kp b_Lpick .nil takes0 (pa_cons (pv 0) (pa_cons (pv 2) pa_nil))))) pss_nil) (pss_cons (ps_if (pt_cmpR (o_eq hr.units) (pv 4) pe_int (nomark _)) (pss_one (ps_set (i := 5) sc_Lrows.nd rfl (by first | exact Or.inl rfl | exact Or.inr rfl) (pe_op o_mul (pe_lst (pa_cons pe_int pa_nil)) (pv 1)))) pss_nil) (pss_cons (ps_if (PW.pt (pw_and (pt_cmpR (o_eq hr.units) (pv 4) pe_int (nomark _)) (pw_and1 (pt_cmpR (o_ne hr.units) (pv 2) (pe_lst pa_nil) (nomark _))))) (pss_one (ps_setLc (i := 5) (own := [("_law_one", 7), ("_law_other", 8)]) rfl sc_Lrows.nd rfl rfl (sw_true rfl rfl rfl (by decide +kernel)) (pi_zip rfl T.f_zip (pa_cons (pe_fn G_Lpick (hr.mono (by decide)) rfl T.g_Lpick F_Lpick.kp b_Lpick .nil takes0 (pa_cons (pv 0) (pa_cons (pv 2) pa_nil))) (pa_cons (pe_fn G_Lpick (hr.mono (by decide)) rfl T.g_Lpick F_Lpick.kp b_Lpick .nil takes0 (pa_cons (pv 0) (pa_cons (pv 2) pa_nil))) pa_nil))) (blkOk_by (own := [("_law_one", 7), ("_law_other", 8)]) (N := ["_law_pen_here", "_law_width", "_law_found", "_law_turn", "_law_way", "_law_row", "_law_at", "_law_one", "_law_other"]) (sc := defScope s_Lrows) (by decide +kernel)) (fun _ _ _ _ _ => (pg_tup rfl (pgs_cons (pg_name (i := 7) sc_Lrows.nd rfl (by first | exact Or.inl rfl | exact Or.inr rfl)) (pgs_cons (pg_name (i := 8) sc_Lrows.nd rfl (by first | exact Or.inl rfl | exact Or.inr rfl)) pgs_nil)))) (fun _ _ _ _ _ => pts_nil) (fun _ _ _ _ _ => (pe_callB (call_max2 rfl) rfl T.f_max (by decide +kernel) (pa_cons (pv 7) (pa_cons (pv 8) pa_nil)))))) pss_nil) (pss_one (ps_expr (pe_bm PySem.F.plainAttrs_list PySem.F.slot_list_append PySem.F.type_list_append mt_append (pv 2) (pa_cons (pe_callTy c_list rfl T.f_list (by decide +kernel) (pa_cons (pv 5) pa_nil)) pa_nil)))))))))) (pss_one (ps_ret (pv 2)))))
theorem ok_Lmany_rows {fd : FuncData} (T : Tx K mg) (F : Fn_Lmany_rows K fd) : Fk P w K mg base 2 (a_Lmany_rows K) fd ["_law_pen_here"] (sp_Lmany_rows K) := by
  obtain ⟨fd_Ldraw, F_Ldraw⟩ := T.d_Ldraw
  have G_Ldraw := ok_Ldraw (P := P) (w := w) (base := base) T F_Ldraw
  have b_Ldraw := F_Ldraw.bindsN (ps := ["_law_pen_here", "_law_many"]) fun _ _ _ _ _ _ us hl => match us, hl with | [_, _], _ => rfl
  refine fk_of F sc_Lmany_rows (fun vs H Q E h => len_Lmany_rows h) (fun cdv A outer s H vs Q E hr h => ⟨t_Lmany_rows K, ?_, pure_Lmany_rows T h⟩)
  exact (pss_cons (ps_asg (pe_tup (pa_cons (pe_op o_add pe_int (pe_fn G_Ldraw (hr.mono (by decide)) rfl T.g_Ldraw F_Ldraw.kp b_Ldraw .nil takes0 (pa_cons (pv 0) (pa_cons pe_int pa_nil)))) (pa_cons (pe_op o_add pe_int (pe_fn G_Ldraw (hr.mono (by decide)) rfl T.g_Ldraw F_Ldraw.kp b_Ldraw .nil takes0 (pa_cons (pv 0) (pa_cons pe_int pa_nil)))) (pa_cons (pe_ix ix_seq (pe_lst (pa_cons pe_int (pa_cons pe_int (pa_cons pe_int pa_nil)))) (pe_fn G_Ldraw (hr.mono (by decide)) rfl T.g_Ldraw F_Ldraw.kp b_Ldraw .nil takes0 (pa_cons (pv 0) (pa_cons pe_int pa_nil))) (fun _ _ => rfl)) pa_nil)))) (pg_tup rfl (pgs_cons (pg_name (i := 1) sc_Lmany_rows.nd rfl (by first | exact Or.inl rfl | exact Or.inr rfl)) (pgs_cons (pg_name (i := 2) sc_Lmany_rows.nd rfl (by first | exact Or.inl rfl | exact Or.inr rfl)) (pgs_cons (pg_name (i := 3) sc_Lmany_rows.nd rfl (by first | exact Or.inl rfl | exact Or.inr rfl)) pgs_nil))))) (pss_one (ps_ret (pe_lc (own := [("_law_k", 5)]) rfl sc_Lmany_rows.nd (pi_range1 rfl T.f_range (pa_cons pe_int pa_nil)) (blkOk_by (own := [("_law_k", 5)]) (N := ["_law_pen_here", "_law_one", "_law_other", "_law_part", "_law_at", "_law_k"]) (sc := defScope s_Lmany_rows) (by decide +kernel)) (fun _ _ _ _ _ => (pg_name (i := 5) sc_Lmany_rows.nd rfl (by first | exact Or.inl rfl | exact Or.inr rfl))) (fun _ _ _ _ _ => pts_nil) (fun _ _ _ _ _ => (pe_lc (own := [("_law_at", 4)]) rfl sc_Lmany_rows.nd (pi_range1 rfl T.f_range (pa_cons pe_int pa_nil)) (blkOk_by (own := [("_law_at", 4)]) (N := ["_law_pen_here", "_law_one", "_law_other", "_law_part", "_law_at", "_law_k"]) (by kernel_rfl)) (fun _ _ _ _ _ => (pg_name (i := 4) sc_Lmany_rows.nd rfl (by first | exact Or.inl rfl | exact Or.inr rfl))) (fun _ _ _ _ _ => pts_nil) (fun _ _ _ _ _ => (pe_callTy c_int rfl T.f_int (by decide +kernel) (pa_cons (pe_cmpR o_lt (pe_op o_mod (pe_callTy c_int rfl T.f_int (by decide +kernel) (pa_cons (pe_op o_add (pe_op o_add (pe_op o_mul (pv 5) (pv 1)) (pe_op o_mul (pv 4) (pv 2))) (pe_op o_mul (pe_op o_mul (pv 5) (pv 4)) (pv 4))) pa_nil)) (pv 3)) pe_int (nomark _)) pa_nil)))))))))
theorem ok_Lis_bound {fd : FuncData} (T : Tx K mg) (F : Fn_Lis_bound K fd) : Fk P w K mg base 1 (a_Lis_bound K) fd ["_law_some_so"] (sp_Lis_bound K) := by
  refine fk_of F sc_Lis_bound (fun vs H Q E h => len_Lis_bound h) (fun cdv A outer s H vs Q E hr h => ⟨t_Lis_bound K, ?_, pure_Lis_bound T h⟩)
  exact (pss_cons (ps_setLc (i := 1) (own := [("_law_row", 2)]) rfl sc_Lis_bound.nd rfl rfl (sw_true rfl rfl rfl (by decide +kernel)) (pi_list (pv 0)) (blkOk_by (own := [("_law_row", 2)]) (N := ["_law_some_so", "_law_lines", "_law_row", "_law_at", "_law_some", "_law_k", "_law_line", "_law_head", "_law_one", "_law_two"]) (sc := defScope s_Lis_bound) (by decide +kernel)) (fun _ _ _ _ _ => (pg_name (i := 2) sc_Lis_bound.nd rfl (by first | exact Or.inl rfl | exact Or.inr rfl))) (fun _ _ _ _ _ => pts_nil) (fun _ _ _ _ _ => (pe_callTy c_list rfl T.f_list (by decide +kernel) (pa_cons (pv 2) pa_nil)))) (pss_cons (ps_for (passes_of rfl) rfl (pi_range1 rfl T.f_range (pa_cons (pe_ifExp (pt_cmpR (o_ne hr.units) (pv 0) (pe_lst pa_nil) (nomark _)) (pe_callB c_len rfl T.f_len (by decide +kernel) (pa_cons (pe_ix ix_seq (pv 0) pe_int (fun _ _ => rfl)) pa_nil)) pe_int) pa_nil)) (pg_name (i := 3) sc_Lis_bound.nd rfl (by first | exact Or.inl rfl | exact Or.inr rfl)) (pss_cons (ps_setLc (i := 4) (own := [("_law_k", 5), ("_law_line", 6)]) rfl sc_Lis_bound.nd rfl rfl (sw_true rfl rfl rfl (by decide +kernel)) (pi_enum rfl T.f_enumerate (pa_cons (pv 1) pa_nil)) (blkOk_by (own := [("_law_k", 5), ("_law_line", 6)]) (N := ["_law_some_so", "_law_lines", "_law_row", "_law_at", "_law_some", "_law_k", "_law_line", "_law_head", "_law_one", "_law_two"]) (sc := defScope s_Lis_bound) (by decide +kernel)) (fun _ _ _ _ _ => (pg_tup rfl (pgs_cons (pg_name (i := 5) sc_Lis_bound.nd rfl (by first | exact Or.inl rfl | exact Or.inr rfl)) (pgs_cons (pg_name (i := 6) sc_Lis_bound.nd rfl (by first | exact Or.inl rfl | exact Or.inr rfl)) pgs_nil)))) (fun _ _ _ _ _ => (pts_one (pt_cmpR (o_ne hr.units) (pe_ix ix_seq (pv 6) (pv 3) (fun _ _ => rfl)) pe_int (nomark _)))) (fun _ _ _ _ _ => (pv 5))) (pss_one (ps_if (pt_cmpR (o_ne hr.units) (pv 4) (pe_lst pa_nil) (nomark _)) (pss_cons (ps_set (i := 7) sc_Lis_bound.nd rfl (by first | exact Or.inl rfl | exact Or.inr rfl) (pe_bm PySem.F.plainAttrs_list PySem.F.slot_list_pop PySem.F.type_list_pop mt_popAt (pv 1) (pa_cons (pe_ix ix_seq (pv 4) pe_int (fun _ _ => rfl)) pa_nil))) (pss_one (ps_setLc (i := 1) (own := [("_law_line", 6)]) rfl sc_Lis_bound.nd rfl rfl (sw_true rfl rfl rfl (by decide +kernel)) (pi_list (pv 1)) (blkOk_by (own := [("_law_line", 6)]) (N := ["_law_some_so", "_law_lines", "_law_row", "_law_at", "_law_some", "_law_k", "_law_line", "_law_head", "_law_one", "_law_two"]) (sc := defScope s_Lis_bound) (by decide +kernel)) (fun _ _ _ _ _ => (pg_name (i := 6) sc_Lis_bound.nd rfl (by first | exact Or.inl rfl | exact Or.inr rfl))) (fun _ _ _ _ _ => pts_nil) (fun _ _ _ _ _ => (pe_lc (own := [("_law_one", 8), ("_law_two", 9)]) rfl sc_Lis_bound.nd (pi_zip rfl T.f_zip (pa_cons (pv 6) (pa_cons (pv 7) pa_nil))) (blkOk_by (own := [("_law_one", 8), ("_law_two", 9)]) (N := ["_law_some_so", "_law_lines", "_law_row", "_law_at", "_law_some", "_law_k", "_law_line", "_law_head", "_law_one", "_law_two"]) (by kernel_rfl)) (fun _ _ _ _ _ => (pg_tup rfl (pgs_cons (pg_name (i := 8) sc_Lis_bound.nd rfl (by first | exact Or.inl rfl | exact Or.inr rfl)) (pgs_cons (pg_name (i := 9) sc_Lis_bound.nd rfl (by first | exact Or.inl rfl | exact Or.inr rfl)) pgs_nil)))) (fun _ _ _ _ _ => pts_nil) (fun _ _ _ _ _ => (pe_op o_sub (pe_op op_mulW (pv 8) (pe_ix ix_seq (pv 7) (pv 3) (fun _ _ => rfl))) (pe_op op_mulW (pv 9) (pe_ix ix_seq (pv 6) (pv 3) (fun _ _ => rfl)))))))))) pss_nil)))) (pss_one (ps_ret (pe_cmpR (o_ne hr.units) (pv 1) (pe_lst pa_nil) (nomark _))))))
theorem ok_Lare_weights {fd : FuncData} (T : Tx K mg) (F : Fn_Lare_weights K fd) : Fk P w K mg base 1 (a_Lare_weights K) fd ["_law_some_so", "_law_told"] (sp_Lare_weights K) := by
  refine fk_of F sc_Lare_weights (fun vs H Q E h => len_Lare_weights h) (fun cdv A outer s H vs Q E hr h => ⟨t_Lare_weights K, ?_, pure_Lare_weights T h⟩)
  exact (pss_cons (ps_if (PW.pt (pw_or (pt_not (pt_val (pe_callB c_isi rfl T.f_isinstance (by decide +kernel) (pa_cons (pv 1) (pa_cons (pe_bltn (v := .ty "list") rfl T.f_list (by decide +kernel) rfl) pa_nil))))) (pw_or1 (pt_cmpR (o_ne hr.units) (pe_callB c_len rfl T.f_len (by decide +kernel) (pa_cons (pv 1) pa_nil)) (pe_callB c_len rfl T.f_len (by decide +kernel) (pa_cons (pv 0) pa_nil)) (nomark _))))) (pss_one (ps_ret pe_bl)) pss_nil) (pss_cons (ps_if (pt_cmpR (o_ne hr.units) (pe_lc (own := [("_law_one", 2)]) rfl sc_Lare_weights.nd (pi_list (pv 1)) (blkOk_by (own := [("_law_one", 2)]) (N := ["_law_some_so", "_law_told", "_law_one", "_law_at", "_law_row"]) (sc := defScope s_Lare_weights) (by decide +kernel)) (fun _ _ _ _ _ => (pg_name (i := 2) sc_Lare_weights.nd rfl (by first | exact Or.inl rfl | exact Or.inr rfl))) (fun _ _ _ _ _ => (pts_one (PW.pt (pw_or (pt_not (pt_val (pe_callB c_isi rfl T.f_isinstance (by decide +kernel) (pa_cons (pv 2) (pa_cons (pe_bltn (v := .ty "int") rfl T.f_int (by decide +kernel) rfl) pa_nil))))) (pw_or1 (pt_val (pe_callB c_isi rfl T.f_isinstance (by decide +kernel) (pa_cons (pv 2) (pa_cons (pe_bltn (v := .ty "bool") rfl T.f_bool (by decide +kernel) rfl) pa_nil))))))))) (fun _ _ _ _ _ => (pv 2))) (pe_lst pa_nil) (nomark _)) (pss_one (ps_ret pe_bl)) pss_nil) (pss_cons (ps_for (passes_of rfl) rfl (pi_range1 rfl T.f_range (pa_cons (pe_callB c_len rfl T.f_len (by decide +kernel) (pa_cons (pe_ix ix_seq (pv 0) pe_int (fun _ _ => rfl)) pa_nil)) pa_nil)) (pg_name (i := 3) sc_Lare_weights.nd rfl (by first | exact Or.inl rfl | exact Or.inr rfl)) (pss_one (ps_if (pt_cmpR (o_ne hr.units) (pe_callB (c_sum rfl) rfl T.f_sum (by decide +kernel) (pa_cons (pe_lc (own := [("_law_one", 2), ("_law_row", 4)]) rfl sc_Lare_weights.nd (pi_zip rfl T.f_zip (pa_cons (pv 1) (pa_cons (pv 0) pa_nil))) (blkOk_by (own := [("_law_one", 2), ("_law_row", 4)]) (N := ["_law_some_so", "_law_told", "_law_one", "_law_at", "_law_row"]) (sc := defScope s_Lare_weights) (by decide +kernel)) (fun _ _ _ _ _ => (pg_tup rfl (pgs_cons (pg_name (i := 2) sc_Lare_weights.nd rfl (by first | exact Or.inl rfl | exact Or.inr rfl)) (pgs_cons (pg_name (i := 4) sc_Lare_weights.nd rfl (by first | exact Or.inl rfl | exact Or.inr rfl)) pgs_nil)))) (fun _ _ _ _ _ => pts_nil) (fun _ _ _ _ _ => (pe_op op_mulW (pv 2) (pe_ix ix_seq (pv 4) (pv 3) (fun _ _ => rfl))))) pa_nil)) pe_int (nomark _)) (pss_one (ps_ret pe_bl)) pss_nil))) (pss_one (ps_ret (pe_cmpR (o_ne hr.units) (pe_lc (own := [("_law_one", 2)]) rfl sc_Lare_weights.nd (pi_list (pv 1)) (blkOk_by (own := [("_law_one", 2)]) (N := ["_law_some_so", "_law_told", "_law_one", "_law_at", "_law_row"]) (sc := defScope s_Lare_weights) (by decide +kernel)) (fun _ _ _ _ _ => (pg_name (i := 2) sc_Lare_weights.nd rfl (by first | exact Or.inl rfl | exact Or.inr rfl))) (fun _ _ _ _ _ => (pts_one (pt_cmpR (o_ne hr.units) (pv 2) pe_int (nomark _)))) (fun _ _ _ _ _ => (pv 2))) (pe_lst pa_nil) (nomark _)))))))
theorem ok_Lright {fd : FuncData} (T : Tx K mg) (F : Fn_Lright K fd) : Fk P w K mg base 4 (a_Lright K) fd ["_law_pen_here", "_law_some_so", "_law_is_bound_here"] (sp_Lright K) := by
  obtain ⟨fd_Lare_weights, F_Lare_weights⟩ := T.d_Lare_weights
  have G_Lare_weights := ok_Lare_weights (P := P) (w := w) (base := base) T F_Lare_weights
  have b_Lare_weights := F_Lare_weights.bindsN (ps := ["_law_some_so", "_law_told"]) fun _ _ _ _ _ _ us hl => match us, hl with | [_, _], _ => rfl
  obtain ⟨fd_weights, F_weights⟩ := T.d_weights
  have G_weights := ok_weights (P := P) (w := w) (base := base) T F_weights
  have b_weights := F_weights.bindsN (ps := ["rows"]) fun _ _ _ _ _ _ us hl => match us, hl with | [_], _ => rfl
  obtain ⟨fd_Ldraw, F_Ldraw⟩ := T.d_Ldraw
  have G_Ldraw := ok_Ldraw (P := P) (w := w) (base := base) T F_Ldraw
  have b_Ldraw := F_Ldraw.bindsN (ps := ["_law_pen_here", "_law_many"]) fun _ _ _ _ _ _ us hl => match us, hl with | [_, _], _ => rfl
  refine fk_of F sc_Lright (fun vs H Q E h => len_Lright h) (fun cdv A outer s H vs Q E hr h => ⟨t_Lright K, ?_, pure_Lright T h⟩)
  exact (pss_cons (ps_setLc (i := 3) (own := [("_law_row", 4)]) rfl sc_Lright.nd rfl rfl (sw_true rfl rfl rfl (by decide +kernel)) (pi_list (pv 1)) (blkOk_by (own := [("_law_row", 4)]) (N := ["_law_pen_here", "_law_some_so", "_law_is_bound_here", "_law_handed", "_law_row", "_law_kept", "_law_told"]) (sc := defScope s_Lright) (by decide +kernel)) (fun _ _ _ _ _ => (pg_name (i := 4) sc_Lright.nd rfl (by first | exact Or.inl rfl | exact Or.inr rfl))) (fun _ _ _ _ _ => pts_nil) (fun _ _ _ _ _ => (pe_ifExp (pt_cmpR (o_eq hr.units) (pe_fn G_Ldraw (hr.mono (by decide)) rfl T.g_Ldraw F_Ldraw.kp b_Ldraw .nil takes0 (pa_cons (pv 0) (pa_cons pe_int pa_nil))) pe_int (nomark _)) (pe_callTy c_tuple rfl T.f_tuple (by decide +kernel) (pa_cons (pv 4) pa_nil)) (pe_callTy c_list rfl T.f_list (by decide +kernel) (pa_cons (pv 4) pa_nil))))) (pss_cons (ps_set (i := 3) sc_Lright.nd rfl (by first | exact Or.inl rfl | exact Or.inr rfl) (pe_ifExp (pt_cmpR (o_eq hr.units) (pe_fn G_Ldraw (hr.mono (by decide)) rfl T.g_Ldraw F_Ldraw.kp b_Ldraw .nil takes0 (pa_cons (pv 0) (pa_cons pe_int pa_nil))) pe_int (nomark _)) (pe_callTy c_tuple rfl T.f_tuple (by decide +kernel) (pa_cons (pv 3) pa_nil)) (pv 3))) (pss_cons (ps_set (i := 5) sc_Lright.nd rfl (by first | exact Or.inl rfl | exact Or.inr rfl) (pe_callB (c_reprU T.sys hr) rfl T.f_repr (by decide +kernel) (pa_cons (pv 3) pa_nil))) (pss_cons (ps_set (i := 6) sc_Lright.nd rfl (by first | exact Or.inl rfl | exact Or.inr rfl) (pe_fn G_weights (hr.mono (by decide)) rfl T.g_weights F_weights.kp b_weights .nil takes0 (pa_cons (pv 3) pa_nil))) (pss_cons (ps_if (PW.pt (pw_or (pt_cmpR (o_ne hr.units) (pe_callB (c_reprU T.sys hr) rfl T.f_repr (by decide +kernel) (pa_cons (pe_fnK0 G_weights (hr.mono (by decide)) rfl T.g_weights F_weights.kp (kb_weights_0_rows F_weights) takes0 (pk_cons (pv 3) pk_nil)) pa_nil)) (pe_callB (c_reprU T.sys hr) rfl T.f_repr (by decide +kernel) (pa_cons (pv 6) pa_nil)) (nomark _)) (pw_or1 (pt_cmpR (o_ne hr.units) (pe_callB (c_reprU T.sys hr) rfl T.f_repr (by decide +kernel) (pa_cons (pv 3) pa_nil)) (pv 5) (nomark _))))) (pss_one (ps_ret pe_bl)) pss_nil) (pss_one (ps_ret (pe_ifExp (pt_val (pv 2)) (pe_fn G_Lare_weights (hr.mono (by decide)) rfl T.g_Lare_weights F_Lare_weights.kp b_Lare_weights .nil takes0 (pa_cons (pv 1) (pa_cons (pv 6) pa_nil))) (pe_cmpR o_is (pv 6) pe_non (nomark _))))))))))
theorem ok_law {fd : FuncData} (T : Tx K mg) (F : Fn_law K fd) : Fk P w K mg base 5 (a_law K) fd ["_law_script"] (sp_law K) := by
  obtain ⟨fd_Lare_weights, F_Lare_weights⟩ := T.d_Lare_weights
  have G_Lare_weights := ok_Lare_weights (P := P) (w := w) (base := base) T F_Lare_weights
  have b_Lare_weights := F_Lare_weights.bindsN (ps := ["_law_some_so", "_law_told"]) fun _ _ _ _ _ _ us hl => match us, hl with | [_, _], _ => rfl
  obtain ⟨fd_weights, F_weights⟩ := T.d_weights
  have G_weights := ok_weights (P := P) (w := w) (base := base) T F_weights
  have b_weights := F_weights.bindsN (ps := ["rows"]) fun _ _ _ _ _ _ us hl => match us, hl with | [_], _ => rfl
  obtain ⟨fd_Lright, F_Lright⟩ := T.d_Lright
  have G_Lright := ok_Lright (P := P) (w := w) (base := base) T F_Lright
  have b_Lright := F_Lright.bindsN (ps := ["_law_pen_here", "_law_some_so", "_law_is_bound_here"]) fun _ _ _ _ _ _ us hl => match us, hl with | [_, _, _], _ => rfl
  obtain ⟨fd_Lmany_rows, F_Lmany_rows⟩ := T.d_Lmany_rows
  have G_Lmany_rows := ok_Lmany_rows (P := P) (w := w) (base := base) T F_Lmany_rows
  have b_Lmany_rows := F_Lmany_rows.bindsN (ps := ["_law_pen_here"]) fun _ _ _ _ _ _ us hl => match us, hl with | [_], _ => rfl
  obtain ⟨fd_Ldraw, F_Ldraw⟩ := T.d_Ldraw
  have G_Ldraw := ok_Ldraw (P := P) (w := w) (base := base) T F_Ldraw
  have b_Ldraw := F_Ldraw.bindsN (ps := ["_law_pen_here", "_law_many"]) fun _ _ _ _ _ _ us hl => match us, hl with | [_, _], _ => rfl
  obtain ⟨fd_Lis_bound, F_Lis_bound⟩ := T.d_Lis_bound
  have G_Lis_bound := ok_Lis_bound (P := P) (w := w) (base := base) T F_Lis_bound
  have b_Lis_bound := F_Lis_bound.bindsN (ps := ["_law_some_so"]) fun _ _ _ _ _ _ us hl => match us, hl with | [_], _ => rfl
  obtain ⟨fd_Lrows, F_Lrows⟩ := T.d_Lrows
  have G_Lrows := ok_Lrows (P := P) (w := w) (base := base) T F_Lrows
  have b_Lrows := F_Lrows.bindsN (ps := ["_law_pen_here"]) fun _ _ _ _ _ _ us hl => match us, hl with | [_], _ => rfl
  obtain ⟨fd_Lpen, F_Lpen⟩ := T.d_Lpen
  have G_Lpen := ok_Lpen (P := P) (w := w) (base := base) T F_Lpen
  have b_Lpen := F_Lpen.bindsN (ps := ["_law_script"]) fun _ _ _ _ _ _ us hl => match us, hl with | [_], _ => rfl
  refine fk_of F sc_law (fun vs H Q E h => len_law h) (fun cdv A outer s H vs Q E hr h => ⟨t_law K, ?_, pure_law T h⟩)
  exact (pss_cons (ps_set (i := 1) sc_law.nd rfl (by first | exact Or.inl rfl | exact Or.inr rfl) (pe_fn G_Lpen (hr.mono (by decide)) rfl T.g_Lpen F_Lpen.kp b_Lpen .nil takes0 (pa_cons (pv 0) pa_nil))) (pss_cons (ps_for (passes_of rfl) rfl (pi_range1 rfl T.f_range (pa_cons pe_int pa_nil)) (pg_name (i := 2) sc_law.nd rfl (by first | exact Or.inl rfl | exact Or.inr rfl)) (pss_cons (ps_set (i := 3) sc_law.nd rfl (by first | exact Or.inl rfl | exact Or.inr rfl) (pe_fn G_Lrows (hr.mono (by decide)) rfl T.g_Lrows F_Lrows.kp b_Lrows .nil takes0 (pa_cons (pv 1) pa_nil))) (pss_one (ps_if (pt_not (pt_val (pe_fn G_Lright (hr.mono (by decide)) rfl T.g_Lright F_Lright.kp b_Lright .nil takes0 (pa_cons (pv 1) (pa_cons (pv 3) (pa_cons (pe_fn G_Lis_bound (hr.mono (by decide)) rfl T.g_Lis_bound F_Lis_bound.kp b_Lis_bound .nil takes0 (pa_cons (pv 3) pa_nil)) pa_nil)))))) (pss_one (ps_ret pe_bl)) pss_nil)))) (pss_cons (ps_if (PW.pt (pw_and (pt_cmpR (o_eq hr.units) (pe_fn G_Ldraw (hr.mono (by decide)) rfl T.g_Ldraw F_Ldraw.kp b_Ldraw .nil takes0 (pa_cons (pv 1) (pa_cons pe_int pa_nil))) pe_int (nomark _)) (pw_and1 (pt_not (pt_val (pe_fn G_Lright (hr.mono (by decide)) rfl T.g_Lright F_Lright.kp b_Lright .nil takes0 (pa_cons (pv 1) (pa_cons (pe_fn G_Lmany_rows (hr.mono (by decide)) rfl T.g_Lmany_rows F_Lmany_rows.kp b_Lmany_rows .nil takes0 (pa_cons (pv 1) pa_nil)) (pa_cons pe_bl pa_nil))))))))) (pss_one (ps_ret pe_bl)) pss_nil) (pss_cons (ps_set (i := 4) sc_law.nd rfl (by first | exact Or.inl rfl | exact Or.inr rfl) (pe_fn G_weights (hr.mono (by decide)) rfl T.g_weights F_weights.kp b_weights .nil takes0 (pa_cons (pe_lst (pa_cons (pe_lst (pa_cons pe_int (pa_cons pe_int pa_nil))) (pa_cons (pe_lst (pa_cons pe_int (pa_cons pe_int pa_nil))) (pa_cons (pe_lst (pa_cons pe_int (pa_cons pe_int pa_nil))) pa_nil)))) pa_nil))) (pss_cons (ps_if (PW.pt (pw_or (pt_cmpR o_isn (pe_fn G_weights (hr.mono (by decide)) rfl T.g_weights F_weights.kp b_weights .nil takes0 (pa_cons (pe_lst pa_nil) pa_nil)) pe_non (nomark _)) (pw_or (pt_cmpR o_isn (pe_fn G_weights (hr.mono (by decide)) rfl T.g_weights F_weights.kp b_weights .nil takes0 (pa_cons (pe_tup pa_nil) pa_nil)) pe_non (nomark _)) (pw_or1 (pt_not (pt_val (pe_fn G_Lare_weights (hr.mono (by decide)) rfl T.g_Lare_weights F_Lare_weights.kp b_Lare_weights .nil takes0 (pa_cons (pe_lst (pa_cons (pe_tup pa_nil) pa_nil)) (pa_cons (pe_fn G_weights (hr.mono (by decide)) rfl T.g_weights F_weights.kp b_weights .nil takes0 (pa_cons (pe_lst (pa_cons (pe_tup pa_nil) pa_nil)) pa_nil)) pa_nil))))))))) (pss_one (ps_ret pe_bl)) pss_nil) (pss_one (ps_ret (pe_chain (o_eq hr.units) (o_eq hr.units) (pe_ix ix_seq (pv 4) pe_int (fun _ _ => rfl)) (pe_ix ix_seq (pv 4) pe_int (fun _ _ => rfl)) (pe_op o_sub pe_int (pe_ix ix_seq (pv 4) pe_int (fun _ _ => rfl)))))))))))
end
end K44
open PySem PySem.W PySem.Calls PyProof.Rows in
set_option maxRecDepth 100000 in
set_option maxHeartbeats 0 in
theorem PySem.Challenge.cw_strayjoins_k44_weights_of_rows_holds : PySem.Challenge.rw_strayjoins_k44_weights_of_rows.Holds := by
  w_on; o_law
  refine HandSHeadRun.head_any (r := OpenLaw.row PySem.Challenge.rw_strayjoins_k44_weights_of_rows) (q := view (OpenLaw.row PySem.Challenge.rw_strayjoins_k44_weights_of_rows).prog [13]) (H := K44.hk) (ob := K44.ob) (M := 12000) (loose := K44.loose) (d := HandSHeadRun.topDef (OpenLaw.row PySem.Challenge.rw_strayjoins_k44_weights_of_rows).prog 13) (kwd := []) K44.ob_eq
    (by kernel_rfl) (fun s => by kernel_rfl) K44.run (by kernel_rfl) (by kernel_rfl) (by kernel_rfl) (by rfl) (by first | assumption | decide +kernel) (by decide +kernel) ⟨rfl, rfl, rfl, rfl, rfl, by decide +kernel⟩ ?hw ?hc
  case hw => w_witness2
  case hc =>
    refine SJ.walk_law (l := PySem.Challenge.rw_strayjoins_k44_weights_of_rows) (n := 63) (k := 5) (x := "_law_script") rfl (by decide) (by kernel_rfl) ⟨⟨rfl, by decide, by decide⟩, rfl⟩ ?F
    intro w mg fa h Y G hmg0
    obtain ⟨K, KX, c⟩ := Y
    have T := K44.tx_of KX G c
    have hmg : mg ("law" : PySem.Str) = some (.ref fa) := by
      have e : (HandSHeadRun.topDef (OpenLaw.row PySem.Challenge.rw_strayjoins_k44_weights_of_rows).prog 13).name = ("law" : PySem.Str) := by kernel_rfl
      rw [← e]
      exact hmg0
    obtain ⟨fd, F⟩ := T.d_law
    obtain rfl : fa = K44.a_law K := by
      have e := hmg.symm.trans T.g_law
      cases e; rfl
    have b := L2.FunD.bindsA (ps := ["_law_script"]) F fun _ _ _ _ _ _ us hl => match us, hl with | [_], _ => rfl
    exact ⟨K, fd, K44.sp_law K, KX, fun s v => b s [v] rfl, fun H a ns hl hS => ⟨a, ns, rfl, hS, hl, (fun p hp => absurd hp List.not_mem_nil), fun _ => rfl⟩, fun base _ _ => K44.ok_law T F⟩
