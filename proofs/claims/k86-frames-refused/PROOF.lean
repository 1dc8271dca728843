import PyProof.Rows.All
import Wide.All
import OpenK.AllK
import Wide.FinOn
import KE.KStateDown
import Lean
import HandS.ForMost
import HandS.ForExc
import HandS.Defaults
import HandS.Property
import HandS.IsInst
import HandS.Head0
import HandS.Head1
import HandS.Head2
import HandS.HeadEnd
import HandS.HeadHook1
import HandS.HeadHook2
import HandS.FStr
import HandS.Flow
import HandS.MakeKw
import HandS.MakeKwOnly
import HandS.ExcField
import HandS.ExcInit
import HandS.Star
import HandS.Evl
import HandS.TupAny
import HandS.TupMul
import HandS.Style
import HandS.Wide
import HandS.WideBits
import HandS.Strs
import HandS.StrMore
import HandS.CallSlots
import KE.KCallOwn
import PyProof.InstNe
import KE.KExcSuper
import HandS.TryOnly
import HandS.Steps
import HandS.ClsMeth
import HandS.Words
import KE.KExcIs
import HandS.ExcValue
import HandS.ExcIs
import PyProof.ReprLen
import OpenK.KMeth
import HandS.Lambda
import KE.SortKeyHeap
import KE.KSortKey
import HandS.SetBool
import HandS.SetKeys
import HandS.Conv
import KE.KDictSum
import KE.KDictList
import HandS.OwnEq
import HandS.EndTab
import HandS.HeadHook4
import HandS.DictComp
import KE.KOpsOwn
import KE.KTryMore
import KE.KDictPairs
import HandS.DictEq
import HandS.ListItems
import HandS.SetFor
import KE.GoesMore
import HandS.Finally
import PyProof.EqKinds
import PyProof.P3In
import PyProof.TupleOfSeq
import HandS.TupSets
import KE.SortData
import HandS.Zip
import HandS.RaiseMore
import KE.GoesEnum
import PyProof.DictUpdate
import HandS.NoneIn
import PyProof.FitsReplace
import PySem.Challenge.RW_strayjoins_k86_frames_refused
set_option Elab.async false
set_option linter.all false
set_option maxRecDepth 100000
set_option maxHeartbeats 4000000
namespace SJ
open PySem PySem.Spec PyProof.Rows L2 He
/-- a def and the path to it -/
structure DD where
  ad : PySem.W.Frag → Addr
  name : Str
  qual : Str
  params : Arguments
  body : List Stmt
  scope : Scope
  dfl : List Dv := []
  kwd : List (Str × Dv) := []
def fnA (K : PySem.W.Frag) (a : Addr) : FnW := match K.lookup a with
  | some ⟨_, _, .func fd, _⟩ => some (fd.name, fd.qualname, fd.params, fd.body, fd.scope, fd.globals, fd.closure, fd.builtins)
  | _ => none
def DD.val (d : DD) : FnW := some (d.name, d.qual, d.params, .stmts d.body, d.scope, mainGlobals, [], builtinsNs)
def DD.dvs (K : PySem.W.Frag) (d : DD) : List V := d.dfl.map (Dv.v K)
def DD.kws (K : PySem.W.Frag) (d : DD) : List (Str × V) := d.kwd.map fun q => (q.1, q.2.v K)
def DD.ok (K : PySem.W.Frag) (d : DD) : Bool := PySem.W.keepIn K (.ref (d.ad K)) && (match K.lookup (d.ad K) with
  | some ⟨_, _, .func fd, _⟩ => PySem.W.codeIn K fd.code d.qual && (dflB K fd.defaults (d.dvs K) && kwdB K fd.kwdefaults (d.kws K))
  | _ => false)
theorem DD.funD {K : PySem.W.Frag} {d : DD} (e : fnA K (d.ad K) = d.val) (c : d.ok K = true) : ∃ fd, FunD K d.name d.qual d.params d.body d.scope (d.dvs K) (d.kws K) (d.ad K) fd := by
  obtain ⟨kp, c2⟩ := ba c
  unfold fnA at e
  cases q : K.lookup (d.ad K) with
  | none => rw [q] at c2; cases c2
  | some o =>
    obtain ⟨oc, od, dt, osl⟩ := o
    rw [q] at c2 e
    cases dt with
    | func fd =>
      obtain ⟨m1, m2, m3, m4, m5, m6, m7, m8, m9, m10, m11, m12, m13, m14, m15⟩ := fd
      have e2 : (some (m1, m2, m3, m4, m5, m6, m7, m15) : FnW) = some (d.name, d.qual, d.params, .stmts d.body, d.scope, mainGlobals, [], builtinsNs) := e
      simp only [Option.some.injEq, Prod.mk.injEq] at e2
      obtain ⟨g1, g2, g3, g4, g5, g6, g7, g8⟩ := e2
      subst g1 g2 g3 g4 g5 g6 g7 g8
      obtain ⟨k1, k2⟩ := ba (show (PySem.W.codeIn K m13 d.qual && (dflB K m8 (d.dvs K) && kwdB K m9 (d.kws K))) = true from c2)
      obtain ⟨k3, k4⟩ := ba k2
      exact ⟨_, ⟨oc, od, m8, m9, m10, m11, m12, m13, m14, osl, rfl, q, k1, dflB_ok k3, kwdB_ok k4⟩, kp⟩
    | _ => cases c2
abbrev Tst := PySem.W.Frag → Bool
abbrev AlS : Type := Bool × List FnW
def obsS (fa : List Tst) (fn : List DD) (K : PySem.W.Frag) : AlS := ((fa.all fun f => f K) && fn.all fun d => d.ok K, fn.map fun d => fnA K (d.ad K))
def valS (fn : List DD) : AlS := (true, fn.map DD.val)
def SaysS (fa : List Tst) (fn : List DD) (K : PySem.W.Frag) : Prop := obsS fa fn K = valS fn
section
variable {fa : List Tst} {fn : List DD} {K : PySem.W.Frag}
theorem SaysS.fact (c : SaysS fa fn K) (i : Nat) {f : Tst} (h : fa[i]? = some f := by rfl) : f K = true := by
  have c1 := (ba (show ((fa.all fun f => f K) && fn.all fun d => d.ok K) = true from congrArg (fun z : AlS => z.1) c)).1
  exact List.all_eq_true.mp c1 f (List.mem_of_getElem? h)
theorem SaysS.def_ (c : SaysS fa fn K) (i : Nat) {d : DD} (h : fn[i]? = some d := by rfl) : ∃ fd, FunD K d.name d.qual d.params d.body d.scope (d.dvs K) (d.kws K) (d.ad K) fd := by
  have c2 := (ba (show ((fa.all fun f => f K) && fn.all fun d => d.ok K) = true from congrArg (fun z : AlS => z.1) c)).2
  have e : fn.map (fun d => fnA K (d.ad K)) = fn.map DD.val := congrArg (fun z : AlS => z.2) c
  have e2 : (fn.map fun d => fnA K (d.ad K))[i]? = (fn.map DD.val)[i]? := by rw [e]
  rw [List.getElem?_map, List.getElem?_map, h] at e2
  exact DD.funD (Option.some.inj e2) (List.all_eq_true.mp c2 d (List.mem_of_getElem? h))
end
/-- a property's own address, its getter -/
def pgA (x f : Str) (K : PySem.W.Frag) : Addr := match PySem.W.recIn K (ma K (ga K x) f) "property" with
  | some (.ref g :: _) => g
  | _ => 0
def propB (x f : Str) : Tst := fun K => eqO (PySem.W.findIn K (.ref (ga K x)) f) (some (some (.ref (ma K (ga K x) f)))) && (eqO (PySem.W.specialIn K (.ref (ma K (ga K x) f)) "__get__") (some (some (.builtin "property.__get__"))) &&
  (decide (PySem.W.takesIn K (.ref (ma K (ga K x) f)) = some true) && (match PySem.W.recIn K (ma K (ga K x) f) "property" with
    | some (.ref _ :: _) => true
    | _ => false)))
theorem prop_ok {K : PySem.W.Frag} {x f : Str} (c : propB x f K = true) : PropOf K (ga K x) f (ma K (ga K x) f) (pgA x f K) := by
  obtain ⟨c1, c⟩ := ba c
  obtain ⟨c2, c⟩ := ba c
  obtain ⟨c3, c4⟩ := ba c
  refine ⟨eqO_ok c1, eqO_ok c2, of_decide_eq_true c3, ?_⟩
  unfold pgA
  cases q : PySem.W.recIn K (ma K (ga K x) f) "property" with
  | none => rw [q] at c4; cases c4
  | some l =>
    rw [q] at c4
    cases l with
    | nil => cases c4
    | cons v r =>
      cases v with
      | ref g => exact ⟨r, rfl⟩
      | _ => cases c4
end SJ
namespace SJ
open PySem PySem.Spec PyProof.Rows L2 He
section
variable {K : PySem.W.Frag} {σ : L2.St} {H : Hp} {Q : VK} {QT : Bool → Hp → Prop} {QA : List V → Hp → Prop} {ta tb tc te : TE} {t u : TT} {D : Ends} {ts tu tz : TS} {r r' : R2} {x y v : V} {i j : Int} {n : Nat} {p : Addr} {tA : TA} {b c : Bool}
theorem x_var (h : σ[n]? = some (some v)) (k : Q v H) : tVar n σ H Q := ⟨v, h, k⟩
theorem x_c (k : Q v H) : tC v σ H Q := k
theorem x_op (k : ta σ H fun x H1 => tb σ H1 fun y H2 => r x y H2 Q) : tOp r ta tb σ H Q := k
theorem x_un {r : V → Hp → VK → Prop} (k : ta σ H fun x H1 => r x H1 Q) : tUn r ta σ H Q := k
theorem x_U {g : Int → V} (k : Q (g i) H) : rU g (.int i) H Q := ⟨i, rfl, k⟩
theorem x_nil (k : QA [] H) : tNil σ H QA := k
theorem x_cons (k : ta σ H fun x H1 => tA σ H1 fun xs H2 => QA (x :: xs) H2) : tCons ta tA σ H QA := k
theorem x_cb {r : List V → Hp → VK → Prop} (k : tA σ H fun vs H1 => r vs H1 Q) : tCB r tA σ H Q := k
theorem x_seq (k : ts { D with nx := tz D } σ H) : tSeq ts tz D σ H := k
theorem x_next (k : D.nx σ H) : tNext D σ H := k
theorem x_asg (k : te σ H fun x H1 => D.nx (σ.set n (some x)) H1) : tAsg te (gName n) D σ H := k
theorem x_asgG {g : TG} (k : te σ H fun x H1 => g x σ H1 D.nx) : tAsg te g D σ H := k
theorem x_ret (k : te σ H D.rt) : tRet te D σ H := k
theorem x_retN (k : D.rt .non H) : tRetN D σ H := k
theorem x_drop (k : te σ H fun _ H1 => D.nx σ H1) : tDrop te D σ H := k
theorem x_if (k : t σ H fun b H1 => if b = true then ts D σ H1 else tu D σ H1) : tIfS t ts tu D σ H := k
theorem x_ife (k : t σ H fun b H1 => if b = true then ta σ H1 Q else tb σ H1 Q) : tIf t ta tb σ H Q := k
theorem x_test (k : te σ H fun x H' => ∃ b, x = .bl b ∧ QT b H') : tTest te σ H QT := k
theorem x_B (k : te σ H fun x H' => ∃ b, x = .bl b ∧ QT b H') : tB te σ H QT := k
theorem x_and (k : t σ H fun c H1 => if c = true then u σ H1 QT else QT false H1) : tAnd t u σ H QT := k
theorem x_or (k : t σ H fun c H1 => if c = true then QT true H1 else u σ H1 QT) : tOr t u σ H QT := k
theorem x_not (k : t σ H fun c H1 => QT (!c) H1) : tNot t σ H QT := k
theorem x_andV (k : ta σ H fun x H1 => ∃ c, x = .bl c ∧ if c = true then tb σ H1 Q else Q (.bl false) H1) : tAndV ta tb σ H Q := k
theorem x_orV (k : ta σ H fun x H1 => ∃ c, x = .bl c ∧ if c = true then Q (.bl true) H1 else tb σ H1 Q) : tOrV ta tb σ H Q := k
theorem x_notV (k : ta σ H fun x H1 => ∃ c, x = .bl c ∧ Q (.bl (!c)) H1) : tNotV ta σ H Q := k
theorem x_tup (k : tA σ H fun xs H1 => xs.length ≤ sizeLine ∧ ∀ p, H1 p = none → Q (.ref p) (upd H1 p (.tup xs))) : tTup tA σ H Q := k
theorem x_lst (k : tA σ H fun xs H1 => xs.length ≤ sizeLine ∧ ∀ p, H1 p = none → Q (.ref p) (upd H1 p (.lst xs))) : tLst tA σ H Q := k
theorem x_new {q : Prop} (h : n ≤ 1000) (k : q) : n ≤ sizeLine ∧ q := ⟨Nat.le_trans h (by decide), k⟩
theorem x_ixL {xs : List V} (h : SqL K H p xs) (e : atI xs i = some v) (k : Q v H) : rIx K (.ref p) (.int i) H Q := .inl ⟨p, xs, i, v, rfl, rfl, h, e, k⟩
theorem x_ixT {xs : List V} (h : SqT K H p xs) (e : atI xs i = some v) (k : Q v H) : rIx K (.ref p) (.int i) H Q := .inr (.inl ⟨p, xs, i, v, rfl, rfl, h, e, k⟩)
theorem x_sub {to ti : TE} {s : TSet} {Qs : L2.St → Hp → Prop} (k : to σ H fun o H1 => ti σ H1 fun i H2 => s o i v H2 fun H3 => Qs σ H3) : gSub to ti s v σ H Qs := k
theorem x_setL {xs : List V} {k : Nat} {Qh : Hp → Prop} (h : H p = some (.lst xs)) (e : ixN xs.length i = some k) (q : Qh (upd H p (.lst (xs.set k v)))) : rSetL (.ref p) (.int i) v H Qh := ⟨p, xs, i, k, rfl, rfl, h, e, q⟩
end
theorem del_sub {H : Hp} {p a : Addr} {o : HO} (h : del H p a = some o) : H a = some o := by
  by_cases e : a = p
  · rw [e, del_same] at h; cases h
  · rw [del_ne e] at h; exact h
theorem del_some {H : Hp} {p a : Addr} {o : HO} (h : del H p a = some o) : a ≠ p := fun e => by rw [e, del_same] at h; cases h
theorem del_none {H : Hp} {p a : Addr} (h : H a = none) : del H p a = none := by
  by_cases e : a = p
  · rw [e, del_same]
  · rw [del_ne e]; exact h
theorem del_upd {H : Hp} {p : Addr} {o : HO} : del (upd H p o) p = del H p := by
  funext a
  by_cases e : a = p
  · rw [e, del_same, del_same]
  · rw [del_ne e, del_ne e, upd_ne e]
theorem del_upd_ne {H : Hp} {p q : Addr} {o : HO} (n : q ≠ p) : del (upd H q o) p = upd (del H p) q o := by
  funext a
  by_cases e : a = p
  · rw [e, del_same, upd_ne (Ne.symm n), del_same]
  · rw [del_ne e]
    by_cases f : a = q
    · rw [f, upd_same, upd_same]
    · rw [upd_ne f, upd_ne f, del_ne e]
theorem Same.upd {H H' : Hp} {p : Addr} {o : HO} (e : Same H H') (h : H' p = none) : Same H (L2.upd H' p o) := fun b u q => by
  rw [upd_ne (ne_of_none (e b u q) h)]; exact e b u q
theorem Same.mut {H H' : Hp} {p : Addr} {o : HO} (e : Same H H') (h : H p = none) : Same H (L2.upd H' p o) := fun b u q => by
  rw [upd_ne (ne_of_none q h)]; exact e b u q
theorem Same.del {H H' : Hp} {p : Addr} (e : Same H H') : Same (L2.del H p) (L2.del H' p) := fun b u q => by
  rw [del_ne (del_some q)]; exact e b u (del_sub q)
end SJ
namespace SJ
open PySem PySem.Spec PyProof.Rows L2 He
def rStr2 (g : Str → Str → V) : R2 := fun x y H Q => ∃ i j, x = .str i ∧ y = .str j ∧ Q (g i j) H
def rAddS' : R2 := fun x y H Q => ∃ i j, x = .str i ∧ y = .str j ∧ i.length + j.length ≤ sizeLine ∧ Q (.str (i ++ j)) H
def rAdd (K : PySem.W.Frag) : R2 := fun x y H Q => rI0 (fun i j => .int (i + j)) x y H Q ∨ (rAddS' x y H Q ∨ (rCat x y H Q ∨ rCatA K x y H Q))
def rSub : R2 := rI0 fun i j => .int (i - j)
def rMul (K : PySem.W.Frag) : R2 := fun x y H Q => rI CMul (fun i j => .int (i * j)) x y H Q ∨ (rI CMulX (fun i j => .int (i * j)) x y H Q ∨ (rRep x y H Q ∨ rRepT K x y H Q))
def rMod : R2 := rI (fun _ j => j ≠ 0) fun i j => .int (i.fmod j)
def rFdv : R2 := fun x y H Q => rI CDivN (fun i j => .int (i.fdiv j)) x y H Q ∨ rI CDivW (fun i j => .int (i / j)) x y H Q
def rPow : R2 := rI CPow fun i j => .int (i ^ j.toNat)
def rEqU (K : PySem.W.Frag) : R2 := fun x y H Q => rEq x y H Q ∨ rEqD K x y H Q
def rNeU (K : PySem.W.Frag) : R2 := fun x y H Q => rNe x y H Q ∨ rNeD K x y H Q
def rLtU : R2 := fun x y H Q => rI0 (fun i j => .bl (decide (i < j))) x y H Q ∨ rStr2 (fun i j => .bl (decide (i.cps.toList < j.cps.toList))) x y H Q
def rLeU : R2 := fun x y H Q => rI0 (fun i j => .bl (decide (i ≤ j))) x y H Q ∨ rStr2 (fun i j => .bl (!decide (j.cps.toList < i.cps.toList))) x y H Q
def rGtU : R2 := rI0 fun i j => .bl (decide (j < i))
def rGeU : R2 := rI0 fun i j => .bl (decide (j ≤ i))
def rInU (K : PySem.W.Frag) (neg : Bool) : R2 := fun x y H Q => rIn K neg x y H Q ∨ rStr2 (fun i j => .bl (if neg then !(!(Builtin.Str.occurrences j i 0 j.length 1).isEmpty) else !(Builtin.Str.occurrences j i 0 j.length 1).isEmpty)) x y H Q
def rIsU (neg : Bool) : R2 := fun x y H Q => (y = .non ∧ Q (.bl (if neg then !decide (x = .non) else decide (x = .non))) H) ∨ ∃ a b : Bool, x = .bl a ∧ y = .bl b ∧ Q (.bl (if neg then !decide (a = b) else decide (a = b))) H
section
variable {X : Cx}
theorem o_add : OpR X (binaryOp .Add) (rAdd X.K) := op_add.or (op_add_str.or (op_cat.or op_catA))
theorem o_sub : OpR X (binaryOp .Sub) rSub := op_sub
theorem o_mul : OpR X (binaryOp .Mult) (rMul X.K) := op_mul.or (op_mulX.or (op_rep.or op_repT))
theorem o_mod : OpR X (binaryOp .Mod) rMod := op_modN
theorem o_fdv : OpR X (binaryOp .FloorDiv) rFdv := op_fdivN.or op_fdivW
theorem o_pow : OpR X (binaryOp .Pow) rPow := op_pow
theorem o_eq (hu : X.A.units + 64 < cLine) : OpR X (compareOp .Eq) (rEqU X.K) := op_eq.or (op_eqD hu)
theorem o_ne (hu : X.A.units + 64 < cLine) : OpR X (compareOp .NotEq) (rNeU X.K) := op_ne.or (op_neD hu)
theorem o_lt : OpR X (compareOp .Lt) rLtU := op_lt.or op_lt_str
theorem o_le : OpR X (compareOp .LtE) rLeU := op_le.or op_le_str
theorem o_gt : OpR X (compareOp .Gt) rGtU := op_gt
theorem o_ge : OpR X (compareOp .GtE) rGeU := op_ge
theorem o_in : OpR X (compareOp .In) (rInU X.K false) := op_in_seq.or op_in_str
theorem o_nin : OpR X (compareOp .NotIn) (rInU X.K true) := op_notIn_seq.or op_notin_str
theorem o_isn : OpR X (compareOp .IsNot) (rIsU true) := OpR.or (op_notN) (op_notBl)
end
def rLenU (K : PySem.W.Frag) : List V → Hp → VK → Prop := fun xs H Q => (∃ x n, xs = [x] ∧ LenV K x H n ∧ Q (.int n) H) ∨ ∃ a kvs, xs = [V.ref a] ∧ H a = some (.dK kvs) ∧ Q (.int kvs.length) H
def rAbs : List V → Hp → VK → Prop := fun xs H Q => ∃ i, xs = [.int i] ∧ Q (.int (if i < 0 then -i else i)) H
def rInt : List V → Hp → VK → Prop := fun xs H Q => (∃ i, xs = [.int i] ∧ Q (.int i) H) ∨ ∃ k, xs = [.bl k] ∧ Q (.int (if k then 1 else 0)) H
def rListU (K : PySem.W.Frag) : List V → Hp → VK → Prop := fun xs H Q => ∃ p ys, xs = [.ref p] ∧ (SqL K H p ys ∨ SqT K H p ys) ∧ ∀ l, H l = none → Q (.ref l) (upd H l (.lst ys))
def rTupU (K : PySem.W.Frag) : List V → Hp → VK → Prop := fun xs H Q => ∃ p ys, xs = [.ref p] ∧ ((SqL K H p ys ∧ ∀ l, H l = none → Q (.ref l) (upd H l (.tup ys))) ∨ (SqT K H p ys ∧ Q (.ref p) H))
def rSlU (K : PySem.W.Frag) : V → Option Int → Option Int → Hp → VK → Prop := fun x lo hi H Q => rSlL K x lo hi H Q ∨ rSlT K x lo hi H Q
section
variable {X : Cx}
theorem c_len : CallR X (.builtin "len") (rLenU X.K) := call_len.or call_lenD
theorem c_abs : CallR X (.builtin "abs") rAbs := call_abs
theorem c_int : CallR X (.type "int") rInt := call_int1
theorem c_list : CallR X (.type "list") (rListU X.K) := call_list_of
theorem c_isi : CallR X (.builtin "isinstance") (rIsi X.K) := call_isi
theorem c_all (hc : X.calm = true) : CallR X (.builtin "all") (rAll X.K) := cr_all hc
theorem sl_u : SlR X (rSlU X.K) := sl_list.or sl_tup
end
section
variable {K : PySem.W.Frag} {H : Hp} {Q : VK} {x y v : V} {i j : Int} {n : Nat} {p q : Addr} {b c : Bool} {s t : Str} {xs ys : List V}
theorem x_addI (k : Q (.int (i + j)) H) : rAdd K (.int i) (.int j) H Q := .inl ⟨i, j, rfl, rfl, k⟩
theorem x_addS (h : s.length + t.length ≤ 1000) (k : Q (.str (s ++ t)) H) : rAdd K (.str s) (.str t) H Q := .inr (.inl ⟨s, t, rfl, rfl, Nat.le_trans h (by decide), k⟩)
theorem x_sub' (k : Q (.int (i - j)) H) : rSub (.int i) (.int j) H Q := ⟨i, j, rfl, rfl, k⟩
theorem x_mulI (h : CMul i j) (k : Q (.int (i * j)) H) : rMul K (.int i) (.int j) H Q := .inl ⟨i, j, rfl, rfl, h, k⟩
theorem x_mod (h : 0 < j) (k : Q (.int (i % j)) H) : rMod (.int i) (.int j) H Q := ⟨i, j, rfl, rfl, by omega, by show Q (.int (i.fmod j)) H; rw [Int.fmod_eq_emod_of_nonneg _ (by omega)]; exact k⟩
theorem x_fdv (h : 0 < j) (h2 : j < 1073741824) (k : Q (.int (i / j)) H) : rFdv (.int i) (.int j) H Q := .inl ⟨i, j, rfl, rfl, ⟨by omega, by omega⟩, by show Q (.int (i.fdiv j)) H; rw [Int.fdiv_eq_ediv_of_nonneg _ (by omega)]; exact k⟩
theorem x_pow (h : 0 ≤ j ∧ j ≤ 1000000 ∧ i.natAbs < 2 ^ 64) (k : Q (.int (i ^ j.toNat)) H) : rPow (.int i) (.int j) H Q := ⟨i, j, rfl, rfl, h, k⟩
theorem x_eqI (k : Q (.bl (decide (i = j))) H) : rEqU K (.int i) (.int j) H Q := .inl ⟨rfl, by rw [show decide (V.int i = V.int j) = decide (i = j) from by simp only [V.int.injEq]]; exact k⟩
theorem x_neI (k : Q (.bl (!decide (i = j))) H) : rNeU K (.int i) (.int j) H Q := .inl ⟨rfl, by rw [show decide (V.int i = V.int j) = decide (i = j) from by simp only [V.int.injEq]]; exact k⟩
theorem x_eqT (k : Q (.bl (decide (s = t))) H) : rEqU K (.str s) (.str t) H Q := .inl ⟨rfl, by rw [show decide (V.str s = V.str t) = decide (s = t) from by simp only [V.str.injEq]]; exact k⟩
theorem x_neT (k : Q (.bl (!decide (s = t))) H) : rNeU K (.str s) (.str t) H Q := .inl ⟨rfl, by rw [show decide (V.str s = V.str t) = decide (s = t) from by simp only [V.str.injEq]]; exact k⟩
theorem x_eqDD {d e : PyData} (h1 : Dp K H x d) (h2 : Dp K H y e) (s1 : SeqAt.shaped d = true) (s2 : SeqAt.shaped e = true) (k : Q (.bl (PyData.eqv d e)) H) : rEqU K x y H Q := .inr ⟨d, e, h1, h2, s1, s2, k⟩
theorem x_neDD {d e : PyData} (h1 : Dp K H x d) (h2 : Dp K H y e) (s1 : SeqAt.shaped d = true) (s2 : SeqAt.shaped e = true) (k : Q (.bl (!PyData.eqv d e)) H) : rNeU K x y H Q := .inr ⟨d, e, h1, h2, s1, s2, k⟩
theorem x_ltI (k : Q (.bl (decide (i < j))) H) : rLtU (.int i) (.int j) H Q := .inl ⟨i, j, rfl, rfl, k⟩
theorem x_leI (k : Q (.bl (decide (i ≤ j))) H) : rLeU (.int i) (.int j) H Q := .inl ⟨i, j, rfl, rfl, k⟩
theorem x_gtI (k : Q (.bl (decide (j < i))) H) : rGtU (.int i) (.int j) H Q := ⟨i, j, rfl, rfl, k⟩
theorem x_geI (k : Q (.bl (decide (j ≤ i))) H) : rGeU (.int i) (.int j) H Q := ⟨i, j, rfl, rfl, k⟩
theorem x_inT (h : SqT K H p xs) (hx : flatV x = true) (ha : xs.all flatV = true) (k : Q (.bl (inV x xs)) H) : rInU K false x (.ref p) H Q := .inl ⟨p, xs, rfl, .inr h, hx, ha, k⟩
theorem x_ninT (h : SqT K H p xs) (hx : flatV x = true) (ha : xs.all flatV = true) (k : Q (.bl (!inV x xs)) H) : rInU K true x (.ref p) H Q := .inl ⟨p, xs, rfl, .inr h, hx, ha, k⟩
theorem x_inL (h : SqL K H p xs) (hx : flatV x = true) (ha : xs.all flatV = true) (k : Q (.bl (inV x xs)) H) : rInU K false x (.ref p) H Q := .inl ⟨p, xs, rfl, .inl h, hx, ha, k⟩
theorem x_ninL (h : SqL K H p xs) (hx : flatV x = true) (ha : xs.all flatV = true) (k : Q (.bl (!inV x xs)) H) : rInU K true x (.ref p) H Q := .inl ⟨p, xs, rfl, .inl h, hx, ha, k⟩
theorem x_isN (k : Q (.bl (decide (x = .non))) H) : rIsU false x .non H Q := .inl ⟨rfl, k⟩
theorem x_isnN (k : Q (.bl (!decide (x = .non))) H) : rIsU true x .non H Q := .inl ⟨rfl, k⟩
theorem x_lenL (h : SqL K H p xs) (k : Q (.int (xs.length : Int)) H) : rLenU K [.ref p] H Q := .inl ⟨_, _, rfl, .inl ⟨_, h, rfl⟩, k⟩
theorem x_lenT' (h : SqT K H p xs) (k : Q (.int (xs.length : Int)) H) : rLenU K [.ref p] H Q := .inl ⟨_, _, rfl, .inr ⟨_, h, rfl⟩, k⟩
theorem x_lenS (h : s.length ≤ 10000) (k : Q (.int (s.length : Int)) H) : rLenU K [.str s] H Q := .inl ⟨_, _, rfl, ⟨Nat.le_trans h (by decide), rfl⟩, k⟩
theorem x_absI (k : Q (.int (if i < 0 then -i else i)) H) : rAbs [.int i] H Q := ⟨i, rfl, k⟩
theorem x_intI (k : Q (.int i) H) : rInt [.int i] H Q := .inl ⟨i, rfl, k⟩
theorem x_intBl (k : Q (.int (if b then 1 else 0)) H) : rInt [.bl b] H Q := .inr ⟨b, rfl, k⟩
theorem x_listL (h : SqL K H p xs) (k : ∀ l, H l = none → Q (.ref l) (upd H l (.lst xs))) : rListU K [.ref p] H Q := ⟨p, xs, rfl, .inl h, k⟩
theorem x_listT (h : SqT K H p xs) (k : ∀ l, H l = none → Q (.ref l) (upd H l (.lst xs))) : rListU K [.ref p] H Q := ⟨p, xs, rfl, .inr h, k⟩
end
end SJ
namespace SJ
open PySem PySem.Spec PyProof.Rows L2 He
/-- room, and no guard around -/
structure Rm (k : Nat) (A : Around) : Prop where
  r : Room k A
  g : A.guards = some []
theorem Rm.mono {j k : Nat} {A : Around} (h : Rm k A) (l : j ≤ k) : Rm j A := ⟨h.r.mono l, h.g⟩
theorem Rm.in1 {k : Nat} {A : Around} (h : Rm (k + 1) A) : Rm k A.in1 := ⟨h.r.in1, h.g⟩
theorem Rm.deeper {k : Nat} {A : Around} (h : Rm (k + 1) A) (env : Env) : Rm k (A.deeper env) := ⟨h.r.deeper env, h.g⟩
theorem Rm.make {k : Nat} {A : Around} (h : Rm (k + 1) A) (C : Addr) (us : List Value) (kw : List (Str × Value)) : Rm k (A.under (.builtin "type.__call__" ⟨.ref C :: us, kw⟩)) := by
  refine ⟨h.r.make C us kw, ?_⟩
  first | exact h.g | (simp [Around.under, Code.isGuard, guardIds]; exact h.g)
theorem Rm.units {k : Nat} {A : Around} (h : Rm k A) : A.units + 64 < cLine := h.r.units
theorem Rm.units0 {k : Nat} {A : Around} (h : Rm k A) : A.units < cLine := h.r.units0
theorem Rm.hu {k : Nat} {A : Around} (h : Rm k A) : A.units + 1 < cLine := hu_of h.r
structure Fk (P : Program) (w : World) (K : PySem.W.Frag) (mg : Str → Option Value) (base : Heap) (k : Nat) (f : Addr) (fd : FuncData) (ps : List Str) (sp : Sp) : Prop where
  len : ∀ vs H Q E, sp vs H Q E → vs.length = ps.length
  run : ∀ (A : Around) (outer : List Env) (s : Shared) (H : Hp) (args : Args) (us : List Value) (vs : List V) (Q : VK) (E : XK), Rm k A → Env0 P w K mg base A outer s H → BindsTo s fd args (ps.zip us) → Vals vs us → sp vs H Q E →
    codeAny (model P w) A (.call (.ref f) args) (CR (L2.CX P w) outer P w H s Q E) s
theorem Fk.mono {P : Program} {w : World} {K : PySem.W.Frag} {mg : Str → Option Value} {base : Heap} {j k : Nat} {f : Addr} {fd : FuncData} {ps : List Str} {sp : Sp} (F : Fk P w K mg base j f fd ps sp) (h : j ≤ k) : Fk P w K mg base k f fd ps sp :=
  ⟨F.len, fun A outer s H args us vs Q E hr => F.run A outer s H args us vs Q E (hr.mono h)⟩
theorem fk_of {P : Program} {w : World} {K : PySem.W.Frag} {mg : Str → Option Value} {base : Heap} {x qual : Str} {pa : Arguments} {bo : List Stmt} {sc : Scope} {dvs : List V} {kws : List (Str × V)} {f : Addr} {fd : FuncData} {N ps : List Str} {k : Nat} {sp : Sp}
    (F : FunD K x qual pa bo sc dvs kws f fd) (S : FnScope N ps sc) (len : ∀ vs H Q E, sp vs H Q E → vs.length = ps.length)
    (hb : ∀ (cdv : Value) (A : Around) (outer : List Env) (s : Shared) (H : Hp) (vs : List V) (Q : VK) (E : XK), Rm k (A.deeper (envOfC qual sc s.heap.objs.size f cdv)) → sp vs H Q E →
      ∃ t, PSs (cxOf (L2.CX P w) P w K mg base N qual sc f cdv A outer s H E) bo t ∧ t { nx := fun _ H2 => Q .non H2, rt := Q } (start N vs) H) : Fk P w K mg base (k + 1) f fd ps sp := by
  obtain ⟨oc, od, dV, kV, doc, pm, an, cdv, ct, osl, rfl, lk, hcd, _, _⟩ := F.ex
  refine ⟨len, fun A outer s H args us vs Q E hr e0 hbi rv hsp => ?_⟩
  have hl := len _ _ _ _ hsp
  have KX : K.In s.heap := e0.mod.kin.keeps fun b o z => (e0.bs b o z).1
  have lim : s.heap.NoLimit := e0.mod.nolimit.keeps fun b o z => (e0.bs b o z).1
  have kinds : ∀ y ∈ ps.zip us, sc.names.lookup y.1 = some .local ∨ (sc.names.lookup y.1 = some .cell ∧ ((cellsFrom (s.heap.objs.size + 1) sc.names []).lookup y.1).isSome = true) := fun ⟨n, v⟩ hy => by
    rcases S.par n (List.of_mem_zip hy).1 with z | z
    · exact .inl z
    · exact .inr ⟨z, PySem.W.cellsFrom_some _ _ _ (.inl z)⟩
  refine codeAny_call_function hr.r.depth (KX _ _ lk) rfl S.co S.gen rfl (PySem.W.codeRec_of KX hcd) (hbi _ _ _ _ (wpAny_newFunctionEnv_cells S.kind kinds fun env he s1 x1 => ?_))
  subst he
  refine ⟨lim.keeps x1.toInCall.keep, codeAny_func ?_⟩
  obtain ⟨t, ht, hq⟩ := hb cdv A outer s H vs Q E (hr.deeper _) hsp
  have I : Inv (cxOf (L2.CX P w) P w K mg base N qual sc f cdv A outer s H E) [] (start N vs) H s1 := inv_start S hr.r.hd e0 hl rv x1
  refine wpAny_mono (ht.run [] s1 (start N vs) H _ I hq) (fun fl s2 hs => ?_) fun _ _ z => z
  cases fl with
  | ret u => obtain ⟨v, σ2, H2, J, r2, q⟩ := hs; exact ⟨v, H2, J.os, J.bare, J.base, J.hok, r2, q⟩
  | next => obtain ⟨σ2, H2, J, q⟩ := hs; exact ⟨.non, H2, J.os, J.bare, J.base, J.hok, rfl, q⟩
  | brk => obtain ⟨_, _, _, q⟩ := hs; exact q.elim
  | cont => obtain ⟨_, _, _, q⟩ := hs; exact q.elim
end SJ
namespace SJ
open PySem PySem.Spec PyProof.Rows L2 He
abbrev W0 : WX := fun _ _ _ _ => False
/-- f(a ..) -/
def tFn (sp : Sp) (dv : List V) (W : WX) (ta : TA) : TE := fun σ H Q => ta σ H fun vs H1 => sp (vs ++ dv) H1 Q (WE W σ)
/-- f(a .., k = b ..) -/
def tFnK (n m : Nat) (sp : Sp) (gV : List V → List V → List V) (W : WX) (ta tk : TA) : TE := fun σ H Q => ta σ H fun vs H1 => tk σ H1 fun zs H2 => vs.length = n ∧ zs.length = m ∧ sp (gV vs zs) H2 Q (WE W σ)
/-- C(a ..) -/
def tNw (C : Addr) (sp : Sp) (dv : List V) (W : WX) (ta : TA) : TE := fun σ H Q => ta σ H fun vs H1 => ∀ x dx, H1 x = none → H1 dx = none → dx ≠ x →
  sp (.ref x :: (vs ++ dv)) (upd (upd H1 dx (.own x)) x (.ins C dx [])) (fun v H2 => v = .non ∧ Q (.ref x) H2) (WE W σ)
/-- o.f, a property -/
def tPr (K : PySem.W.Frag) (f : Str) (g : Addr) (sp : Sp) (to : TE) : TE := fun σ H Q => to σ H fun x H1 => ∃ a C dx fs pp, x = .ref a ∧ H1 a = some (.ins C dx fs) ∧ Cls K C ∧ PropOf K C f pp g ∧ sp [x] H1 Q E0
/-- how a method's call is read -/
abbrev mcl (X : Cx) (o : Expr) (m : Str) (ap : Pos) (pl : Sem Bool) (pos : Pos) (es : List Expr) (kws : List Keyword) : Sem Value := do
  let w0 ← eval o X.env
  standAt ap.atName
  let (g0, a0) ← holding [w0] (getMethod w0 m pl); callWith pos g0 a0 (backTo pos (starEach es X.env)) (backToKw pos (keywordEach kws X.env))
section
variable {X : Cx} {k n : Nat} {f C : Addr} {fd : FuncData} {ps ks : List Str} {sp : Sp} {dv : List V} {ds : List Value} {W : WX} {x m : Str} {p pos apos : Pos} {e o : Expr} {es : List Expr} {kws : List Keyword} {to : TE} {ta tk : TA} {mm : Nat} {g : List Value → List Value → List Value} {gV : List V → List V → List V}
/-- the callee runs, arguments and keywords bound -/
theorem run_g {pins : List (Addr × Obj)} {σ : L2.St} {H : Hp} {s : Shared} {Q : VK} {args : Args} {us : List Value} {vs : List V} (F : Fk X.prog X.w X.K X.mg X.base k f fd ps sp) (hr : Rm k X.A) (tk : Takes X W)
    (I : Inv X pins σ H s) (hb : BindsTo s fd args (ps.zip us)) (rv : Vals vs us) (h : sp vs H Q (WE W σ)) : wpAny (model X.prog X.w) X.A (call (.ref f) args.pos args.kw) (EP X pins σ Q) X.xe s := by
  refine wpAny_call (codeAny_mono (F.run X.A X.stack s H args us vs Q (WE W σ) hr I.env0 hb rv h) fun rr s2 hq => ?_)
  cases rr with
  | error er => exact passAt tk σ pins H s er s2 I hq
  | ok fl =>
    cases fl with
    | ret u => exact I.after hq
    | next => exact hq.elim
    | brk => exact hq.elim
    | cont => exact hq.elim
/-- .. with the defaults behind -/
theorem run_d {pins : List (Addr × Obj)} {σ : L2.St} {H : Hp} {s : Shared} {Q : VK} {us : List Value} {vs : List V} (F : Fk X.prog X.w X.K X.mg X.base k f fd ps sp) (hr : Rm k X.A) (hb : Binds X.K fd ps ds) (hd : Vals dv ds) (tk : Takes X W)
    (I : Inv X pins σ H s) (rv : Vals vs us) (h : sp (vs ++ dv) H Q (WE W σ)) : wpAny (model X.prog X.w) X.A (call (.ref f) us) (EP X pins σ Q) X.xe s := by
  have r2 : Vals (vs ++ dv) (us ++ ds) := rv.append hd
  exact run_g (args := ⟨us, []⟩) F hr tk I (hb s us I.kIn (by rw [← r2.length]; exact F.len _ _ _ _ h)) r2 h
theorem pe_fn (F : Fk X.prog X.w X.K X.mg X.base k f fd ps sp) (hr : Rm k X.A) (hg : Gl X x) (hm : X.mg x = some (.ref f)) (hk : PySem.W.keepIn X.K (.ref f) = true) (hb : Binds X.K fd ps ds) (hd : Vals dv ds) (tk : Takes X W)
    (ha : PA X (e :: es) ta) (hdb : (x == ("__debug__" : Str)) = false := by decide) (he : starEach (e :: es) X.env = (false, eval e X.env) :: starEach es X.env := by rfl) (hpl : (backTo pos (starEach es X.env)).any (·.1) = false := by rfl) :
    PE X (.Call (.Name x p) (e :: es) [] pos) (tFn sp dv W ta) := by
  refine ⟨fun pins s σ H Q I h => wpAny_Call_Name_kw (ld_glob I hg hm ?_ hdb)⟩
  refine PySem.W.callWith_K (h₀ := X.base) I.ok.mod.kin hk (thn (ha.run pos pins s σ H _ I h) fun us s1 ⟨vs, H1, I1, r1, q1⟩ => ⟨I1.kIn, ?_⟩) he hpl
  exact run_d F hr hb hd tk I1 r1 q1
theorem pe_fn0 (F : Fk X.prog X.w X.K X.mg X.base k f fd ps sp) (hr : Rm k X.A) (hg : Gl X x) (hm : X.mg x = some (.ref f)) (hk : PySem.W.keepIn X.K (.ref f) = true) (hb : Binds X.K fd ps ds) (hd : Vals dv ds) (tk : Takes X W)
    (hdb : (x == ("__debug__" : Str)) = false := by decide) : PE X (.Call (.Name x p) [] [] pos) (tFn sp dv W tNil) := by
  refine ⟨fun pins s σ H Q I h => wpAny_Call_Name_kw (ld_glob I hg hm ?_ hdb)⟩
  exact PySem.W.callWith_K0 I.kIn hk (run_d (us := []) (vs := []) F hr hb hd tk I .nil h)
theorem pe_fnK0 (F : Fk X.prog X.w X.K X.mg X.base k f fd ps sp) (hr : Rm k X.A) (hg : Gl X x) (hm : X.mg x = some (.ref f)) (hk : PySem.W.keepIn X.K (.ref f) = true) (hb : KBn X.K fd ps 0 ks g gV) (tks : Takes X W)
    (hkw : PK X kws tk) (hall : (backToKw pos (keywordEach kws X.env)).all (·.1.isSome) = true := by rfl) (hks : (backToKw pos (keywordEach kws X.env)).filterMap (·.1) = ks := by rfl) (hmm : ks.length = mm := by rfl)
    (hdb : (x == ("__debug__" : Str)) = false := by decide) (hpl : ((backTo pos (starEach [] X.env)).any (·.1) || (backToKw pos (keywordEach kws X.env)).any (·.1.isNone)) = false := by rfl) :
    PE X (.Call (.Name x p) [] kws pos) (tFnK 0 mm sp gV W tNil tk) := by
  refine ⟨fun pins s σ H Q I h => wpAny_Call_Name_kw (ld_glob I hg hm ?_ hdb)⟩
  refine PySem.W.callWith_KW0 (h₀ := X.base) I.ok.mod.kin hk hall ?_ hpl
  refine thn (hkw.run pos pins s σ H _ I h) fun ws s2 ⟨zs, H2, I2, rz, l1, l2, q2⟩ => ⟨I2.kIn, ?_⟩
  rw [hks]
  subst hmm
  exact run_g (args := ⟨[], ks.zip ws⟩) F hr tks I2 (hb.to s2 [] ws I2.kIn rfl (rz.length.symm.trans l2)) (hb.rel .nil rz) q2
/-- a new instance -/
theorem run_nw {pins : List (Addr × Obj)} {σ : L2.St} {H : Hp} {s : Shared} {Q : VK} {us : List Value} {kw : List (Str × Value)} {bs : Value → List Value} {bv : V → List V} (M : Mk X.K C f) (F : Fk X.prog X.w X.K X.mg X.base k f fd ps sp) (hr : Rm (k + 1) X.A) (tk : Takes X W)
    (I : Inv X pins σ H s) (hb : ∀ (a : Addr) (s2 : Shared), X.K.In s2.heap → BindsTo s2 fd ⟨.ref a :: us, kw⟩ (ps.zip (bs (.ref a)))) (rv : ∀ a : Addr, Vals (bv (.ref a)) (bs (.ref a)))
    (h : ∀ x dx, H x = none → H dx = none → dx ≠ x → sp (bv (.ref x)) (upd (upd H dx (.own x)) x (.ins C dx [])) (fun v H2 => v = .non ∧ Q (.ref x) H2) (WE W σ)) :
    wpAny (model X.prog X.w) X.A (call (.ref C) us kw) (EP X pins σ Q) X.xe s := by
  have hq := h (s.heap.objs.size + 1) s.heap.objs.size (I.hok.fresh (Nat.le_succ _)) (I.hok.fresh (Nat.le_refl _)) (Nat.ne_of_lt (Nat.lt_succ_self _))
  have J := Inv.made (C := C) I
  refine wpAny_call (make_map (f := f) I.kIn M.makes M.init (beq_iff_eq.mp M.fn) (codeAny_mono (F.run _ X.stack _ _ ⟨Value.ref (s.heap.objs.size + 1) :: us, kw⟩ _ _ _ (WE W σ) (hr.make C us kw)
    (J.env0.make C us kw) (hb _ _ J.kIn) (rv _) hq) fun rr s2 hq2 => ?_))
  cases rr with
  | error er => exact passAt tk σ pins _ _ er s2 J hq2
  | ok fl =>
    cases fl with
    | ret u =>
      obtain ⟨v, H3, I3, r3, ev, q3⟩ := J.after hq2
      subst ev
      exact ⟨r3, ⟨V.ref (s.heap.objs.size + 1), H3, I3, rfl, q3⟩⟩
    | next => exact hq2.elim
    | brk => exact hq2.elim
    | cont => exact hq2.elim
theorem pe_nw (M : Mk X.K C f) (F : Fk X.prog X.w X.K X.mg X.base k f fd ps sp) (hr : Rm (k + 1) X.A) (hg : Gl X x) (hm : X.mg x = some (.ref C)) (hb : Binds X.K fd ps ds) (hd : Vals dv ds) (tk : Takes X W)
    (ha : PA X (e :: es) ta) (hdb : (x == ("__debug__" : Str)) = false := by decide) (he : starEach (e :: es) X.env = (false, eval e X.env) :: starEach es X.env := by rfl) (hpl : (backTo pos (starEach es X.env)).any (·.1) = false := by rfl) :
    PE X (.Call (.Name x p) (e :: es) [] pos) (tNw C sp dv W ta) := by
  refine ⟨fun pins s σ H Q I h => wpAny_Call_Name_kw (ld_glob I hg hm ?_ hdb)⟩
  refine PySem.W.callWith_K (h₀ := X.base) I.ok.mod.kin M.kp (thn (ha.run pos pins s σ H _ I h) fun us s1 ⟨vs, H1, I1, r1, q1⟩ => ⟨I1.kIn, ?_⟩) he hpl
  have hz := q1 (s1.heap.objs.size + 1) s1.heap.objs.size (I1.hok.fresh (Nat.le_succ _)) (I1.hok.fresh (Nat.le_refl _)) (Nat.ne_of_lt (Nat.lt_succ_self _))
  have hn := F.len _ _ _ _ hz
  have hu : ∀ a : Addr, (Value.ref a :: us ++ ds).length = ps.length := fun a => by
    rw [← hn]
    show (us ++ ds).length + 1 = (vs ++ dv).length + 1
    rw [List.length_append, List.length_append, r1.length, hd.length]
  exact run_nw (kw := []) (bs := fun z => z :: us ++ ds) (bv := fun z => z :: (vs ++ dv)) M F hr tk I1 (fun a s2 kin => hb s2 (.ref a :: us) kin (hu a)) (fun a => .cons rfl (r1.append hd)) q1
/-- a property, nothing raised -/
theorem pe_pr (ho : PE X o to) (F : Fk X.prog X.w X.K X.mg X.base k f fd ps sp) (hr : Rm (k + 1) X.A) (hb : Binds X.K fd ps []) (hab : attributeBase o m X.env (eval o X.env) = eval o X.env) : PE X (.Attribute o m pos) (tPr X.K m f sp to) := by
  refine ⟨fun pins s σ H Q I h => attr_of hab (thn (ho.run pins s σ H _ I h) fun u s1 ⟨y, H1, I1, ry, a, C, dx, fs, pp, ey, ea, c, hp, q⟩ => ?_)⟩
  subst ey
  obtain rfl : u = Value.ref a := ry
  obtain ⟨mA, O, _, _, _, _⟩ := ins_get I1.hok ea
  obtain ⟨od, J, _⟩ := O.look
  obtain ⟨rest, hrec⟩ := hp.rec_
  have I2 := I1.tok (s1.toks + 1)
  have hc : (PySem.W.clsIn X.K C).isSome = true := by
    obtain ⟨cd, hc, _⟩ := PySem.W.any_some c.hd
    rw [hc] <;> rfl
  have hl : [Value.ref a].length = ps.length := (F.len _ _ _ _ q).symm ▸ rfl
  have b := hb { s1 with toks := s1.toks + 1 } [Value.ref a] I2.kIn (by rw [List.append_nil]; exact hl)
  rw [List.append_nil] at b
  have e0 := I2.env0.in1
  refine PySem.W.get_bind I1.kIn J (PySem.W.plainGet_of (c.get m)).1 (PySem.W.findObj_data hc hp.at_ hp.get hp.tak) (PySem.W.plainGet_of (c.get m)).2 (wpAny_call (PySem.W.prop_get (s := { s1 with toks := s1.toks + 1 }) I1.kIn hrec ?_))
  refine codeAny_mono (F.run X.A.in1 X.stack { s1 with toks := s1.toks + 1 } H1 ⟨[.ref a], []⟩ [.ref a] [.ref a] Q E0 hr.in1 e0 b (.cons rfl .nil) q) fun rr s2 hq => ?_
  cases rr with
  | error er => obtain ⟨_, _, _, _, _, _, _, _, _, _, _, _, z⟩ := hq; exact z.elim
  | ok fl =>
    cases fl with
    | ret u2 =>
      obtain ⟨v, H3, I3, rv, q3⟩ := I2.after hq
      show wpAny _ _ (handedOut u2) _ _ _
      rw [PySem.W.handedOut_of (handed_of rv)]
      exact wpAny_pure ⟨v, H3, I3, rv, q3⟩
    | next => exact hq.elim
    | brk => exact hq.elim
    | cont => exact hq.elim
end
end SJ
namespace SJ
open PySem PySem.Spec PyProof.Rows L2 He
section
variable {X : Cx} {k : Nat} {f : Addr} {fd : FuncData} {ps : List Str} {sp : Sp}
/-- a def run at a deeper place, nothing raised -/
theorem run_at {A : Around} {pins : List (Addr × Obj)} {σ : L2.St} {H : Hp} {s : Shared} {Q : VK} {E : Value → Shared → Prop} {us : List Value} {vs : List V} (F : Fk X.prog X.w X.K X.mg X.base k f fd ps sp) (hr : Rm k A) (fr : A.frames = X.A.frames) (hb : Binds X.K fd ps [])
    (I : Inv X pins σ H s) (rv : Vals vs us) (h : sp vs H Q E0) : wpAny (model X.prog X.w) A (call (.ref f) us) (EP X pins σ Q) E s := by
  have hl : us.length = ps.length := by rw [← rv.length]; exact F.len _ _ _ _ h
  have b := hb s us I.kIn (by rw [List.append_nil]; exact hl)
  rw [List.append_nil] at b
  have e := I.env0
  refine wpAny_call (codeAny_mono (F.run A X.stack s H ⟨us, []⟩ us vs Q E0 hr ⟨by rw [fr]; exact e.frames, e.mod, e.bs, e.bsz, e.funs, e.frf, e.hok, e.bare⟩ b rv h) fun rr s2 hq => ?_)
  cases rr with
  | error er => obtain ⟨_, _, _, _, _, _, _, _, _, _, _, _, z⟩ := hq; exact z.elim
  | ok fl =>
    cases fl with
    | ret u => exact I.after hq
    | next => exact hq.elim
    | brk => exact hq.elim
    | cont => exact hq.elim
end
end SJ
namespace SJ
open PySem PySem.Spec PyProof.Rows L2 He
def rRepr (K : PySem.W.Frag) : List V → Hp → VK → Prop := fun xs H Q => ∃ (x : V) (d : PyData), xs = [x] ∧ Dp K H x d ∧ d.showable = true ∧ d.depth ≤ 100 ∧ d.shown.length ≤ sizeLine ∧ Q (.str d.shown) H
mutual
theorem Dp.noDict {K : PySem.W.Frag} {H : Hp} : ∀ (d : PyData) (x : V), Dp K H x d → d.hasDict = false
  | .none, _, _ => by simp only [PyData.hasDict]
  | .bool _, _, _ => by simp only [PyData.hasDict]
  | .int _, _, _ => by simp only [PyData.hasDict]
  | .str _, _, _ => by simp only [PyData.hasDict]
  | .list ds, _, h => by
    cases h with
    | lst _ ha => simp only [PyData.hasDict]; exact DpAll.noDict ds _ ha
  | .tuple ds, _, h => by
    cases h with
    | tup _ ha => simp only [PyData.hasDict]; exact DpAll.noDict ds _ ha
  | .dict _, _, h => by cases h
theorem DpAll.noDict {K : PySem.W.Frag} {H : Hp} : ∀ (ds : List PyData) (xs : List V), DpAll K H xs ds → PyData.hasDictAll ds = false
  | [], _, _ => by simp only [PyData.hasDictAll]
  | d :: ds, _, h => by
    cases h with
    | cons h1 h2 => simp only [PyData.hasDictAll, Dp.noDict d _ h1, DpAll.noDict ds _ h2, Bool.or_false]
end
section
variable {X : Cx} {k : Nat}
theorem c_repr (hr : Rm k X.A) : CallR X (.builtin "repr") (rRepr X.K) := by
  intro pins s σ H xs us Q I r h
  obtain ⟨x, d, rfl, hd, sh, dp, sz, q⟩ := h
  obtain ⟨u1, rfl, r1⟩ := vals1 r
  obtain ⟨as, rd⟩ := Dp.reads I d x u1 hd r1
  have hu : X.A.units + (d.depth + 1) < cLine := by have := hr.r.un; omega
  have fin : ∀ (h2 : Heap) (u : Tok) (tk : Nat), (∀ b o, s.heap.get? b = some o → h2.get? b = some o) → EP X pins σ Q (.str d.shown u) { s with heap := h2, toks := tk } := fun h2 u tk kp => ⟨.str d.shown, H, I.kept kp, ⟨u, rfl⟩, q⟩
  cases hd with
  | non => obtain rfl : u1 = Value.none := r1; exact P.repr_of_none (fin _ _ _ fun _ _ z => z)
  | bl b => obtain rfl : u1 = Value.bool b := r1; exact P.repr_of_bool (fin _ _ _ fun _ _ z => z)
  | int i => obtain ⟨t, rfl⟩ := r1; exact P.repr_of_int (of_decide_eq_true sh) (fin _ _ _ fun _ _ z => z)
  | str z => obtain ⟨t, rfl⟩ := r1; exact P.repr_of_str (fin _ _ _ fun _ _ z => z) (by simpa only [PyData.shown] using sz)
  | @lst a ys ds hs ha => obtain rfl : u1 = Value.ref a := r1; exact repr_of_reads' rd sh (PyData.noDict_hsm (Dp.noDict _ _ (.lst hs ha))) hr.g hu (fun _ _ z => z) fin sz
  | @tup a ys ds hs ha => obtain rfl : u1 = Value.ref a := r1; exact repr_of_reads' rd sh (PyData.noDict_hsm (Dp.noDict _ _ (.tup hs ha))) hr.g hu (fun _ _ z => z) fin sz
end
end SJ
namespace SJ
open PySem PySem.Spec PyProof.Rows L2 He
/-- of the built-in base -/
structure ExB (B newId initId : String) (bmB : List Value) : Prop where
  fb : ExcBaseFacts B newId initId bmB
  sf : StoreFacts B bmB "object.__setattr__" "object"
  kf : PySem.W.KxsFacts B initId
theorem exb_value : ExB "ValueError" "ValueError.__new__" "ValueError.__init__" [.type "ValueError", .type "Exception", .type "BaseException", .type "object"] := ⟨PySem.F.excBase_ValueError, PySem.F.store_ValueError, PySem.W.kxs_ValueError⟩
/-- of the own class -/
structure ExG (K : PySem.W.Frag) (C : Addr) (newId : String) (bmB : List Value) : Prop where
  q : PySem.W.excInitIn K C bmB newId = true
  hd : PySem.W.hasDictIn K C = true
  ov : PySem.W.excOver K C bmB = true
  sa : PySem.W.findIn K (.ref C) "__setattr__" = some (some (.builtin "object.__setattr__"))
  exC : PySem.W.subIn K (.ref C) (.type "BaseException") = some true
  tyC : PySem.W.typeIn K (.ref C) = some (.type "type")
  kC : PySem.W.keepIn K (.ref C) = true
section
open Builtin Builtin.ObjectAttr
variable {prog : Program} {w : World} {A : Around} {E : Value → Shared → Prop} {R : Result → Shared → Prop} {hp : Heap} {g : Array GenState} {d : Drawn} {t : Nat} {os : OsState} {K : PySem.W.Frag} {x C : Addr} {B newId initId : String} {bmB : List Value}
theorem ex_first {name : Str} {tk : Tok} {v : Value} {fv : Array Value} (SF : StoreFacts B bmB "object.__setattr__" "object") (T : ExG K C newId bmB) (X : K.In hp) (hx : hp.get? x = some { cls := .ref C, data := .fields fv }) (ha : PySem.W.findIn K (.ref C) name = some none)
    (hq : ∀ h2 tk2 dx, (∀ b o, b ≠ x → hp.get? b = some o → h2.get? b = some o) → hp.objs.size ≤ dx → dx ≠ x → h2.get? x = some { cls := .ref C, dict := some dx, data := .fields fv } →
      h2.Ns1 dx (fun y => if y = name then some v else none) → R (.ok (.ret .none)) ⟨h2, g, d, tk2, os⟩) :
    codeAny (model prog w) A (.call (.builtin "object.__setattr__") ⟨[.ref x, .str name tk, v], []⟩) R ⟨hp, g, d, t, os⟩ := by
  have I : PySem.W.InstAt hp x { cls := .ref C, data := .fields fv } C none := ⟨hx, rfl, rfl, trivial⟩
  have hxs : x ≠ hp.objs.size := Nat.ne_of_lt (Heap.lt_size hx)
  obtain ⟨cd, hcd, hh⟩ := PySem.W.any_some T.hd
  have hcls : PySem.W.Looks (model prog w) hp (classData C) cd := PySem.W.looks_clsIn X hcd
  refine PySem.W.osa_openX (s := ⟨hp, g, d, t, os⟩) SF X I T.ov (NoAttr.taker ha) fun bb => ?_
  show wpAny _ _ (storeInOwnDict (.ref x) (.ref C) (.str name tk) name v bb) _ _ _
  obtain ⟨c1, c2, c3, c4, c5, c6, c7, c8, c9, c10, c11⟩ := cd
  dsimp only at hh
  subst hh
  unfold storeInOwnDict ownDictForStores
  repeat (first | with_reducible refine PySem.HandSPX.store_in_new ?_ ?_ | with_reducible refine wpAny_loadPart_at hx ?_ | with_reducible refine hcls.at ?_ | wp_step)
  · exact ⟨_, #[], _, (Heap.get?_update_ne _ _ _ _ hxs.symm).trans (Heap.get?_push_at rfl rfl), rfl, fun e he => absurd he (by simp), fun _ => rfl⟩
  · intro h2 tk2 hn hs
    have hx1 : (hp.push { cls := .type "dict", data := .dict #[] }).get? x = some { cls := .ref C, data := .fields fv } := Heap.get?_push_of_some _ hx
    refine hq h2 tk2 hp.objs.size (fun b o hb ho => ?_) (Nat.le_refl _) hxs.symm ((hs.2 x hxs).trans (Heap.get?_update_self _ hx1 rfl)) hn
    exact (hs.2 b (Nat.ne_of_lt (Heap.lt_size ho))).trans ((Heap.get?_update_ne _ _ _ _ hb).trans (Heap.get?_push_of_some _ ho))
theorem ex_more {name : Str} {tk : Tok} {v : Value} {dx : Addr} {fv : Array Value} {m0 : Str → Option Value} {nl : List Str} (SF : StoreFacts B bmB "object.__setattr__" "object") (T : ExG K C newId bmB) (X : K.In hp)
    (hx : hp.get? x = some { cls := .ref C, dict := some dx, data := .fields fv }) (hns : hp.Ns1 dx m0) (hw : Within m0 nl) (hz : nl.length ≤ 1000) (ha : PySem.W.findIn K (.ref C) name = some none)
    (hq : ∀ h2 tk2, (∀ b o, b ≠ dx → hp.get? b = some o → h2.get? b = some o) → h2.Ns1 dx (fun y => if y = name then some v else m0 y) → R (.ok (.ret .none)) ⟨h2, g, d, tk2, os⟩) :
    codeAny (model prog w) A (.call (.builtin "object.__setattr__") ⟨[.ref x, .str name tk, v], []⟩) R ⟨hp, g, d, t, os⟩ := by
  obtain ⟨oD, _, _, hoD, _, _⟩ := hns.count hw
  have I : PySem.W.InstAt hp x { cls := .ref C, dict := some dx, data := .fields fv } C (some oD) := ⟨hx, rfl, rfl, hoD⟩
  obtain ⟨cd, hcd, hh⟩ := PySem.W.any_some T.hd
  have hcls : PySem.W.Looks (model prog w) hp (classData C) cd := PySem.W.looks_clsIn X hcd
  refine PySem.W.osa_openX (s := ⟨hp, g, d, t, os⟩) SF X I T.ov (NoAttr.taker ha) fun bb => ?_
  show wpAny _ _ (storeInOwnDict (.ref x) (.ref C) (.str name tk) name v bb) _ _ _
  obtain ⟨c1, c2, c3, c4, c5, c6, c7, c8, c9, c10, c11⟩ := cd
  dsimp only at hh
  subst hh
  unfold storeInOwnDict ownDictForStores
  repeat (first | with_reducible refine PySem.OEX.store_in_old hns hw hz ?_ | with_reducible refine wpAny_loadPart_at hx ?_ | with_reducible refine hcls.at ?_ | wp_step)
  intro h2 tk2 hn hs
  exact hq h2 tk2 (fun b o hb ho => (hs.2 b hb).trans ho) hn
end
section
variable {X : Cx} {pins : List (Addr × Obj)} {σ : L2.St} {H : Hp} {s : Shared} {a C dx : Addr} {f : Str} {y : V} {u : Value} {fs : List (Str × V)} {Q : Unit → Shared → Prop} {E : Value → Shared → Prop} {A : Around} {B newId initId : String} {bmB : List Value}
theorem st_first (SF : StoreFacts B bmB "object.__setattr__" "object") (T : ExG X.K C newId bmB) (I : Inv X pins σ H s) (e : H a = some (exo a C none)) (hno : PySem.W.findIn X.K (.ref C) f = some none) (ry : RelV y u)
    (h : ∀ dx s2, H dx = none → dx ≠ a → Inv X pins σ (upd (upd H dx (exd dx [(f, y)])) a (exo a C (some dx))) s2 → Q () s2) : wpAny (model X.prog X.w) A (setAttr (.ref a) f u) Q E s := by
  obtain ⟨t1, ho⟩ := exo_at I.hok e
  obtain ⟨hp, g, d, t, os⟩ := s
  refine PySem.W.set_plain I.kIn (ox := { cls := .ref C, dict := none, data := .fields #[.ref t1, .none, .none, .none, .bool false, .none] }) (od := none) ⟨ho, rfl, rfl, trivial⟩ T.sa ?_
  refine ex_first SF T I.kIn ho hno (fun h2 tk2 dx k dn dne hx hn => ?_)
  have hnd : H dx = none := I.hok.fresh dn
  have nd : ∀ {b : Addr} {o : Obj}, hp.get? b = some o → b ≠ dx := fun {b o} q => Nat.ne_of_lt (Nat.lt_of_lt_of_le (Heap.lt_size q) dn)
  have na : ∀ {b : Addr}, H b = none → b ≠ a := fun {b} n z => by rw [z, e] at n; cases n
  have U : Un X.fs [] H (upd (upd H dx (exd dx [(f, y)])) a (exo a C (some dx))) hp h2 := {
    keep := fun b o q n _ _ => k b o (na n) q
    slot := fun b o q n _ _ => ⟨o.slots, k b o (na n) q⟩
    free := fun b o q n _ => by rw [upd_ne (na n), upd_ne (nd q)]; exact n
    there := fun b o q _ => by
      by_cases z : b = a
      · subst z; exact ⟨_, hx⟩
      · exact ⟨o, k b o z q⟩
    tups := fun b xs q => by rw [upd_ne (at_ne e q exo_tup), upd_ne (ne_of_none q hnd)]; exact q
    frzs := fun b o v q => by rw [upd_ne (at_ne e q exo_frz), upd_ne (ne_of_none q hnd)]; exact q
    tbls := fun b ps q => ⟨#[], by rw [upd_ne (at_ne e q exo_tbl), upd_ne (ne_of_none q hnd), q]; simp⟩ }
  refine h dx _ hnd dne (I.un (t' := tk2) U fun b o q => ?_)
  by_cases hb : b = a
  · subst hb
    rw [upd_same] at q; cases q
    exact exo_ok hx
  · rw [upd_ne hb] at q
    by_cases hd : b = dx
    · subst hd
      rw [upd_same] at q; cases q
      exact exd_ok hn (relO_put (fs := []) ry fun _ => True.intro)
    · rw [upd_ne hd] at q
      refine (I.hok b o q).stay (fun c v hc z => k c v ?_ z) (fun c hc => by rw [upd_ne (at_ne e hc exo_own), upd_ne (ne_of_none hc hnd)]; exact hc) (fun c xs hc => by rw [upd_ne (at_ne e hc exo_tup), upd_ne (ne_of_none hc hnd)]; exact hc)
      rcases hc with hc | hc
      · rw [hc]; exact hb
      · exact at_ne e hc exo_own
theorem st_more (SF : StoreFacts B bmB "object.__setattr__" "object") (T : ExG X.K C newId bmB) (I : Inv X pins σ H s) (e : H a = some (exo a C (some dx))) (ed : H dx = some (exd dx fs)) (hl : fs.length ≤ 900) (hno : PySem.W.findIn X.K (.ref C) f = some none) (ry : RelV y u)
    (h : ∀ s2, Inv X pins σ (upd H dx (exd dx ((f, y) :: fs))) s2 → Q () s2) : wpAny (model X.prog X.w) A (setAttr (.ref a) f u) Q E s := by
  obtain ⟨t1, ho⟩ := exo_at I.hok e
  obtain ⟨mA, hns, rel⟩ := exd_at I.hok ed
  have hw := within_of rel
  obtain ⟨hp, g, d, t, os⟩ := s
  obtain ⟨oD, _, _, hoD, _, _⟩ := hns.count hw
  refine PySem.W.set_plain I.kIn (ox := { cls := .ref C, dict := some dx, data := .fields #[.ref t1, .none, .none, .none, .bool false, .none] }) (od := some oD) ⟨ho, rfl, rfl, hoD⟩ T.sa ?_
  refine ex_more SF T I.kIn ho hns hw (by rw [List.length_map]; omega) hno (fun h2 tk2 k hn => ?_)
  obtain ⟨o2, _, _, e2, _⟩ := id hn
  exact h _ (I.write (t' := tk2) (x := dx) (e := dx) (o := exd dx ((f, y) :: fs)) (by rw [ed]; exact True.intro) (.inl rfl) k ⟨o2, e2⟩ (exd_ok hn (relO_put ry rel)))
end
theorem lookup_nodup {α : Type} {y : Str} {u : α} : ∀ {l : List (Str × α)}, (l.map (·.1)).Nodup → (y, u) ∈ l → l.lookup y = some u
  | [], _, h => nomatch h
  | (z, v) :: r, nd, h => by
    show (match y == z with | true => some v | false => r.lookup y) = some u
    obtain ⟨n1, n2⟩ := List.nodup_cons.mp nd
    rcases List.mem_cons.mp h with e | e
    · cases e; rw [beq_self_eq_true]
    · have ne : (y == z) = false := beq_eq_false_iff_ne.mpr fun q => n1 (q ▸ List.mem_map_of_mem (f := (·.1)) e)
      rw [ne]; exact lookup_nodup n2 e
section
variable {prog : Program} {w : World} {A : Around} {E : Value → Shared → Prop} {h : Heap} {g : Array GenState} {d : Drawn} {tk : Nat} {os : OsState} {K : PySem.W.Frag} {x C u t0 : Addr} {B newId initId : String} {bmB : List Value}
theorem sup_call {rest : List Value} {Q : Value → Shared → Prop} (T : ExB B newId initId bmB) (G : ExG K C newId bmB) (X : K.In h) (hu : h.get? u = some (PySem.W.kxs_mw initId x)) (he : h.get? x = some (PySem.W.excObj C t0 none .none)) (hz : rest.length ≤ sizeLine)
    (hq : ∀ h2 t2, (∀ b o, b ≠ x → h.get? b = some o → h2.get? b = some o) → h2.get? x = some (PySem.W.excObj C t2 none .none) → Q .none ⟨h2, g, d, tk, os⟩) :
    wpAny (model prog w) A (call (.ref u) rest) Q E ⟨h, g, d, tk, os⟩ := by
  obtain ⟨n1, n2, n3, n4, n5, n6, n7, n8, n9, n10, n11, k0, k1, k2, k3, k5, hC, hT⟩ := PySem.W.excInit_of X G.q
  refine wpAny_call (codeAny_of_tree ?_)
  show wpAny _ A.in1 (callAny (.ref u) ⟨rest, []⟩) _ _ _
  simp only [callAny]
  refine wpAny_bind (wpAny_load hu ?_)
  simp only [PySem.W.kxs_mw, show (Value.type "method-wrapper" == Value.type "method" || Value.type "method-wrapper" == Value.type "builtin_function_or_method" || Value.type "method-wrapper" == Value.type "method-wrapper") = true by decide, if_true]
  refine PySem.W.KFB.if_so (by decide) ?_
  refine wpAny_bind (PySem.W.check_bound_init T.fb.toExcCallFacts hC he rfl ?_)
  refine wpAny_bind (wpAny_pure (wpAny_pure ?_))
  refine ⟨plainId_quiet T.fb.init.plain _, codeAny_builtin T.fb.initEntry ?_⟩
  exact PySem.W.exc_init_tree (cls := .ref C) (t0 := t0) (dv := none) (c2 := .none) (c3 := .none) (b4 := .bool false) he hz fun h2 z1 z2 _ => hq h2 _ z1 z2
end
def cxS (P : Program) (w : World) (K : PySem.W.Frag) (mg : Str → Option Value) (base : Heap) (N : List Str) (qual : Str) (sc : Scope) (f : Addr) (cdv : Value) (cc : Addr) (A : Around) (outer : List Env) (s : Shared) (H : Hp) : Cx where
  prog := P
  w := w
  K := K
  mg := mg
  base := base
  A := A.deeper (PySem.W.ksEnv qual sc s.heap.objs.size f cdv cc)
  N := N
  s_0 := s
  H_0 := H
  env := PySem.W.ksEnv qual sc s.heap.objs.size f cdv cc
  outer := outer
  stack := PySem.W.ksEnv qual sc s.heap.objs.size f cdv cc :: outer
  ex := []
  calm := true
  fn := fun _ => false
  pn := []
  xe := fun _ _ => False
/-- what is known of the def: its scope's names, its code, the class that it closes over -/
structure SupFn (K : PySem.W.Frag) (P : Program) (N ps : List Str) (qual : Str) (pa : Arguments) (bo : List Stmt) (sc : Scope) (f cc cda D : Addr) : Prop where
  ex : ∃ (oc : Value) (od : Option Addr) (kV doc pm : Value) (an : Option Addr) (ct : Value) (osl : Array (Option Value)), K.lookup f = some ⟨oc, od, .func (PySem.W.ksFn "__init__" qual pa bo sc .none kV doc pm an (.ref cda) ct cc), osl⟩
  cd : PySem.W.codeIn K (.ref cda) qual = true
  file : ∃ (ccl : Value) (cdd : Option Addr) (vs : Array Value) (ccs : Array (Option Value)) (fi : Str) (tf : Tok), K.lookup cda = some ⟨ccl, cdd, .fields vs, ccs⟩ ∧ vs[2]? = some (.str fi tf) ∧ ((P.main.file : Str) == fi) = true
  cell : ∃ (cl : Value) (cld : Option Addr) (csl : Array (Option Value)), K.lookup cc = some ⟨cl, cld, .cell (some (.ref D)), csl⟩
  top : (P.main.scope.names.lookup ("super" : Str)).isSome = false
  kind : sc.kind = .function
  co : sc.isCoroutine = false
  gen : sc.isGenerator = false
  nd : N.Nodup
  pre : N.take ps.length = ps
  par : ∀ x ∈ ps, sc.names.lookup x = some .local
  nocell : ∀ x ∈ sc.names, x.2 ≠ .cell
  nofree : ∀ x, sc.names.lookup x = some .free → x = "__class__"
  cls : sc.names.lookup ("__class__" : Str) = some .free
  sup : sc.names.lookup ("super" : Str) = some .globalImplicit
  hd : ∃ ar : Arg, (pa.posonlyargs ++ pa.args).head? = some ar ∧ ps[0]? = some ar.arg
theorem inv_sup {P : Program} {w : World} {K : PySem.W.Frag} {mg : Str → Option Value} {base : Heap} {N ps : List Str} {qual : Str} {pa : Arguments} {bo : List Stmt} {sc : Scope} {f cc cda D : Addr} {A : Around} {outer : List Env} {s : Shared} {H : Hp} {us : List Value} {vs : List V} {h1 : Heap} {tk : Nat}
    (S : SupFn K P N ps qual pa bo sc f cc cda D) (hd : A.handled = none) (e0 : Env0 P w K mg base A outer s H) (hl : vs.length = ps.length) (rv : Vals vs us) (hns : h1.Ns s.heap.objs.size (fun x => (ps.zip us).reverse.lookup x)) (hk : ∀ b o, s.heap.get? b = some o → h1.get? b = some o) :
    Inv (cxS P w K mg base N qual sc f (.ref cda) cc A outer s H) [] (start N vs) H { s with heap := h1, toks := tk } := by
  obtain ⟨cl, cld, csl, lc⟩ := S.cell
  have hpl : ps.length ≤ N.length := by have := congrArg List.length S.pre; rw [List.length_take] at this; omega
  have KB : base.get? cc = some ⟨cl, cld, .cell (some (.ref D)), csl⟩ := e0.mod.kin _ _ lc
  have ksz : s.heap.get? cc = some ⟨cl, cld, .cell (some (.ref D)), csl⟩ := (e0.bs _ _ KB).1
  have one : ∀ y c, (PySem.W.ksEnv qual sc s.heap.objs.size f (.ref cda) cc).cells.lookup y = some c → y = "__class__" ∧ c = cc := fun y c z => by
    have z2 : (match y == ("__class__" : Str) with | true => some cc | false => none) = some c := z
    cases q : (y == ("__class__" : Str)) with
    | true => rw [q] at z2; exact ⟨beq_iff_eq.mp q, (Option.some.inj z2).symm⟩
    | false => rw [q] at z2; cases z2
  have noA : ∀ b : Addr, b ∉ (cxS P w K mg base N qual sc f (.ref cda) cc A outer s H).ex := fun b z => absurd (show b ∈ ([] : List Addr) from z) (by simp)
  refine ⟨⟨e0.mod, S.kind, rfl, rfl, Nat.le_refl _, fun y z c q1 q2 => (one y c q1).1.trans (one z c q2).1.symm, fun y hy => ?_, fun y c q _ => (nomatch q), fun _ => hd, Around.frames_deeper e0.frames, .inr ⟨rfl, rfl⟩, fun b z => absurd z (noA b), e0.bs, e0.bsz, fun b _ _ => noA b, fun b z => absurd z (noA b), e0.funs, e0.frf⟩,
    rfl, e0.bare, Un.kept hk, ⟨_, hns, fun i y v q1 q2 q3 => ?_⟩, fun y c q => ?_, e0.hok.fresh (Nat.le_refl _), fun y c q => ?_, fun p hp => absurd (show p ∈ ([] : List (Addr × Obj)) from hp) (by simp), e0.hok.kept hk, ?_⟩
  · have hy : sc.names.lookup y = some .cell ∨ sc.names.lookup y = some .free := hy
    rcases hy with hy | hy
    · exact absurd rfl (S.nocell _ (PySem.mem_of_lookup hy))
    · exact ⟨cc, by rw [S.nofree y hy]; rfl⟩
  · have hi : i < vs.length := by
      unfold L2.start at q2
      by_cases hi : i < vs.length
      · exact hi
      · rw [List.getElem?_append_right (by simpa using hi), List.getElem?_replicate] at q2
        split at q2 <;> cases q2
    have ha : vs[i]? = some v := by
      unfold L2.start at q2
      rw [List.getElem?_append_left (by simpa using hi), List.getElem?_map] at q2
      cases z : vs[i]? with
      | none => rw [z] at q2; cases q2
      | some a => rw [z] at q2; cases q2; rfl
    obtain ⟨u, hu, rr⟩ := rv.get ha
    have hp : ps[i]? = some y := by rw [← S.pre, List.getElem?_take_of_lt (by omega)]; exact q1
    have ndP : ps.Nodup := by rw [← S.pre]; exact S.nd.sublist (List.take_sublist _ _)
    refine ⟨u, rr, .inl ⟨S.par y (List.mem_of_getElem? hp), ?_⟩⟩
    have hz : (y, u) ∈ (ps.zip us).reverse := List.mem_reverse.mpr (List.mem_of_getElem? (i := i) (by rw [List.getElem?_zip_eq_some]; exact ⟨hp, hu⟩))
    have ndz : ((ps.zip us).reverse.map (·.1)).Nodup := by
      rw [List.map_reverse, List.nodup_iff_pairwise_ne, List.pairwise_reverse, List.map_fst_zip (by rw [← rv.length, hl]; exact Nat.le_refl _)]
      exact ndP.imp fun z => Ne.symm z
    exact lookup_nodup ndz hz
  · obtain ⟨_, rfl⟩ := one y c q
    exact ⟨_, _, hk _ _ ksz, rfl⟩
  · obtain ⟨_, rfl⟩ := one y c q
    exact (e0.bs _ _ KB).2
  · unfold L2.start
    rw [List.length_append, List.length_map, List.length_replicate]
    show vs.length + (N.length - vs.length) = N.length
    omega
/-- how super().__init__(..) is read -/
abbrev supEv (p0 p1 p2 p4 : Pos) (es : List Expr) (env : Env) (pl : Sem Bool) : Sem Value := do
  let w0 ← attributeBase (.Call (.Name "super" p0) [] [] p1) "__init__" env (eval (.Call (.Name "super" p0) [] [] p1) env)
  standAt p2.atName
  let (g0, a0) ← holding [w0] (getMethod w0 "__init__" pl); callWith p4 g0 a0 (backTo p4 (starEach es env)) []
/-- such a def keeps its promise: super().__init__(..) ahead, then the rest by the layer's rules -/
theorem fk_sup {P : Program} {w : World} {K : PySem.W.Frag} {mg : Str → Option Value} {base : Heap} {N ps : List Str} {qual : Str} {pa : Arguments} {bo rest : List Stmt} {sc : Scope} {f cc cda C : Addr} {B newId initId : String} {bmB : List Value} {k : Nat} {sp : Sp} {p0 p1 p2 p4 p5 : Pos} {e : Expr} {es : List Expr} {ta : TA} {tr : TS} {pl : Env → Sem Bool}
    (S : SupFn K P N ps qual pa bo sc f cc cda C) (T : ExB B newId initId bmB) (G : ExG K C newId bmB) (hbo : bo = .Expr (.Call (.Attribute (.Call (.Name "super" p0) [] [] p1) "__init__" p2) (e :: es) [] p4) p5 :: rest)
    (hm : PySem.W.ks_superIn K C C "__init__" = some (some (.builtin initId))) (hB : PySem.W.subIn K (.ref C) (.type B) = some true) (hst : PySem.W.nsIn K cStatics "thirdparty.any" = some none) (hsub : PySem.W.mroIn K C (.ref C) = some true) (hsu : mg "super" = none)
    (len : ∀ vs H Q E, sp vs H Q E → vs.length = ps.length)
    (ha : ∀ (A : Around) (outer : List Env) (s : Shared) (H : Hp), PA (cxS P w K mg base N qual sc f (.ref cda) cc A outer s H) (e :: es) ta) (hr : ∀ (A : Around) (outer : List Env) (s : Shared) (H : Hp), PSs (cxS P w K mg base N qual sc f (.ref cda) cc A outer s H) rest tr)
    (hsp : ∀ vs H Q E, sp vs H Q E → ∃ a, vs[0]? = some (.ref a) ∧ H a = some (exo a C none) ∧ ta (start N vs) H (fun ws H1 => ws.length ≤ 1000 ∧ H1 = H ∧ tr { nx := fun _ H2 => Q .non H2, rt := Q } (start N vs) H))
    (hev : ∀ env : Env, eval (.Call (.Attribute (.Call (.Name "super" p0) [] [] p1) "__init__" p2) (e :: es) [] p4) env = supEv p0 p1 p2 p4 (e :: es) env (pl env) := by intro _; rfl)
    (hst1 : ∀ A outer s H, starEach (e :: es) (cxS P w K mg base N qual sc f (.ref cda) cc A outer s H).env = (false, eval e (cxS P w K mg base N qual sc f (.ref cda) cc A outer s H).env) :: starEach es (cxS P w K mg base N qual sc f (.ref cda) cc A outer s H).env := by intros; rfl)
    (hst2 : ∀ A outer s H, (backTo p4 (starEach es (cxS P w K mg base N qual sc f (.ref cda) cc A outer s H).env)).any (·.1) = false := by intros; rfl)
    (hsw : ∀ A outer s H, swapsWith (.Call (.Attribute (.Call (.Name "super" p0) [] [] p1) "__init__" p2) (e :: es) [] p4) none p5.line (cxS P w K mg base N qual sc f (.ref cda) cc A outer s H).env = pure false := by intros; rfl) :
    ∃ fd : FuncData, (∃ (kV doc pm : Value) (an : Option Addr) (ct : Value), fd = PySem.W.ksFn "__init__" qual pa bo sc .none kV doc pm an (.ref cda) ct cc) ∧ Fk P w K mg base (k + 1) f fd ps sp := by
  obtain ⟨oc, od, kV, doc, pm, an, ct, osl, lk⟩ := S.ex
  obtain ⟨ccl, cdd, fvs, ccs, fi, tf, lcd, hvs, hfi⟩ := S.file
  obtain ⟨cl, cld, csl, lc⟩ := S.cell
  obtain ⟨ar, har, hp0⟩ := S.hd
  refine ⟨_, ⟨kV, doc, pm, an, ct, rfl⟩, len, fun A outer s H args us vs Q E rm e0 hb rv hsp0 => ?_⟩
  have hl := len _ _ _ _ hsp0
  have KX : K.In s.heap := e0.mod.kin.keeps fun b o z => (e0.bs b o z).1
  have lim : s.heap.NoLimit := e0.mod.nolimit.keeps fun b o z => (e0.bs b o z).1
  have arl : sc.names.lookup ar.arg = some .local := S.par _ (List.mem_of_getElem? hp0)
  refine PySem.ks_codeAny_call_defAt (fd := PySem.W.ksFn "__init__" qual pa bo sc .none kV doc pm an (.ref cda) ct cc) (body := bo) (binds := ps.zip us) rm.r.depth (KX _ _ lk) rfl lim (PySem.W.codeRec_of KX S.cd) rfl hb S.nocell (fun y hy => S.par _ (List.of_mem_zip hy).1) (fun h1 hns hk1 => ?_) S.co S.gen S.kind
  have I : Inv (cxS P w K mg base N qual sc f (.ref cda) cc A outer s H) [] (start N vs) H { s with heap := h1, toks := s.toks + (ps.zip us).length } := inv_sup S rm.r.hd e0 hl rv hns hk1
  obtain ⟨a, ea, eH, hta⟩ := hsp vs H Q E hsp0
  subst hbo
  have fin : ∀ {σ2 : L2.St} {H2 : Hp} {v : V} {u : Value} {s2 : Shared}, Inv (cxS P w K mg base N qual sc f (.ref cda) cc A outer s H) [] σ2 H2 s2 → RelV v u → Q v H2 → CR (L2.CX P w) outer P w H s Q E (.ok (.ret u)) s2 := fun {σ2 H2 v u s2} J r q => ⟨v, H2, J.os, J.bare, J.base, J.hok, r, q⟩
  obtain ⟨t1, hx⟩ := exo_at I.hok eH
  obtain ⟨mb, hb1, hb2⟩ := I.mod.blt
  have hvx : (ps.zip us).reverse.lookup ar.arg = some (.ref a) := by
    obtain ⟨u, hu, ru⟩ := rv.get ea
    obtain rfl : u = Value.ref a := ru
    have ndP : ps.Nodup := by rw [← S.pre]; exact S.nd.sublist (List.take_sublist _ _)
    refine lookup_nodup ?_ (List.mem_reverse.mpr (List.mem_of_getElem? (i := 0) (by rw [List.getElem?_zip_eq_some]; exact ⟨hp0, hu⟩)))
    rw [List.map_reverse, List.nodup_iff_pairwise_ne, List.pairwise_reverse, List.map_fst_zip (by rw [← rv.length, hl]; exact Nat.le_refl _)]
    exact ndP.imp fun z => Ne.symm z
  obtain ⟨cdC, hcC, _⟩ := PySem.W.any_some G.hd
  have KX1 : K.In h1 := KX.keeps hk1
  obtain ⟨oD, hD1, hD2⟩ : ∃ oD, h1.get? C = some oD ∧ oD.data = .cls cdC := by
    unfold PySem.W.clsIn at hcC
    split at hcC
    · rename_i c d cd2 sl ho
      cases hcC
      exact ⟨_, KX1 _ _ ho, rfl⟩
    · cases hcC
  refine PySem.ks_wpAt_execs_cons (PySem.ks_wpAt_Expr_any (PySem.ks_wpAt_MethodCall (PySem.ks_wpAt_super_base (ar := ar) S.sup S.cls (by decide) rfl (hk1 _ _ (KX _ _ lk)) rfl har rfl (hk1 _ _ (KX _ _ lcd)) rfl hvs hfi S.top ?_) (hev _)) I.quiet (hsw A outer s H))
  refine PySem.W.ks_loadName_global S.kind S.sup (PySem.Calls.loadGlobal_builtin (env := PySem.W.ksEnv qual sc s.heap.objs.size f (.ref cda) cc) (I.mod.glob.keeps I.bk) hsu (hb1.keeps I.bk) ((hb2 _ (by decide +kernel)).trans (by decide +kernel)) ⟨rfl, ?_⟩)
  refine wpAny_loadName_free S.kind S.cls rfl ⟨_, KX1 _ _ lc, rfl⟩ ?_
  refine wpAny_loadName_local S.kind arl hns hvx ?_
  refine PySem.ks_wpAny_isType_cls hD1 hD2 ⟨rfl, ?_⟩
  refine PySem.ks_wpAny_call_super hD1 hD2 hx rfl (fun c z => nomatch z) (PySem.W.looks_mroIn KX1 hsub) (fun h2 hso k2 => ?_)
  have J2 := I.kept (h' := h2) (t' := s.toks + (ps.zip us).length) k2
  have IA : PySem.W.InstAt h2 a { cls := .ref C, dict := none, data := .fields #[.ref t1, .none, .none, .none, .bool false, .none] } C none := ⟨k2 _ _ hx, rfl, rfl, trivial⟩
  have KX2 : K.In h2 := KX1.keeps k2
  have hm2 := hm
  unfold PySem.W.ks_superIn at hm2
  rw [hcC] at hm2
  refine PySem.W.kxs_getMethod T.kf hso (PySem.W.looks_opaque KX2 hst) (l₀ := cdC.mro) (fun A Q E s k q => wpAny_bind ((PySem.W.looks_clsIn KX2 hcC) A _ E s k (wpAny_pure q))) rfl KX2 hm2 (IA.type.andThen (PySem.W.looks_subIn KX2 hB)) (PySem.W.ks_ne KX2 IA hcC) (by decide) ?_
  have fr2 : H h2.objs.size = none := J2.hok.fresh (Nat.le_refl _)
  have k3 : ∀ b o, h2.get? b = some o → (h2.push (PySem.W.kxs_mw initId a)).get? b = some o := fun b o z => Heap.get?_push_of_some _ z
  have J3 := J2.kept (h' := h2.push (PySem.W.kxs_mw initId a)) (t' := s.toks + (ps.zip us).length + 1) k3
  have J4 := J3.pins_of (pins' := [(h2.objs.size, PySem.W.kxs_mw initId a)]) fun p hp => by
    obtain rfl : p = (h2.objs.size, PySem.W.kxs_mw initId a) := by simpa using hp
    exact ⟨Heap.get?_push_at rfl rfl, fr2, Ne.symm (Nat.ne_of_lt J2.lt), J2.nofs (Nat.le_refl _), fun v z => nomatch z⟩
  show wpAny _ _ (callWith p4 (.ref h2.objs.size) [] (backTo p4 (starEach (e :: es) (cxS P w K mg base N qual sc f (.ref cda) cc A outer s H).env)) []) _ _ _
  rw [hst1 A outer s H]
  refine PySem.W.kxs_callWith (i := initId) (x := a) (by show (false || (backTo p4 (starEach es (cxS P w K mg base N qual sc f (.ref cda) cc A outer s H).env)).any (·.1)) = false; rw [hst2 A outer s H]; rfl) ?_
  refine PySem.Calls.evalArgs_plain ?_
  have run := (ha A outer s H).run p4 _ _ _ H _ J4 hta
  rw [hst1 A outer s H] at run
  refine wpAny_mono run (fun ws s4 hw => ?_) fun _ _ z => (z : False).elim
  obtain ⟨zs, H4, J5, r5, hz, eH4, htr⟩ := hw
  subst eH4
  have hu5 := (J5.pin (h2.objs.size, PySem.W.kxs_mw initId a) (by simp)).1
  refine ⟨hu5, ?_⟩
  obtain ⟨t5, hx5⟩ := exo_at J5.hok eH
  obtain ⟨h5, g5, d5, tk5, os5⟩ := s4
  refine sup_call T G J5.kIn hu5 hx5 (by show ws.length ≤ sizeLine; rw [← Paired.length r5, sizeLine_eq]; omega) fun h6 t6 k6 hx6 => ?_
  have J6 := (J5.write (h' := h6) (t' := tk5) (x := a) (e := a) (o := exo a C none) (by rw [eH]; exact True.intro) (.inl rfl) k6 ⟨_, hx6⟩ (exo_ok hx6)).pins_of (pins' := []) fun p hp => absurd hp (by simp)
  have eu : upd H4 a (exo a C none) = H4 := by
    funext b
    by_cases hb : b = a
    · rw [hb, upd_same, eH]
    · rw [upd_ne hb]
  rw [eu] at J6
  refine wpAt_of_wpAny (wpAny_mono ((hr A outer s _).run [] _ _ _ _ J6 htr) (fun fl s7 h7 => ?_) fun _ _ z => (z : False).elim)
  cases fl with
  | ret u => obtain ⟨v, σ7, H7, J7, r7, q7⟩ := h7; exact fin J7 r7 q7
  | next => obtain ⟨σ7, H7, J7, q7⟩ := h7; exact fin (v := .non) (u := .none) J7 rfl q7
  | brk => obtain ⟨_, _, _, q⟩ := h7; exact q.elim
  | cont => obtain ⟨_, _, _, q⟩ := h7; exact q.elim
/-- the promise of such an __init__: the fields' names in order -/
def spX (C : Addr) (fs : List Str) : Sp := fun vs H Q _ => ∃ (a : Addr) (ws : List V), vs = .ref a :: ws ∧ ws.length = fs.length ∧ H a = some (exo a C none) ∧
  ∀ (d : Addr) (H2 : Hp), H d = none → d ≠ a → H2 a = some (exo a C (some d)) → H2 d = some (exd d (fs.zip ws).reverse) → (∀ b, b ≠ a → b ≠ d → H2 b = H b) → Q .non H2
/-- an exception is made: its dict is new -/
def tX (C : Addr) (fs : List Str) (ta : TA) : L2.St → Hp → XK → Prop := fun σ H Q => ta σ H fun vs H1 => vs.length = fs.length ∧ ∀ d, H1 d = none → Q (.ref C) (some d) (upd H1 d (.xd (fs.zip vs).reverse))
section
variable {X : Cx} {e : Expr} {es : List Expr} {ta : TA} {p pos : Pos} {x : Str} {C fI : Addr} {k : Nat} {fd : FuncData} {ps fs : List Str} {B newId initId : String} {bmB : List Value}
theorem pmk_x (T : ExB B newId initId bmB) (G : ExG X.K C newId bmB) (iC : PySem.W.findIn X.K (.ref C) "__init__" = some (some (.ref fI))) (tI : PySem.W.typeIn X.K (.ref fI) = some (.type "function"))
    (F1 : Fk X.prog X.w X.K X.mg X.base k fI fd ps (spX C fs)) (hr : Rm (k + 1) X.A) (hb : Binds X.K fd ps []) (hfs : fs.length ≤ 100) (hg : Gl X x) (hm : X.mg x = some (.ref C)) (ha : PA X (e :: es) ta)
    (hdb : (x == ("__debug__" : Str)) = false := by decide) (he : starEach (e :: es) X.env = (false, eval e X.env) :: starEach es X.env := by rfl) (hpl : (backTo pos (starEach es X.env)).any (·.1) = false := by rfl) :
    PMk X (.Call (.Name x p) (e :: es) [] pos) (tX C fs ta) := by
  intro pins s σ H Q I h
  refine wpAny_Call_Name_kw (ld_glob I hg hm ?_ hdb)
  refine PySem.W.callWith_K (h₀ := X.base) I.ok.mod.kin G.kC (thn (ha.run pos pins s σ H _ I h) fun us s1 ⟨vs, H1, I1, r1, hz, q1⟩ => ⟨I1.kIn, ?_⟩) he hpl
  show wpAny _ _ (call (.ref C) us) _ _ _
  obtain ⟨n1, n2, n3, n4, n5, n6, n7, n8, n9, n10, n11, k0, k1, k2, k3, k5, hC, hT⟩ := PySem.W.excInit_of I1.kIn G.q
  obtain ⟨hp, g, dr, tk, os⟩ := s1
  have hn : H1 (hp.objs.size + 1) = none := I1.hok.fresh (Nat.le_succ _)
  have kk : ∀ b o, hp.get? b = some o → ((hp.push (PySem.W.kdv_tup us)).push (PySem.HandSPX.excO C hp.objs.size)).get? b = some o := fun b o z => Heap.get?_push_of_some _ (Heap.get?_push_of_some _ z)
  have hget : ((hp.push (PySem.W.kdv_tup us)).push (PySem.HandSPX.excO C hp.objs.size)).get? (hp.objs.size + 1) = some (PySem.HandSPX.excO C hp.objs.size) := by heap_get
  have I2 := I1.laid (t' := tk) (a := hp.objs.size + 1) (o := exo (hp.objs.size + 1) C none) kk (Nat.le_succ _) (exo_ok hget)
  have r2 : Vals (V.ref (hp.objs.size + 1) :: vs) (Value.ref (hp.objs.size + 1) :: us) := .cons rfl r1
  have hsp : spX C fs (V.ref (hp.objs.size + 1) :: vs) (upd H1 (hp.objs.size + 1) (exo (hp.objs.size + 1) C none)) (fun v H2 => v = .non ∧ ∃ d, H2 (hp.objs.size + 1) = some (exo (hp.objs.size + 1) C (some d)) ∧ H2 d = some (exd d (fs.zip vs).reverse) ∧ H1 d = none ∧ Q (.ref C) (some d) (upd (del H2 (hp.objs.size + 1)) d (.xd (fs.zip vs).reverse))) (fun _ _ _ => False) := by
    refine ⟨_, vs, rfl, hz, upd_same, fun d H2 nd ne e1 e2 e3 => ⟨rfl, d, e1, e2, ?_, ?_⟩⟩
    · rw [upd_ne ne] at nd; exact nd
    · rw [upd_ne ne] at nd
      have eq : upd (del H2 (hp.objs.size + 1)) d (.xd (fs.zip vs).reverse) = upd H1 d (.xd (fs.zip vs).reverse) := by
        funext b
        by_cases hd : b = d
        · rw [hd, upd_same, upd_same]
        · rw [upd_ne hd, upd_ne hd]
          by_cases ha : b = hp.objs.size + 1
          · rw [ha, del_same, hn]
          · rw [del_ne ha, e3 b ha hd, upd_ne ha]
      rw [eq]
      exact q1 d nd
  have hl : (Value.ref (hp.objs.size + 1) :: us).length = ps.length := by
    have z := r2.length
    rw [F1.len _ _ _ _ hsp] at z
    exact z.symm
  have bb := hb ⟨(hp.push (PySem.W.kdv_tup us)).push (PySem.HandSPX.excO C hp.objs.size), g, dr, tk, os⟩ (Value.ref (hp.objs.size + 1) :: us) I2.kIn (by rw [List.append_nil]; exact hl)
  rw [List.append_nil] at bb
  refine wpAny_call (PySem.HandSPX.call_own T.fb hT hC (PySem.W.looks_findIn I1.kIn iC) (fun self => PySem.W.bind_fn I1.kIn self tI) (by rw [← Paired.length r1, hz, sizeLine_eq]; omega)
    (codeAny_mono (F1.run _ X.stack _ _ ⟨Value.ref (hp.objs.size + 1) :: us, []⟩ _ _ _ _ (hr.make C us []) (I2.env0.make C us []) bb r2 hsp) fun rr s2 hq => ?_))
  cases rr with
  | error er => obtain ⟨_, _, _, _, _, _, _, _, _, _, _, _, z⟩ := hq; exact z.elim
  | ok fl =>
    cases fl with
    | ret u =>
      obtain ⟨v, H2, os2, bare2, un2, hok2, r3, ev, d, ea, ed, hd1, q2⟩ := hq
      subst ev
      obtain ⟨h2, g2, d2, t2, os3⟩ := s2
      exact ⟨r3, mk_end (raises_own G.exC G.tyC) I1 (Nat.le_succ _) kk un2 hok2 os2 bare2 ea ed hd1 q2⟩
    | next => exact hq.elim
    | brk => exact hq.elim
    | cont => exact hq.elim
/-- self.f = e in such an __init__ -/
def tSt (K : PySem.W.Frag) (newId : String) (bmB : List Value) (f : Str) (to te : TE) : TS := fun D σ H => te σ H fun y H1 => to σ H1 fun z H2 => ∃ a C : Addr, z = .ref a ∧ ExG K C newId bmB ∧ PySem.W.findIn K (.ref C) f = some none ∧
  ((H2 a = some (exo a C none) ∧ ∀ dx, H2 dx = none → dx ≠ a → D.nx σ (upd (upd H2 dx (exd dx [(f, y)])) a (exo a C (some dx)))) ∨
    ∃ (dx : Addr) (fs : List (Str × V)), H2 a = some (exo a C (some dx)) ∧ H2 dx = some (exd dx fs) ∧ fs.length ≤ 900 ∧ D.nx σ (upd H2 dx (exd dx ((f, y) :: fs))))
theorem ps_xst {o : Expr} {to te : TE} {f : Str} {q : Pos} (SF : StoreFacts B bmB "object.__setattr__" "object") (ho : PE X o to) (he : PE X e te) (hs : swapsWith e (some (.Attribute o f q)) pos.line X.env = pure false := by rfl) : PS X (.Assign [.Attribute o f q] e pos) (tSt X.K newId bmB f to te) := by
  refine ⟨fun pins s σ H D I h => plainObj_wpAny_Assign_Attribute (thn (he.run pins s σ H _ I h) fun v s1 ⟨y, H1, I1, r1, q1⟩ => thn (ho.run pins s1 σ H1 _ I1 q1) fun u s2 ⟨z, H2, I2, r2, a, C, ex, T, hno, qq⟩ => ?_) hs⟩
  subst ex
  obtain rfl : u = Value.ref a := r2
  rcases qq with ⟨ea, qq⟩ | ⟨dx, fs, ea, ed, hl, qq⟩
  · exact st_first SF T I2 ea hno r1 fun dx s3 n ne J => ⟨σ, _, J, qq dx n ne⟩
  · exact st_more SF T I2 ea ed hl hno r1 fun s3 J => ⟨σ, _, J, qq⟩
end
end SJ
namespace SJ
open PySem PySem.Spec PyProof.Rows L2 He
/-- an __init__ with super(): its class's name, qualified name, parameters, body, scope -/
structure XD where
  cls : Str
  qual : Str
  params : Arguments
  body : List Stmt
  scope : Scope
abbrev FnX : Type := Option (Str × Str × Arguments × FuncBody × Scope × Addr × List Str × Addr)
def XD.ad (d : XD) (K : PySem.W.Frag) : Addr := ma K (ga K d.cls) "__init__"
def fnXA (K : PySem.W.Frag) (a : Addr) : FnX := match K.lookup a with
  | some ⟨_, _, .func fd, _⟩ => some (fd.name, fd.qualname, fd.params, fd.body, fd.scope, fd.globals, fd.closure.map (·.1), fd.builtins)
  | _ => none
def XD.val (d : XD) : FnX := some ("__init__", d.qual, d.params, .stmts d.body, d.scope, mainGlobals, ["__class__"], builtinsNs)
def isNoneV : Value → Bool
  | .none => true
  | _ => false
def ccA (K : PySem.W.Frag) (a : Addr) : Addr := match K.lookup a with
  | some ⟨_, _, .func fd, _⟩ => (match fd.closure with
    | [(_, c)] => c
    | _ => 0)
  | _ => 0
def cdaA (K : PySem.W.Frag) (a : Addr) : Addr := match K.lookup a with
  | some ⟨_, _, .func fd, _⟩ => (match fd.code with
    | .ref c => c
    | _ => 0)
  | _ => 0
def XD.ok (file : Str) (K : PySem.W.Frag) (d : XD) : Bool := match K.lookup (d.ad K) with
  | some ⟨_, _, .func fd, _⟩ => isNoneV fd.defaults && (decide (fd.code = .ref (cdaA K (d.ad K))) && (PySem.W.codeIn K fd.code d.qual && ((match K.lookup (cdaA K (d.ad K)) with
    | some ⟨_, _, .fields vs, _⟩ => (match (vs[2]? : Option Value) with
      | some (.str fi _) => file == fi
      | _ => false)
    | _ => false) && (match fd.closure with
      | [(_, c)] => (match K.lookup c with
        | some ⟨_, _, .cell (some (.ref D)), _⟩ => D == ga K d.cls
        | _ => false)
      | _ => false))))
  | _ => false
theorem XD.facts {K : PySem.W.Frag} {d : XD} {file : Str} (e : fnXA K (d.ad K) = d.val) (c : d.ok file K = true) :
    (∃ (oc : Value) (od : Option Addr) (kV doc pm : Value) (an : Option Addr) (ct : Value) (osl : Array (Option Value)), K.lookup (d.ad K) = some ⟨oc, od, .func (PySem.W.ksFn "__init__" d.qual d.params d.body d.scope .none kV doc pm an (.ref (cdaA K (d.ad K))) ct (ccA K (d.ad K))), osl⟩) ∧
    PySem.W.codeIn K (.ref (cdaA K (d.ad K))) d.qual = true ∧
    (∃ (ccl : Value) (cdd : Option Addr) (vs : Array Value) (ccs : Array (Option Value)) (fi : Str) (tf : Tok), K.lookup (cdaA K (d.ad K)) = some ⟨ccl, cdd, .fields vs, ccs⟩ ∧ vs[2]? = some (.str fi tf) ∧ (file == fi) = true) ∧
    ∃ (cl : Value) (cld : Option Addr) (csl : Array (Option Value)), K.lookup (ccA K (d.ad K)) = some ⟨cl, cld, .cell (some (.ref (ga K d.cls))), csl⟩ := by
  unfold fnXA at e
  unfold XD.ok at c
  have ecc : ccA K (d.ad K) = ccA K (d.ad K) := rfl
  cases q : K.lookup (d.ad K) with
  | none => rw [q] at c; cases c
  | some o =>
    obtain ⟨oc, od, dt, osl⟩ := o
    rw [q] at c e
    cases dt with
    | func fd =>
      obtain ⟨m1, m2, m3, m4, m5, m6, m7, m8, m9, m10, m11, m12, m13, m14, m15⟩ := fd
      have e2 : (some (m1, m2, m3, m4, m5, m6, m7.map (·.1), m15) : FnX) = d.val := e
      unfold XD.val at e2
      simp only [Option.some.injEq, Prod.mk.injEq] at e2
      obtain ⟨g1, g2, g3, g4, g5, g6, g7, g8⟩ := e2
      subst g1 g2 g3 g4 g5 g6 g8
      obtain ⟨c1, c⟩ := ba c
      obtain ⟨c2, c⟩ := ba c
      obtain ⟨c3, c⟩ := ba c
      obtain ⟨c4, c5⟩ := ba c
      have e13 : m13 = .ref (cdaA K (d.ad K)) := of_decide_eq_true c2
      have e8 : m8 = .none := by cases m8 <;> first | rfl | cases c1
      obtain ⟨q0, rfl⟩ : ∃ q0 : Addr, m7 = [(("__class__" : Str), q0)] := by
        cases m7 with
        | nil => cases g7
        | cons p r =>
          cases r with
          | nil => obtain ⟨a, b⟩ := p; exact ⟨b, by rw [show a = "__class__" from (List.cons.inj g7).1]⟩
          | cons p2 r2 => exact nomatch (List.cons.inj g7).2
      have ec : ccA K (d.ad K) = q0 := by unfold ccA; rw [q]
      refine ⟨⟨oc, od, m9, m10, m11, m12, m14, osl, ?_⟩, by rw [← e13]; exact c3, ?_, ?_⟩
      · rw [← e13, ec, e8]
      · cases q2 : K.lookup (cdaA K (d.ad K)) with
        | none => rw [q2] at c4; cases c4
        | some o2 =>
          obtain ⟨a1, a2, a3, a4⟩ := o2
          rw [q2] at c4
          cases a3 with
          | fields vs =>
            have c6 : (match (vs[2]? : Option Value) with | some (.str fi _) => file == fi | _ => false) = true := c4
            cases q3 : vs[2]? with
            | none => rw [q3] at c6; cases c6
            | some v =>
              rw [q3] at c6
              cases v with
              | str fi tf => exact ⟨a1, a2, vs, a4, fi, tf, rfl, q3, c6⟩
              | _ => cases c6
          | _ => cases c4
      · rw [ec]
        have c6 : (match K.lookup q0 with | some ⟨_, _, .cell (some (.ref D)), _⟩ => D == ga K d.cls | _ => false) = true := c5
        cases q2 : K.lookup q0 with
        | none => rw [q2] at c6; cases c6
        | some o2 =>
          obtain ⟨a1, a2, a3, a4⟩ := o2
          rw [q2] at c6
          cases a3 with
          | cell z =>
            cases z with
            | none => cases c6
            | some v =>
              cases v with
              | ref D => exact ⟨a1, a2, a4, by rw [show D = ga K d.cls from beq_iff_eq.mp c6]⟩
              | _ => cases c6
          | _ => cases c6
    | _ => cases c
abbrev AlZ : Type := Bool × List FnW × List FnX
def obsZ (file : Str) (fa : List Tst) (fn : List DD) (fx : List XD) (K : PySem.W.Frag) : AlZ := ((fa.all fun f => f K) && ((fn.all fun d => d.ok K) && fx.all fun d => d.ok file K), fn.map (fun d => fnA K (d.ad K)), fx.map fun d => fnXA K (d.ad K))
def valZ (fn : List DD) (fx : List XD) : AlZ := (true, fn.map DD.val, fx.map XD.val)
def SaysZ (file : Str) (fa : List Tst) (fn : List DD) (fx : List XD) (K : PySem.W.Frag) : Prop := obsZ file fa fn fx K = valZ fn fx
section
variable {file : Str} {fa : List Tst} {fn : List DD} {fx : List XD} {K : PySem.W.Frag}
theorem SaysZ.b (c : SaysZ file fa fn fx K) : (fa.all fun f => f K) = true ∧ (fn.all fun d => d.ok K) = true ∧ (fx.all fun d => d.ok file K) = true := by
  obtain ⟨h1, h2⟩ := ba (show ((fa.all fun f => f K) && ((fn.all fun d => d.ok K) && fx.all fun d => d.ok file K)) = true from congrArg (fun z : AlZ => z.1) c)
  obtain ⟨h3, h4⟩ := ba h2
  exact ⟨h1, h3, h4⟩
theorem SaysZ.fact (c : SaysZ file fa fn fx K) (i : Nat) {f : Tst} (h : fa[i]? = some f := by rfl) : f K = true := List.all_eq_true.mp c.b.1 f (List.mem_of_getElem? h)
theorem SaysZ.def_ (c : SaysZ file fa fn fx K) (i : Nat) {d : DD} (h : fn[i]? = some d := by rfl) : ∃ fd, FunD K d.name d.qual d.params d.body d.scope (d.dvs K) (d.kws K) (d.ad K) fd := by
  have e : fn.map (fun d => fnA K (d.ad K)) = fn.map DD.val := congrArg (fun z : AlZ => z.2.1) c
  have e2 : (fn.map fun d => fnA K (d.ad K))[i]? = (fn.map DD.val)[i]? := by rw [e]
  rw [List.getElem?_map, List.getElem?_map, h] at e2
  exact DD.funD (Option.some.inj e2) (List.all_eq_true.mp c.b.2.1 d (List.mem_of_getElem? h))
theorem SaysZ.exc (c : SaysZ file fa fn fx K) (i : Nat) {d : XD} (h : fx[i]? = some d := by rfl) : fnXA K (d.ad K) = d.val ∧ d.ok file K = true := by
  have e : fx.map (fun d => fnXA K (d.ad K)) = fx.map XD.val := congrArg (fun z : AlZ => z.2.2) c
  have e2 : (fx.map fun d => fnXA K (d.ad K))[i]? = (fx.map XD.val)[i]? := by rw [e]
  rw [List.getElem?_map, List.getElem?_map, h] at e2
  exact ⟨Option.some.inj e2, List.all_eq_true.mp c.b.2.2 d (List.mem_of_getElem? h)⟩
end
/-- an own exception class over the built-in B -/
structure ExT (K : PySem.W.Frag) (x : Str) (B newId initId : String) (bmB : List Value) (fs : List Str) : Prop where
  g : ExG K (ga K x) newId bmB
  iC : PySem.W.findIn K (.ref (ga K x)) "__init__" = some (some (.ref (ma K (ga K x) "__init__")))
  tI : PySem.W.typeIn K (.ref (ma K (ga K x) "__init__")) = some (.type "function")
  sup : PySem.W.ks_superIn K (ga K x) (ga K x) "__init__" = some (some (.builtin initId))
  sB : PySem.W.subIn K (.ref (ga K x)) (.type B) = some true
  stat : PySem.W.nsIn K cStatics "thirdparty.any" = some none
  mro : PySem.W.mroIn K (ga K x) (.ref (ga K x)) = some true
  xf : XfC K (ga K x)
  nof : ∀ f ∈ fs, PySem.W.findIn K (.ref (ga K x)) f = some none
def exT (x : Str) (B newId initId : String) (bmB : List Value) (fs : List Str) : Tst := fun K => PySem.W.excInitIn K (ga K x) bmB newId && (PySem.W.hasDictIn K (ga K x) && (PySem.W.excOver K (ga K x) bmB && (eqO (PySem.W.findIn K (.ref (ga K x)) "__setattr__") (some (some (.builtin "object.__setattr__"))) &&
  (decide (PySem.W.subIn K (.ref (ga K x)) (.type "BaseException") = some true) && (decide (PySem.W.typeIn K (.ref (ga K x)) = some (.type "type")) && (PySem.W.keepIn K (.ref (ga K x)) &&
  (eqO (PySem.W.findIn K (.ref (ga K x)) "__init__") (some (some (.ref (ma K (ga K x) "__init__")))) && (decide (PySem.W.typeIn K (.ref (ma K (ga K x) "__init__")) = some (.type "function")) && (eqO (PySem.W.ks_superIn K (ga K x) (ga K x) "__init__") (some (some (.builtin initId))) &&
  (decide (PySem.W.subIn K (.ref (ga K x)) (.type B) = some true) && (eqO (PySem.W.nsIn K cStatics "thirdparty.any") (some none) && (decide (PySem.W.mroIn K (ga K x) (.ref (ga K x)) = some true) && (xfB K (ga K x) && fs.all fun f => eqO (PySem.W.findIn K (.ref (ga K x)) f) (some none))))))))))))))
theorem exT_ok {K : PySem.W.Frag} {x : Str} {B newId initId : String} {bmB : List Value} {fs : List Str} (c : exT x B newId initId bmB fs K = true) : ExT K x B newId initId bmB fs := by
  obtain ⟨c1, c⟩ := ba c
  obtain ⟨c2, c⟩ := ba c
  obtain ⟨c3, c⟩ := ba c
  obtain ⟨c4, c⟩ := ba c
  obtain ⟨c5, c⟩ := ba c
  obtain ⟨c6, c⟩ := ba c
  obtain ⟨c7, c⟩ := ba c
  obtain ⟨c8, c⟩ := ba c
  obtain ⟨c9, c⟩ := ba c
  obtain ⟨c10, c⟩ := ba c
  obtain ⟨c11, c⟩ := ba c
  obtain ⟨c12, c⟩ := ba c
  obtain ⟨c13, c⟩ := ba c
  obtain ⟨c14, c15⟩ := ba c
  exact ⟨⟨c1, c2, c3, eqO_ok c4, of_decide_eq_true c5, of_decide_eq_true c6, c7⟩, eqO_ok c8, of_decide_eq_true c9, eqO_ok c10, of_decide_eq_true c11, eqO_ok c12, of_decide_eq_true c13, xfB_ok c14, fun f hf => eqO_ok (List.all_eq_true.mp c15 f hf)⟩
/-- the class of an own instance for isinstance -/
structure InT (K : PySem.W.Frag) (C : Addr) : Prop where
  cl : Cls K C
  ha : PySem.W.findIn K (.ref C) "__class__" = some (some (.builtin "object.__class__"))
  hn : PySem.W.specialIn K (.builtin "object.__class__") "__get__" = some (some (.builtin "getset_descriptor.__get__"))
  htk : PySem.W.takesIn K (.builtin "object.__class__") = some true
  hm : PySem.W.mroIn K C (.type "object") = some true
  kp : PySem.W.keepIn K (.ref C) = true
def inT (x : Str) : Tst := fun K => (Fa.cls x).ok K && (eqO (PySem.W.findIn K (.ref (ga K x)) "__class__") (some (some (.builtin "object.__class__"))) && (eqO (PySem.W.specialIn K (.builtin "object.__class__") "__get__") (some (some (.builtin "getset_descriptor.__get__"))) &&
  (decide (PySem.W.takesIn K (.builtin "object.__class__") = some true) && (decide (PySem.W.mroIn K (ga K x) (.type "object") = some true) && PySem.W.keepIn K (.ref (ga K x))))))
theorem inT_ok {K : PySem.W.Frag} {x : Str} (c : inT x K = true) : InT K (ga K x) := by
  obtain ⟨c1, c⟩ := ba c
  obtain ⟨c2, c⟩ := ba c
  obtain ⟨c3, c⟩ := ba c
  obtain ⟨c4, c⟩ := ba c
  obtain ⟨c5, c6⟩ := ba c
  exact ⟨cls_ok c1, eqO_ok c2, eqO_ok c3, of_decide_eq_true c4, of_decide_eq_true c5, c6⟩
theorem InT.ty {K : PySem.W.Frag} {C : Addr} (T : InT K C) {H : Hp} {a dx : Addr} {fs : List (Str × V)} (e : H a = some (.ins C dx fs)) : TyX K H (.ref a) (.ref C) := .base (.ins e T.cl T.ha T.hn T.htk T.hm)
/-- a text constant of a class -/
def conT (x f z : Str) : Tst := fun K => (match PySem.W.findIn K (.ref (ga K x)) f with
  | some (some (.str y t)) => decide (y = z) && eqO (PySem.W.specialIn K (.str y t) "__get__") (some none)
  | _ => false) && !PySem.W.copiedNames.contains f
theorem conT_ok {K : PySem.W.Frag} {x f z : Str} (c : conT x f z K = true) : ∃ t, Con K (ga K x) f (.str z) (.str z t) := by
  obtain ⟨c1, c2⟩ := ba c
  cases q : PySem.W.findIn K (.ref (ga K x)) f with
  | none => rw [q] at c1; cases c1
  | some o =>
    rw [q] at c1
    cases o with
    | none => cases c1
    | some v =>
      cases v with
      | str y t =>
        obtain ⟨c3, c4⟩ := ba c1
        obtain rfl : y = z := of_decide_eq_true c3
        exact ⟨t, q, ⟨t, rfl⟩, eqO_ok c4, by simpa using c2⟩
      | _ => cases c1
/-- C(..) by the __init__ at a -/
def mkT (x : Str) (a : PySem.W.Frag → Addr) : Tst := fun K => PySem.W.makesIn K (ga K x) && (eqO (PySem.W.findIn K (.ref (ga K x)) "__init__") (some (some (.ref (a K)))) && (PySem.W.isFn K (.ref (a K)) && PySem.W.keepIn K (.ref (ga K x))))
theorem mkT_ok {K : PySem.W.Frag} {x : Str} {a : PySem.W.Frag → Addr} (c : mkT x a K = true) : Mk K (ga K x) (a K) := by
  obtain ⟨c1, c⟩ := ba c
  obtain ⟨c2, c⟩ := ba c
  obtain ⟨c3, c4⟩ := ba c
  exact ⟨c1, eqO_ok c2, c3, c4⟩
/-- x's f is the property whose getter stands at a -/
def prT (x f : Str) (a : PySem.W.Frag → Addr) : Tst := fun K => propB x f K && decide (pgA x f K = a K)
theorem prT_ok {K : PySem.W.Frag} {x f : Str} {a : PySem.W.Frag → Addr} (c : prT x f a K = true) : PropOf K (ga K x) f (ma K (ga K x) f) (a K) := by
  obtain ⟨c1, c2⟩ := ba c
  have h := prop_ok c1
  rw [of_decide_eq_true c2] at h
  exact h
/-- an answer of isinstance, of a subclass, of an except clause -/
def kitT (t c : PySem.W.Frag → Value) (b : Bool) : Tst := fun K => decide (PySem.W.kitOne K (t K) (c K) = some b)
theorem kitT_ok {K : PySem.W.Frag} {t c : PySem.W.Frag → Value} {b : Bool} (h : kitT t c b K = true) : PySem.W.kitOne K (t K) (c K) = some b := of_decide_eq_true h
def exmT (t c : PySem.W.Frag → Value) (b : Bool) : Tst := fun K => decide (PySem.W.exmOne K (t K) (c K) = some b)
theorem exmT_ok {K : PySem.W.Frag} {t c : PySem.W.Frag → Value} {b : Bool} (h : exmT t c b K = true) : PySem.W.exmOne K (t K) (c K) = some b := of_decide_eq_true h
def finT (x f : Str) (v : PySem.W.Frag → Option Value) : Tst := fun K => eqO (PySem.W.findIn K (.ref (ga K x)) f) (some (v K))
theorem finT_ok {K : PySem.W.Frag} {x f : Str} {v : PySem.W.Frag → Option Value} (h : finT x f v K = true) : PySem.W.findIn K (.ref (ga K x)) f = some (v K) := eqO_ok h
def neT (x y : Str) : Tst := fun K => decide (ga K x ≠ ga K y)
theorem neT_ok {K : PySem.W.Frag} {x y : Str} (h : neT x y K = true) : ga K x ≠ ga K y := of_decide_eq_true h
def nfT (x : Str) (t : PySem.W.Frag → Value) : Tst := fun K => PySem.W.notFirst K (ga K x) (t K)
theorem kw_of {K : PySem.W.Frag} {x qual : Str} {pa : Arguments} {bo : List Stmt} {sc : Scope} {f : Addr} {fd : FuncData} {ps ks : List Str} {n : Nat} {g : List Value → List Value → List Value} {gV : List V → List V → List V} (F : FunD K x qual pa bo sc [] [] f fd)
    (h : ∀ (kV doc pm : Value) (an : Option Addr) (cdv ct : Value) (us ws : List Value), us.length = n → ws.length = ks.length → bindArgs (PySem.W.fnOf x qual pa bo sc .none kV doc pm an cdv ct) ⟨us, ks.zip ws⟩ = pure (ps.zip (g us ws)))
    (rel : ∀ {vs : List V} {us : List Value} {zs : List V} {ws : List Value}, Vals vs us → Vals zs ws → Vals (gV vs zs) (g us ws)) : KBn K fd ps n ks g gV := by
  obtain ⟨oc, od, dV, kV, doc, pm, an, cdv, ct, osl, rfl, lk, hcd, hD, hK⟩ := F.ex
  rcases hD with ⟨_, rfl⟩ | ⟨e, _⟩
  · exact ⟨fun s us ws _ l1 l2 => .of_eq (h kV doc pm an cdv ct us ws l1 l2), rel⟩
  · exact absurd rfl e
end SJ
namespace SJ
open PySem PySem.Spec PyProof.Rows L2 He
abbrev WO (E : XK) : WX := fun cls d _ H => E cls d H
def tRz (C : Addr) (fs : List Str) (W : WX) (ta : TA) : TS := fun _ σ H => tX C fs ta σ H fun cls d H2 => W cls d σ H2
def tFS (ts : List TE) : TE := fun σ H Q => tJs ts Str.empty σ H fun out H1 => Q (.str out) H1
def kwV (ix : List Nat) : List V → List V → List V := fun vs zs => ix.map fun i => (vs ++ zs).getD i .non
def kwW (ix : List Nat) : List Value → List Value → List Value := fun us ws => ix.map fun i => (us ++ ws).getD i .none
theorem kw_rel {ix : List Nat} {vs : List V} {us : List Value} {zs : List V} {ws : List Value} (r1 : Vals vs us) (r2 : Vals zs ws) : Vals (kwV ix vs zs) (kwW ix us ws) := by
  have r := r1.append r2
  unfold kwV kwW
  induction ix with
  | nil => exact .nil
  | cons i ix ih =>
    refine .cons ?_ ih
    show RelV ((vs ++ zs).getD i .non) ((us ++ ws).getD i .none)
    rw [List.getD_eq_getElem?_getD, List.getD_eq_getElem?_getD]
    cases q : (vs ++ zs)[i]? with
    | none => rw [r.none_of q]; rfl
    | some v => obtain ⟨u, e, rv⟩ := r.get q; rw [e]; exact rv
theorem nofree_of {l : List (Str × NameKind)} {x : Str} (h : (l.all fun y => (y.2 != .free) || (y.1 == ("__class__" : Str))) = true) (e : l.lookup x = some .free) : x = "__class__" := by
  have z := List.all_eq_true.mp h _ (PySem.mem_of_lookup e)
  rcases Bool.or_eq_true_iff.mp z with z | z
  · exact nomatch (show (NameKind.free != NameKind.free) = true from z)
  · exact beq_iff_eq.mp z
theorem spX_len {C : Addr} {fs : List Str} {vs : List V} {H : Hp} {Q : VK} {E : XK} (h : spX C fs vs H Q E) : vs.length = fs.length + 1 := by
  obtain ⟨a, ws, rfl, hl, _⟩ := h
  rw [List.length_cons, hl]
theorem spX_1 {K : PySem.W.Frag} {C : Addr} {f : Str} {newId : String} {bmB : List Value} {vs : List V} {H : Hp} {Q : VK} {E : XK} {n1 n2 : Str} (G : ExG K C newId bmB) (nf : PySem.W.findIn K (.ref C) f = some none) (h : spX C [f] vs H Q E) :
    ∃ a, vs[0]? = some (.ref a) ∧ H a = some (exo a C none) ∧ tCons (tVar 1) tNil (start [n1, n2] vs) H (fun ws H1 => ws.length ≤ 1000 ∧ H1 = H ∧ tSt K newId bmB f (tVar 0) (tVar 1) { nx := fun _ H2 => Q .non H2, rt := Q } (start [n1, n2] vs) H) := by
  obtain ⟨a, ws, rfl, hl, ha, k⟩ := h
  match ws, hl with
  | [v], _ =>
    refine ⟨a, rfl, ha, v, rfl, by show 1 ≤ 1000; decide, rfl, v, rfl, .ref a, rfl, a, C, rfl, G, nf, .inl ⟨ha, fun dx hd hne => ?_⟩⟩
    exact k dx _ hd hne upd_same (by rw [upd_ne hne, upd_same]; rfl) fun b b1 b2 => by rw [upd_ne b1, upd_ne b2]
theorem spX_2 {K : PySem.W.Frag} {C : Addr} {f g : Str} {newId : String} {bmB : List Value} {vs : List V} {H : Hp} {Q : VK} {E : XK} {n1 n2 n3 : Str} (G : ExG K C newId bmB) (nf : PySem.W.findIn K (.ref C) f = some none) (ng : PySem.W.findIn K (.ref C) g = some none) (h : spX C [f, g] vs H Q E) :
    ∃ a, vs[0]? = some (.ref a) ∧ H a = some (exo a C none) ∧ tCons (tVar 1) (tCons (tVar 2) tNil) (start [n1, n2, n3] vs) H (fun ws H1 => ws.length ≤ 1000 ∧ H1 = H ∧
      tSeq (tSt K newId bmB f (tVar 0) (tVar 1)) (tSt K newId bmB g (tVar 0) (tVar 2)) { nx := fun _ H2 => Q .non H2, rt := Q } (start [n1, n2, n3] vs) H) := by
  obtain ⟨a, ws, rfl, hl, ha, k⟩ := h
  match ws, hl with
  | [v, u], _ =>
    refine ⟨a, rfl, ha, v, rfl, u, rfl, by show 2 ≤ 1000; decide, rfl, v, rfl, .ref a, rfl, a, C, rfl, G, nf, .inl ⟨ha, fun dx hd hne => ?_⟩⟩
    refine ⟨u, rfl, .ref a, rfl, a, C, rfl, G, ng, .inr ⟨dx, _, upd_same, by rw [upd_ne hne, upd_same], by show 1 ≤ 900; decide, ?_⟩⟩
    exact k dx _ hd hne (by rw [upd_ne (Ne.symm hne), upd_same]) upd_same fun b b1 b2 => by rw [upd_ne b2, upd_ne b1, upd_ne b2]
section
variable {K : PySem.W.Frag} {σ : L2.St} {H : Hp} {Q : VK} {QT : Bool → Hp → Prop} {ta tk : TA} {te to : TE} {D : Ends} {ts tu : TS} {sp : Sp} {dv : List V} {W : WX} {v : V} {a C dx p g : Addr} {fs : List (Str × V)} {f m : Str} {n : Nat} {b : Bool}
theorem x_fn (k : ta σ H fun vs H1 => sp (vs ++ dv) H1 Q (WE W σ)) : tFn sp dv W ta σ H Q := k
theorem x_nw (k : ta σ H fun vs H1 => ∀ x dx, H1 x = none → H1 dx = none → dx ≠ x → sp (.ref x :: (vs ++ dv)) (upd (upd H1 dx (.own x)) x (.ins C dx [])) (fun v H2 => v = .non ∧ Q (.ref x) H2) (WE W σ)) : tNw C sp dv W ta σ H Q := k
theorem x_rz {C : Addr} {fs : List Str} (k : ta σ H fun vs H1 => vs.length = fs.length ∧ ∀ d, H1 d = none → W (.ref C) (some d) σ (upd H1 d (.xd (fs.zip vs).reverse))) : tRz C fs W ta D σ H := k
theorem x_bm {T : String} {r : V → List V → Hp → VK → Prop} (k : to σ H fun x H1 => tyV K T x H1 ∧ ta σ H1 fun xs H2 => r x xs H2 Q) : tBM K T r to ta σ H Q := k
theorem x_par {i j : Nat} (k : ta σ H fun vs H1 => ∃ v w, vs = [v, w] ∧ D.nx ((σ.set i (some v)).set j (some w)) H1) : tPar i j ta D σ H := k
end
end SJ
namespace SJ
open PySem PySem.Spec PyProof.Rows L2 He
def gFld (K : PySem.W.Frag) (f : Str) (x : V) (H : Hp) (Q : VK) : Prop := ∃ a C dx fs v, x = .ref a ∧ H a = some (.ins C dx fs) ∧ Cls K C ∧ NoAttr K C f ∧ fs.lookup f = some v ∧ Q v H
def gCon (K : PySem.W.Frag) (f : Str) (x : V) (H : Hp) (Q : VK) : Prop := ∃ a C dx fs v u, x = .ref a ∧ H a = some (.ins C dx fs) ∧ Cls K C ∧ Con K C f v u ∧ fs.lookup f = none ∧ Q v H
def gPr (K : PySem.W.Frag) (f : Str) (g : Addr) (sp : Sp) (x : V) (H : Hp) (Q : VK) : Prop := ∃ a C dx fs pp, x = .ref a ∧ H a = some (.ins C dx fs) ∧ Cls K C ∧ PropOf K C f pp g ∧ sp [x] H Q E0
def gSt (K : PySem.W.Frag) (f : Str) (y x : V) (H : Hp) (N : Hp → Prop) : Prop := ∃ a C dx fs, x = .ref a ∧ H a = some (.ins C dx fs) ∧ Cls K C ∧ NoAttr K C f ∧ fs.length < 1000 ∧ N (upd H a (.ins C dx (putF f y fs)))
section
variable {K : PySem.W.Frag} {σ : L2.St} {H : Hp} {Q : VK} {QT : Bool → Hp → Prop} {QA : List V → Hp → Prop} {ta tk : TA} {te to tb tc : TE} {D : Ends} {ts tu : TS} {sp : Sp} {dv : List V} {W : WX} {v x y c : V} {a C dx p g : Addr} {fs : List (Str × V)} {f m : Str} {n : Nat} {b : Bool} {r r2 : R2} {t u : Value}
theorem x_fld0 (k : te σ H fun x H1 => gFld K f x H1 Q) : tFld K te f σ H Q := k
theorem x_con0 (k : te σ H fun x H1 => gCon K f x H1 Q) : tCon K te f σ H Q := k
theorem x_pr0 (k : te σ H fun x H1 => gPr K f g sp x H1 Q) : tPr K f g sp te σ H Q := k
theorem x_sfld (k : te σ H fun y H1 => to σ H1 fun x H2 => gSt K f y x H2 (D.nx σ)) : sFld K to te f D σ H := k
theorem x_chain (k : te σ H fun x H1 => tb σ H1 fun y H2 => r x y H2 fun z H3 => ∃ k, z = .bl k ∧ (if k = true then tc σ H3 fun w H4 => r2 y w H4 Q else Q (.bl false) H3)) : tChain r r2 te tb tc σ H Q := k
theorem x_isi {b : Bool} (hc : ClsV c u) (ht : TyX K H x t) (hk : PySem.W.kitOne K t u = some b) (k : Q (.bl b) H) : rIsi K [x, c] H Q := ⟨x, c, t, u, b, rfl, hc, ht, hk, k⟩
theorem x_all {bs : List Bool} (h : SqL K H a (bs.map V.bl)) (k : Q (.bl (bs.all id)) H) : rAll K [.ref a] H Q := ⟨a, bs, rfl, h, k⟩
theorem x_inSg {c : Nat} {z : Str} (k : Q (.bl (decide (c ∈ z.cps.toList))) H) : rInS (.str ⟨#[c]⟩) (.str z) H Q := ⟨c, z, rfl, rfl, k⟩
theorem x_yes (k : QT true H) : tYes σ H QT := k
theorem x_fs {l : List TE} (k : tJs l Str.empty σ H fun out H1 => Q (.str out) H1) : tFS l σ H Q := k
theorem x_js {l : List TE} {acc : Str} {R : Str → Hp → Prop} (k : te σ H fun x H1 => ∃ y : Str, x = .str y ∧ (acc ++ y).length ≤ sizeLine ∧ tJs l (acc ++ y) σ H1 R) : tJs (te :: l) acc σ H R := k
theorem x_js0 {acc : Str} {R : Str → Hp → Prop} (k : R acc H) : tJs [] acc σ H R := k
end
end SJ
namespace SJ
open PySem PySem.Spec PyProof.Rows L2 He
theorem ite_t {A B : Prop} (h : A) : if (true : Bool) = true then A else B := by rw [if_pos rfl]; exact h
theorem ite_f {A B : Prop} (h : B) : if (false : Bool) = true then A else B := by rw [if_neg Bool.false_ne_true]; exact h
theorem ite_n {A B : Prop} {b : Bool} (h : if b = true then B else A) : if (!b) = true then A else B := by cases b <;> exact h
theorem x_bl2 {P : Bool → Prop} {b : Bool} (k : P b) : ∃ c, V.bl b = .bl c ∧ P c := ⟨b, rfl, k⟩
theorem x_st2 {P : Str → Prop} {b : Str} (k : P b) : ∃ c, V.str b = .str c ∧ P c := ⟨b, rfl, k⟩
theorem Same.tr {A B C : Hp} (h : Same A B) (k : Same B C) : Same A C := fun b u q => k b u (h b u q)
def gFmt (x : V) (H1 : Hp) (Q : VK) : Prop := (∃ y : Str, x = .str y ∧ y.length ≤ sizeLine ∧ Q (.str y) H1) ∨ ∃ i : Int, x = .int i ∧ i.natAbs.log2 < 1920 ∧ Q (.str (toString i)) H1
section
variable {K : PySem.W.Frag} {σ : L2.St} {H : Hp} {Q : VK} {te : TE}
theorem x_fmtE (k : te σ H fun x H1 => gFmt x H1 Q) : tFmt te σ H Q := k
def gM0 (r : V → List V → Hp → VK → Prop) (x : V) (H : Hp) (Q : VK) : Prop := (∃ a, x = .str a) ∧ r x [] H Q
theorem x_m0 {r : V → List V → Hp → VK → Prop} (k : te σ H fun x H1 => gM0 r x H1 Q) : tM0 r te σ H Q := k
end
end SJ
namespace SJ
open PySem PySem.Spec PyProof.Rows L2 He
local macro_rules | `(tactic| walk_at "go") => `(tactic| (repeat (first
  | with_reducible apply x_seq | with_reducible apply x_asg | with_reducible apply x_ret | with_reducible apply x_if | with_reducible apply x_test | with_reducible apply x_B | with_reducible apply x_op | (with_reducible apply x_var rfl) | with_reducible apply x_c
  | with_reducible apply x_cb | with_reducible apply x_cons | with_reducible apply x_nil | with_reducible apply x_bl2 | with_reducible apply x_st2 | with_reducible apply ite_t | with_reducible apply ite_f | with_reducible apply ite_n | with_reducible apply x_and | with_reducible apply x_or | with_reducible apply x_not | with_reducible apply x_andV | with_reducible apply x_orV | with_reducible apply x_notV
  | with_reducible apply x_addI | with_reducible apply x_sub' | with_reducible apply x_eqI | with_reducible apply x_neI | with_reducible apply x_eqT | with_reducible apply x_neT | with_reducible apply x_ltI | with_reducible apply x_leI | with_reducible apply x_gtI | with_reducible apply x_geI
  | with_reducible apply x_intI | with_reducible apply x_intBl | with_reducible apply x_absI | with_reducible apply x_asgG | with_reducible apply x_sub | with_reducible apply x_lst | with_reducible apply x_tup | with_reducible apply x_next | with_reducible apply x_drop
  | with_reducible apply x_ife | with_reducible apply x_chain | with_reducible apply x_inSg | with_reducible apply x_yes | with_reducible apply x_fs | with_reducible apply x_js | with_reducible apply x_js0 | with_reducible apply x_fmtE | with_reducible apply x_m0 | with_reducible apply x_fld0 | with_reducible apply x_con0 | with_reducible apply x_pr0 | with_reducible apply x_sfld
  | (with_reducible refine x_new ?_ ?_; · exact Nat.le_of_ble_eq_true rfl)
  | with_reducible apply x_fn | with_reducible apply x_nw | with_reducible apply x_bm | with_reducible apply x_par | with_reducible apply x_rz | with_reducible apply x_retN | with_reducible apply x_un | with_reducible apply x_U)))
theorem dp_ints {K : PySem.W.Frag} {H : Hp} : ∀ ns : List Int, DpAll K H (ns.map V.int) (ns.map PyData.int)
  | [] => .nil
  | n :: ns => .cons (.int n) (dp_ints ns)
theorem lay_all : ∀ ds : List PyData, (∀ d ∈ ds, d.canLay0 = true) → PyData.canLayAll0 ds = true
  | [], _ => by simp only [PyData.canLayAll0]
  | d :: ds, h => by
    simp only [PyData.canLayAll0]
    rw [h d (List.mem_cons_self ..), lay_all ds fun e q => h e (List.mem_cons_of_mem _ q)]
    rfl
theorem dep_all {n : Nat} : ∀ ds : List PyData, (∀ d ∈ ds, d.depth ≤ n) → PyData.depthAll ds ≤ n
  | [], _ => by simp only [PyData.depthAll]; exact Nat.zero_le _
  | d :: ds, h => by
    simp only [PyData.depthAll]
    exact Nat.max_le.mpr ⟨h d (List.mem_cons_self ..), dep_all ds fun e q => h e (List.mem_cons_of_mem _ q)⟩
/-- may lie in an equation -/
def Lay (n : Nat) (d : PyData) : Prop := d.canLay0 = true ∧ d.depth ≤ n
theorem Lay.sh {n : Nat} {d : PyData} (h : Lay n d) (l : n ≤ 64) : SeqAt.shaped d = true := by
  unfold SeqAt.shaped
  rw [h.1, decide_eq_true (Nat.le_trans h.2 l)]
  rfl
theorem Lay.int {n : Nat} {i : Int} : Lay n (.int i) := ⟨by simp only [PyData.canLay0], by simp only [PyData.depth]; exact Nat.zero_le _⟩
theorem Lay.bl {n : Nat} {i : Bool} : Lay n (.bool i) := ⟨by simp only [PyData.canLay0], by simp only [PyData.depth]; exact Nat.zero_le _⟩
theorem Lay.non {n : Nat} : Lay n .none := ⟨by simp only [PyData.canLay0], by simp only [PyData.depth]; exact Nat.zero_le _⟩
theorem Lay.str {n : Nat} {z : Str} (h : PyData.strOk z = true) : Lay n (.str z) := ⟨by simp only [PyData.canLay0]; exact h, by simp only [PyData.depth]; exact Nat.zero_le _⟩
theorem Lay.lst {n : Nat} {ds : List PyData} (h : ∀ d ∈ ds, Lay n d) : Lay (n + 1) (.list ds) := ⟨by simp only [PyData.canLay0]; exact lay_all ds fun d q => (h d q).1, by simp only [PyData.depth]; exact Nat.succ_le_succ (dep_all ds fun d q => (h d q).2)⟩
theorem Lay.tup {n : Nat} {ds : List PyData} (h : ∀ d ∈ ds, Lay n d) : Lay (n + 1) (.tuple ds) := ⟨by simp only [PyData.canLay0]; exact lay_all ds fun d q => (h d q).1, by simp only [PyData.depth]; exact Nat.succ_le_succ (dep_all ds fun d q => (h d q).2)⟩
theorem lay_ints {n : Nat} {ns : List Int} : Lay (n + 1) (.list (ns.map PyData.int)) := .lst fun d q => by
  obtain ⟨i, _, rfl⟩ := List.mem_map.mp q
  exact .int
/-- xs != [] -/
theorem x_sl {K : PySem.W.Frag} {σ : L2.St} {H : Hp} {Q : VK} {te : TE} {tl th : TO} {r : V → Option Int → Option Int → Hp → VK → Prop} (k : te σ H fun x H1 => tl σ H1 fun l H2 => th σ H2 fun u H3 => r x l u H3 Q) : tSl r te tl th σ H Q := k
theorem x_noPart {σ : L2.St} {H : Hp} {P : Option Int → Hp → Prop} (k : P none H) : tNoPart σ H P := k
theorem x_part {σ : L2.St} {H : Hp} {te : TE} {P : Option Int → Hp → Prop} (k : te σ H fun x H1 => ∃ i, x = .int i ∧ P (some i) H1) : tPart te σ H P := k
theorem x_in2 {P : Int → Prop} {b : Int} (k : P b) : ∃ c, V.int b = .int c ∧ P c := ⟨b, rfl, k⟩
theorem x_neNil {K : PySem.W.Frag} {H : Hp} {a b : Addr} {xs : List V} {ds : List PyData} {Q : VK} (h : SqL K H a xs) (hd : DpAll K H xs ds) (hl : Lay 64 (.list ds)) (hb : H b = some (.lst [])) (k : Q (.bl (!decide (ds = []))) H) : rNeU K (.ref a) (.ref b) H Q := by
  refine x_neDD (.lst h hd) (.lst (SqL.of hb) .nil) (hl.sh (Nat.le_refl _)) rfl ?_
  have e : PyData.eqv (.list ds) (.list []) = decide (ds = []) := by
    cases ds with
    | nil => rfl
    | cons d ds => rfl
  rw [e]
  exact k
theorem del_ne_of {H : Hp} {p a : Addr} {o : HO} (h : L2.del H p a = some o) : a ≠ p := del_some h
theorem atI_in {α : Type} {xs : List α} {i : Int} (h0 : 0 ≤ i) (h1 : i < xs.length) : ∃ v, xs[i.toNat]? = some v ∧ atI xs i = some v := by
  have h2 : i.toNat < xs.length := by omega
  refine ⟨xs[i.toNat], List.getElem?_eq_getElem h2, ?_⟩
  unfold atI ixN
  rw [if_pos h0, if_pos h1]
  exact List.getElem?_eq_getElem h2
structure Pen where
  p : Addr
  c : Addr
  ns : List Int
/-- the pen P: at most n draws so far -/
def PenAt (H : Hp) (P : Pen) (n : Nat) : Prop := ∃ (a r : Int), H P.p = some (.lst [.ref P.c, .int a, .int r]) ∧ L2.del H P.p P.c = some (.lst (P.ns.map V.int)) ∧ 0 ≤ a ∧ a ≤ n ∧ 0 ≤ r ∧ P.ns.length ≤ 1000
def spPen (K : PySem.W.Frag) : Sp := fun vs H Q _ => ∃ (a : Addr) (ns : List Int), vs = [.ref a] ∧ SqL K H a (ns.map V.int) ∧ ns.length ≤ 63 ∧ ∀ P H2, H P.p = none → Same H H2 → PenAt H2 P 0 → Q (.ref P.p) H2
def spDraw : Sp := fun vs H Q _ => ∃ (P : Pen) (m : Int) (n : Nat), vs = [.ref P.p, .int m] ∧ PenAt H P n ∧ n < 100000 ∧ 0 < m ∧ m < 1073741824 ∧
  ∀ (H2 : Hp) (r : Int), 0 ≤ r → r < m → PenAt H2 P (n + 1) → Same (L2.del H P.p) (L2.del H2 P.p) → Q (.int r) H2
theorem PenAt.at {H : Hp} {P : Pen} {n : Nat} (h : PenAt H P n) : ∃ xs, H P.p = some (.lst xs) := by
  obtain ⟨a, r, h, _⟩ := h
  exact ⟨_, h⟩
theorem PenAt.cell {H : Hp} {P : Pen} {n : Nat} (h : PenAt H P n) : L2.del H P.p P.c = some (.lst (P.ns.map V.int)) := by
  obtain ⟨a, r, _, h, _⟩ := h
  exact h
theorem PenAt.ne {H : Hp} {P : Pen} {n : Nat} {l : Addr} (h : PenAt H P n) (e : H l = none) : l ≠ P.p ∧ l ≠ P.c := by
  obtain ⟨a, r, h1, h2, _⟩ := h
  exact ⟨(fun q => by rw [q, h1] at e; cases e), (fun q => by rw [q, del_sub h2] at e; cases e)⟩
theorem PenAt.mono {H H2 : Hp} {P : Pen} {n m : Nat} (h : PenAt H P n) (s : Same H H2) (l : n ≤ m) : PenAt H2 P m := by
  obtain ⟨a, r, h1, h2, h3, h4, h5, h6⟩ := h
  exact ⟨a, r, s _ _ h1, Same.del s _ _ h2, h3, by omega, h5, h6⟩
theorem PenAt.upd {H : Hp} {P : Pen} {l : Addr} {n : Nat} {o : HO} (h : PenAt H P n) (e : l ≠ P.p ∧ l ≠ P.c) : PenAt (L2.upd H l o) P n := by
  obtain ⟨a, r, h1, h2, h3, h4, h5, h6⟩ := h
  refine ⟨a, r, by rw [upd_ne (Ne.symm e.1)]; exact h1, ?_, h3, h4, h5, h6⟩
  rw [del_upd_ne e.1, upd_ne (Ne.symm e.2)]
  exact h2
def tPen (K : PySem.W.Frag) : TS := (tRet (tLst (tCons (tCB (rListU K) (tCons (tSl (rSlU K) (tVar 0) tNoPart (tPart (tC (.int 63)))) tNil)) (tCons (tC (.int 0)) (tCons (tC (.int 0)) tNil)))))
section
variable {K : PySem.W.Frag} {vs : List V} {H : Hp} {Q : VK} {E : XK} {n0 n1 n2 n3 n4 n5 n6 : Str} {D : Ends}
theorem len_pen (h : spPen K vs H Q E) : vs.length = 1 := by obtain ⟨a, ns, rfl, _⟩ := h; rfl
theorem mul_bd {a b A B : Int} (h0 : 0 ≤ a) (h1 : a ≤ A) (h2 : 0 ≤ b) (h3 : b ≤ B) : 0 ≤ a * b ∧ a * b ≤ A * B := ⟨Int.mul_nonneg h0 h2, Int.mul_le_mul h1 h3 h2 (by omega)⟩
theorem cut_ints {j : Int} {ns : List Int} (h : 0 ≤ j) : cutV (ns.map V.int) none (some j) = (ns.take (min j.toNat ns.length)).map V.int := by
  have e : ¬ j < 0 := by omega
  show ((ns.map V.int).drop 0).take ((if j < 0 then (j + ((ns.map V.int).length : Int)).toNat else min j.toNat (ns.map V.int).length) - 0) = _
  rw [if_neg e, List.drop_zero, List.length_map, Nat.sub_zero, List.map_take]
theorem pen_ok (h : spPen K vs H Q E) : tPen K { nx := fun _ H2 => Q .non H2, rt := Q } (start [n0] vs) H := by
  obtain ⟨a, ns, rfl, ha, hns, k⟩ := h
  unfold tPen
  walk_at "go"
  refine ⟨_, rfl, ?_⟩
  refine ⟨_, rfl, .inl ⟨a, _, rfl, ha, fun q hq => ?_⟩⟩
  rw [cut_ints (by omega)]
  walk_at "go"
  refine x_listL (SqL.of upd_same) fun q2 hq2 => ?_
  walk_at "go"
  intro p hp
  have e1 : q2 ≠ q := fun e => by rw [e, upd_same] at hq2; cases hq2
  have e2 : q2 ≠ p := fun e => by rw [← e, upd_same] at hp; cases hp
  have hp1 := hp
  rw [upd_ne (Ne.symm e2)] at hp1
  have e3 : p ≠ q := fun e => by rw [e, upd_same] at hp1; cases hp1
  have s1 : Same H (upd H q (.lst ((ns.take (min (Int.toNat 63) ns.length)).map V.int))) := Same.upd (Same.refl _) hq
  refine k ⟨p, q2, ns.take (min (Int.toNat 63) ns.length)⟩ _ (by rw [upd_ne e3] at hp1; exact hp1) (Same.upd (Same.upd s1 hq2) hp) ⟨0, 0, upd_same, ?_, by omega, by omega, by omega, ?_⟩
  · show L2.del _ p q2 = _; rw [del_ne e2, upd_ne e2, upd_same]
  · show (ns.take _).length ≤ 1000; rw [List.length_take]; omega
theorem erase_map {α β : Type} (f : α → β) : ∀ (xs : List α) (k : Nat), (xs.map f).eraseIdx k = (xs.eraseIdx k).map f
  | [], _ => rfl
  | _ :: _, 0 => rfl
  | x :: xs, k + 1 => by
    show f x :: (xs.map f).eraseIdx k = f x :: (xs.eraseIdx k).map f
    rw [erase_map f xs k]
theorem erase_perm {α : Type} : ∀ (xs : List α) (k : Nat) (x : α), xs[k]? = some x → (x :: xs.eraseIdx k).Perm xs
  | [], _, _, h => nomatch h
  | y :: ys, 0, x, h => by cases (Option.some.inj h : y = x); exact List.Perm.refl _
  | y :: ys, k + 1, x, h => (List.Perm.swap y x (ys.eraseIdx k)).trans ((erase_perm ys k x h).cons y)
theorem perm_pop {ts rest pool : List Str} {i : Nat} {t : Str} (h : (ts ++ rest).Perm pool) (e : rest[i]? = some t) : (ts ++ [t] ++ rest.eraseIdx i).Perm pool := by
  refine List.Perm.trans ?_ h
  rw [List.append_assoc]
  exact List.Perm.append_left ts (erase_perm rest i t e)
end
end SJ
namespace SJ
open PySem PySem.Spec PyProof.Rows L2 He
section
variable {K : PySem.W.Frag} {H H2 : Hp}
theorem sqt_same (s : Same H H2) {l : Addr} {xs : List V} (h : SqT K H l xs) : SqT K H2 l xs := by
  rcases h with (h | ⟨o, h⟩) | h
  · exact .inl (.inl (s _ _ h))
  · exact .inl (.inr ⟨o, s _ _ h⟩)
  · exact .inr h
end
theorem ok_str {z : Str} (h : (z.cps.toList.all fun c => decide (c < 0x110000)) = true) : PyData.strOk z = true := by
  unfold PyData.strOk
  rw [← Array.all_toList]
  exact h
end SJ
namespace SJ
open PySem PySem.Spec
end SJ
namespace SJ
open PySem PySem.Spec PyProof.Rows L2 He
/-- an exception object of the class at C with the dict d (made here, or caught) -/
def XV (a C : Addr) (d : Option Addr) : HO := .ext fun h => ∃ (oe : Obj) (vs : Array Value), h.get? a = some oe ∧ oe.cls = .ref C ∧ oe.dict = d ∧ oe.data = .fields vs
def XAt (H : Hp) (a C : Addr) (d : Option Addr) : Prop := H a = some (exo a C d) ∨ H a = some (XV a C d)
def DAt (H : Hp) (d : Addr) (fs : List (Str × V)) : Prop := H d = some (exd d fs) ∨ H d = some (.xd fs)
section
variable {X : Cx} {pins : List (Addr × Obj)} {σ : L2.St} {H : Hp} {s : Shared} {a C d : Addr} {o : Option Addr} {fs : List (Str × V)}
theorem dat_get (I : Inv X pins σ H s) (h : DAt H d fs) : ∃ mA, s.heap.Ns1 d mA ∧ ∀ f, RelO (fs.lookup f) (mA f) := by
  rcases h with h | h
  · obtain ⟨q, _⟩ := I.hok d _ h
    exact q
  · exact I.hok d _ h
end
end SJ
namespace SJ
open PySem PySem.Spec PyProof.Rows L2 He
def keyP : Key → PyData
  | .inl i => .int i
  | .inr z => .str z
mutual
/-- what a tracked value reads as, dicts among it -/
inductive Dq (K : PySem.W.Frag) (H : Hp) : V → PyData → Prop
  | non : Dq K H .non .none
  | bl (b : Bool) : Dq K H (.bl b) (.bool b)
  | int (i : Int) : Dq K H (.int i) (.int i)
  | str (x : Str) : Dq K H (.str x) (.str x)
  | lst {a : Addr} {xs : List V} {ds : List PyData} : H a = some (.lst xs) → DqAll K H xs ds → Dq K H (.ref a) (.list ds)
  | tup {a : Addr} {xs : List V} {ds : List PyData} : SqT K H a xs → DqAll K H xs ds → Dq K H (.ref a) (.tuple ds)
  | dic {a : Addr} {kvs : List (Key × V)} {ps : List (PyData × PyData)} : H a = some (.dK kvs) → ps.map (·.1) = kvs.map (fun q => keyP q.1) → DqAll K H (kvs.map (·.2)) (ps.map (·.2)) → Dq K H (.ref a) (.dict ps)
inductive DqAll (K : PySem.W.Frag) (H : Hp) : List V → List PyData → Prop
  | nil : DqAll K H [] []
  | cons {v : V} {vs : List V} {d : PyData} {ds : List PyData} : Dq K H v d → DqAll K H vs ds → DqAll K H (v :: vs) (d :: ds)
end
section
variable {X : Cx} {pins : List (Addr × Obj)} {σ : L2.St} {H : Hp} {s : Shared}
theorem not_sys (hk : (X.K.lookup sysModules).isSome = true) (I : Inv X pins σ H s) {a : Addr} {o : HO} (h : H a = some o) : sysModules ≠ a := fun e => by
  obtain ⟨o2, z2⟩ := Option.isSome_iff_exists.mp hk
  have z := (I.bs _ _ (I.ok.mod.kin _ _ z2)).2
  rw [e, h] at z
  cases z
theorem keys_read {P : Program} {w : World} {h : Heap} : ∀ {es : List DictEntry} {kvs : List (Key × V)} {vs : List (Key × Value)}, Pairs (mixKind P w) es vs → KV kvs vs → ReadsAll h (es.map (·.key)) (kvs.map fun q => keyP q.1) [] ∧ Vals (kvs.map (·.2)) (es.map (·.val))
  | _, _, _, .nil, .nil => ⟨.nil, .nil⟩
  | _, _, _, .cons (e := de) (kv := (k, v)) e1 e2 a, .cons (a := (k2, x)) ⟨r1, r2⟩ b => by
    obtain ⟨h1, h2⟩ := keys_read a b
    have r1 : k2 = k := r1
    subst r1
    refine ⟨?_, .cons (by show RelV x de.val; rw [e2]; exact r2) h2⟩
    have e1 : keyIs k2 _ = true := e1
    rcases keyIs_shape e1 with ⟨i, t, rfl, e⟩ | ⟨z, t, rfl, e⟩
    · show ReadsAll h (_ :: _) (.int i :: _) ([] ++ [])
      refine .cons ?_ h1
      show Reads h de.key (.int i) []
      rw [e]
      exact .int i t
    · show ReadsAll h (_ :: _) (.str z :: _) ([] ++ [])
      refine .cons ?_ h1
      show Reads h de.key (.str z) []
      rw [e]
      exact .str z t
mutual
theorem Dq.reads (hk : (X.K.lookup sysModules).isSome = true) (I : Inv X pins σ H s) : ∀ {v : V} {d : PyData} {u : Value}, Dq X.K H v d → RelV v u → ∃ as, Reads s.heap u d as ∧ sysModules ∉ as
  | _, _, _, .non, r => by
    cases r
    exact ⟨_, .none, List.not_mem_nil⟩
  | _, _, _, .bl b, r => by
    cases r
    exact ⟨_, .bool b, List.not_mem_nil⟩
  | _, _, _, .int i, r => by
    obtain ⟨t, rfl⟩ := r
    exact ⟨_, .int i t, List.not_mem_nil⟩
  | _, _, _, .str z, r => by
    obtain ⟨t, rfl⟩ := r
    exact ⟨_, .str z t, List.not_mem_nil⟩
  | _, _, _, .lst e q, r => by
    cases r
    obtain ⟨its, rv, ⟨o, n, ho, hc, _, hd⟩, _⟩ := I.list (SqL.of e)
    obtain ⟨as, hr, na⟩ := DqAll.reads hk I q rv
    refine ⟨_, .list ho hc hd hr, fun m => ?_⟩
    rcases List.mem_cons.mp m with m | m
    · exact not_sys hk I e m
    · exact na m
  | _, _, _, .tup e q, r => by
    cases r
    obtain ⟨its, rv, ⟨o, ho, hc, n, hd⟩, _⟩ := I.tuple e
    obtain ⟨as, hr, na⟩ := DqAll.reads hk I q rv
    exact ⟨_, .tuple ho hc hd hr, na⟩
  | _, _, _, .dic (kvs := kvs) (ps := ps) e k q, r => by
    cases r
    obtain ⟨_, ns, vs, kv, o, es, ep, ho, hx, hd, _, hes, _⟩ := dk_of I.hok e
    obtain ⟨r1, r2⟩ := keys_read (h := s.heap) hes kv
    obtain ⟨as, hr, na⟩ := DqAll.reads hk I q r2
    have rd : Reads s.heap (.ref _) (.dict ps) (_ :: [] ++ as) := .dict ho hx.1 hd (by rw [k]; exact r1) hr
    refine ⟨_, rd, fun m => ?_⟩
    rcases List.mem_append.mp m with m | m
    · rcases List.mem_cons.mp m with m | m
      · exact not_sys hk I e m
      · cases m
    · exact na m
theorem DqAll.reads (hk : (X.K.lookup sysModules).isSome = true) (I : Inv X pins σ H s) : ∀ {vs : List V} {ds : List PyData} {us : List Value}, DqAll X.K H vs ds → Vals vs us → ∃ as, ReadsAll s.heap us ds as ∧ sysModules ∉ as
  | _, _, _, .nil, r => by
    cases r
    exact ⟨_, .nil, List.not_mem_nil⟩
  | _, _, _, .cons h1 h2, r => by
    cases r with
    | cons r1 r2 =>
      obtain ⟨as, q1, n1⟩ := Dq.reads hk I h1 r1
      obtain ⟨bs, q2, n2⟩ := DqAll.reads hk I h2 r2
      refine ⟨_, .cons q1 q2, fun m => ?_⟩
      rcases List.mem_append.mp m with m | m
      · exact n1 m
      · exact n2 m
end
end
def rReprQ (K : PySem.W.Frag) : List V → Hp → VK → Prop := fun xs H Q => ∃ (x : V) (d : PyData), xs = [x] ∧ Dq K H x d ∧ d.showable = true ∧ d.depth ≤ 100 ∧ d.shown.length ≤ sizeLine ∧ Q (.str d.shown) H
section
variable {X : Cx} {k : Nat}
theorem c_reprQ (hk : (X.K.lookup sysModules).isSome = true) (hr : Rm k X.A) : CallR X (.builtin "repr") (rReprQ X.K) := by
  intro pins s σ H xs us Q I r h
  obtain ⟨x, d, rfl, hd, sh, dp, sz, q⟩ := h
  obtain ⟨u1, rfl, r1⟩ := vals1 r
  obtain ⟨as, rd, ns⟩ := Dq.reads hk I hd r1
  have hu : X.A.units + (d.depth + 1) < cLine := by have := hr.r.un; omega
  have fin : ∀ (h2 : Heap) (u : Tok) (tk : Nat), (∀ b o, s.heap.get? b = some o → h2.get? b = some o) → EP X pins σ Q (.str d.shown u) { s with heap := h2, toks := tk } := fun h2 u tk kp => ⟨.str d.shown, H, I.kept kp, ⟨u, rfl⟩, q⟩
  cases hd with
  | non => obtain rfl : u1 = Value.none := r1; exact P.repr_of_none (fin _ _ _ fun _ _ z => z)
  | bl b => obtain rfl : u1 = Value.bool b := r1; exact P.repr_of_bool (fin _ _ _ fun _ _ z => z)
  | int i => obtain ⟨t, rfl⟩ := r1; exact P.repr_of_int (of_decide_eq_true sh) (fin _ _ _ fun _ _ z => z)
  | str z => obtain ⟨t, rfl⟩ := r1; exact P.repr_of_str (fin _ _ _ fun _ _ z => z) (by simpa only [PyData.shown] using sz)
  | lst e ha => obtain rfl := (show u1 = Value.ref _ from r1); exact repr_of_reads' rd sh (fun _ => ns) hr.g hu (fun _ _ z => z) fin sz
  | tup e ha => obtain rfl := (show u1 = Value.ref _ from r1); exact repr_of_reads' rd sh (fun _ => ns) hr.g hu (fun _ _ z => z) fin sz
  | dic e k ha => obtain rfl := (show u1 = Value.ref _ from r1); exact repr_of_reads' rd sh (fun _ => ns) hr.g hu (fun _ _ z => z) fin sz
end
end SJ
namespace SJ
open PySem PySem.Spec PyProof.Rows L2 He
def rReprI : List V → Hp → VK → Prop := fun xs H Q => ∃ i : Int, xs = [.int i] ∧ i.natAbs.log2 < 1920 ∧ Q (.str (toString i)) H
theorem c_reprI {X : Cx} : CallR X (.builtin "repr") rReprI := by
  intro pins s σ H xs us Q I r h
  obtain ⟨i, rfl, sh, q⟩ := h
  obtain ⟨u1, rfl, t, rfl⟩ := vals1 r
  exact P.repr_of_int sh ⟨.str (toString i), H, I.tok _, ⟨_, rfl⟩, q⟩
def rReprU (K : PySem.W.Frag) : List V → Hp → VK → Prop := fun xs H Q => rRepr K xs H Q ∨ (rReprQ K xs H Q ∨ rReprI xs H Q)
theorem c_reprU {X : Cx} {k : Nat} (hk : (X.K.lookup sysModules).isSome = true) (hr : Rm k X.A) : CallR X (.builtin "repr") (rReprU X.K) := by
  intro pins s σ H xs us Q I r h
  rcases h with h | h | h
  · exact c_repr hr pins s σ H xs us Q I r h
  · exact c_reprQ hk hr pins s σ H xs us Q I r h
  · exact c_reprI pins s σ H xs us Q I r h
def sysT : Tst := fun K => (K.lookup sysModules).isSome
def xcT (x : Str) : Tst := fun K => xfB K (ga K x) && (eqO (PySem.W.findIn K (.ref (ga K x)) "__class__") (some (some (.builtin "object.__class__"))) && (eqO (PySem.W.specialIn K (.builtin "object.__class__") "__get__") (some (some (.builtin "getset_descriptor.__get__"))) &&
  (decide (PySem.W.takesIn K (.builtin "object.__class__") = some true) && decide (PySem.W.mroIn K (ga K x) (.type "object") = some true))))
theorem xcT_ok {K : PySem.W.Frag} {x : Str} (c : xcT x K = true) : L2.ExcC K (ga K x) := by
  obtain ⟨c1, c⟩ := ba c
  obtain ⟨c2, c⟩ := ba c
  obtain ⟨c3, c⟩ := ba c
  obtain ⟨c4, c5⟩ := ba c
  have T := xfB_ok c1
  exact ⟨T.ga, T.gg, T.exC, T.hdC, eqO_ok c2, eqO_ok c3, of_decide_eq_true c4, of_decide_eq_true c5⟩
/-- an exception object with its fields -/
def XE (H : Hp) (a C : Addr) (fs : List (Str × V)) : Prop := ∃ d, XAt H a C (some d) ∧ DAt H d fs
section
variable {K : PySem.W.Frag} {σ : L2.St} {H : Hp} {Q : VK} {ta tk : TA} {te : TE} {D : Ends} {C a : Addr} {fs : List Str} {vs zs ws : List V} {f : Str} {v : V}
theorem x_reprD {x : V} {d : PyData} (h : Dq K H x d) (sh : d.showable = true) (dp : d.depth ≤ 100) (sz : d.shown.length ≤ 100000) (k : Q (.str d.shown) H) : rReprU K [x] H Q := .inr (.inl ⟨x, d, rfl, h, sh, dp, Nat.le_trans sz (by decide), k⟩)
end
end SJ
namespace SJ
open PySem PySem.Spec PyProof.Rows L2 He
local macro_rules | `(tactic| walk_at "go") => `(tactic| (repeat (first
  | with_reducible apply x_seq | with_reducible apply x_asg | with_reducible apply x_ret | with_reducible apply x_if | with_reducible apply x_test | with_reducible apply x_B | with_reducible apply x_op | (with_reducible apply x_var rfl) | with_reducible apply x_c
  | with_reducible apply x_cb | with_reducible apply x_cons | with_reducible apply x_nil | with_reducible apply x_bl2 | with_reducible apply x_st2 | with_reducible apply ite_t | with_reducible apply ite_f | with_reducible apply ite_n | with_reducible apply x_and | with_reducible apply x_or | with_reducible apply x_not | with_reducible apply x_andV | with_reducible apply x_orV | with_reducible apply x_notV
  | with_reducible apply x_addI | with_reducible apply x_sub' | with_reducible apply x_eqI | with_reducible apply x_neI | with_reducible apply x_eqT | with_reducible apply x_neT | with_reducible apply x_ltI | with_reducible apply x_leI | with_reducible apply x_gtI | with_reducible apply x_geI
  | with_reducible apply x_intI | with_reducible apply x_intBl | with_reducible apply x_absI | with_reducible apply x_asgG | with_reducible apply x_sub | with_reducible apply x_lst | with_reducible apply x_tup | with_reducible apply x_next | with_reducible apply x_drop
  | with_reducible apply x_ife | with_reducible apply x_chain | with_reducible apply x_inSg | with_reducible apply x_yes | with_reducible apply x_sl | with_reducible apply x_noPart | with_reducible apply x_part | with_reducible apply x_in2 | with_reducible apply x_fs | with_reducible apply x_js | with_reducible apply x_js0 | with_reducible apply x_fmtE | with_reducible apply x_m0 | with_reducible apply x_fld0 | with_reducible apply x_con0 | with_reducible apply x_pr0 | with_reducible apply x_sfld
  | (with_reducible refine x_new ?_ ?_; · exact Nat.le_of_ble_eq_true rfl)
  | with_reducible apply x_fn | with_reducible apply x_nw | with_reducible apply x_bm | with_reducible apply x_par | with_reducible apply x_rz | with_reducible apply x_retN | with_reducible apply x_un | with_reducible apply x_U)))
def letters : List Nat := ("abcdefghijklmnopqrstuvwxyz" : Str).cps.toList
/-- is the text a name -/
def nameB (z : Str) : Bool := decide (1 ≤ z.length) && (decide (z.length ≤ 8) && ((z.cps.toList.all fun c => decide (c ∈ letters)) && !(inV (.str z) [.str "ground", .str "power", .str "nothing"])))
end SJ
namespace SJ
open PySem PySem.Spec PyProof.Rows L2 He
/-- may be shown; depth, size -/
def Sh (n w : Nat) (d : PyData) : Prop := d.showable = true ∧ d.depth ≤ n ∧ d.shown.length ≤ w
theorem Sh.mono {n w n2 w2 : Nat} {d : PyData} (h : Sh n w d) (a : n ≤ n2) (b : w ≤ w2) : Sh n2 w2 d := ⟨h.1, Nat.le_trans h.2.1 a, Nat.le_trans h.2.2 b⟩
theorem sh_all : ∀ ds : List PyData, (∀ d ∈ ds, d.showable = true) → PyData.showableAll ds = true
  | [], _ => by simp only [PyData.showableAll]
  | d :: ds, h => by
    simp only [PyData.showableAll]
    rw [h d (List.mem_cons_self ..), sh_all ds fun e q => h e (List.mem_cons_of_mem _ q)]
    rfl
theorem sh_len : ∀ ds : List PyData, (PyData.shownAll ds).length = ds.length
  | [] => by simp only [PyData.shownAll, List.length_nil]
  | d :: ds => by simp only [PyData.shownAll, List.length_cons, sh_len ds]
theorem sh_sum {w : Nat} : ∀ ds : List PyData, (∀ d ∈ ds, d.shown.length ≤ w) → ((PyData.shownAll ds).map (·.length)).sum ≤ ds.length * w
  | [], _ => by simp only [PyData.shownAll, List.map_nil, List.sum_nil]; exact Nat.zero_le _
  | d :: ds, h => by
    simp only [PyData.shownAll, List.map_cons, List.sum_cons, List.length_cons]
    have h1 := h d (List.mem_cons_self ..)
    have h2 := sh_sum ds fun e q => h e (List.mem_cons_of_mem _ q)
    rw [Nat.add_mul, Nat.one_mul]
    omega
theorem join_len : ∀ ts : List Str, (Str.join ", " ts).length ≤ (ts.map (·.length)).sum + 2 * ts.length
  | [] => Nat.zero_le _
  | [x] => by show x.length ≤ _; simp only [List.map_cons, List.map_nil, List.sum_cons, List.sum_nil, List.length_cons, List.length_nil]; omega
  | x :: y :: r => by
    have ih := join_len (y :: r)
    have e : (Str.join ", " (x :: y :: r)).length = x.length + 2 + (Str.join ", " (y :: r)).length := by
      show (x ++ ", " ++ Str.join ", " (y :: r)).length = _
      rw [PySem.Str.length_append, PySem.Str.length_append]
      rfl
    rw [e]
    simp only [List.map_cons, List.sum_cons, List.length_cons] at ih ⊢
    omega
theorem sh_tup {n w : Nat} {ds : List PyData} (h : ∀ d ∈ ds, Sh n w d) : Sh (n + 1) (ds.length * (w + 2) + 3) (.tuple ds) := by
  refine ⟨?_, ?_, ?_⟩
  · simp only [PyData.showable]; exact sh_all ds fun d q => (h d q).1
  · simp only [PyData.depth]; exact Nat.succ_le_succ (dep_all ds fun d q => (h d q).2.1)
  · simp only [PyData.shown]
    unfold tupleText
    have h1 := join_len (PyData.shownAll ds)
    have h2 := sh_sum ds fun d q => (h d q).2.2
    rw [sh_len] at h1
    rw [Nat.mul_add, PySem.Str.length_append, PySem.Str.length_append]
    have e1 : (Str.ofString "(").length = 1 := rfl
    have e2 : (Str.ofString (if ((PyData.shownAll ds).length == 1) = true then ",)" else ")")).length ≤ 2 := by
      split
      · exact Nat.le_refl 2
      · exact Nat.le_of_ble_eq_true rfl
    omega
theorem shs_nil {n w : Nat} : ∀ d ∈ ([] : List PyData), Sh n w d := fun _ m => nomatch m
theorem shs_cons {n w : Nat} {d : PyData} {ds : List PyData} (h : Sh n w d) (t : ∀ e ∈ ds, Sh n w e) : ∀ e ∈ d :: ds, Sh n w e := fun e m => by
  rcases List.mem_cons.mp m with rfl | m
  · exact h
  · exact t e m
theorem x_reprS {K : PySem.W.Frag} {H : Hp} {Q : VK} {x : V} {d : PyData} {n w : Nat} (h : Dq K H x d) (s : Sh n w d) (hn : n ≤ 100) (hw : w ≤ 100000) (k : Q (.str d.shown) H) : rReprU K [x] H Q := x_reprD h s.1 (Nat.le_trans s.2.1 hn) (Nat.le_trans s.2.2 hw) k
end SJ
namespace SJ
open PySem PySem.Spec PyProof.Rows L2 He
def XW (a : Addr) (cls : Value) (d : Option Addr) : HO := .ext fun h => ∃ (oe : Obj) (vs : Array Value), h.get? a = some oe ∧ oe.cls = cls ∧ oe.dict = d ∧ oe.data = .fields vs
section
variable {X : Cx} {pins : List (Addr × Obj)} {σ : L2.St} {H : Hp} {s : Shared}
/-- an object that was not there at the entry is tracked from here on -/
theorem inv_track {a : Addr} {oe : Obj} {vs : Array Value} {cls : Value} {d : Option Addr} (I : Inv X pins σ H s) (na : H a = none) (n0 : X.s_0.heap.get? a = none) (he : s.heap.get? a = some oe) (hd : oe.data = .fields vs) (hz : Zc cls d oe) (nL : a ≠ X.env.locals) (np : ∀ p ∈ X.pn ++ pins, p.1 ≠ a) :
    Inv X pins σ (upd H a (XW a cls d)) s := by
  have ne : ∀ {b : Addr} {o : HO}, H b = some o → b ≠ a := fun h => ne_of_none h na
  have n1 : ∀ {b : Addr} {o : Obj}, X.s_0.heap.get? b = some o → b ≠ a := fun {b o} h e => by rw [e, n0] at h; cases h
  refine ⟨I.ok, I.os, I.bare, ⟨I.base.keep, I.base.slot, fun b o h1 h2 h3 => ?_, I.base.there, fun b xs h => ?_, fun b u xs h => ?_, fun b ps h => ?_⟩, I.loc, I.cell, ?_, fun x c h => ?_, fun p hp => ?_, fun b o h => ?_, I.len⟩
  · rw [upd_ne (n1 h1)]; exact I.base.free b o h1 h2 h3
  · have q := I.base.tups b xs h
    rw [upd_ne (ne q)]; exact q
  · have q := I.base.frzs b u xs h
    rw [upd_ne (ne q)]; exact q
  · obtain ⟨qs, q⟩ := I.base.tbls b ps h
    exact ⟨qs, by rw [upd_ne (ne q)]; exact q⟩
  · rw [upd_ne (Ne.symm nL)]; exact I.free
  · have nc : c ≠ a := fun e => by
      obtain ⟨v, o, q1, q2⟩ := I.cell x c h
      rw [e, he] at q1
      cases q1
      rw [hd] at q2
      cases q2
    rw [upd_ne nc]; exact I.freeC x c h
  · obtain ⟨p1, p2, p3⟩ := I.pin p hp
    exact ⟨p1, by rw [upd_ne (np p hp)]; exact p2, p3⟩
  · exact (I.hok.laidN (h' := s.heap) (o := XW a cls d) (fun _ _ q => q) na ⟨⟨oe, vs, he, hz.1, hz.2, hd⟩, ⟨oe, he⟩, fun _ _ ⟨o2, v2, q, r⟩ k => ⟨o2, v2, k o2 q, r⟩⟩) b o h
end
/-- the wish: the clause takes it, then the object stays tracked -/
def wKeep (K : PySem.W.Frag) (c : Value) (i : Nat) (ts : Addr → Value → Option Addr → TS) (Wout : WX) (D : Ends) : WX := fun cls d σ H =>
  ∃ b, PySem.W.exmOne K cls c = some b ∧ (b = true → ∀ a, H a = none → ts a cls d { nx := fun s2 H2 => D.nx (s2.set i none) (upd H2 a (XW a cls d)), rt := fun v H2 => D.rt v (upd H2 a (XW a cls d)), bk := fun s2 H2 => D.bk (s2.set i none) (upd H2 a (XW a cls d)), ct := fun s2 H2 => D.ct (s2.set i none) (upd H2 a (XW a cls d)) } (σ.set i (some (.ref a))) H) ∧ (b = false → Wout cls d σ H)
def tTryK (K : PySem.W.Frag) (c : Addr) (i : Nat) (tb : WX → TS) (ts : Addr → Value → Option Addr → TS) (Wout : WX) : TS := fun D σ H => tb (wKeep K (.ref c) i ts Wout D) D σ H
section
variable {X : Cx} {x n : Str} {c : Addr} {i : Nat} {body suite : List Stmt} {b0 : Stmt} {np pos pos2 : Pos} {tb : WX → TS} {ts : Addr → Value → Option Addr → TS} {Wo : WX}
theorem ps_tryK (hs : X.stack = X.env :: X.outer) (hf : X.env.frame = some X.env.locals) (hN : X.N.Nodup) (hi : X.N[i]? = some n) (hln : X.env.kindOf n = some .local) (hg : Gl X x) (hm : X.mg x = some (.ref c)) (tk : Takes X Wo)
    (hb : ∀ (W : WX) (pn : List (Addr × Obj)) (xe : Value → Shared → Prop), Takes (X.tr pn xe) W → PassesOwn (model X.prog X.w) X.A X.env xe → PSs (X.tr pn xe) body (tb W))
    (hsu : ∀ (a : Addr) (oe : Obj) (cls : Value) (d : Option Addr) (pn : List (Addr × Obj)), Zc cls d oe → (∃ vs, oe.data = .fields vs) → PSs (X.suite a ((a, oe) :: pn)) (b0 :: suite) (ts a cls d)) (hex : X.ex = [] := by rfl) (hdb : (x == ("__debug__" : Str)) = false := by decide) :
    PS X (.Try body [.ExceptHandler (some (.Name x np)) (some n) (b0 :: suite) pos2] [] [] pos) (tTryK X.K c i tb ts Wo) := by
  refine ⟨fun pins s σ H D I h => ?_⟩
  have ok := I.ok
  have efr : X.A.frames = some (X.env :: X.outer) := by rw [ok.frames, hs]
  have eloc : Loc X.env.scope n := .inl hln
  refine wpAny_Try_except (wpAny_mono ((hb (wKeep X.K (.ref c) i ts Wo D) (X.pn ++ pins) (fun er s1 => wpAny (model X.prog X.w) X.A (noteFrame er X.env) (fun _ s2 => wpAny (model X.prog X.w) X.A (setFlight er none) (fun _ s3 =>
    wpAny (model X.prog X.w) X.A (handleBy er X.env [.ExceptHandler (some (.Name x np)) (some n) (b0 :: suite) pos2]) (SP X pins D) X.xe s3) X.xe s2) X.xe s1) (fun u s2 xx => ?_) PassesOwn.looking).run [] s σ H D (I.toTry _) h) (fun f s1 hsp => ?_) (fun _ _ z => z))
  · obtain ⟨a, B, sI, pins2, σ2, H2, cls, d, rfl, J0, nb, up, sky, na, os, ag, b, hb1, yes, no⟩ := xx
    have J : Inv X pins σ2 H2 sI := J0.ofTry ok
    have sky2 : Sky B (X.env :: X.outer) a (Zc cls d) X.env.locals s2.heap := by rw [← hs]; exact sky
    show wpAny (model X.prog X.w) X.A (noteFrame (.ref a) X.env) _ _ _
    refine Sky.land Zc.steady efr hf sky2 fun h3 fl3 up3 => ?_
    have J3 : Inv X pins σ2 H2 { s2 with heap := h3 } := J.landed nb fl3.1 (up.trans up3) os ag
    obtain ⟨o3, v3, g3, z3, d3⟩ := fl3.there
    have nfr : a ∉ frs (X.env :: X.outer) := fun hm => by
      obtain ⟨_, o4, g4, hnf⟩ := fl3.2.2.1.mem hm
      rw [g3] at g4; cases g4
      exact hnf _ d3
    have nL : a ≠ X.env.locals := fun z => nfr (List.mem_filterMap.mpr ⟨X.env, List.mem_cons_self, by rw [hf, z]⟩)
    have nF : a ∉ X.fs := fun hm => by
      obtain ⟨en, he, q⟩ := List.mem_filterMap.mp hm
      exact nfr (List.mem_filterMap.mpr ⟨en, List.mem_cons_of_mem _ he, q⟩)
    have nB : B.get? a = none := fl3.2.1
    have nI : ∀ o, sI.heap.get? a ≠ some o := fun o z => by
      have y := nb a o z (by rw [hs]; exact nfr)
      rw [nB] at y; cases y
    have S3 := J3.suite g3 d3 na nL nF
    refine wpAny_handleBy_cons (codeAny_handlers_test ?_) (by intro q; cases q)
    have LT : PySem.W.Looks (model X.prog X.w) h3 (typeOf (.ref a)) cls := fun A Q E s k q => wpAny_typeOf_ref (k _ _ g3) (by rw [z3.1]; exact q)
    have LM := PySem.W.exm_one (M := model X.prog X.w) (J3.kIn) LT hb1
    refine ld_glob (X := X.suite a ((a, o3) :: (X.pn ++ pins))) S3 hg hm (LM.here ?_) hdb
    cases b with
    | true =>
      refine codeAny_handlers_suite_as (HandSPX.lands_againZ fl3 fun h4 fl4 up4 => ?_)
      have J4 : Inv X pins σ2 H2 { s2 with heap := h4 } := J.landed nb fl4.1 ((up.trans up3).trans up4) os ag
      obtain ⟨o4, v4, g4, z4, d4⟩ := fl4.there
      have S4 := J4.suite g4 d4 na nL nF
      refine store_ok (X := X.suite a ((a, o4) :: (X.pn ++ pins))) (v := .ref a) S4 hN hi eloc rfl (fun s5 S5 => ?_) (.inr hln)
      refine wpAny_mono ((hsu a o4 cls d (X.pn ++ pins) z4 ⟨_, d4⟩).run [] s5 _ H2 _ S5 (yes rfl a na)) (fun f s6 hsp => ?_) (fun _ _ z => False.elim z)
      have n0 : X.s_0.heap.get? a = none := by
        cases q : X.s_0.heap.get? a with
        | none => rfl
        | some o =>
          obtain ⟨o5, q5⟩ := J.base.there a o q (by rw [hex]; exact List.not_mem_nil)
          exact absurd q5 (nI o5)
      have npn : ∀ p ∈ X.pn ++ pins, p.1 ≠ a := fun p hp e => by
        have q := (J.pin p hp).1
        rw [e] at q
        exact nI _ q
      have fin : ∀ {σ6 : L2.St} {H6 : Hp} {Q : Shared → Prop}, Inv (X.suite a ((a, o4) :: (X.pn ++ pins))) [] σ6 H6 s6 → (∀ s7, Inv X pins (σ6.set i none) (upd H6 a (XW a cls d)) s7 → Q s7) →
          wpAny (model X.prog X.w) X.A (do bindName X.env n .none; unbindBehindTheSuite X.env n pos2) (fun _ s7 => Q s7) X.xe s6 := fun {σ6 H6 Q} S6 hq => by
        obtain ⟨p1, p2, _⟩ := S6.pin (a, o4) (List.mem_append_left _ List.mem_cons_self)
        exact gone_ok (inv_track (S6.unsuite ok) p2 n0 p1 d4 z4 nL npn) hN hi hln hq
      cases f with
      | next => obtain ⟨σ6, H6, S6, q6⟩ := hsp; exact fin S6 fun s7 J7 => ⟨_, _, J7, q6⟩
      | brk => obtain ⟨σ6, H6, S6, q6⟩ := hsp; exact fin S6 fun s7 J7 => ⟨_, _, J7, q6⟩
      | cont => obtain ⟨σ6, H6, S6, q6⟩ := hsp; exact fin S6 fun s7 J7 => ⟨_, _, J7, q6⟩
      | ret u => obtain ⟨v6, σ6, H6, S6, r6, q6⟩ := hsp; exact fin S6 fun s7 J7 => ⟨_, _, _, J7, r6, q6⟩
    | false =>
      show wpAny _ X.A (handleBy (.ref a) X.env []) _ _ _
      refine wpAny_handleBy_nil ?_
      obtain ⟨k1, k2, k3, o5, v5, T5, oT, t5, g5, z5, d5, w5, r5⟩ := id fl3
      unfold PySem.passOn
      refine wpAny_bind (wpAny_field g5 d5 w5 ?_)
      rw [if_neg (show ¬ ((Value.ref T5 == Value.none) = true) from by simp)]
      have fin : wpAny (model X.prog X.w) X.A (setFlight (.ref a) X.env.frame) (fun _ s4 => wpAny (model X.prog X.w) X.A (throw (.ref a) : Sem Flow) (SP X pins D) X.xe s4) X.xe { s2 with heap := h3 } := by
        rw [hf]
        exact HandSPX.setFlight_upZ fl3 fun h4 hh4 up4 => wpAny_throw (tk _ _ ⟨a, B, sI, pins, σ2, H2, cls, d, rfl, J, nb, (up.trans up3).trans up4, .inr (.inr (by rw [hs]; exact hh4)), na, os, ag, no rfl⟩)
      first
        | exact wpAny_bind (wpAny_pure (wpAny_bind fin))
        | exact wpAny_bind fin
  · cases f with
    | next => obtain ⟨σ2, H2, J0, q⟩ := hsp; exact wpAny_execs_nil ⟨σ2, H2, J0.ofTry ok, q⟩
    | brk => obtain ⟨σ2, H2, J0, q⟩ := hsp; exact ⟨σ2, H2, J0.ofTry ok, q⟩
    | cont => obtain ⟨σ2, H2, J0, q⟩ := hsp; exact ⟨σ2, H2, J0.ofTry ok, q⟩
    | ret u => obtain ⟨v, σ2, H2, J0, r, q⟩ := hsp; exact ⟨v, σ2, H2, J0.ofTry ok, r, q⟩
end
end SJ
namespace SJ
open PySem PySem.Spec PyProof.Rows L2 He
/-- the binder comes to making the tuple of what is left over -/
def BindS (s : Shared) (fd : FuncData) (args : Args) (l : List (Str × Value)) (pv : Str) (rest : List Value) : Prop :=
  ∀ (M : Model) (A : Around) (Q : List (Str × Value) → Shared → Prop) (E : Value → Shared → Prop), wpAny M A (newTuple rest >>= fun t => pure (l ++ [(pv, t)])) Q E s → wpAny M A (bindArgs fd args) Q E s
/-- what such a def promises: values of the parameters, then the tuple -/
structure Fs (P : Program) (w : World) (K : PySem.W.Frag) (mg : Str → Option Value) (base : Heap) (k : Nat) (f : Addr) (fd : FuncData) (ps : List Str) (pv : Str) (sp : Sp) : Prop where
  run : ∀ (A : Around) (outer : List Env) (s : Shared) (H : Hp) (args : Args) (us rs : List Value) (vs xs : List V) (Q : VK) (E : XK), Rm k A → Env0 P w K mg base A outer s H → BindS s fd args (ps.zip us) pv rs → Vals vs us → Vals xs rs → vs.length = ps.length → xs.length ≤ sizeLine →
    (∀ p, H p = none → sp (vs ++ [.ref p]) (upd H p (.tup xs)) Q E) → codeAny (model P w) A (.call (.ref f) args) (CR (L2.CX P w) outer P w H s Q E) s
end SJ
namespace SJ
open PySem PySem.Spec PySem.W
section
variable {M : Model} {A : Around} {E : Value → Shared → Prop} {s : Shared}
theorem star_kwArgs {f : Value} {x : Sem Value} {pos : Pos} {ks : List (Option Str × Sem Value)} {Q : Args → Shared → Prop} (hall : ks.all (·.1.isSome) = true)
    (h : wpAny M A x (fun v s1 => wpAny M A (evalAll (ks.map (·.2))) (fun us s2 => StarOf M A E v (fun vs s3 => Q ⟨vs, (ks.filterMap (·.1)).zip us⟩ s3) s2) E s1) E s) :
    wpAny M A (evalArgs f true [(true, (do let v ← x; standAt pos; pure v))] ks) Q E s := by
  unfold evalArgs
  first
    | refine wpAny_bind (wpAny_bind (wpAny_mono h (fun v s1 h1 => wpAny_bind (wpAny_standAt (wpAny_pure ?_))) fun _ _ z => z))
    | refine wpAny_bind (wpAny_bind (wpAny_bind (wpAny_mono h (fun v s1 h1 => wpAny_bind (wpAny_standAt (wpAny_pure (wpAny_pure ?_)))) fun _ _ z => z)))
  refine wpAny_holding ?_
  simp only [hall, if_true]
  refine wpAny_bind (wpAny_mono h1 (fun us s2 h2 => ?_) fun _ _ z => z)
  unfold StarOf at h2
  refine wpAny_bind (wpAny_bind (wpAny_mono h2 (fun b s3 h3 => ?_) fun _ _ z => z))
  obtain ⟨rfl, h3⟩ := h3
  try simp only [Bool.false_eq_true, if_false]
  have z : ∀ keep : List Value, wpAny M A (holding keep (collect v)) (fun vs s4 => wpAny M A (pure (⟨vs, (ks.filterMap (·.1)).zip us⟩ : Args)) Q E s4) E s3 := fun keep => wpAny_holding (wpAny_mono h3 (fun vs s4 h4 => wpAny_pure h4) fun _ _ z => z)
  first
    | exact z _
    | exact wpAny_bind (wpAny_pure (z _))
theorem star_callKw {f : Value} {fst : List Value} {pos : Pos} {Q : Value → Shared → Prop} {P : Heap → Prop} {args : List (Bool × Sem Value)} {ks : List (Option Str × Sem Value)} (hst : args.any (·.1) = true)
    (hk : ∀ h, P h → ∃ k, (k = Keeper.frame ∨ k = Keeper.machine ∨ k = Keeper.boundFrame) ∧ Looks M h (keeperOf f) k)
    (h : wpAny M A (evalArgs f true args ks) (fun a s1 => P s1.heap ∧ wpAny M A (call f (fst ++ a.pos) a.kw) Q E s1) E s) : wpAny M A (callWith pos f fst args ks) Q E s := by
  unfold callWith
  refine wpAny_bind (wpAny_holding (wpAny_mono h (fun a s1 h1 => wpAny_bind (wpAny_standAt ?_)) fun _ _ z => z))
  obtain ⟨k, k2, L⟩ := hk _ h1.1
  simp only [hst, Bool.true_or]
  refine wpAny_bind (L.here ?_)
  have tail : ∀ {t : Sem Value}, wpAny M A t Q E s1 → wpAny M A (t >>= fun r => holding [r] point >>= fun _ => pure r) Q E s1 :=
    fun ht => wpAny_bind (wpAny_mono ht (fun r s2 hr => wpAny_bind (wpAny_holding (wpAny_point (wpAny_pure hr)))) fun _ _ z => z)
  have mk (v : Value) : wpAny M A (callMarked v f (fst ++ a.pos) a.kw) Q E s1 := by unfold callMarked; exact Calls.wpAny_keep h1.2
  rcases k2 with rfl | rfl | rfl <;> dsimp only <;> first | exact tail (mk _) | exact tail (wpAny_operating h1.2)
end
end SJ
namespace SJ
open PySem PySem.Spec PyProof.Rows L2 He
/-- reads of the keyword-only defaults, then r -/
def KwTo {α : Type} (D : Addr) : List (Str × Value) → Sem α → Sem α → Prop
  | [], t, r => t = r
  | q :: l, t, r => ∃ (β γ : Type) (k1 : Option Value → Sem β) (k2 : β → Sem γ) (k3 : γ → Sem α) (a : β), t = ((nsGet D q.1 >>= k1) >>= k2) >>= k3 ∧ k1 (some q.2) = pure a ∧ KwTo D l (k2 a >>= k3) r
theorem KwTo.wp {α : Type} {K : PySem.W.Frag} {M : Model} {A : Around} {E : Value → Shared → Prop} {Q : α → Shared → Prop} {s : Shared} {D : Addr} (X : K.In s.heap) : ∀ {l : List (Str × Value)} {t r : Sem α}, (∀ q ∈ l, PySem.W.nsIn K D q.1 = some (some q.2)) → KwTo D l t r → wpAny M A r Q E s → wpAny M A t Q E s
  | [], t, r, _, e, h => by rw [show t = r from e]; exact h
  | q :: l, t, r, hl, e, h => by
    obtain ⟨β, γ, k1, k2, k3, a, e1, e2, e3⟩ := e
    have l1 : PySem.W.Looks M s.heap (nsGet D q.1 >>= k1) a := (PySem.W.looks_nsIn X (hl q (List.mem_cons_self ..))).andThen (PySem.W.Looks.of_pure e2)
    rw [e1, bind_assoc]
    exact wpAny_bind (l1.here (KwTo.wp X (fun p hp => hl p (List.mem_cons_of_mem _ hp)) e3 h))
/-- how a def with *pv binds: n values, the rest, keywords named ks -/
structure KSn (K : PySem.W.Frag) (fd : FuncData) (ps : List Str) (pv : Str) (n : Nat) (ks : List Str) (g : List Value → List Value → List Value) (gV : List V → List V → List V) : Prop where
  to : ∀ (s : Shared) (us ws rest : List Value), K.In s.heap → us.length = n → ws.length = ks.length → BindS s fd ⟨us ++ rest, ks.zip ws⟩ (ps.zip (g us ws)) pv rest
  rel : ∀ {vs : List V} {us : List Value} {zs : List V} {ws : List Value}, Vals vs us → Vals zs ws → Vals (gV vs zs) (g us ws)
theorem ksn_of {K : PySem.W.Frag} {x qual : Str} {pa : Arguments} {bo : List Stmt} {sc : Scope} {kws : List (Str × V)} {f : Addr} {fd : FuncData} {ps : List Str} {pv : Str} (F : FunD K x qual pa bo sc [] kws f fd) (n : Nat) (ks : List Str) (ms : List (Str × V)) (g : {α : Type} → List α → List α → List α → List α)
    (hk : kws ≠ []) (hms : ∀ q ∈ ms, q ∈ kws) (hrel : ∀ {vs mz zs : List V} {us mv ws : List Value}, Vals vs us → Vals mz mv → Vals zs ws → Vals (g vs mz zs) (g us mv ws))
    (h : ∀ (D : Addr) (doc pm : Value) (an : Option Addr) (cdv ct : Value) (us mv ws rest : List Value), us.length = n → mv.length = ms.length → ws.length = ks.length →
      KwTo D ((ms.map (·.1)).zip mv) (bindArgs (PySem.W.fnOf x qual pa bo sc .none (.ref D) doc pm an cdv ct) ⟨us ++ rest, ks.zip ws⟩) (newTuple rest >>= fun t => pure (ps.zip (g us mv ws) ++ [(pv, t)]))) :
    ∃ mv : List Value, KSn K fd ps pv n ks (fun us ws => g us mv ws) (fun vs zs => g vs (ms.map (·.2)) zs) := by
  obtain ⟨oc, od, dV, kV, doc, pm, an, cdv, ct, osl, rfl, lk, hcd, hD, hK⟩ := F.ex
  rcases hD with ⟨_, rfl⟩ | ⟨e, _⟩
  · rcases hK with e | ⟨D, rfl, hq⟩
    · exact absurd e hk
    · obtain ⟨mv, hl, rk, hks⟩ := kwd_vals (ms := ms) fun q hm => hq q (hms q hm)
      exact ⟨mv, ⟨fun s us ws rest kin l1 l2 M A Q E q => KwTo.wp kin hks (h D doc pm an cdv ct us mv ws rest l1 hl l2) q, fun r1 r2 => hrel r1 rk r2⟩⟩
  · exact absurd rfl e
def gNwS (C : Addr) (sp : Sp) (gV : List V → List V → List V) (W : WX) (σ : L2.St) (xs zs : List V) (H2 : Hp) (Q : VK) : Prop := xs.length ≤ sizeLine ∧ ∀ x dx p, H2 x = none → H2 dx = none → dx ≠ x → H2 p = none → p ≠ x → p ≠ dx →
  sp (gV [.ref x] zs ++ [.ref p]) (upd (upd (upd H2 dx (.own x)) x (.ins C dx [])) p (.tup xs)) (fun v H3 => v = .non ∧ Q (.ref x) H3) (WE W σ)
section
variable {X : Cx} {k : Nat} {f C : Addr} {fd : FuncData} {ps ks : List Str} {pv : Str} {sp : Sp} {W : WX} {x : Str} {p pos sps : Pos} {e : Expr} {es : List Expr} {kws : List Keyword} {te : TE} {ta tk : TA} {g : List Value → List Value → List Value} {gV : List V → List V → List V} {mm : Nat}
theorem run_nwS {pins : List (Addr × Obj)} {σ : L2.St} {H : Hp} {s : Shared} {Q : VK} {rs ws : List Value} {xs zs : List V} (M : Mk X.K C f) (F : Fs X.prog X.w X.K X.mg X.base k f fd ps pv sp) (hr : Rm (k + 1) X.A) (tks : Takes X W) (I : Inv X pins σ H s)
    (hb : KSn X.K fd ps pv 1 ks g gV) (hps : ∀ a : V, (gV [a] zs).length = ps.length) (rx : Vals xs rs) (rz : Vals zs ws) (hz : zs.length = ks.length) (h : gNwS C sp gV W σ xs zs H Q) :
    wpAny (model X.prog X.w) X.A (call (.ref C) rs (ks.zip ws)) (EP X pins σ Q) X.xe s := by
  obtain ⟨hxs, h⟩ := h
  have n1 := I.hok.fresh (Nat.le_succ s.heap.objs.size)
  have n0 := I.hok.fresh (Nat.le_refl s.heap.objs.size)
  have J := Inv.made (C := C) I
  have r0 : Vals [V.ref (s.heap.objs.size + 1)] [Value.ref (s.heap.objs.size + 1)] := .cons rfl .nil
  refine wpAny_call (make_map (f := f) I.kIn M.makes M.init (beq_iff_eq.mp M.fn) (codeAny_mono (F.run _ X.stack _ _ ⟨[Value.ref (s.heap.objs.size + 1)] ++ rs, ks.zip ws⟩ _ rs _ xs (fun v H3 => v = .non ∧ Q (.ref (s.heap.objs.size + 1)) H3) (WE W σ) (hr.make C rs (ks.zip ws))
    (J.env0.make C rs (ks.zip ws)) (hb.to _ [.ref (s.heap.objs.size + 1)] ws rs J.kIn rfl (rz.length.symm.trans hz)) (hb.rel r0 rz) rx (hps _) hxs fun q hq => ?_) fun rr s2 hq2 => ?_))
  · have q1 : q ≠ s.heap.objs.size + 1 := fun z => by rw [z, upd_same] at hq; cases hq
    have q2 : q ≠ s.heap.objs.size := fun z => by rw [z, upd_ne (Nat.ne_of_lt (Nat.lt_succ_self _)), upd_same] at hq; cases hq
    rw [upd_ne q1, upd_ne q2] at hq
    exact h _ _ q n1 n0 (Nat.ne_of_lt (Nat.lt_succ_self _)) hq q1 q2
  · cases rr with
    | error er => exact passAt tks σ pins _ _ er s2 J hq2
    | ok fl =>
      cases fl with
      | ret u =>
        obtain ⟨v, H3, I3, r3, ev, q3⟩ := J.after hq2
        subst ev
        exact ⟨r3, ⟨V.ref (s.heap.objs.size + 1), H3, I3, rfl, q3⟩⟩
      | next => exact hq2.elim
      | brk => exact hq2.elim
      | cont => exact hq2.elim
/-- C(*y, k = v, ..) -/
def tNwSs (K : PySem.W.Frag) (C : Addr) (m : Nat) (sp : Sp) (gV : List V → List V → List V) (W : WX) (te : TE) (tk : TA) : TE := fun σ H Q => te σ H fun y H1 => tk σ H1 fun zs H2 => zs.length = m ∧ ∃ a xs, y = .ref a ∧ (SqT K H2 a xs ∨ SqL K H2 a xs) ∧ gNwS C sp gV W σ xs zs H2 Q
/-- .. the class held by the slot i -/
def tAt (i : Nat) (C : Addr) (t : TE) : TE := fun σ H Q => σ[i]? = some (some (.ref C)) ∧ t σ H Q
theorem run_nwSs {pins : List (Addr × Obj)} {σ : L2.St} {H : Hp} {s : Shared} {Q : VK} (M : Mk X.K C f) (F : Fs X.prog X.w X.K X.mg X.base k f fd ps pv sp) (hr : Rm (k + 1) X.A) (hb : KSn X.K fd ps pv 1 ks g gV) (hps : ∀ (a : V) (zs : List V), zs.length = ks.length → (gV [a] zs).length = ps.length) (tks : Takes X W)
    (he : PE X e te) (hkw : PK X kws tk) (hst : starEach [.Starred e sps] X.env = [(true, eval e X.env)]) (hall : (backToKw pos (keywordEach kws X.env)).all (·.1.isSome) = true) (hks : (backToKw pos (keywordEach kws X.env)).filterMap (·.1) = ks) (I : Inv X pins σ H s) (h : tNwSs X.K C ks.length sp gV W te tk σ H Q) :
    wpAny (model X.prog X.w) X.A (callWith pos (.ref C) [] (backTo pos (starEach [.Starred e sps] X.env)) (backToKw pos (keywordEach kws X.env))) (EP X pins σ Q) X.xe s := by
  rw [hst]
  refine star_callKw rfl (PySem.W.keeps_K M.kp) (star_kwArgs hall (thn (he.run pins s σ H _ I h) fun v s1 ⟨y, H1, I1, ry, q1⟩ => ?_))
  refine thn (hkw.run pos pins s1 σ H1 _ I1 q1) fun ws s2 ⟨zs, H2, I2, rz, l2, a, xs, ey, hx, q2⟩ => ?_
  subst ey
  obtain rfl : v = Value.ref a := ry
  refine StX.star_any I2 hx fun us s3 I3 rv => ⟨I3.kIn, ?_⟩
  rw [hks]
  exact run_nwS (rs := us) M F hr tks I3 hb (fun a => hps a zs l2) rv rz l2 q2
/-- .. cls(*y, k = v, ..), cls a local -/
theorem pe_nwSl {i : Nat} (M : Mk X.K C f) (F : Fs X.prog X.w X.K X.mg X.base k f fd ps pv sp) (hr : Rm (k + 1) X.A) (hN : X.N[i]? = some x) (hv : Vis X.env.scope x) (hb : KSn X.K fd ps pv 1 ks g gV) (hps : ∀ (a : V) (zs : List V), zs.length = ks.length → (gV [a] zs).length = ps.length) (tks : Takes X W)
    (he : PE X e te) (hkw : PK X kws tk) (hst : starEach [.Starred e sps] X.env = [(true, eval e X.env)] := by rfl) (hall : (backToKw pos (keywordEach kws X.env)).all (·.1.isSome) = true := by rfl) (hks : (backToKw pos (keywordEach kws X.env)).filterMap (·.1) = ks := by rfl) (hmm : ks.length = mm := by rfl)
    (hdb : (x == ("__debug__" : Str)) = false := by decide) (hcd : (x == ("__classdict__" : Str)) = false := by decide) :
    PE X (.Call (.Name x p) [.Starred e sps] kws pos) (tAt i C (tNwSs X.K C mm sp gV W te tk)) := by
  subst hmm
  refine ⟨fun pins s σ H Q I h => ?_⟩
  obtain ⟨hs, ht⟩ := h
  refine wpAny_Call_Name_kw (thn ((pe_var (pos := p) hN hv hdb hcd).run pins s σ H (fun v H1 => v = .ref C ∧ H1 = H) I ⟨.ref C, hs, rfl, rfl⟩) fun u s1 ⟨v, H1, I1, r1, q1⟩ => ?_)
  obtain ⟨rfl, rfl⟩ := q1
  cases r1
  exact run_nwSs M F hr hb hps tks he hkw hst hall hks I1 ht
end
end SJ
namespace SJ
open PySem PySem.Spec PyProof.Rows L2 He
def tCmK (C : Addr) (n l : Nat) (sp : Sp) (gV : List V → List V → List V) (W : WX) (to : TE) (ta tk : TA) : TE := fun σ H Q => to σ H fun x H1 => x = .ref C ∧ ta σ H1 fun vs H2 => tk σ H2 fun zs H3 => vs.length = n ∧ zs.length = l ∧ sp (gV (.ref C :: vs) zs) H3 Q (WE W σ)
section
variable {X : Cx} {k n : Nat} {f C q g0 : Addr} {mc : Value} {fd : FuncData} {ps ks : List Str} {sp : Sp} {W : WX} {m : Str} {apos pos : Pos} {o e : Expr} {es : List Expr} {kws : List Keyword} {to : TE} {ta tk : TA} {g : List Value → List Value → List Value} {gV : List V → List V → List V} {mm : Nat} {pl : Sem Bool}
/-- the call of a bound record -/
theorem run_met {pins : List (Addr × Obj)} {σ : L2.St} {H : Hp} {s : Shared} {Q : VK} {us ws : List Value} {vs zs : List V} {p : Addr} (F : Fk X.prog X.w X.K X.mg X.base k f fd ps sp) (hr : Rm k X.A) (hb : KBn X.K fd ps (n + 1) ks g gV) (tks : Takes X W)
    (I : Inv X ((p, PySem.W.methodObj (.ref f) (.ref C)) :: pins) σ H s) (rv : Vals vs us) (rz : Vals zs ws) (l1 : vs.length = n) (l2 : zs.length = ks.length) (h : sp (gV (.ref C :: vs) zs) H Q (WE W σ)) :
    wpAny (model X.prog X.w) X.A (call (.ref p) us (ks.zip ws)) (EP X pins σ Q) X.xe s := by
  have rs : Vals (V.ref C :: vs) (Value.ref C :: us) := .cons rfl rv
  have z : wpAny (model X.prog X.w) X.A (call (.ref p) us (ks.zip ws)) (EP X ((p, PySem.W.methodObj (.ref f) (.ref C)) :: pins) σ Q) X.xe s := by
    refine wpAny_call (PySem.W.method_call (ClX.pin_at I) ?_)
    refine codeAny_mono (F.run X.A X.stack s H ⟨Value.ref C :: us, ks.zip ws⟩ _ _ Q (WE W σ) hr I.env0 (hb.to s (.ref C :: us) ws I.kIn (by rw [List.length_cons, ← rv.length, l1]) (rz.length.symm.trans l2)) (hb.rel rs rz) h) fun rr s2 hq => ?_
    cases rr with
    | error er => exact passAt tks σ _ H s er s2 I hq
    | ok fl =>
      cases fl with
      | ret u => exact I.after hq
      | next => exact hq.elim
      | brk => exact hq.elim
      | cont => exact hq.elim
  exact thn z fun _ _ y => ClX.unpinE y
theorem pe_cmK (ho : PE X o to) (r : ClX.CRead X.K C mc) (c : ClX.CMet X.K C mc m g0 f) (F : Fk X.prog X.w X.K X.mg X.base k f fd ps sp) (hr : Rm k X.A) (hb : KBn X.K fd ps (n + 1) ks g gV) (tks : Takes X W) (ha : PA X (e :: es) ta) (hkw : PK X kws tk)
    (hall : (backToKw pos (keywordEach kws X.env)).all (·.1.isSome) = true := by rfl) (hks : (backToKw pos (keywordEach kws X.env)).filterMap (·.1) = ks := by rfl) (hmm : ks.length = mm := by rfl) (he : starEach (e :: es) X.env = (false, eval e X.env) :: starEach es X.env := by rfl)
    (hpl : ((backTo pos (starEach (e :: es) X.env)).any (·.1) || (backToKw pos (keywordEach kws X.env)).any (·.1.isNone)) = false := by rfl) (ht : eval (.Call (.Attribute o m apos) (e :: es) kws pos) X.env = mcl X o m apos pl pos (e :: es) kws := by rfl) :
    PE X (.Call (.Attribute o m apos) (e :: es) kws pos) (tCmK C n mm sp gV W to ta tk) := by
  refine ⟨fun pins s σ H Q I h => ?_⟩
  refine PySem.W.methodCall_KW (pl := pl) (thn (ho.run pins s σ H _ I h) fun u s1 ⟨y, H1, I1, ry, ey, q1⟩ => ?_) ht
  subst ey
  obtain rfl : u = Value.ref C := ry
  refine ClX.getmethcm_ok I1 r c fun s2 I2 => ?_
  refine PySem.W.callWith_of hpl (PySem.W.keeps_M (self := .ref C) c.fi) (PyProof.Rows.evalArgs_kw2 hall (thn (ha.run pos _ s2 σ H1 _ I2 q1) fun us s3 ⟨vs, H2, I3, rv, q2⟩ => ?_) he)
  refine thn (hkw.run pos _ s3 σ H2 _ I3 q2) fun ws s4 ⟨zs, H3, I4, rz, l1, l2, q3⟩ => ⟨⟨ClX.pin_at I4, I4.kIn⟩, ?_⟩
  rw [hks]
  subst hmm
  exact run_met F hr hb tks I4 rv rz l1 l2 q3
end
end SJ
namespace SJ
open PySem PySem.Spec PyProof.Rows L2 He
def rOwnIn (K : PySem.W.Frag) (g : Addr) (sp : Sp) (neg : Bool) : R2 := fun x y H Q => ∃ a C dx fs, y = .ref a ∧ H a = some (.ins C dx fs) ∧ PySem.W.findIn K (.ref C) "__contains__" = some (some (.ref g)) ∧
  sp [.ref a, x] H (fun v H2 => ∃ c, v = .bl c ∧ Q (.bl (if neg then !c else c)) H2) E0
section
variable {X : Cx} {k : Nat} {f : Addr} {fd : FuncData} {ps : List Str} {sp : Sp}
/-- o[e], the class's own __getitem__, which may raise -/
def tOwnGet (K : PySem.W.Frag) (g : Addr) (sp : Sp) (W : WX) (ta tb : TE) : TE := fun σ H Q => ta σ H fun x H1 => tb σ H1 fun y H2 => ∃ a C dx fs, x = .ref a ∧ H2 a = some (.ins C dx fs) ∧ PySem.W.findIn K (.ref C) "__getitem__" = some (some (.ref g)) ∧ sp [x, y] H2 Q (WE W σ)
end
end SJ
namespace SJ
open PySem PySem.Spec PyProof.Rows L2 He
theorem tuple_mul1 (l : Addr) (items : Array Value) (n : Nat) (dd : Option Addr) (sl : Array (Option Value)) (u : Tok) :
    Meets (Builtin.«tuple.__mul__» ⟨[.ref l, .int 1 u], []⟩) (fun _ R s => s.heap.get? l = some { cls := .type "tuple", dict := dd, data := .seq items n, slots := sl } ∧ R (.ok (.ret (Value.ref l))) s) :=
  .of_wp fun prog w A R s h => by
    obtain ⟨hp, g, d, tk, os⟩ := s
    obtain ⟨hl, h⟩ := h
    have f1 := AutoSeq1.idx_int
    wp_walk using wpAny_loadPart' hl
    exact ⟨_, rfl, h⟩
theorem tuple_mul0 (l : Addr) (items : Array Value) (n : Nat) (dd : Option Addr) (sl : Array (Option Value)) (u : Tok) (hi : items.isEmpty = false) :
    Meets (Builtin.«tuple.__mul__» ⟨[.ref l, .int 0 u], []⟩) (fun _ R s => s.heap.get? l = some { cls := .type "tuple", dict := dd, data := .seq items n, slots := sl } ∧
      R (.ok (.ret (Value.ref s.heap.objs.size))) { s with heap := s.heap.push { cls := Value.type "tuple", data := Data.seq #[] }, toks := s.toks }) :=
  .of_wp fun prog w A R s h => by
    obtain ⟨hp, g, d, tk, os⟩ := s
    obtain ⟨hl, h⟩ := h
    have f1 := AutoSeq1.idx_int
    have c1 : (items.isEmpty || (0 : Int) == 1) = false := by rw [hi]; rfl
    wp_walk using wpAny_loadPart' hl
    repeat (first
      | (refine wpAny_ite_false (decide_eq_false (by rw [c1]; exact Bool.false_ne_true)) ?_; wp_walk using wpAny_loadPart' hl))
    exact ⟨_, rfl, h⟩
/-- (x, ..) * 0 or 1 -/
def rRep01 (K : PySem.W.Frag) : R2 := fun x y H Q => ∃ l xs, x = .ref l ∧ SqT K H l xs ∧ xs ≠ [] ∧ ((y = .int 1 ∧ Q (.ref l) H) ∨ (y = .int 0 ∧ ∀ p, H p = none → Q (.ref p) (upd H p (.tup []))))
theorem op_rep01 {X : Cx} : OpR X (binaryOp .Mult) (rRep01 X.K) := by
  intro pins s σ H x y v u Q I rx ry h
  obtain ⟨l, xs, rfl, hT, hne, h⟩ := h
  cases rx
  obtain ⟨its, r, ⟨⟨cls, dd, data, sl⟩, ho, hc, n, hd⟩, hs⟩ := I.tuple hT
  simp only at hc hd
  subst hc hd
  have hi : its.toArray.isEmpty = false := by
    cases its with
    | nil => exact absurd (List.eq_nil_of_length_eq_zero (by rw [r.length]; rfl)) hne
    | cons a b => rfl
  rcases h with ⟨rfl, q⟩ | ⟨rfl, q⟩
  · obtain ⟨t, rfl⟩ := ry
    exact wpAny_binaryOp_repeat_ref (T := "tuple") (U := "int") (by decide) ⟨_, ho, rfl⟩ (fun s' => typeIs_int s' 1 t) noFill_tuple_mul F.fills_int_mul F.slot_int_rmul repeat_tuple F.slot_int_index.lookup
      (call_meets F.slot_int_rmul (typeIs_int s 1 t) F.entry_int_rmul (F.args_int_rmul_2 _ _) (int_rmul_tuple 1 t l its.toArray n dd sl)
        ⟨ho, rfl, ⟨_, ho, rfl⟩, call_meets F.slot_tuple_mul ⟨_, ho, rfl⟩ F.entry_tuple_mul (F.args_tuple_mul_2 _ _) (tuple_mul1 l its.toArray n dd sl t) ⟨ho, .ref l, H, I, rfl, q⟩⟩)
  · obtain ⟨t, rfl⟩ := ry
    refine wpAny_binaryOp_repeat_ref (T := "tuple") (U := "int") (by decide) ⟨_, ho, rfl⟩ (fun s' => typeIs_int s' 0 t) noFill_tuple_mul F.fills_int_mul F.slot_int_rmul repeat_tuple F.slot_int_index.lookup
      (call_meets F.slot_int_rmul (typeIs_int s 0 t) F.entry_int_rmul (F.args_int_rmul_2 _ _) (int_rmul_tuple 0 t l its.toArray n dd sl)
        ⟨ho, rfl, ⟨_, ho, rfl⟩, call_meets F.slot_tuple_mul ⟨_, ho, rfl⟩ F.entry_tuple_mul (F.args_tuple_mul_2 _ _) (tuple_mul0 l its.toArray n dd sl t hi) ⟨ho, ?_⟩⟩)
    refine ⟨.ref s.heap.objs.size, _, I.laid (t' := s.toks) (o := .tup []) (fun b ob q => Heap.get?_push_of_some _ q) (Nat.le_refl _) ?_, rfl, q _ (I.hok.fresh (Nat.le_refl _))⟩
    exact ⟨Nat.zero_le _, [], .nil, IsTup.new _ _⟩
end SJ
namespace SJ
open PySem PySem.Spec PySem.W PySem.Calls PyProof.Rows L2 LamX
section
variable {prog : Program} {w : World} {A : Around} {E : Value → Shared → Prop} {s : Shared} {β : Type} {vs : List Value} {bs : List β} {R : Value → β → Prop}
/-- sorted(xs, key=f), xs any list or tuple -/
theorem sortedU {T : String} {o : Obj} {n : Nat} {l f : Addr} {Q : Value → Shared → Prop} (k : β → PyData) (hT : T = "list" ∨ T = "tuple") (ho : s.heap.get? l = some o) (hc : o.cls = .type T) (hd : o.data = .seq vs.toArray n) (e : EachIs R vs bs) (hal : AllAlike (bs.map k)) (hk : Sortable (bs.map k)) (hL : bs.length ≤ sizeLine)
    (hu : ∀ x, x ∈ bs → A.units + 2 + (k x).depth < cLine)
    (turn : ∀ (v : Value) (x : β), R v x → x ∈ bs → ∀ (h : Heap) (tk : Nat), (∀ b o, s.heap.get? b = some o → h.get? b = some o) →
      wpAny (model prog w) A.in1.in1 (call (.ref f) [v]) (KeyPure (k x) { s with heap := h, toks := tk }) (fun _ _ => False) { s with heap := h, toks := tk })
    (h : ∀ (h1 : Heap) (out : List Value) (c : Nat) (h' : Heap) (tk : Nat), (∀ b o, s.heap.get? b = some o → h1.get? b = some o) → (∀ b o, h1.get? b = some o → h'.get? b = some o) → h'.get? h1.objs.size = some (seqObj "list" (List.toArray out) c) → out.length = bs.length → EachIs R out (bs.mergeSort (dataLe false k)) →
      Q (.ref h1.objs.size) { s with heap := h', toks := tk }) :
    wpAny (model prog w) A (call (.builtin "sorted") [.ref l] [(Str.ofString "key", .ref f)]) Q E s := by
  have hv : vs.length ≤ sizeLine := by rw [e.length]; exact hL
  refine call_function_entry_kw kind_sorted plain_sorted entry_sorted (ksk_s1 _ _) ?_
  unfold Builtin.«sorted»
  refine wpAny_bind (m := checkCount "sorted" 1 1 _) (wpAny_pure ?_)
  refine wpAny_bind (wpAny_collect_seq l hT ho hc hd (fun h1 hk1 => ?_) (by rw [List.size_toArray]; exact hv))
  have e0 : vs.toArray.toList = vs := by simp
  rw [e0]
  refine wpAny_bind (wpAny_newList ?_ hv)
  have at1 : (h1.push (seqObj "list" vs.toArray 0)).get? h1.objs.size = some (seqObj "list" vs.toArray 0) := Heap.get?_push_size _ rfl
  have old : ∀ b o, s.heap.get? b = some o → (h1.push (seqObj "list" vs.toArray 0)).get? b = some o := fun b o q => Heap.get?_push_of_some _ (hk1 b o q)
  refine wpAny_bind (wpAny_holding (wpAny_call_entry_kw slot_list_sort ⟨_, at1, rfl⟩ entry_list_sort ?body (ksk_l1 _ _)))
  case body =>
    show wpAny (model prog w) A.in1.in1 (Builtin.«list.sort» ⟨[.ref h1.objs.size], [(Str.ofString "key", .ref f)]⟩) _ _ _
    rw [ksk_t1]
    refine keyH_tree (kz := bs.map k) at1 (by rw [List.length_map]; exact e.length.symm) hv hal hk (bound_map (A := A.in1.in1) hu)
      (keyH_turns (s := { s with heap := h1.push (seqObj "list" vs.toArray 0) }) e fun v x hR hx h tk kp => turn v x hR hx h tk fun b o q => kp b o (Nat.ne_of_lt (Heap.lt_size (hk1 b o q))) (old b o q)) fun h' tk out c kp hD ko => ?_
    refine ⟨_, rfl, wpAny_pure ⟨_, rfl, ?_⟩⟩
    exact h h1 out c h' tk hk1 (fun b o q => kp b o (Nat.ne_of_lt (Heap.lt_size q)) (Heap.get?_push_of_some _ q)) hD ((ko.length (by rw [List.length_map]; exact e.length.symm)).trans e.length) (keyedOut_each k ko e)
end
def sortV (xs : List V) (zs : List Str) : List V := ((xs.zip zs).mergeSort (dataLe false fun q => PyData.str q.2)).map (·.1)
/-- an instance with the text z as its f -/
def HasS (K : Frag) (H : Hp) (f : Str) (v : V) (z : Str) : Prop := ∃ b C dx fs, v = .ref b ∧ H b = some (.ins C dx fs) ∧ Cls K C ∧ NoAttr K C f ∧ fs.lookup f = some (.str z)
def gSortA (K : Frag) (T : List (Addr × Str)) (f : Str) (Q : VK) (y : V) (H1 : Hp) : Prop := Tabs T H1 ∧ ∃ a xs zs, y = .ref a ∧ (SqT K H1 a xs ∨ SqL K H1 a xs) ∧ xs.length ≤ 1000 ∧ Paired (HasS K H1 f) xs zs ∧
  ∀ H2 p, ExtN H1 H2 → Tabs T H2 → H2 p = none → Q (.ref p) (upd H2 p (.lst (sortV xs zs)))
def tSortA (K : Frag) (T : List (Addr × Str)) (f : Str) (ta : TA) : TE := fun σ H Q => ta σ H fun vs H1 => ∃ y, vs = [y] ∧ gSortA K T f Q y H1
theorem each_vals {vs : List V} {us : List Value} {zs : List Str} (r : Vals vs us) (h : vs.length = zs.length) : EachIs (fun (u : Value) (q : V × Str) => RelV q.1 u) us (vs.zip zs) := by
  induction vs generalizing us zs with
  | nil => cases r; exact .nil
  | cons v vs ih =>
    cases r with
    | cons a b =>
      cases zs with
      | nil => cases h
      | cons z zs => exact .cons a (ih b (Nat.succ.inj h))
theorem vals_each {us : List Value} {qs : List (V × Str)} (h : EachIs (fun (u : Value) (q : V × Str) => RelV q.1 u) us qs) : Vals (qs.map (·.1)) us := by
  induction qs generalizing us with
  | nil => cases h; exact .nil
  | cons q qs ih =>
    cases h with
    | cons a b => exact .cons a (ih b)
theorem paired_mem {α β : Type} {R : α → β → Prop} {xs : List α} {ys : List β} (h : Paired R xs ys) : ∀ q ∈ xs.zip ys, R q.1 q.2 := by
  induction xs generalizing ys with
  | nil => intro q m; cases m
  | cons x xs ih =>
    cases h with
    | cons a b =>
      intro q m
      rcases List.mem_cons.mp m with rfl | m
      · exact a
      · exact ih b q m
theorem lookup_self {β : Type} (x : Str) (v : β) (l : List (Str × β)) : List.lookup x ((x, v) :: l) = some v := by rw [List.lookup_cons, beq_self_eq_true]
theorem paired_mono {α β : Type} {R S : α → β → Prop} {xs : List α} {ys : List β} (h : Paired R xs ys) (k : ∀ x y, R x y → S x y) : Paired S xs ys := by
  induction xs generalizing ys with
  | nil => cases h; exact .nil
  | cons x xs ih =>
    cases h with
    | cons a b => exact .cons (k _ _ a) (ih b)
theorem rd_ext {H H2 : Hp} {a : Addr} {u : HO} (e : ExtN H H2) (hu : ∀ ps, u ≠ .tbl ps) (h : Rd H a u) : Rd H2 a u := by
  rcases h with h | ⟨o, h⟩
  · exact .inl (e _ _ h hu)
  · exact .inr ⟨o, e _ _ h fun ps q => nomatch q⟩
theorem sqt_ext {K : Frag} {H H2 : Hp} {a : Addr} {xs : List V} (e : ExtN H H2) (h : SqT K H a xs) : SqT K H2 a xs := by
  rcases h with h | h
  · exact .inl (rd_ext e (fun ps q => nomatch q) h)
  · exact .inr h
theorem sql_ext {K : Frag} {H H2 : Hp} {a : Addr} {xs : List V} (e : ExtN H H2) (h : SqL K H a xs) : SqL K H2 a xs := by
  rcases h with h | h
  · exact .inl (rd_ext e (fun ps q => nomatch q) h)
  · exact .inr h
section
variable {X : Cx} {T : List (Addr × Str)} {f x : Str} {e : Expr} {te : TE} {c P : Addr} {p pos lpos npos apos kpos : Pos} {params : Arguments} {scope : Scope}
/-- the key's call -/
theorem key_call {prog : Program} {w : World} {A : Around} {s : Shared} {K : Frag} {H : Hp} {fa c' : Addr} {qual : Str} {cl : List (Str × Addr)} {pm ctv v : Value} {y : V} {z : Str} (kin : K.In s.heap) (hok : HOk prog w H s.heap) (lim : s.heap.NoLimit) (hroom : A.depth < recursionLimit)
    (ho : s.heap.get? fa = some (kla_obj "<lambda>" qual params (.Attribute (.Name x npos) f apos) scope cl pm c' ctv)) (hcd : s.heap.CodeRec (.ref c') qual) (hb : ∀ fd : FuncData, fd.params = params → fd.defaults = .none → fd.kwdefaults = .none → bindArgs fd ⟨[v], []⟩ = pure [(x, v)])
    (hsc : scope.names = [(x, .local)]) (hk : scope.kind = .function) (hg : scope.isGenerator = false) (hc : scope.isCoroutine = false) (hd : (x == ("__debug__" : Str)) = false)
    (rv : RelV y v) (hs : HasS K H f y z) :
    wpAny (model prog w) A (call (.ref fa) [v]) (KeyPure (.str z) s) (fun _ _ => False) s := by
  refine wpAny_call ?_
  refine kla_callFunE hroom ho rfl hc hg rfl hcd ?_
  rw [hb _ rfl rfl rfl]
  have l1 : scope.names.lookup x = some .local := by rw [hsc]; exact lookup_self x NameKind.local []
  refine wpAny_pure (wpAny_newFunctionEnv (by rw [hsc]; intro y m; rcases List.mem_singleton.mp m with rfl; exact fun q => nomatch q) (by intro y m; rcases List.mem_singleton.mp m with rfl; exact l1) (fun h₁ hns hsb => ⟨lim.fresh _ hsb, ?_⟩) hk)
  have hk₁ : ∀ b o, s.heap.get? b = some o → h₁.get? b = some o := fun b o e => hsb.extBut b o (Nat.ne_of_lt (Heap.lt_size e)) (Heap.get?_push_of_some _ e)
  obtain ⟨b, C, dx, fs, rfl, hb1, cl, na, hl⟩ := hs
  obtain rfl : v = Value.ref b := rv
  obtain ⟨mA, Om, r, _, _, _⟩ := ins_get (hok.kept hk₁) hb1
  obtain ⟨u, hu, ru⟩ := RelO.some_of (v := .str z) (o := mA f) (by rw [← hl]; exact r f)
  obtain ⟨tk, rfl⟩ := ru
  refine kla_codeExpr (attr_of rfl (wpAny_Name (wpAny_loadName_local hk l1 hns (lookup_self x (Value.ref b) []) ?_) hd))
  refine get_map (fun c o e => hk₁ c o (kin c o e)) Om (cl.get f) cl.hd na hu rfl ?_
  exact ⟨h₁, _, rfl, hk₁, .str _ _⟩
/-- sorted(e, key=lambda x: x.f) -/
theorem pe_sortA {k : Nat} {ta : TA} (ha : PA X [e] ta) (hr : Rm (k + 3) X.A) (hg : Gl X "sorted") (hm : X.mg "sorted" = none) (TB : TabB X.base X.mg c P) (hcode : X.env.code = .ref c) (hT : (P, X.env.qual ++ "<lambda>") ∈ T) (hu : ∀ p ∈ T, p.1 = P → p.2 = X.env.qual ++ "<lambda>")
    (hdef : defaultsOf params X.env = ([], [])) (hb : ∀ (v : Value) (fd : FuncData), fd.params = params → fd.defaults = .none → fd.kwdefaults = .none → bindArgs fd ⟨[v], []⟩ = pure [(x, v)])
    (hsc : scope.names = [(x, .local)]) (hk : scope.kind = .function) (hgn : scope.isGenerator = false) (hco : scope.isCoroutine = false) (hd : (x == ("__debug__" : Str)) = false) (hs : starEach [e] X.env = [(false, eval e X.env)] := by rfl) :
    PE X (.Call (.Name "sorted" p) [e] [⟨some "key", .Lambda params (.Attribute (.Name x npos) f apos) scope lpos, kpos⟩] pos) (tSortA X.K T f ta) := by
  refine ⟨fun pins s σ H Q I h => ?_⟩
  refine wpAny_Call_Name_kw (ld_blt I hg hm rfl ?_ (by decide) (by decide))
  have e1 : backTo pos (starEach [e] X.env) = (false, eval e X.env) :: backTo pos (starEach [] X.env) := by rw [hs]; rfl
  have e2 : (backTo pos (starEach [e] X.env)).any (·.1) = false := by rw [e1]; rfl
  refine PyProof.Rows.callWith_kw (thn (ha.run pos pins s σ H _ I h) fun us s1 ⟨vs, H1, I1, r1, y, ey, q1⟩ => ?_) e1 e2 rfl rfl
  · subst ey
    obtain ⟨u1, rfl, ru⟩ := vals1 r1
    obtain ⟨tb, a, xs, zs, rfl, hx, hl, hp, q⟩ := q1
    obtain rfl : u1 = Value.ref a := ru
    show wpAny _ _ (evalAll [do let v ← eval (.Lambda params (.Attribute (.Name x npos) f apos) scope lpos) X.env; standAt pos; pure v]) _ _ s1
    refine wpAny_evalAll_cons (wpAny_bind (lam_make2 I1 TB hcode hT hu tb hdef (by rw [hsc]; intro y m z; rcases List.mem_singleton.mp m with rfl; cases z) fun fa c' pm ctv H2 s2 I2 xn tb2 hf hfn hfr hc => wpAny_bind (wpAny_standAt (wpAny_pure (wpAny_evalAll_nil ?_)))))
    have hp2 : Paired (HasS X.K H2 f) xs zs := paired_mono hp fun v z ⟨b, C, dx, fs, e, hb, r⟩ => ⟨b, C, dx, fs, e, xn _ _ hb (fun ps q => nomatch q), r⟩
    have hx2 : ∃ (T : String) (o : Obj) (its : List Value) (n : Nat), (T = "list" ∨ T = "tuple") ∧ s2.heap.get? a = some o ∧ o.cls = .type T ∧ o.data = .seq its.toArray n ∧ Vals xs its := by
      rcases hx with hx | hx
      · obtain ⟨its, r, ⟨o, ho, hc, n, hd⟩, _⟩ := I2.tuple (sqt_ext xn hx)
        exact ⟨_, o, its, n, .inr rfl, ho, hc, hd, r⟩
      · obtain ⟨its, r, pl, _⟩ := I2.list (sql_ext xn hx)
        obtain ⟨o, ho, hc, n, hd⟩ := pl.isList
        exact ⟨_, o, its, n, .inl rfl, ho, hc, hd, r⟩
    obtain ⟨Ty, o, its, n, hTy, ho, hc2, hd2, rv⟩ := hx2
    have hlz : xs.length = zs.length := Paired.length hp
    have hzl : (xs.zip zs).length = xs.length := by rw [List.length_zip, ← hlz, Nat.min_self]
    have un := hr.r.un
    refine sortedU (k := fun q : V × Str => PyData.str q.2) hTy ho hc2 hd2 (each_vals rv hlz) (AllAlike.of fun _ _ => by simp [alike, alikeAll]) (Sortable.others fun _ => ⟨(fun z => nomatch z), fun _ z => nomatch z⟩) (by rw [hzl]; exact Nat.le_trans hl (by decide)) (fun q _ => ?_) (fun v q hR hm h tk kp => ?_) (fun h1 out c2 h' tk k1 k2 hD hlen eo => ?_)
    · simp only [PyData.depth]
      omega
    · have I3 : Inv X pins σ H2 { s2 with heap := h, toks := tk } := I2.kept kp
      exact key_call (s := { s2 with heap := h, toks := tk }) I3.kIn I3.hok I3.nolimit (show X.A.depth < _ by have := hr.r.dp; omega) (kp _ _ hf) (by
        obtain ⟨⟨oc, us, tq, c1, c3, c4⟩, _⟩ := I3.hok _ _ hc
        exact ⟨c', oc, us, tq, rfl, c1, c3, c4⟩) (hb v) hsc hk hgn hco hd hR (paired_mem hp2 q hm)
    · have I3 : Inv X pins σ H2 { s2 with heap := h1 } := I2.kept k1
      have ro := vals_each eo
      refine ⟨.ref h1.objs.size, _, I3.laid (t' := tk) (h' := h') (o := .lst (sortV xs zs)) k2 (Nat.le_refl _) ⟨?_, out, c2, ro, hD⟩, rfl, q _ _ xn tb2 (I3.hok.fresh (Nat.le_refl _))⟩
      unfold sortV
      rw [List.length_map, List.length_mergeSort, hzl]
      exact Nat.le_trans hl (by decide)
end
end SJ
namespace SJ
open PySem PySem.Spec PySem.W PyProof.Rows L2 PpSet
/-- one more member -/
def addS (S : Key → Bool) (k : Key) : Key → Bool := fun j => S j || decide (j = k)
def addN (S : Key → Bool) (k : Key) (n : Nat) : Nat := if S k = true then n else n + 1
def tScK (P : Program) (w : World) (wi : TI) (g : TG) (tt : TT) (te : TE) (vs : List Nat) : TE := fun σ H Q => wi σ H fun J G0 => ∀ D, G0 D = none → ∃ V0 : Nat → Nat → Hp → Prop, (∃ m, V0 0 m (upd G0 D (SetK P w D (fun _ => false) 0))) ∧ ∀ i m G, V0 i m G →
  (J.stop i G ∧ Q (.ref D) G) ∨ (J.go i G ∧ ∃ V1 : Hp → Prop, (∀ G1, V1 G1 → ∃ m1, m1 < m ∧ V0 (i + 1) m1 G1) ∧ ∀ x G1, J.yld i G x G1 → g x (wipe σ vs) G1 fun τ G2 => wipe τ vs = wipe σ vs ∧ tt τ G2 fun b G3 =>
    if b = true then te τ G3 fun y G4 => ∃ (k : Key) (S : Key → Bool) (n : Nat), y = kV k ∧ G4 D = some (SetK P w D S n) ∧ n + 1 < scanBound ∧ V1 (upd G4 D (SetK P w D (addS S k) (addN S k n))) else V1 G3)
abbrev set0 (X : Cx) : Obj := { cls := .type "set", dict := none, data := .set #[] 0 (.fresh 0 0 (!X.w.params.followText "set-order")) }
section
variable {X : Cx} {pins : List (Addr × Obj)} {σ : L2.St} {H : Hp} {s : Shared}
theorem set0_ok {h : Heap} : (h.push (set0 X)).SetOf (mixKind X.prog X.w) h.objs.size (fun _ => false) 0 := ⟨_, #[], 0, _, Heap.get?_push_size _ rfl, ⟨rfl, rfl, rfl⟩, rfl, (fun e he => by simp at he), (fun k => by simp), (by decide), (by rfl), rfl⟩
theorem add_key {D : Addr} {S : Key → Bool} {n : Nat} {k : Key} {u : Value} {E : Value → Shared → Prop} {Q : Value → Shared → Prop} (I : Inv X pins σ H s) (hD : H D = some (SetK X.prog X.w D S n)) (ru : RelV (kV k) u) (room : n + 1 < scanBound)
    (q : ∀ s2, Inv X pins σ (upd H D (SetK X.prog X.w D (addS S k) (addN S k n))) s2 → Q .none s2) : wpAny (model X.prog X.w) X.A (call (.builtin "set.add") [.ref D, u]) Q E s := by
  refine call_set_add (kV_is ru) (key_scan ru) (setK_get I hD) room fun h2 sb new => q _ ?_
  obtain ⟨ob, _, _, _, hob, _⟩ := id new
  exact I.write (e := D) (t' := s.toks + 1) (by rw [hD]; trivial) (.inl rfl) (fun b u hb hu => (sb.2 b hb).trans hu) ⟨ob, hob⟩ (setK_new new)
/-- the loop of the block, once it stands -/
theorem scK_loop {elt tg iter : Expr} {ifs : List Expr} {scope : Scope} {pos : Pos} {g : TG} {tt : TT} {te : TE} {vs : List Nat} {J : It} {fp : List Addr} {it D : Addr} {tn : Nat → Heap → Prop} {V0 : Nat → Nat → Hp → Prop} {Rs : Result → Shared → Prop} {Y : Cx} {Qd : Hp → Prop} {m0 : Nat} {τ : L2.St} {G : Hp} {s0 : Shared}
    (hY : Y.prog = X.prog ∧ Y.w = X.w ∧ Y.K = X.K ∧ Y.calm = true ∧ Y.A = X.A) (T : Turn X.prog X.w X.K tg J fp it tn) (pg : PG Y tg g) (pt : PTs Y ifs tt) (pe : PE Y elt te) (hτ : τ = wipe σ vs)
    (stat : ∀ {τ2 : L2.St} {G2 : Hp} {s2 : Shared}, Inv Y [] τ2 G2 s2 → (∀ b ∈ fp, G2 b = none) → ∀ b ∈ fp, FpOk Y [] G2 b)
    (turn : ∀ i m G, V0 i m G → (J.stop i G ∧ Qd G) ∨ (J.go i G ∧ ∃ V1 : Hp → Prop, (∀ G1, V1 G1 → ∃ m1, m1 < m ∧ V0 (i + 1) m1 G1) ∧ ∀ x G1, J.yld i G x G1 → g x τ G1 fun τ G2 => wipe τ vs = wipe σ vs ∧ tt τ G2 fun b G3 =>
      if b = true then te τ G3 fun y G4 => ∃ (k : Key) (S : Key → Bool) (n : Nat), y = kV k ∧ G4 D = some (SetK X.prog X.w D S n) ∧ n + 1 < scanBound ∧ V1 (upd G4 D (SetK X.prog X.w D (addS S k) (addN S k n))) else V1 G3))
    (I0 : Inv Y [] τ G s0) (st0 : tn 0 s0.heap) (n0 : ∀ b ∈ fp, G b = none) (w0 : V0 0 m0 G) (fin : ∀ G2 s2, Inv Y [] τ G2 s2 → Qd G2 → Rs (.ok .next) s2) (hxe : ∀ e s, Y.xe e s → False) :
    codeAny (model X.prog X.w) X.A (.compLoop (.SetComp elt [⟨tg, iter, ifs, 0⟩] scope pos) 0 (.ref it) (.ref D) Y.env) Rs s0 := by
  obtain ⟨y1, y2, y3, y4, y5⟩ := hY
  refine compLoopS_any (fun n s2 => ∃ i G2, Inv Y [] τ G2 s2 ∧ tn i s2.heap ∧ (∀ b ∈ fp, G2 b = none) ∧ V0 i n G2) ?_ m0 ⟨0, G, I0, st0, n0, w0⟩
  rintro n s5 ⟨i, G5, I5, st5, n5, w5⟩
  have noE : ∀ {α : Type} {t : Sem α} {Q1 Q2 : α → Shared → Prop} {E2 : Value → Shared → Prop} {s : Shared}, wpAny (model X.prog X.w) X.A t Q1 Y.xe s → (∀ a s, Q1 a s → Q2 a s) → wpAny (model X.prog X.w) X.A t Q2 E2 s := fun h k => wpAny_mono h k fun e s z => (hxe e s z).elim
  rcases turn i n G5 w5 with ⟨stop, qq⟩ | ⟨go, V1, hV1, step⟩
  · have td := T.done Y y1 y2 y3 y4 i [] s5 _ G5 Y.xe I5 (stat I5 n5) st5 stop
    rw [y5] at td
    refine noE td fun r s6 ⟨hr, I6⟩ => ?_
    subst hr
    exact fin G5 s6 I6 qq
  · have ti := T.item Y y1 y2 y3 y4 i [] s5 _ G5 Y.xe I5 (stat I5 n5) st5 go
    rw [y5] at ti
    refine noE ti fun r s6 ⟨u, hr, h6⟩ => ?_
    subst hr
    refine noE h6 fun _ s7 ⟨x, G7, I7, r7, z7, st7, n7⟩ => ?_
    have I7p := I7.pinned (stat I7 n7) (T.obj _ _ st7)
    have pgr := pg.run _ s7 _ G7 x u _ I7p r7 (step x G7 z7)
    rw [y1, y2, y5] at pgr
    refine noE pgr fun _ s8 ⟨τ8, G8, I8, hw8, q8⟩ => ?_
    have ptr := pt.run _ s8 τ8 G8 _ I8 q8
    rw [y1, y2, y5] at ptr
    refine noE ptr fun b s9 ⟨G9, I9, q9⟩ => ?_
    have close : ∀ {s2 : Shared} {G2 : Hp}, Inv Y ([] ++ pinsAt fp s7.heap) τ8 G2 s2 → V1 G2 → ∃ m, m < n ∧ ∃ i G2, Inv Y [] τ G2 s2 ∧ tn i s2.heap ∧ (∀ b ∈ fp, G2 b = none) ∧ V0 i m G2 := fun {s2 G2} J2 v2 => by
      obtain ⟨m2, lt, v0⟩ := hV1 G2 v2
      have pin : ∀ b ∈ fp, ∀ o, s7.heap.get? b = some o → s2.heap.get? b = some o ∧ G2 b = none := fun b hb o e => by
        have z := J2.pin (b, o) (List.mem_append_right _ (List.mem_append_right _ (mem_pinsAt hb e)))
        exact ⟨z.1, z.2.1⟩
      refine ⟨m2, lt, i + 1, G2, (J2.unpinned (pins := [])).weak (by rw [hτ, ← hw8, wipe_length]) (fun j v e => ?_), T.keep _ _ _ st7 (fun b hb o e => (pin b hb o e).1), (fun b hb => ?_), v0⟩
      · rw [hτ, ← hw8] at e
        exact (wipe_some e).1
      · obtain ⟨o, e, _⟩ := T.obj _ _ st7 b hb
        exact (pin b hb o e).2
    cases b with
    | false => exact close I9 q9
    | true =>
      have per := pe.run _ s9 τ8 G9 _ I9 q9
      rw [y1, y2, y5] at per
      refine noE per fun z s10 ⟨yv, G10, I10, r10, k, S, n2, ey, hD, room, v1⟩ => ?_
      subst ey
      have ad := add_key (E := notedBy (model X.prog X.w) X.A Y.env fun e s' => Rs (.error e) s') (Q := fun _ s5 => ∃ m, m < n ∧ ∃ i G2, Inv Y [] τ G2 s5 ∧ tn i s5.heap ∧ (∀ b ∈ fp, G2 b = none) ∧ V0 i m G2) I10 (by rw [y1, y2]; exact hD) r10 room fun s11 I11 => close (by rw [y1, y2] at I11; exact I11) v1
      rw [y1, y2, y5] at ad
      exact ad
theorem pe_scK {elt tg iter : Expr} {ifs : List Expr} {scope : Scope} {own : List (PySem.Str × Nat)} {pos : Pos} {wi : TI} {g : TG} {tt : TT} {te : TE} (hc : X.calm = true) (hN : X.N.Nodup) (hi : PI X tg iter wi) (ok : BlkOk X.N X.env.scope scope own)
    (hg : ∀ s H C cl fp, PG (X.blk s H scope (compEnvC scope cl C X.env) fp) tg g) (ht : ∀ s H C cl fp, PTs (X.blk s H scope (compEnvC scope cl C X.env) fp) ifs tt) (he : ∀ s H C cl fp, PE (X.blk s H scope (compEnvC scope cl C X.env) fp) elt te) (hs : ∀ x, foldedSetIterable iter X.env x = pure x := by intro _; rfl) :
    PE X (.SetComp elt [⟨tg, iter, ifs, 0⟩] scope pos) (tScK X.prog X.w wi g tt te (own.map (·.2))) := by
  refine ⟨fun pins s σ H Q I h => ?_⟩
  rw [eval_SetComp]
  have fr : ∀ y ∈ scope.names, y.2 = .free → ∃ c, X.env.cells.lookup y.1 = some c := fun y hy e => (ok.free y hy e).elim (fun k => I.ok.has _ (.inl k)) fun k => I.ok.has _ (.inr k)
  refine wpAny_comprehension_free rfl hs (closure_ok fr) ok.kind (fun y hy e => by rw [ok.uniq y hy, e]) (thn (hi.run pins s σ H _ I h) fun xv s1 hx => thn hx fun itv s2 ⟨it, fp, tn, J, H2, e, I2, T, st2, f2, q⟩ => ?_)
  subst e
  refine newSet_ok (newEnv_comp ?_)
  generalize hD : s2.heap.objs.size = D
  obtain ⟨V0, ⟨m0, w0⟩, turn⟩ := q D (I2.hok.fresh (Nat.le_of_eq hD))
  generalize es : ({ s2 with heap := s2.heap.push (set0 X) } : Shared) = s3
  have h3 : s3.heap = s2.heap.push (set0 X) := by rw [← es]
  have I3 : Inv X pins σ (upd H2 D (SetK X.prog X.w D (fun _ => false) 0)) s3 := by
    rw [← es]
    refine I2.laid (t' := s2.toks) (fun b o e => Heap.get?_push_of_some _ e) (Nat.le_of_eq hD) ?_
    rw [← hD]
    exact setK_new set0_ok
  generalize eH : upd H2 D (SetK X.prog X.w D (fun _ => false) 0) = H3 at I3 w0
  have f3 : ∀ b ∈ fp, FpOk X pins H3 b ∧ b < s3.heap.objs.size := fun b hb => by
    obtain ⟨o, ho, _⟩ := T.obj _ _ st2 b hb
    have lt := Heap.lt_size ho
    refine ⟨⟨?_, (f2 b hb).2⟩, by rw [h3, Heap.size_push]; exact Nat.lt_succ_of_lt lt⟩
    rw [← eH, upd_ne (by rw [← hD]; exact Nat.ne_of_lt lt)]
    exact (f2 b hb).1
  have I4 := block_start I3 ok hN f3
  have pg := hg s3 H3 s3.heap.objs.size (cellsFrom (s3.heap.objs.size + 1) scope.names (cloFrom X.env.cells scope.names [])) fp
  have pt := ht s3 H3 s3.heap.objs.size (cellsFrom (s3.heap.objs.size + 1) scope.names (cloFrom X.env.cells scope.names [])) fp
  have pe := he s3 H3 s3.heap.objs.size (cellsFrom (s3.heap.objs.size + 1) scope.names (cloFrom X.env.cells scope.names [])) fp
  have cL : (compEnvC scope (cellsFrom (s3.heap.objs.size + 1) scope.names (cloFrom X.env.cells scope.names [])) s3.heap.objs.size X.env).locals = s3.heap.objs.size := rfl
  have goal2 : ∀ (ce : Env) (s4 : Shared), ce.locals = s3.heap.objs.size → PG (X.blk s3 H3 scope ce fp) tg g → PTs (X.blk s3 H3 scope ce fp) ifs tt → PE (X.blk s3 H3 scope ce fp) elt te → Inv (X.blk s3 H3 scope ce fp) [] (wipe σ (own.map (·.2))) H3 s4 → tn 0 s4.heap →
      codeAny (model X.prog X.w) X.A (.compStart (.SetComp elt [⟨tg, iter, ifs, 0⟩] scope pos) 0 (.ref it) (.ref D) ce) (compPost (model X.prog X.w) X.A X.xe none (EP X pins σ Q) (.ref D) s3.heap.objs.size) s4 := fun ce s4 cl pg pt pe I4 st4 => by
    have lp : codeAny (model X.prog X.w) X.A (.compLoop (.SetComp elt [⟨tg, iter, ifs, 0⟩] scope pos) 0 (.ref it) (.ref D) ce) (compPost (model X.prog X.w) X.A X.xe none (EP X pins σ Q) (.ref D) s3.heap.objs.size) s4 := by
      refine scK_loop (Y := X.blk s3 H3 scope ce fp) (vs := own.map (·.2)) (Qd := fun G => Q (.ref D) G) ⟨rfl, rfl, rfl, hc, rfl⟩ T pg pt pe rfl (fun {τ2 G2 s2} I' hn b hb => ?_) turn I4 st4 (fun b hb => (f3 b hb).1.1) w0 (fun G2 s6 I6 qq => ?_) fun _ _ z => z
      · exact ⟨hn b hb, (I'.ok.exf b hb).1, I'.ok.exfs b hb, .inl hb, fun x c e => (I'.ok.exf b hb).2 x c e, fun p hp => absurd (show p ∈ ([] : List (Addr × Obj)) ++ [] from hp) (by simp)⟩
      · have I7 : Inv X pins σ G2 s6 := I3.call' (ch := fp) I6.os I6.base I6.hok I6.bare fun b hb => ⟨(f3 b hb).1.2.2.2.1, (f3 b hb).1.2.1, (f3 b hb).1.2.2.2.2.1, (f3 b hb).1.2.2.2.2.2⟩
        have nC : G2 s3.heap.objs.size = none := by
          have z : G2 ce.locals = none := I6.free
          rw [cl] at z
          exact z
        obtain ⟨m, hn, _⟩ := I6.loc
        have hn : s6.heap.Ns ce.locals m := hn
        rw [cl] at hn
        refine ⟨m, hn, fun h8 sb => ?_⟩
        obtain ⟨f0, f1, f2, f3, f4, f5⟩ := I3.fpOk (Nat.le_refl _) nC
        exact ⟨.ref D, G2, I7.turned (t' := s6.toks) (fun b o hb e => (sb.2 b hb).trans e) f0 f1 f3 f4 f5, rfl, qq⟩
    exact codeAny_compStart_set lp (T.self X.A 0 _ _ _ st4 lp)
  refine goal2 _ _ cL pg pt pe I4 (T.keep _ _ _ st2 fun b _ o e => ?_)
  exact pushCells_keeps _ _ _ _ (Heap.get?_push_of_some _ (by rw [h3]; exact Heap.get?_push_of_some _ e))
def rLenSet (P : Program) (w : World) : List V → Hp → VK → Prop := fun xs H Q => ∃ a S n, xs = [V.ref a] ∧ H a = some (SetK P w a S n) ∧ Q (.int (n : Nat)) H
theorem c_lenSet : CallR X (.builtin "len") (rLenSet X.prog X.w) := by
  intro pins s σ H xs us Q I r h
  obtain ⟨a, S, n, rfl, ha, q⟩ := h
  obtain ⟨u, rfl, ru⟩ := vals1 r
  obtain rfl : u = Value.ref a := ru
  obtain ⟨ob, es, ep, t, h1, h2, h3, _, _, h6, h7, rfl⟩ := setK_get I ha
  refine call_len_set h1 h2 h3 h7 ?_ ⟨.int _, H, I.tok _, ⟨_, rfl⟩, q⟩
  have : scanBound < 2 ^ 62 := by decide
  omega
end
end SJ
namespace SJ
open PySem PySem.Spec PySem.W PyProof.Rows L2
open AutoSeq1 (wpAny_loadPart')
/-- the view of the values of the dict at d -/
def valsO (p d : Addr) : HO := .ext fun h => h.IsValuesView p d
theorem valsO_ok {P : Program} {w : World} {H : Hp} {h : Heap} {p d : Addr} (e : h.get? p = some { cls := .type "dict_values", data := .fields #[.ref d] }) : ObjOk P w H h p (valsO p d) :=
  ⟨⟨_, e, rfl, rfl⟩, ⟨_, e⟩, fun _ _ z k => let ⟨o, ho, r⟩ := z; ⟨o, k o ho, r⟩⟩
def rVals : V → List V → Hp → VK → Prop := fun x xs H Q => ∃ a kvs, x = .ref a ∧ xs = [] ∧ H a = some (.dK kvs) ∧ ∀ p, H p = none → Q (.ref p) (upd H p (valsO p a))
/-- what the walk of a dict or of its view gives, item by item -/
inductive DSrc (H : Hp) : Addr → List V → Prop
  | keys {a : Addr} {kvs : List (Key × V)} : H a = some (.dK kvs) → DSrc H a (kvs.map fun q => kV q.1)
  | vals {p a : Addr} {kvs : List (Key × V)} : H p = some (valsO p a) → H a = some (.dK kvs) → DSrc H p (kvs.map (·.2))
section
variable {X : Cx} {pins : List (Addr × Obj)} {σ : L2.St} {H : Hp} {s : Shared}
theorem mt_vals : MtR X "dict.values" rVals := by
  intro pins s σ H x xs v us Q I rx rxs h
  obtain ⟨a, kvs, rfl, rfl, ha, q⟩ := h
  cases rx
  cases rxs
  obtain ⟨z, lo, vs, rel, dd⟩ := dk_of I.hok ha
  refine call_meetsIn F.slot_dict_values dd.typeIs F.entry_dict_values (F.args_dict_values_1 _) (meets_dict_values (mixKind X.prog X.w) a lo) ⟨⟨vs, dd⟩, ?_⟩
  exact ⟨.ref s.heap.objs.size, _, I.laid (t' := s.toks) (o := valsO s.heap.objs.size a) (fun b u e => Heap.get?_push_of_some _ e) (Nat.le_refl _) (valsO_ok (Heap.get?_push_size _ rfl)), rfl, q _ (I.hok.fresh (Nat.le_refl _))⟩
theorem vals_at2 {us : List Value} {kvs : List (Key × V)} {vs : List (Key × Value)} (r : KV kvs vs) (hl : us.length = vs.length) (h : ∀ (j : Nat) (v : Value), us[j]? = some v → ∃ k, vs[j]? = some (k, v)) : Vals (kvs.map (·.2)) us := by
  rw [kdl_vals_eq us hl h]
  clear hl h us
  induction kvs generalizing vs with
  | nil => cases r; exact .nil
  | cons q kvs ih =>
    cases r with
    | cons a b => exact .cons a.2 (ih b)
/-- such a thing collected -/
theorem dsrc_run {a : Addr} {xs : List V} {E : Value → Shared → Prop} {Q : List Value → Shared → Prop} {A : Around} (I : Inv X pins σ H s) (hh : A.handled = none) (h : DSrc H a xs) (q : ∀ (us : List Value) (h2 : Heap) (tk : Nat), (∀ b o, s.heap.get? b = some o → h2.get? b = some o) → Vals xs us → us.length ≤ sizeLine → Q us { s with heap := h2, toks := tk }) :
    (∃ T, s.TypeIs (.ref a) T ∧ (T = "dict" ∨ T = "dict_values")) ∧ wpAny (model X.prog X.w) A (collect (.ref a)) Q E s := by
  cases h with
  | @keys kvs ha =>
    obtain ⟨z, lo, vs, rel, dd⟩ := dk_of I.hok ha
    obtain ⟨ep, hat⟩ := dd.dictAt
    have ek : (kvs.map fun kv => kV kv.1) = vs.map fun p => kV p.1 := by
      have e := congrArg (List.map kV) rel.keys
      rwa [List.map_map, List.map_map] at e
    refine ⟨⟨_, dd.typeIs, .inl rfl⟩, kdu_collect (kdl_dict (knd := mixKind X.prog X.w) (kvs := vs) (ep := ep) lo) hh hat (by rw [← rel.length]; exact z) fun h2 tk acc hk hacc => q _ _ _ hk ?_ ?_⟩
    · rw [ek]
      exact keys_at (by rw [Array.length_toList]; exact hacc.1) fun j v e => hacc.2 j v (by rw [← Array.getElem?_toList]; exact e)
    · rw [Array.length_toList, hacc.1, ← rel.length]; exact z
  | @vals d kvs hp hd =>
    obtain ⟨z, lo, vs, rel, dd⟩ := dk_of I.hok hd
    obtain ⟨ep, hat⟩ := dd.dictAt
    have vw : s.heap.IsValuesView a d := (I.hok _ _ hp).1
    obtain ⟨ob, w1, w2, w3⟩ := id vw
    refine ⟨⟨_, ⟨ob, w1, w2⟩, .inr rfl⟩, kdu_collect (kdl_values (knd := mixKind X.prog X.w) (r := a) (d := d) (kvs := vs) (ep := ep)) hh ⟨vw, hat⟩ (by rw [← rel.length]; exact z) fun h2 tk acc hk hacc => q _ _ _ hk ?_ ?_⟩
    · exact vals_at2 rel (by rw [Array.length_toList]; exact hacc.1) fun j v e => hacc.2 j v (by rw [← Array.getElem?_toList]; exact e)
    · rw [Array.length_toList, hacc.1, ← rel.length]; exact z
def rTupD : List V → Hp → VK → Prop := fun xs H Q => ∃ a ys, xs = [.ref a] ∧ DSrc H a ys ∧ ∀ p, H p = none → Q (.ref p) (upd H p (.tup ys))
theorem c_tupD (hc : X.calm = true) : CallR X (.type "tuple") rTupD := by
  intro pins s σ H xs us Q I r h
  obtain ⟨a, ys, rfl, hd, q⟩ := h
  obtain ⟨u, rfl, ru⟩ := vals1 r
  obtain rfl : u = Value.ref a := ru
  refine callType_codes (Q₁ := fun obj s₁ => s₁.TypeIs obj "tuple" ∧ EP X pins σ Q obj s₁) F.called_tuple (F.typeCall_tuple_1 _) F.entry_object_init ?_ fun obj s₁ h₁ => ⟨h₁.1, F.args_object_init_2 obj _, object_init_meets F.called_tuple.init.lookup F.called_tuple.made (by decide) X.prog X.w X.A.in1 _ s₁ ⟨h₁.1, rfl, h₁.2⟩⟩
  have hcol : ∀ {A : Around} {E : Value → Shared → Prop} {Q2 : List Value → Shared → Prop}, A.handled = none → (∀ (us : List Value) (h2 : Heap) (tk : Nat), (∀ b o, s.heap.get? b = some o → h2.get? b = some o) → Vals ys us → us.length ≤ sizeLine → Q2 us { s with heap := h2, toks := tk }) → wpAny (model X.prog X.w) A (collect (.ref a)) Q2 E s := fun hh q2 => (dsrc_run I hh hd q2).2
  obtain ⟨⟨T, hT, ht⟩, _⟩ := dsrc_run (E := fun _ _ => True) (Q := fun _ _ => True) (A := X.A) I (I.ok.hd hc) hd fun _ _ _ _ _ _ => trivial
  have hh1 : X.A.in1.in1.handled = none := I.ok.hd hc
  refine codeAny_of_tree ?_
  show wpAny _ X.A.in1.in1 (checkBuiltinCall "tuple.__new__" ⟨[.type "tuple", .ref a], []⟩ >>= fun _ => again (.builtin "tuple.__new__" ⟨[.type "tuple", .ref a], []⟩)) _ _ s
  refine wpAny_bind (wpAny_of_eq (F.newCall_tuple_1 _) (wpAny_pure ⟨plainId_quiet F.plain_tuple_new _, codeAny_builtin F.entry_tuple_new ?_⟩))
  rw [Around.under_plainId F.plain_tuple_new _]
  have fin : ∀ (us : List Value) (h2 : Heap) (tk : Nat), (∀ b o, s.heap.get? b = some o → h2.get? b = some o) → Vals ys us → us.length ≤ sizeLine → EP X pins σ Q (.ref h2.objs.size) { s with heap := h2.push { cls := .type "tuple", data := .seq us.toArray }, toks := tk } := fun us h2 tk hk rv hz => by
    have I2 : Inv X pins σ H { s with heap := h2, toks := tk } := I.kept hk
    refine ⟨.ref h2.objs.size, _, I2.laid (t' := tk) (o := .tup ys) (fun b u e => Heap.get?_push_of_some _ e) (Nat.le_refl _) ⟨by rw [rv.length]; exact hz, us, rv, ⟨_, Heap.get?_push_size _ rfl, rfl, _, rfl⟩⟩, rfl, q _ (I2.hok.fresh (Nat.le_refl _))⟩
  have hsub := sub_tuple_self
  have hinit := init_tuple_lookup
  have hmh := madeHere_tuple
  rcases ht with rfl | rfl
  · wp_walk using wpAny_typeOf hT, hcol hh1
    intro us h2 tk hk rv hz
    refine wpAny_bind (m := Builtin.Tuple.tupleExact us.toArray) ?_
    unfold Builtin.Tuple.tupleExact
    exact wpAny_newObj_type (wpAny_pure ⟨⟨_, Heap.get?_push_size _ rfl, rfl⟩, fin us h2 tk hk rv hz⟩) (show us.toArray.size ≤ sizeLine by rw [List.size_toArray]; exact hz)
  · wp_walk using wpAny_typeOf hT, hcol hh1
    intro us h2 tk hk rv hz
    refine wpAny_bind (m := Builtin.Tuple.tupleExact us.toArray) ?_
    unfold Builtin.Tuple.tupleExact
    exact wpAny_newObj_type (wpAny_pure ⟨⟨_, Heap.get?_push_size _ rfl, rfl⟩, fin us h2 tk hk rv hz⟩) (show us.toArray.size ≤ sizeLine by rw [List.size_toArray]; exact hz)
end
end SJ
namespace SJ
open PySem PySem.Spec PySem.W PyProof.Rows L2 GQ PySem.MeetsSeq3
open AutoSeq1 (wpAny_loadPart')
section
variable {prog : Program} {w : World} {A : Around} {R : Result → Shared → Prop}
/-- tuples, whatever their items answer -/
theorem tup_cmp (op : CmpOp) (nm : Bool) (l b : Addr) (items items2 : Array Value) (n n2 : Nat) (dd dd2 : Option Addr) (sl sl2 : Array (Option Value)) (hop : (op = .Eq ∧ nm = true) ∨ (op = .NotEq ∧ nm = false)) (I : Nat → Shared → Prop)
    (turn : ∀ i (h1 : i < items.size) (h2 : i < items2.size) s, I i s → wpAny (model prog w) A.in1 (eqBool items[i] items2[i]) (fun r s2 => if r = true then I (i + 1) s2 else R (.ok (.ret (.bool (!nm)))) s2) (fun e s2 => R (.error e) s2) s)
    (fin : ∀ s, I (min items.size items2.size) s → R (.ok (.ret (.bool (if nm then decide (items.size = items2.size) else !decide (items.size = items2.size))))) s) {s : Shared} (hl1 : s.heap.get? l = some { cls := .type "tuple", dict := dd, data := .seq items n, slots := sl }) (hb1 : s.heap.get? b = some { cls := .type "tuple", dict := dd2, data := .seq items2 n2, slots := sl2 }) (h : I 0 s) :
    wpAny (model prog w) A.in1 (if nm then Builtin.«tuple.__eq__» ⟨[.ref l, .ref b], []⟩ else Builtin.«tuple.__ne__» ⟨[.ref l, .ref b], []⟩) (FinOf prog w A R) (fun e s2 => R (.error e) s2) s := by
  have f2 := AutoSeq1.sub_tuple_tuple
  have hZ : (items.toList.zip items2.toList).length = min items.size items2.size := by simp
  have h0 := h
  obtain ⟨hp, g, d, tk, os⟩ := s
  have tn : ∀ (y x : Value) (rest : List (Value × Value)) (i : Nat), (y, x) :: rest = (items.toList.zip items2.toList).drop i → ∃ (h1 : i < items.size) (h2 : i < items2.size), y = items[i] ∧ x = items2[i] ∧ rest = (items.toList.zip items2.toList).drop (i + 1) ∧ i + 1 ≤ min items.size items2.size := by
    intro y x rest i hz
    have hlt : i < (items.toList.zip items2.toList).length := by
      rcases Nat.lt_or_ge i (items.toList.zip items2.toList).length with q | q
      · exact q
      · rw [List.drop_of_length_le q] at hz; cases hz
    rw [List.drop_eq_getElem_cons hlt] at hz
    injection hz with e1 e2
    have q1 := congrArg Prod.fst e1
    have q2 := congrArg Prod.snd e1
    rw [hZ] at hlt
    exact ⟨by omega, by omega, by simpa using q1, by simpa using q2, e2, by omega⟩
  have fn : ∀ i, [] = (items.toList.zip items2.toList).drop i → i ≤ min items.size items2.size → i = min items.size items2.size := by
    intro i hz hi
    rcases Nat.lt_or_ge i (items.toList.zip items2.toList).length with q | q
    · rw [List.drop_eq_getElem_cons q] at hz; cases hz
    · rw [hZ] at q; omega
  rcases hop with ⟨rfl, rfl⟩ | ⟨rfl, rfl⟩
  · simp only [if_true]
    wp_walk using wpAny_loadPart' hl1, wpAny_loadPart' hb1, wpAny_forIn_list _ (fun rest b s2 => (b.1 = none ∧ ∃ i, rest = (items.toList.zip items2.toList).drop i ∧ i ≤ min items.size items2.size ∧ I i s2)) _
    case turn =>
      rintro ⟨y, x⟩ rest b s2 ⟨_, i, hz, hi, hI⟩
      obtain ⟨h1, h2, rfl, rfl, e3, e4⟩ := tn y x rest i hz
      refine wpAny_bind (wpAny_mono (turn i h1 h2 s2 hI) (fun r s3 q3 => ?_) fun _ _ x => x)
      cases r with
      | true => wp_walk; exact ⟨rfl, i + 1, e3, e4, q3⟩
      | false => wp_walk; exact q3
    case fin =>
      rintro ⟨b1, b2⟩ s2 ⟨hb, i, hz, hi, hI⟩
      simp only at hb
      subst hb
      have q := fin s2 (fn i hz hi ▸ hI)
      wp_walk
      have e : Builtin.Tuple.tupleCompareSizes .Eq items.size items2.size = .bool (decide (items.size = items2.size)) := by
        show Value.bool (items.size == items2.size) = _
        rfl
      rw [e]
      exact q
    case h => exact ⟨rfl, 0, rfl, Nat.zero_le _, h0⟩
  · simp only [Bool.false_eq_true, if_false]
    wp_walk using wpAny_loadPart' hl1, wpAny_loadPart' hb1, wpAny_forIn_list _ (fun rest b s2 => (b.1 = none ∧ ∃ i, rest = (items.toList.zip items2.toList).drop i ∧ i ≤ min items.size items2.size ∧ I i s2)) _
    case turn =>
      rintro ⟨y, x⟩ rest b s2 ⟨_, i, hz, hi, hI⟩
      obtain ⟨h1, h2, rfl, rfl, e3, e4⟩ := tn y x rest i hz
      refine wpAny_bind (wpAny_mono (turn i h1 h2 s2 hI) (fun r s3 q3 => ?_) fun _ _ x => x)
      cases r with
      | true => wp_walk; exact ⟨rfl, i + 1, e3, e4, q3⟩
      | false => wp_walk; exact q3
    case fin =>
      rintro ⟨b1, b2⟩ s2 ⟨hb, i, hz, hi, hI⟩
      simp only at hb
      subst hb
      have q := fin s2 (fn i hz hi ▸ hI)
      wp_walk
      have e : Builtin.Tuple.tupleCompareSizes .NotEq items.size items2.size = .bool (!decide (items.size = items2.size)) := by
        show Value.bool (items.size != items2.size) = _
        rfl
      rw [e]
      exact q
    case h => exact ⟨rfl, 0, rfl, Nat.zero_le _, h0⟩
/-- both lists stand, with n1 and n2 items -/
def Two (s : Shared) (l b : Addr) (n1 n2 : Nat) (its its2 : Array Value) : Prop := its.size = n1 ∧ its2.size = n2 ∧ ∃ e1 e2 : Nat, s.heap.get? l = some { cls := .type "list", data := .seq its e1 } ∧ s.heap.get? b = some { cls := .type "list", data := .seq its2 e2 }
/-- lists: at each turn both are read anew -/
def LstI (prog : Program) (w : World) (A : Around) (Rn : Shared → Prop) (E : Value → Shared → Prop) (l b : Addr) (n1 n2 : Nat) (I : Nat → Shared → Prop) : Prop :=
  ∀ i s, I i s → ∃ its its2, Two s l b n1 n2 its its2 ∧ ∀ (h1 : i < its.size) (h2 : i < its2.size), wpAny (model prog w) A.in1 (eqBool its[i] its2[i]) (fun r s2 => (∃ jts jts2, Two s2 l b n1 n2 jts jts2) ∧ if r = true then I (i + 1) s2 else Rn s2) E s
theorem lst_loop (nm : Bool) (l b : Addr) (N : Nat) (I : Nat → Shared → Prop) (hl : LstI prog w A (R (.ok (.ret (.bool (!nm))))) (fun e s2 => R (.error e) s2) l b N N I) (fin : ∀ s, I N s → R (.ok (.ret (.bool nm))) s) (k : Nat) :
    ∀ i : Nat, N - i = k → i ≤ N → ∀ s, I i s → wpAny (model prog w) A.in1 (Builtin.«list.__eq__.loop» ⟨[.ref l, .ref b, rawInt i, rawInt (if nm then 2 else 3)], []⟩) (FinOf prog w A R) (fun e s2 => R (.error e) s2) s := by
  induction k with
  | zero =>
    intro i hk hi s h
    obtain ⟨its, its2, ⟨z1, z2, n, n2, g1, g2⟩, _⟩ := hl _ _ h
    have e : i = N := by omega
    have q := fin s (e ▸ h)
    obtain ⟨hp, g, d, tk, os⟩ := s
    have i1 : its[((i : Nat) : Int).toNat]? = none := by simp; omega
    have i2 : its2[((i : Nat) : Int).toNat]? = none := by simp; omega
    cases nm with
    | true =>
      simp only [if_true]
      wp_walk using wpAny_loadPart' g1, wpAny_loadPart' g2
      rw [i1, i2]
      wp_walk using wpAny_loadPart' g1, wpAny_loadPart' g2
      show R (.ok (.ret (.bool (its.size == its2.size)))) _
      rw [z1, z2, beq_self_eq_true]
      exact q
    | false =>
      simp only [Bool.false_eq_true, if_false]
      wp_walk using wpAny_loadPart' g1, wpAny_loadPart' g2
      rw [i1, i2]
      wp_walk using wpAny_loadPart' g1, wpAny_loadPart' g2
      show R (.ok (.ret (.bool (its.size != its2.size)))) _
      rw [z1, z2, bne_self_eq_false]
      exact q
  | succ k ih =>
    intro i hk hi s h
    obtain ⟨its, its2, ⟨z1, z2, n, n2, g1, g2⟩, turn⟩ := hl _ _ h
    have lt1 : i < its.size := by omega
    have lt2 : i < its2.size := by omega
    have ht := turn lt1 lt2
    obtain ⟨hp, g, d, tk, os⟩ := s
    have i1 : its[((i : Nat) : Int).toNat]? = some its[i] := by simp [lt1]
    have i2 : its2[((i : Nat) : Int).toNat]? = some its2[i] := by simp [lt2]
    have hc : ((i : Int) + 1) = ((i + 1 : Nat) : Int) := by omega
    cases nm with
    | true =>
      simp only [if_true] at ih ⊢
      wp_walk using wpAny_loadPart' g1, wpAny_loadPart' g2
      rw [i1, i2]
      refine wpAny_bind (wpAny_mono ht (fun r s2 q2 => ?_) fun _ _ x => x)
      obtain ⟨⟨jts, jts2, y1, y2, m1, m2, k1, k2⟩, q2⟩ := q2
      cases r with
      | true =>
        have rcc := ih (i + 1) (by omega) (by omega) s2 q2
        obtain ⟨hp2, g2, d2, tk2, os2⟩ := s2
        wp_walk
        rw [hc]
        exact ⟨plainId_quiet plain_eq_loop _, codeAny_builtin entry_eq_loop (by rw [Around.under_plainId plain_eq_loop _]; exact rcc)⟩
      | false =>
        obtain ⟨hp2, g2, d2, tk2, os2⟩ := s2
        have j1 : jts[((i : Nat) : Int).toNat]? = some (jts[i]'(by omega)) := by simp
        have j2 : jts2[((i : Nat) : Int).toNat]? = some (jts2[i]'(by omega)) := by simp
        wp_walk using wpAny_loadPart' k1, wpAny_loadPart' k2
        rw [j1, j2]
        wp_walk
        exact q2
    | false =>
      simp only [Bool.false_eq_true, if_false] at ih ⊢
      wp_walk using wpAny_loadPart' g1, wpAny_loadPart' g2
      rw [i1, i2]
      refine wpAny_bind (wpAny_mono ht (fun r s2 q2 => ?_) fun _ _ x => x)
      obtain ⟨⟨jts, jts2, y1, y2, m1, m2, k1, k2⟩, q2⟩ := q2
      cases r with
      | true =>
        have rcc := ih (i + 1) (by omega) (by omega) s2 q2
        obtain ⟨hp2, g2, d2, tk2, os2⟩ := s2
        wp_walk
        rw [hc]
        exact ⟨plainId_quiet plain_eq_loop _, codeAny_builtin entry_eq_loop (by rw [Around.under_plainId plain_eq_loop _]; exact rcc)⟩
      | false =>
        obtain ⟨hp2, g2, d2, tk2, os2⟩ := s2
        have j1 : jts[((i : Nat) : Int).toNat]? = some (jts[i]'(by omega)) := by simp
        have j2 : jts2[((i : Nat) : Int).toNat]? = some (jts2[i]'(by omega)) := by simp
        wp_walk using wpAny_loadPart' k1, wpAny_loadPart' k2
        rw [j1, j2]
        wp_walk
        exact q2
theorem lst_cmp (nm : Bool) (l b : Addr) (n1 n2 : Nat) (I : Nat → Shared → Prop) (hl : LstI prog w A (R (.ok (.ret (.bool (!nm))))) (fun e s2 => R (.error e) s2) l b n1 n2 I) (fin : n1 = n2 → ∀ s, I n1 s → R (.ok (.ret (.bool nm))) s) {s : Shared} (h : I 0 s) (hne : n1 ≠ n2 → R (.ok (.ret (.bool (!nm)))) s) :
    wpAny (model prog w) A.in1 (if nm then Builtin.«list.__eq__» ⟨[.ref l, .ref b], []⟩ else Builtin.«list.__ne__» ⟨[.ref l, .ref b], []⟩) (FinOf prog w A R) (fun e s2 => R (.error e) s2) s := by
  obtain ⟨its, its2, ⟨z1, z2, n, n9, g1, g2⟩, _⟩ := hl _ _ h
  have f3 := AutoSeq1.sub_list_list
  by_cases hsz : n1 = n2
  · subst hsz
    have rcc := lst_loop (A := A) (R := R) nm l b n1 I hl (fin rfl) _ 0 rfl (Nat.zero_le _) s h
    obtain ⟨hp, g, d, tk, os⟩ := s
    have c1 : ¬ (its.size != its2.size) = true := by simp [z1, z2]
    cases nm with
    | true =>
      simp only [if_true] at rcc ⊢
      wp_walk using wpAny_loadPart' g1, wpAny_loadPart' g2
      exact ⟨plainId_quiet plain_eq_loop _, codeAny_builtin entry_eq_loop (by rw [Around.under_plainId plain_eq_loop _]; exact rcc)⟩
    | false =>
      simp only [Bool.false_eq_true, if_false] at rcc ⊢
      wp_walk using wpAny_loadPart' g1, wpAny_loadPart' g2
      exact ⟨plainId_quiet plain_eq_loop _, codeAny_builtin entry_eq_loop (by rw [Around.under_plainId plain_eq_loop _]; exact rcc)⟩
  · have q := hne hsz
    obtain ⟨hp, g, d, tk, os⟩ := s
    have c1 : (its.size != its2.size) = true := by simp [z1, z2, hsz]
    cases nm with
    | true =>
      simp only [if_true] at ⊢
      wp_walk using wpAny_loadPart' g1, wpAny_loadPart' g2
      exact q
    | false =>
      simp only [Bool.false_eq_true, if_false] at ⊢
      wp_walk using wpAny_loadPart' g1, wpAny_loadPart' g2
      exact q
end
end SJ
namespace SJ
open PySem PySem.Spec PySem.W PyProof.Rows L2 GQ PySem.MeetsSeq3
/-- b: what x == y answers inside a container; the heap may grow -/
structure Grow (R : Hp → Hp → Prop) : Prop where
  refl : ∀ H, R H H
  trans : ∀ {H G J}, R H G → R G J → R H J
  ins : ∀ {H G a C dx fs}, R H G → H a = some (.ins C dx fs) → G a = some (.ins C dx fs)
  lst : ∀ {H G a xs}, R H G → H a = some (.lst xs) → G a = some (.lst xs)
abbrev EqB := (Hp → Hp → Prop) → V → V → Hp → Bool → Prop
structure EqOk (X : Cx) (k : Nat) (D : EqB) : Prop where
  mono : ∀ {Rl x y H H2 b}, Grow Rl → D Rl x y H b → Rl H H2 → D Rl x y H2 b
  run : ∀ (Rl : Hp → Hp → Prop) (A : Around) (pins : List (Addr × Obj)) (s : Shared) (σ : L2.St) (H : Hp) (x y : V) (u v : Value) (b : Bool) (E : Value → Shared → Prop), Grow Rl → Rm k A → A.frames = X.A.frames → Inv X pins σ H s → RelV x u → RelV y v → D Rl x y H b →
    wpAny (model X.prog X.w) A (eqBool u v) (fun r s2 => r = b ∧ ∃ H2, Inv X pins σ H2 s2 ∧ Rl H H2) E s
theorem EqOk.or {X : Cx} {k : Nat} {D D2 : EqB} (h : EqOk X k D) (h2 : EqOk X k D2) : EqOk X k fun Rl x y H b => D Rl x y H b ∨ D2 Rl x y H b :=
  ⟨fun gr d s => d.elim (fun d => .inl (h.mono gr d s)) fun d => .inr (h2.mono gr d s), fun Rl A pins s σ H x y u v b E gr hr fr I rx ry d => d.elim (h.run Rl A pins s σ H x y u v b E gr hr fr I rx ry) (h2.run Rl A pins s σ H x y u v b E gr hr fr I rx ry)⟩
theorem EqOk.up {X : Cx} {k j : Nat} {D : EqB} (h : EqOk X k D) (l : k ≤ j) : EqOk X j D := ⟨h.mono, fun Rl A pins s σ H x y u v b E gr hr => h.run Rl A pins s σ H x y u v b E gr (hr.mono l)⟩
/-- one and the same -/
def dSame : EqB := fun _ x y _ b => ∃ a, x = .ref a ∧ y = .ref a ∧ b = true
theorem eq_same {X : Cx} : EqOk X 0 dSame := by
  refine ⟨fun _ d _ => d, fun Rl A pins s σ H x y u v b E gr hr fr I rx ry d => ?_⟩
  obtain ⟨a, rfl, rfl, rfl⟩ := d
  cases rx
  cases ry
  unfold eqBool
  refine wpAny_holding ?_
  simp only [beq_self_eq_true, if_true]
  exact wpAny_bind (wpAny_rule (wpAny_pure ⟨rfl, H, I, gr.refl _⟩))
/-- by the class's own __eq__ -/
def dOwn (K : Frag) (g : Addr) (sp : Sp) : EqB := fun Rl x y H b => ∃ a c C dx fs C2 dy f2, x = .ref a ∧ y = .ref c ∧ a ≠ c ∧ H a = some (.ins C dx fs) ∧ H c = some (.ins C2 dy f2) ∧ findIn K (.ref C) "__eq__" = some (some (.ref g)) ∧ InT K C2 ∧ notFirst K C (.ref C2) = true ∧
  ∀ G : Hp, Rl H G → ∀ Q : VK, (∀ G2, Rl G G2 → Q (.bl b) G2) → sp [x, y] G Q E0
theorem eq_own {X : Cx} {k : Nat} {f : Addr} {fd : FuncData} {ps : List Str} {sp : Sp} (F : Fk X.prog X.w X.K X.mg X.base k f fd ps sp) (hf : isFn X.K (.ref f) = true) (hb : Binds X.K fd ps []) : EqOk X k (dOwn X.K f sp) := by
  refine ⟨fun gr d s => ?_, fun Rl A pins s σ H x y u v b E gr hr fr I rx ry d => ?_⟩
  · obtain ⟨a, c, C, dx, fs, C2, dy, f2, h1, h2, h3, h4, h5, h6, h7, h8, h9⟩ := d
    exact ⟨a, c, C, dx, fs, C2, dy, f2, h1, h2, h3, gr.ins s h4, gr.ins s h5, h6, h7, h8, fun G sg => h9 G (gr.trans s sg)⟩
  · obtain ⟨a, c, C, dx, fs, C2, dy, f2, rfl, rfl, hne, ha, hc, he, hT, nf, hs⟩ := d
    obtain rfl : u = Value.ref a := rx
    obtain rfl : v = Value.ref c := ry
    refine eqBool_refG hne ?_
    obtain ⟨mA, J, _⟩ := ins_get I.hok ha
    obtain ⟨od, J, _⟩ := J.look
    obtain ⟨m, hF⟩ := I.fr
    obtain ⟨Pz, Z, p, _⟩ := kit_of I (show RelV (.ref c) (.ref c) from rfl) (hT.ty hc)
    refine cmp_K (op := .Eq) hr.units0 hF I.ok.mod.kin J (Z.ty _ _ I.kIn p) nf he hf (wpAny_mono (run_at (Q := fun z G2 => z = .bl b ∧ Rl H G2) F hr fr hb I (.cons (show RelV (.ref a) (.ref a) from rfl) (.cons (show RelV (.ref c) (.ref c) from rfl) .nil)) (hs H (gr.refl _) _ fun G2 s2 => ⟨rfl, s2⟩)) (fun z s2 q => ?_) fun _ _ z => z)
    obtain ⟨z2, G2, I2, r2, rfl, sg⟩ := q
    obtain rfl : z = Value.bool b := r2
    exact ⟨b, rfl, rfl, G2, I2, sg⟩
/-- the items' answers, one by one -/
def seqB (D : V → V → Hp → Bool → Prop) (H : Hp) : List V → List V → Bool → Prop
  | x :: xs, y :: ys, b => (D x y H false ∧ b = false) ∨ (D x y H true ∧ seqB D H xs ys b)
  | [], [], b => b = true
  | _, _, b => b = false
end SJ
namespace SJ
open PySem PySem.Spec PySem.W PyProof.Rows L2 GQ PySem.MeetsSeq3
def rSeqC (K : Frag) (D : EqB) (nm : Bool) : R2 := fun x y H Q => ∃ Rl a c xs ys b, Grow Rl ∧ x = .ref a ∧ y = .ref c ∧ ((SqT K H a xs ∧ SqT K H c ys) ∨ (H a = some (.lst xs) ∧ H c = some (.lst ys) ∧ (xs.length ≠ ys.length → b = false))) ∧ seqB (D Rl) H xs ys b ∧ ∀ H2, Rl H H2 → Q (.bl (if nm then b else !b)) H2
section
variable {X : Cx} {k : Nat} {D : EqB} {Rl : Hp → Hp → Prop}
theorem seqB_step {D : V → V → Hp → Bool → Prop} {H : Hp} {xs ys : List V} {b : Bool} {i : Nat} {x y : V} (h : seqB D H (xs.drop i) (ys.drop i) b) (hx : xs[i]? = some x) (hy : ys[i]? = some y) : (D x y H false ∧ b = false) ∨ (D x y H true ∧ seqB D H (xs.drop (i + 1)) (ys.drop (i + 1)) b) := by
  have lx := (List.getElem?_eq_some_iff.mp hx).1
  have ly := (List.getElem?_eq_some_iff.mp hy).1
  rw [List.drop_eq_getElem_cons lx, List.drop_eq_getElem_cons ly] at h
  rw [List.getElem?_eq_getElem lx] at hx
  rw [List.getElem?_eq_getElem ly] at hy
  cases hx
  cases hy
  exact h
theorem seqB_end {D : V → V → Hp → Bool → Prop} {H : Hp} {xs ys : List V} {b : Bool} (h : seqB D H (xs.drop (min xs.length ys.length)) (ys.drop (min xs.length ys.length)) b) : b = decide (xs.length = ys.length) := by
  by_cases e : xs.length = ys.length
  · rw [← e, Nat.min_self, List.drop_length, e, List.drop_length] at h
    rw [decide_eq_true e]
    exact h
  · rw [decide_eq_false e]
    rcases Nat.lt_or_gt_of_ne e with l | l
    · rw [Nat.min_eq_left (by omega), List.drop_length] at h
      cases q : ys.drop xs.length with
      | nil => have := congrArg List.length q; rw [List.length_drop] at this; simp at this; omega
      | cons z zs => rw [q] at h; exact h
    · rw [Nat.min_eq_right (by omega), List.drop_length] at h
      cases q : xs.drop ys.length with
      | nil => have := congrArg List.length q; rw [List.length_drop] at this; simp at this; omega
      | cons z zs => rw [q] at h; exact h
/-- a turn of either loop -/
theorem turn_B (gr : Grow Rl) (E1 : EqOk X k D) (hr : Rm (k + 1) X.A) {pins : List (Addr × Obj)} {σ : L2.St} {H : Hp} {xs ys : List V} {b : Bool} {its its2 : Array Value} (r : Vals xs its.toList) (r2 : Vals ys its2.toList) {E : Value → Shared → Prop} {i : Nat} {s : Shared} (h1 : i < its.size) (h2 : i < its2.size)
    (hI : ∃ H2, Inv X pins σ H2 s ∧ Rl H H2 ∧ seqB (D Rl) H (xs.drop i) (ys.drop i) b) : wpAny (model X.prog X.w) X.A.in1 (eqBool its[i] its2[i]) (fun r s2 => if r = true then ∃ H2, Inv X pins σ H2 s2 ∧ Rl H H2 ∧ seqB (D Rl) H (xs.drop (i + 1)) (ys.drop (i + 1)) b else b = false ∧ ∃ H2, Inv X pins σ H2 s2 ∧ Rl H H2) E s := by
  obtain ⟨H2, I2, s2, hb⟩ := hI
  have lx : i < xs.length := by rw [r.length, Array.length_toList]; exact h1
  have ly : i < ys.length := by rw [r2.length, Array.length_toList]; exact h2
  obtain ⟨u, eu, ru⟩ := r.get (List.getElem?_eq_getElem lx)
  obtain ⟨v, ev, rv⟩ := r2.get (List.getElem?_eq_getElem ly)
  have e1 : its[i] = u := by
    rw [Array.getElem?_toList, Array.getElem?_eq_getElem h1] at eu
    exact Option.some.inj eu
  have e2 : its2[i] = v := by
    rw [Array.getElem?_toList, Array.getElem?_eq_getElem h2] at ev
    exact Option.some.inj ev
  rw [e1, e2]
  rcases seqB_step hb (List.getElem?_eq_getElem lx) (List.getElem?_eq_getElem ly) with ⟨d, e⟩ | ⟨d, e⟩
  · refine wpAny_mono (E1.run Rl X.A.in1 pins s σ H2 _ _ u v false E gr hr.in1 rfl I2 ru rv (E1.mono gr d s2)) (fun z s3 q => ?_) fun _ _ z => z
    obtain ⟨rfl, H3, I3, s3⟩ := q
    exact ⟨e, H3, I3, gr.trans s2 s3⟩
  · refine wpAny_mono (E1.run Rl X.A.in1 pins s σ H2 _ _ u v true E gr hr.in1 rfl I2 ru rv (E1.mono gr d s2)) (fun z s3 q => ?_) fun _ _ z => z
    obtain ⟨rfl, H3, I3, s3⟩ := q
    exact ⟨H3, I3, gr.trans s2 s3, e⟩
theorem seqC_run (nm : Bool) (E1 : EqOk X k D) (hr : Rm (k + 1) X.A) : OpR X (compareOp (if nm then .Eq else .NotEq)) (rSeqC X.K D nm) := by
  intro pins s σ H x y v u Q I rx ry h
  obtain ⟨Rl, a, c, xs, ys, b, gr, rfl, rfl, hk, hb, q⟩ := h
  obtain rfl : v = Value.ref a := rx
  obtain rfl : u = Value.ref c := ry
  have fin : ∀ {s2 : Shared} {H2 : Hp}, Inv X pins σ H2 s2 → Rl H H2 → EP X pins σ Q (.bool (if nm then b else !b)) s2 := fun {s2 H2} I2 s2 => ⟨.bl _, H2, I2, rfl, q _ s2⟩
  have fin2 : ∀ {s2 : Shared}, (b = false ∧ ∃ H2, Inv X pins σ H2 s2 ∧ Rl H H2) → EP X pins σ Q (.bool (!nm)) s2 := fun {s2} ⟨e, H2, I2, s2⟩ => by
    have := fin I2 s2
    rw [e] at this
    cases nm <;> exact this
  have go : wpAny (model X.prog X.w) X.A (richCompare (if nm then .Eq else .NotEq) (.ref a) (.ref c)) (EP X pins σ Q) X.xe s := by
    rcases hk with ⟨t1, t2⟩ | ⟨l1, l2, hlen⟩
    · obtain ⟨its, r, ⟨⟨cls, dd, data, sl⟩, ho, hc, n, hd⟩, _⟩ := I.tuple t1
      obtain ⟨its2, r2, ⟨⟨cls2, dd2, data2, sl2⟩, ho2, hc2, n2, hd2⟩, _⟩ := I.tuple t2
      simp only at hc hd hc2 hd2
      subst hc hd hc2 hd2
      have T := tup_cmp (A := X.A) (prog := X.prog) (w := X.w) (R := wants (fun v s2 => v ≠ .notImplemented ∧ EP X pins σ Q v s2) X.xe) (if nm then .Eq else .NotEq) nm a c its.toArray its2.toArray n n2 dd dd2 sl sl2 (by cases nm; exact .inr ⟨rfl, rfl⟩; exact .inl ⟨rfl, rfl⟩)
        (fun i s2 => ∃ H2, Inv X pins σ H2 s2 ∧ Rl H H2 ∧ seqB (D Rl) H (xs.drop i) (ys.drop i) b) (fun i h1 h2 s2 hI => wpAny_mono (turn_B gr E1 hr (its := its.toArray) (its2 := its2.toArray) (by simpa using r) (by simpa using r2) h1 h2 hI) (fun z s3 qz => by
          cases z with
          | true => exact qz
          | false => exact ⟨(fun z => nomatch z), fin2 qz⟩) fun _ _ z => z) (fun s2 ⟨H2, I2, sg, hb2⟩ => ⟨(fun z => nomatch z), ?_⟩) ho ho2 ⟨H, I, gr.refl _, hb⟩
      · cases nm with
        | true =>
          refine wpAny_richCompare_same_room (op := .Eq) ⟨_, ho, rfl⟩ ⟨_, ho2, rfl⟩ F.slot_tuple_eq (call_here F.slot_tuple_eq ⟨_, ho, rfl⟩ F.entry_tuple_eq (F.args_tuple_eq_2 _ _) ?_) hr.units0
          exact T
        | false =>
          refine wpAny_richCompare_same_room (op := .NotEq) ⟨_, ho, rfl⟩ ⟨_, ho2, rfl⟩ F.slot_tuple_ne (call_here F.slot_tuple_ne ⟨_, ho, rfl⟩ F.entry_tuple_ne (F.args_tuple_ne_2 _ _) ?_) hr.units0
          exact T
      · have e1 : its.toArray.size = xs.length := by rw [List.size_toArray, ← r.length]
        have e2 : its2.toArray.size = ys.length := by rw [List.size_toArray, ← r2.length]
        rw [e1, e2] at hb2 ⊢
        have := fin I2 sg
        rw [seqB_end hb2] at this
        exact this
    · have two : ∀ {H2 : Hp} {s2 : Shared}, Inv X pins σ H2 s2 → Rl H H2 → ∃ its its2, Two s2 a c xs.length ys.length its its2 ∧ Vals xs its.toList ∧ Vals ys its2.toList := fun {H2 s2} I2 sg => by
        obtain ⟨z, its, n, r, hz, e⟩ := I2.lstM (gr.lst sg l1)
        obtain ⟨z', its2, n2, r2, hz2, e2⟩ := I2.lstM (gr.lst sg l2)
        exact ⟨its.toArray, its2.toArray, ⟨by rw [List.size_toArray, ← r.length], by rw [List.size_toArray, ← r2.length], n, n2, e, e2⟩, by simpa using r, by simpa using r2⟩
      have T := lst_cmp (A := X.A) (prog := X.prog) (w := X.w) (R := wants (fun v s2 => v ≠ .notImplemented ∧ EP X pins σ Q v s2) X.xe) nm a c xs.length ys.length
        (fun i s2 => ∃ H2, Inv X pins σ H2 s2 ∧ Rl H H2 ∧ seqB (D Rl) H (xs.drop i) (ys.drop i) b) (fun i s2 hI => by
          obtain ⟨H2, I2, sg, hb2⟩ := hI
          obtain ⟨its, its2, tw, r, r2⟩ := two I2 sg
          refine ⟨its, its2, tw, fun h1 h2 => wpAny_mono (turn_B gr E1 hr r r2 h1 h2 ⟨H2, I2, sg, hb2⟩) (fun z s3 qz => ?_) fun _ _ z => z⟩
          cases z with
          | true =>
            obtain ⟨H3, I3, sg3, hb3⟩ := id qz
            obtain ⟨j1, j2, tw3, _⟩ := two I3 sg3
            exact ⟨⟨j1, j2, tw3⟩, qz⟩
          | false =>
            obtain ⟨_, H3, I3, sg3⟩ := id qz
            obtain ⟨j1, j2, tw3, _⟩ := two I3 sg3
            exact ⟨⟨j1, j2, tw3⟩, (fun z => nomatch z), fin2 qz⟩) (fun e s2 ⟨H2, I2, sg, hb2⟩ => ⟨(fun z => nomatch z), ?_⟩) (s := s) ⟨H, I, gr.refl _, hb⟩ (fun e => ⟨(fun z => nomatch z), fin2 ⟨hlen e, H, I, gr.refl _⟩⟩)
      · obtain ⟨its, its2, ⟨_, _, n, n2, e1, e2⟩, _⟩ := two I (gr.refl _)
        cases nm with
        | true =>
          refine wpAny_richCompare_same_room (op := .Eq) ⟨_, e1, rfl⟩ ⟨_, e2, rfl⟩ F.slot_list_eq (call_here F.slot_list_eq ⟨_, e1, rfl⟩ F.entry_list_eq (F.args_list_eq_2 _ _) ?_) hr.units0
          exact T
        | false =>
          refine wpAny_richCompare_same_room (op := .NotEq) ⟨_, e1, rfl⟩ ⟨_, e2, rfl⟩ F.slot_list_ne (call_here F.slot_list_ne ⟨_, e1, rfl⟩ F.entry_list_ne (F.args_list_ne_2 _ _) ?_) hr.units0
          exact T
      · have hb3 : b = true := by
          have z := seqB_end (D := D Rl) (H := H) (xs := xs) (ys := ys) (b := b) (by rw [← e, Nat.min_self]; rw [e] at hb2 ⊢; exact hb2)
          rw [z, decide_eq_true e]
        have := fin I2 sg
        rw [hb3] at this
        cases nm <;> exact this
  cases nm <;> exact go
end
end SJ
namespace SJ
open PySem PySem.Spec PyProof.Rows L2 He LamX
/-- the tables at ts, empty -/
structure TabsAt (K : PySem.W.Frag) (h : Heap) (cs : List (Addr × Addr)) : Prop where
  got : ∀ q ∈ cs, h.get? q.2 = some { cls := .none, data := .fields #[] }
  out : ∀ q ∈ cs, K.lookup q.2 = none
  code : ∀ q ∈ cs, PySem.W.CodeHd h q.1 q.2
theorem law_tab {P : Program} {w : World} {K : PySem.W.Frag} {mg mb : Str → Option Value} {k : Nat} {fa a : Addr} {cs : List (Addr × Addr)} {fd : FuncData} {x : Str} {sp : Sp} {s1 : Shared} {us : List Value} {ns : List Int}
    (KX : K.In s1.heap) (hns : s1.heap.Ns mainGlobals mg) (hbn : s1.heap.Ns builtinsNs mb) (hbb : ∀ x : Str, x ≠ "__name__" → mb x = bootBuiltins x) (hlim : s1.heap.NoLimit) (hg : s1.gens = #[]) (TC : TabsAt K s1.heap cs)
    (hbm : ∃ (bm : Addr) (ob : Obj), mg "__builtins__" = some (.ref bm) ∧ bm ≠ builtinsNs ∧ s1.heap.get? bm = some ob ∧ ob.cls = .type "module" ∧ ob.dict = some builtinsNs ∧ ob.data = .plain)
    (ha : s1.heap.get? a = some { cls := .type "list", data := .seq us.toArray }) (hi : IntsAre us ns) (hl : ns.length ≤ sizeLine) (hr : Rm k callerA)
    (F : ∀ base : Heap, K.In base → base.Ns mainGlobals mg → (∀ q ∈ cs, TabB base mg q.1 q.2) → Fk P w K mg base k fa fd [x] sp) (hbind : ∀ (s : Shared) (u : Value), BindsTo s fd ⟨[u], []⟩ [(x, u)])
    (hsp : ∀ H : Hp, (∀ q ∈ cs, H q.2 = some (.tbl #[])) → SqL K H a (ns.map V.int) → (∀ b o, H b = some o → (∃ q ∈ cs, b = q.2) ∨ b = a) → sp [.ref a] H (fun v _ => v = .bl true) fun _ _ _ => False) :
    codeAny (model P w) callerA (.call (.ref fa) ⟨[.ref a], []⟩) (fun rr s2 => rr = .ok (.ret (.bool true)) ∧ OldK s1.heap s2.heap ∧ s2.os = s1.os ∧ AllBare s2.gens) s1 := by
  have rv := vals_ints hi
  have dec : ∀ b, (∃ q ∈ cs, b = q.2) ∨ ¬ ∃ q ∈ cs, b = q.2 := fun b => Classical.em _
  have isT : ∀ {b : Addr}, (∃ q ∈ cs, b = q.2) → s1.heap.get? b = some { cls := .none, data := .fields #[] } := fun {b} ⟨q, hq, e⟩ => by rw [e]; exact TC.got q hq
  have aT : ¬ ∃ q ∈ cs, a = q.2 := fun z => by
    have e := isT z
    rw [ha] at e
    exact nomatch (show Data.seq us.toArray _ = Data.fields #[] from congrArg Obj.data (Option.some.inj e))
  have go : ∀ H : Hp, (∀ q ∈ cs, H q.2 = some (.tbl #[])) → SqL K H a (ns.map V.int) → HOk P w H s1.heap → (∀ b o, H b = some o → (∃ q ∈ cs, b = q.2) ∨ (b = a ∧ K.lookup a = none ∧ ∃ ob xs, o = .frz ob (.lst xs))) →
      codeAny (model P w) callerA (.call (.ref fa) ⟨[.ref a], []⟩) (fun rr s2 => rr = .ok (.ret (.bool true)) ∧ OldK s1.heap s2.heap ∧ s2.os = s1.os ∧ AllBare s2.gens) s1 := by
    intro H hT hS hok only
    have free : ∀ {b : Addr} {o : Obj}, s1.heap.get? b = some o → (∀ vs n, o.data ≠ .seq vs n) → o.data ≠ .fields #[] → H b = none := fun {b o} eo n1 n2 => by
      cases q : H b with
      | none => rfl
      | some u =>
        rcases only b u q with z | ⟨rfl, _⟩
        · rw [isT z] at eo; cases eo; exact (n2 rfl).elim
        · rw [ha] at eo; cases eo; exact (n1 _ _ rfl).elim
    have freeD : ∀ {b : Addr} {o : Obj} {es : Array DictEntry} {ep : Nat}, s1.heap.get? b = some o → o.data = .dict es ep → H b = none := fun {b o es ep} eo ed => free eo (fun vs n z => by rw [ed] at z; cases z) fun z => by rw [ed] at z; cases z
    have nsK : ∀ {b : Addr} {m : Str → Option Value}, s1.heap.Ns b m → (hidT s1.heap H).Ns b m := fun {b m} ⟨o, es, ep, eo, ed, rr⟩ => ⟨o, es, ep, hidT_get eo (freeD eo ed), ed, rr⟩
    have Kb : K.In (hidT s1.heap H) := fun b o e => hidT_get (KX b o e) (by
      cases q : H b with
      | none => rfl
      | some u =>
        rcases only b u q with ⟨p, hp, rfl⟩ | ⟨rfl, z, _⟩
        · rw [TC.out p hp] at e; cases e
        · rw [z] at e; cases e)
    have M : Mod K mg (hidT s1.heap H) := ⟨Kb, nsK hns, ⟨mb, nsK hbn, hbb⟩, let ⟨mc, z1, z2⟩ := hlim; ⟨mc, nsK z1, z2⟩⟩
    have TB : ∀ q ∈ cs, TabB (hidT s1.heap H) mg q.1 q.2 := fun q hq => by
      refine ⟨?_, ?_, fun z => ?_⟩
      · obtain ⟨o, vs, file, tf, flags, tg, inF, text, tt, e1, r1, r2, r3, rest⟩ := TC.code q hq
        refine ⟨o, vs, file, tf, flags, tg, inF, text, tt, hidT_get e1 (free e1 (fun vs n z => by rw [r2] at z; cases z) fun z => ?_), r1, r2, r3, rest⟩
        rw [r2] at z
        cases z
        simp at r3
      · obtain ⟨bm, ob, b1, b2, b3, b4, b5, b6⟩ := hbm
        refine ⟨bm, ob, b1, b2, fun z => ?_, fun z => ?_, hidT_get b3 (free b3 (fun vs n z => by rw [b6] at z; cases z) fun z => by rw [b6] at z; cases z), b4, b5, b6⟩
        · obtain ⟨o, es, ep, e, hd, _⟩ := hns
          rw [z, e] at b3; cases b3
          rw [hd] at b6; cases b6
        · rw [z, TC.got q hq] at b3; cases b3; cases b6
      · obtain ⟨o, es, ep, e, hd, _⟩ := hns
        rw [z, TC.got q hq] at e; cases e; cases hd
    have e0 : Env0 P w K mg (hidT s1.heap H) callerA [] s1 H := ⟨rfl, M, fun b o e => of_hidT e, Nat.le_of_eq (hidT_size _ _), trivial, fun b z => absurd (show b ∈ ([] : List Addr) from z) (by simp), hok, .of_eq hg⟩
    refine codeAny_mono ((F _ Kb (nsK hns) TB).run callerA [] s1 H ⟨[.ref a], []⟩ [.ref a] [.ref a] _ _ hr e0 (hbind s1 (.ref a)) (.cons rfl .nil) (hsp H hT hS fun b o e => (only b o e).imp id And.left)) fun rr s2 h => ?_
    cases rr with
    | error e => obtain ⟨_, _, _, _, _, _, _, _, _, _, _, _, z⟩ := h; exact z.elim
    | ok fl =>
      cases fl with
      | next => exact h.elim
      | brk => exact h.elim
      | cont => exact h.elim
      | ret u =>
        obtain ⟨v, H2, os, bare, un, hok2, r2, q⟩ := h
        obtain rfl : v = .bl true := q
        obtain rfl : u = Value.bool true := r2
        have kept : ∀ b o, (¬ ∃ q ∈ cs, b = q.2) → s1.heap.get? b = some o → s2.heap.get? b = some o := fun b o nb e => by
          cases q : H b with
          | none => exact un.keep b o e q (fun z => absurd (show b ∈ ([] : List Addr) from z) (by simp)) (by simp)
          | some u =>
            rcases only b u q with z | ⟨_, _, ob, xs, z⟩
            · exact absurd z nb
            · rw [z] at q
              obtain ⟨z1, _⟩ := hok b _ q
              obtain ⟨z2, _⟩ := hok2 b _ (un.frzs b ob _ q)
              rw [e] at z1; cases z1
              exact z2
        have grown : ∀ q ∈ cs, ∃ more : Array Value, s2.heap.get? q.2 = some { cls := .none, data := .fields more } := fun q hq => by
          obtain ⟨more, z⟩ := un.tbls q.2 #[] (hT q hq)
          exact ⟨_, hok2 q.2 _ z⟩
        refine ⟨rfl, ⟨fun b o e => ?_, fun b o e => ?_⟩, os, bare⟩
        · rcases dec b with ⟨q, hq, rfl⟩ | nb
          · obtain ⟨more, hm⟩ := grown q hq
            rw [TC.got q hq] at e
            cases e
            exact .inr (.inl ⟨((TC.code q hq).tab (TC.got q hq)).isCodeTable, rfl, #[], more, rfl, by rw [Array.empty_append]; exact hm⟩)
          · exact .inl (kept b o nb e)
        · rcases dec b with ⟨q, hq, rfl⟩ | nb
          · obtain ⟨more, hm⟩ := grown q hq
            exact ⟨_, hm⟩
          · exact ⟨o, kept b o nb e⟩
  have d2 : ∀ b, Decidable (∃ q ∈ cs, b = q.2) := fun b => Classical.propDecidable _
  by_cases hk : K.lookup a = none
  · refine go (fun b => if b = a then some (.frz { cls := .type "list", data := .seq us.toArray } (.lst (ns.map V.int))) else if ∃ q ∈ cs, b = q.2 then some (.tbl #[]) else none) (fun q hq => ?_) (.inl (.inr ⟨_, if_pos rfl⟩)) (fun b o e => ?_) (fun b o e => ?_)
    · exact (if_neg (fun z => aT ⟨q, hq, z.symm⟩)).trans (if_pos ⟨q, hq, rfl⟩)
    · by_cases eb : b = a
      · have e2 := (if_pos eb).symm.trans e
        subst eb
        cases e2
        exact ⟨ha, by rw [List.length_map]; exact hl, us, _, rv, ha⟩
      · have e2 := (if_neg eb).symm.trans e
        by_cases et : ∃ q ∈ cs, b = q.2
        · cases (if_pos et).symm.trans e2
          exact isT et
        · exact nomatch (if_neg et).symm.trans e2
    · by_cases eb : b = a
      · cases (if_pos eb).symm.trans e
        exact .inr ⟨eb, hk, _, _, rfl⟩
      · have e2 := (if_neg eb).symm.trans e
        by_cases et : ∃ q ∈ cs, b = q.2
        · exact .inl et
        · exact nomatch (if_neg et).symm.trans e2
  · obtain ⟨o, ho⟩ : ∃ o, K.lookup a = some o := by
      cases q : K.lookup a with
      | none => exact absurd q hk
      | some o => exact ⟨o, rfl⟩
    have eo := KX _ _ ho
    rw [ha] at eo
    cases eo
    refine go (fun b => if ∃ q ∈ cs, b = q.2 then some (.tbl #[]) else none) (fun q hq => if_pos ⟨q, hq, rfl⟩) (.inr ⟨_, us.toArray, _, ho, rfl, rfl, rfl, by rw [List.size_toArray, ← rv.length, List.length_map]; exact hl, rv⟩) (fun b o e => ?_) (fun b o e => ?_)
    · by_cases et : ∃ q ∈ cs, b = q.2
      · cases (if_pos et).symm.trans e
        exact isT et
      · exact nomatch (if_neg et).symm.trans e
    · by_cases et : ∃ q ∈ cs, b = q.2
      · exact .inl et
      · exact nomatch (if_neg et).symm.trans e
theorem walk_tab {l : PySem.W.OpenLaw} {n k : Nat} {q : Program} {loose : List Str} {XP : (Str → Option Value) → Heap → Prop} {YP : World → Heap → Prop} {d : DefRec} {x : Str}
    (hn : l.most = some n) (hn2 : n ≤ sizeLine) (hdf : d.params.defaults = []) (hr : Rm k callerA)
    (F : ∀ (w : World) (mg : Str → Option Value) (fa : Addr) (h : Heap), YP w h → h.Ns mainGlobals mg → mg d.name = some (.ref fa) →
      ∃ (K : PySem.W.Frag) (fd : FuncData) (cs : List (Addr × Addr)) (sp : Sp), K.In h ∧ TabsAt K h cs ∧ (∀ (s : Shared) (u : Value), BindsTo s fd ⟨[u], []⟩ [(x, u)]) ∧
        (∀ (H : Hp) (a : Addr) (ns : List Int), ns.length ≤ n → (∀ q ∈ cs, H q.2 = some (.tbl #[])) → SqL K H a (ns.map V.int) → (∀ b o, H b = some o → (∃ q ∈ cs, b = q.2) ∨ b = a) → sp [.ref a] H (fun v _ => v = .bl true) fun _ _ _ => False) ∧
        ∀ base : Heap, K.In base → base.Ns mainGlobals mg → (∀ q ∈ cs, TabB base mg q.1 q.2) → Fk l.prog w K mg base k fa fd [x] sp) :
    PySem.W.WalkO q loose XP YP l.row.toRowW d [] (fun f vs => PySem.call f vs) := by
  refine Att.attach_call hn hdf fun w s0 s1 mg mb fa o pm cd doc a vs ns G Y ho hd hcd hmg hobj hints hlen hg => ?_
  obtain ⟨K, fd, cs, sp, KX, TC, hb, hsp, hF⟩ := F w mg fa _ Y G.T.g hmg
  exact law_tab KX G.T.g G.T.b G.T.builtins G.T.nolimit hg TC G.T.bmain hobj hints (Nat.le_trans hlen hn2) hr hF hb fun H hT hS ho => hsp H a ns hlen hT hS ho
def rIsiS (K : PySem.W.Frag) : List V → Hp → VK → Prop := fun xs H Q => ∃ (x : V) (tp : Addr) (cs : List V) (t : Value) (us : List Value) (b : Bool), xs = [x, .ref tp] ∧ SqT K H tp cs ∧ Paired ClsV cs us ∧ TyX K H x t ∧ PySem.W.kitAny K t us = some b ∧ Q (.bl b) H
theorem c_isiS {X : Cx} : CallR X (.builtin "isinstance") (rIsiS X.K) := by
  intro pins s σ H xs us Q I r h
  obtain ⟨x, tp, cs, t, ws, b, rfl, hT, k, ty, e, q⟩ := h
  obtain ⟨u1, u2, rfl, r1, r2⟩ := vals2 r
  obtain rfl : u2 = Value.ref tp := r2
  obtain ⟨P, Z, p, hx⟩ := kit_of I r1 ty
  obtain ⟨its, rv, ⟨⟨oc, od, dt, sl⟩, h1, h2, n, h3⟩, _⟩ := I.tuple hT
  obtain rfl := ClsV.all k rv
  simp only at h2 h3
  subst h2 h3
  exact PySem.W.kia_tup Z I.kIn p h1 e hx fun tk => ⟨.bl b, H, I.tok tk, rfl, q⟩
end SJ
namespace SJ
open PySem PySem.Spec PyProof.Rows L2 He LamX
def codeA (K : PySem.W.Frag) (a : Addr) : Addr := match K.lookup a with
  | some ⟨_, _, .func fd, _⟩ => (match fd.code with
    | .ref c => c
    | _ => 0)
  | _ => 0
def cTA (K : PySem.W.Frag) (d : DD) : Addr × Addr := (codeA K (d.ad K), tabOf K (codeA K (d.ad K)))
structure SaysW (file : Str) (fa : List Tst) (fn : List DD) (fx : List XD) (tf : List DD) (h : Heap) (K : PySem.W.Frag) : Prop where
  z : SaysZ file fa fn fx K
  hd : ∀ d ∈ tf, PySem.W.codeHdIn K (cTA K d).1 (cTA K d).2 = true
  out : ∀ d ∈ tf, K.lookup (cTA K d).2 = none
  got : ∀ d ∈ tf, h.get? (cTA K d).2 = some { cls := .none, data := .fields #[] }
def tabW (g : Addr → Option Obj) (tf : List DD) (K : PySem.W.Frag) : Bool := tf.all fun d => PySem.W.codeHdIn K (cTA K d).1 (cTA K d).2 && (match g (cTA K d).2 with
  | some o => emptyTab o
  | none => false)
abbrev AlW : Type := AlZ × Bool
theorem SaysW.tabs {file : Str} {fa : List Tst} {fn : List DD} {fx : List XD} {tf : List DD} {h : Heap} {K : PySem.W.Frag} (c : SaysW file fa fn fx tf h K) (KX : K.In h) : TabsAt K h (tf.map (cTA K)) := by
  refine ⟨fun q hq => ?_, fun q hq => ?_, fun q hq => ?_⟩ <;> obtain ⟨d, hd, rfl⟩ := List.mem_map.mp hq
  · exact c.got d hd
  · exact c.out d hd
  · exact PySem.W.codeHd_of_K KX (c.hd d hd)
theorem code_at {K : PySem.W.Frag} {f : Addr} {oc cdv : Value} {od : Option Addr} {osl : Array (Option Value)} {x qual : Str} {pa : Arguments} {bo : List Stmt} {sc : Scope} {dV kV doc pm ct : Value} {an : Option Addr} (lk : K.lookup f = some ⟨oc, od, .func (PySem.W.fnOf x qual pa bo sc dV kV doc pm an cdv ct), osl⟩) (hcd : PySem.W.codeIn K cdv qual = true) : cdv = .ref (codeA K f) := by
  obtain ⟨c0, rfl⟩ := codeIn_ref hcd
  unfold codeA
  rw [lk]
/-- fk_of, fs_of, the code object known -/
theorem fkC_of {P : Program} {w : World} {K : PySem.W.Frag} {mg : Str → Option Value} {base : Heap} {x qual : Str} {pa : Arguments} {bo : List Stmt} {sc : Scope} {dvs : List V} {kws : List (Str × V)} {f : Addr} {fd : FuncData} {N ps : List Str} {k : Nat} {sp : Sp}
    (F : FunD K x qual pa bo sc dvs kws f fd) (S : FnScope N ps sc) (len : ∀ vs H Q E, sp vs H Q E → vs.length = ps.length)
    (hb : ∀ (cdv : Value), cdv = .ref (codeA K f) → ∀ (A : Around) (outer : List Env) (s : Shared) (H : Hp) (vs : List V) (Q : VK) (E : XK), Rm k (A.deeper (envOfC qual sc s.heap.objs.size f cdv)) → sp vs H Q E →
      ∃ t, PSs (cxOf (L2.CX P w) P w K mg base N qual sc f cdv A outer s H E) bo t ∧ t { nx := fun _ H2 => Q .non H2, rt := Q } (start N vs) H) : Fk P w K mg base (k + 1) f fd ps sp := by
  obtain ⟨oc, od, dV, kV, doc, pm, an, cdv, ct, osl, rfl, lk, hcd, _, _⟩ := F.ex
  have hcv : cdv = .ref (codeA K f) := code_at lk hcd
  refine ⟨len, fun A outer s H args us vs Q E hr e0 hbi rv hsp => ?_⟩
  have hl := len _ _ _ _ hsp
  have KX : K.In s.heap := e0.mod.kin.keeps fun b o z => (e0.bs b o z).1
  have lim : s.heap.NoLimit := e0.mod.nolimit.keeps fun b o z => (e0.bs b o z).1
  have kinds : ∀ y ∈ ps.zip us, sc.names.lookup y.1 = some .local ∨ (sc.names.lookup y.1 = some .cell ∧ ((cellsFrom (s.heap.objs.size + 1) sc.names []).lookup y.1).isSome = true) := fun ⟨n, v⟩ hy => by
    rcases S.par n (List.of_mem_zip hy).1 with z | z
    · exact .inl z
    · exact .inr ⟨z, PySem.W.cellsFrom_some _ _ _ (.inl z)⟩
  refine codeAny_call_function hr.r.depth (KX _ _ lk) rfl S.co S.gen rfl (PySem.W.codeRec_of KX hcd) (hbi _ _ _ _ (wpAny_newFunctionEnv_cells S.kind kinds fun env he s1 x1 => ?_))
  subst he
  refine ⟨lim.keeps x1.toInCall.keep, codeAny_func ?_⟩
  obtain ⟨t, ht, hq⟩ := hb cdv hcv A outer s H vs Q E (hr.deeper _) hsp
  have I : Inv (cxOf (L2.CX P w) P w K mg base N qual sc f cdv A outer s H E) [] (start N vs) H s1 := inv_start S hr.r.hd e0 hl rv x1
  refine wpAny_mono (ht.run [] s1 (start N vs) H _ I hq) (fun fl s2 hs => ?_) fun _ _ z => z
  cases fl with
  | ret u => obtain ⟨v, σ2, H2, J, r2, q⟩ := hs; exact ⟨v, H2, J.os, J.bare, J.base, J.hok, r2, q⟩
  | next => obtain ⟨σ2, H2, J, q⟩ := hs; exact ⟨.non, H2, J.os, J.bare, J.base, J.hok, rfl, q⟩
  | brk => obtain ⟨_, _, _, q⟩ := hs; exact q.elim
  | cont => obtain ⟨_, _, _, q⟩ := hs; exact q.elim
theorem fsC_of {P : Program} {w : World} {K : PySem.W.Frag} {mg : Str → Option Value} {base : Heap} {x qual : Str} {pa : Arguments} {bo : List Stmt} {sc : Scope} {dvs : List V} {kws : List (Str × V)} {f : Addr} {fd : FuncData} {N ps : List Str} {pv : Str} {k : Nat} {sp : Sp}
    (F : FunD K x qual pa bo sc dvs kws f fd) (S : FnScope N (ps ++ [pv]) sc)
    (hb : ∀ (cdv : Value), cdv = .ref (codeA K f) → ∀ (A : Around) (outer : List Env) (s : Shared) (H : Hp) (vs : List V) (Q : VK) (E : XK), Rm k (A.deeper (envOfC qual sc s.heap.objs.size f cdv)) → sp vs H Q E →
      ∃ t, PSs (cxOf (L2.CX P w) P w K mg base N qual sc f cdv A outer s H E) bo t ∧ t { nx := fun _ H2 => Q .non H2, rt := Q } (start N vs) H) : Fs P w K mg base (k + 1) f fd ps pv sp := by
  obtain ⟨oc, od, dV, kV, doc, pm, an, cdv, ct, osl, rfl, lk, hcd, _, _⟩ := F.ex
  have hcv : cdv = .ref (codeA K f) := code_at lk hcd
  refine ⟨fun A outer s H args us rs vs xs Q E hr e0 hbi rv rx hl hz hsp => ?_⟩
  have hn : H s.heap.objs.size = none := e0.hok.fresh (Nat.le_refl _)
  have hl1 : us.length = ps.length := by rw [← rv.length]; exact hl
  have hz1 : rs.length ≤ sizeLine := by rw [← rx.length]; exact hz
  refine StX.run_bnd lk hcd S hr.r e0 (G := fun ys H2 => ∃ p, H p = none ∧ ys = vs ++ [V.ref p] ∧ H2 = upd H p (.tup xs)) (fun A2 Ex Q2 h => ?_) fun s2 H2 ys ⟨p, hp, ey, eH⟩ _ => ?_
  · refine hbi _ _ _ _ (wpAny_bind (wpAny_newTuple (wpAny_pure ?_) hz1))
    have un := StX.un_laid (fs := frs outer) (s := s) (o := ({ cls := .type "tuple", data := .seq rs.toArray } : Obj)) (u := .tup xs) hn
    have new : ObjOk P w (upd H s.heap.objs.size (.tup xs)) (s.heap.push ({ cls := .type "tuple", data := .seq rs.toArray } : Obj)) s.heap.objs.size (.tup xs) := ⟨hz, rs, rx, ⟨_, Heap.get?_push_size _ rfl, rfl, _, rfl⟩⟩
    have z := h _ _ (vs ++ [V.ref s.heap.objs.size]) (us ++ [Value.ref s.heap.objs.size]) (StX.env0_laid e0 new) un rfl (fun e s3 => StX.cxUp outer s H _ _ E e s3 un (fun b o q => Heap.get?_push_of_some _ q) rfl) (rv.append (.cons rfl .nil))
      (by rw [List.length_append, List.length_append, hl] <;> rfl) ⟨_, hn, rfl, rfl⟩
    rw [List.zip_append hl1.symm] at z
    exact z
  · subst ey eH
    exact hb cdv hcv A outer s2 _ _ Q E (hr.deeper _) (hsp p hp)
end SJ
namespace SJ
open PySem PySem.Spec PyProof.Rows L2 He
/-- a classmethod's def -/
def cmA (x f : Str) (K : PySem.W.Frag) : Addr := match PySem.W.recIn K (ma K (ga K x) f) "classmethod" with
  | some (.ref g :: _) => g
  | _ => 0
def cmT (x f : Str) : Tst := fun K => PySem.W.readsIn K (ga K x) (.type "type") && (eqO (PySem.W.specialIn K (.ref (ga K x)) "__getattribute__") (some (some (.builtin "type.__getattribute__"))) && ((match PySem.W.findCls K (.ref (ga K x)) (.type "type") f with
  | some (.get (.builtin i) (.ref p) .none (.ref C)) => decide (i = "classmethod.__get__") && (decide (p = ma K (ga K x) f) && decide (C = ga K x))
  | _ => false) && ((match PySem.W.recIn K (ma K (ga K x) f) "classmethod" with
  | some (.ref _ :: _) => true
  | _ => false) && PySem.W.fnIn K (cmA x f K))))
theorem cmT_ok {K : PySem.W.Frag} {x f : Str} (c : cmT x f K = true) : ClX.CRead K (ga K x) (.type "type") ∧ ClX.CMet K (ga K x) (.type "type") f (ma K (ga K x) f) (cmA x f K) := by
  obtain ⟨c1, c⟩ := ba c
  obtain ⟨c2, c⟩ := ba c
  obtain ⟨c3, c⟩ := ba c
  obtain ⟨c4, c5⟩ := ba c
  refine ⟨⟨c1, eqO_ok c2⟩, ?_, ?_, c5⟩
  · cases q : PySem.W.findCls K (.ref (ga K x)) (.type "type") f with
    | none => rw [q] at c3; cases c3
    | some o =>
      rw [q] at c3
      cases o with
      | val v => cases c3
      | get a b d e =>
        cases a with
        | builtin i =>
          cases b with
          | ref p =>
            cases d with
            | none =>
              cases e with
              | ref C =>
                obtain ⟨e1, c3⟩ := ba (show (decide (i = "classmethod.__get__") && (decide (p = ma K (ga K x) f) && decide (C = ga K x))) = true from c3)
                obtain ⟨e2, e3⟩ := ba c3
                rw [of_decide_eq_true e1, of_decide_eq_true e2, of_decide_eq_true e3]
              | _ => cases c3
            | _ => cases c3
          | _ => cases c3
        | _ => cases c3
  · unfold cmA
    cases q : PySem.W.recIn K (ma K (ga K x) f) "classmethod" with
    | none => rw [q] at c4; cases c4
    | some l =>
      rw [q] at c4
      cases l with
      | nil => cases c4
      | cons v r =>
        cases v with
        | ref g => exact ⟨r, rfl⟩
        | _ => cases c4
/-- values by places: of the arguments, of the defaults, of the keywords -/
def pickL {α : Type} (ix : List Nat) (us mv ws : List α) : List α := ix.filterMap fun i => (us ++ mv ++ ws)[i]?
theorem pick_rel {ix : List Nat} {vs mz zs : List V} {us mv ws : List Value} (r1 : Vals vs us) (r2 : Vals mz mv) (r3 : Vals zs ws) : Vals (pickL ix vs mz zs) (pickL ix us mv ws) := by
  have r := (r1.append r2).append r3
  unfold pickL
  induction ix with
  | nil => exact .nil
  | cons i ix ih =>
    rw [List.filterMap_cons, List.filterMap_cons]
    cases q : (vs ++ mz ++ zs)[i]? with
    | none => rw [r.none_of q]; exact ih
    | some v => obtain ⟨u, e, rv⟩ := r.get q; rw [e]; exact .cons rv ih
/-- C.NAME, an int -/
def cvI (x f : Str) (z : Int) : Tst := fun K => PySem.W.readsIn K (ga K x) (.type "type") && (eqO (PySem.W.specialIn K (.ref (ga K x)) "__getattribute__") (some (some (.builtin "type.__getattribute__"))) && (match PySem.W.findCls K (.ref (ga K x)) (.type "type") f with
  | some (.val (.int y _)) => decide (y = z)
  | _ => false))
theorem cvI_ok {K : PySem.W.Frag} {x f : Str} {z : Int} (c : cvI x f z K = true) : ∃ mc v, ClX.CRead K (ga K x) mc ∧ ClX.CVal K (ga K x) mc f (.int z) v := by
  obtain ⟨c1, c⟩ := ba c
  obtain ⟨c2, c3⟩ := ba c
  refine ⟨.type "type", ?_⟩
  cases q : PySem.W.findCls K (.ref (ga K x)) (.type "type") f with
  | none => rw [q] at c3; cases c3
  | some o =>
    rw [q] at c3
    cases o with
    | val v =>
      cases v with
      | int y t => exact ⟨_, ⟨c1, eqO_ok c2⟩, q, t, by rw [show y = z from of_decide_eq_true c3]⟩
      | _ => cases c3
    | _ => cases c3
end SJ
namespace SJ
open PySem PySem.Spec PyProof.Rows L2 He
/-- a whole number that is a class's constant -/
def conI (x f : Str) (z : Int) : Tst := fun K => (match PySem.W.findIn K (.ref (ga K x)) f with
  | some (some (.int y t)) => decide (y = z) && eqO (PySem.W.specialIn K (.int y t) "__get__") (some none)
  | _ => false) && !PySem.W.copiedNames.contains f
theorem conI_ok {K : PySem.W.Frag} {x f : Str} {z : Int} (c : conI x f z K = true) : ∃ t, Con K (ga K x) f (.int z) (.int z t) := by
  have c1 := (Bool.and_eq_true_iff.mp c).1
  have c2 := (Bool.and_eq_true_iff.mp c).2
  generalize q : PySem.W.findIn K (.ref (ga K x)) f = r at c1
  match r, c1 with
  | some (some (.int y t)), c1 =>
    have e := of_decide_eq_true (Bool.and_eq_true_iff.mp c1).1
    subst e
    exact ⟨t, q, ⟨t, rfl⟩, eqO_ok (Bool.and_eq_true_iff.mp c1).2, by cases z : PySem.W.copiedNames.contains f with | true => rw [z] at c2; cases c2 | false => rfl⟩
def kaT (t : PySem.W.Frag → Value) (cs : PySem.W.Frag → List Value) (b : Bool) : Tst := fun K => decide (PySem.W.kitAny K (t K) (cs K) = some b)
theorem kaT_ok {K : PySem.W.Frag} {t : PySem.W.Frag → Value} {cs : PySem.W.Frag → List Value} {b : Bool} (h : kaT t cs b K = true) : PySem.W.kitAny K (t K) (cs K) = some b := of_decide_eq_true h
end SJ
namespace SJ
open PySem PySem.Spec PySem.W PyProof.Rows L2 GQ PySem.MeetsSeq3
open AutoSeq1 (wpAny_loadPart')
end SJ
namespace SJ
open PySem PySem.Spec PySem.Calls PyProof.Rows L2 He
open LamX
/-- a(), in the def that got the lambda -/
def tAct (f c : Addr) (q : Str) (W : WX) (tl : XK → Hp → VK → Prop) : TE := fun σ H Q => ∃ E : XK, (∀ cls d H2, E cls d H2 → W cls d σ H2) ∧ σ[0]? = some (some (.ref f)) ∧ H c = some (CodeO c q) ∧ tl E H Q
section
variable {X : Cx} {pins : List (Addr × Obj)} {σ : L2.St} {H : Hp} {s : Shared}
theorem act_of {Ng : List Str} {qg an : Str} {sg sc : Scope} {g fl cl : Addr} {cdg pm ctv : Value} {pa : Arguments} {bo : Expr} {k : Nat} {pn : List (Addr × Obj)} {xe : Value → Shared → Prop} {W : WX} {tb : XK → TE} {p1 p2 : Pos}
    (J : Inv X pins σ H s) (L : LamS X.env.scope sc) (hob : s.heap.get? fl = some (PySem.W.kla_obj "<lambda>" (X.env.qual ++ "<lambda>") pa bo sc (cloFrom X.env.cells sc.names []) pm cl ctv)) (hno : H fl = none) (hnf : fl ∉ frs X.stack)
    (hbi : bindArgs (PySem.W.kla_fn "<lambda>" (X.env.qual ++ "<lambda>") pa bo sc (cloFrom X.env.cells sc.names []) pm (.ref cl) ctv) ⟨[], []⟩ = pure [])
    (tk : Takes ((cxOf (L2.CX X.prog X.w) X.prog X.w X.K X.mg X.base Ng qg sg g cdg X.A X.stack s H E0).tr pn xe) W) (hr : Rm (k + 1) (X.A.deeper (envOfC qg sg s.heap.objs.size g cdg)))
    (hbody : ∀ (A : Around) (o2 : List Env) (s2 : Shared) (H2 : Hp) (E : XK), Rm k (A.deeper (lamEnv X sc s2.heap.objs.size fl cl)) → PE (lamCx X A o2 s2 H2 E sc fl cl) bo (tb E))
    (hN : Ng[0]? = some an) (hv : Vis sg an) (hd : (an == ("__debug__" : Str)) = false := by decide) (hcd : (an == ("__classdict__" : Str)) = false := by decide) :
    PE ((cxOf (L2.CX X.prog X.w) X.prog X.w X.K X.mg X.base Ng qg sg g cdg X.A X.stack s H E0).tr pn xe) (.Call (.Name an p1) [] [] p2) (tAct fl cl (X.env.qual ++ "<lambda>") W fun E H2 Q => tb E σ H2 Q) := by
  refine ⟨fun pz sz σz Hz Q JZ h => ?_⟩
  obtain ⟨E, hW, hs, hc, ht⟩ := h
  refine wpAny_Call_Name_kw (thn ((pe_var (pos := p1) (i := 0) hN hv hd hcd).run pz sz σz Hz (fun v G => v = .ref fl ∧ G = Hz) JZ ⟨.ref fl, hs, rfl, rfl⟩) fun u t1 ⟨v, G, J1, rr, qv, qG⟩ => ?_)
  subst qv qG
  obtain rfl : u = Value.ref fl := rr
  have of1 := J1.base.keep fl _ hob hno hnf fun z => absurd (show fl ∈ ([] : List Addr) from z) (by simp)
  have un : Un (frs X.stack) [] H G s.heap t1.heap := J1.base
  obtain ⟨⟨oc, vs, tt, c1, c2, c3⟩, _, _⟩ := J1.hok cl _ hc
  refine PySem.W.callWith_F0 ⟨_, _, _, _, of1⟩ (wpAny_call (codeAny_mono (?_ : codeAny (model X.prog X.w) (X.A.deeper (envOfC qg sg s.heap.objs.size g cdg)) (.call (.ref fl) ⟨[], []⟩) (CR (L2.CX X.prog X.w) (envOfC qg sg s.heap.objs.size g cdg :: X.stack) X.prog X.w G t1 Q E) t1) fun r t2 hq => ?_))
  · refine PySem.W.kla_callFunE hr.r.depth of1 rfl L.co L.gen rfl ⟨cl, oc, vs, tt, rfl, c1, c2, c3⟩ ?_
    rw [hbi]
    refine wpAny_pure (wpAny_newFunctionEnv (fun y hy => (L.own y hy).2) (fun y hy => nomatch hy) (fun g1 hns hsb => ⟨J1.nolimit.fresh _ hsb, ?_⟩) L.kind)
    have kp : ∀ b o, t1.heap.get? b = some o → g1.get? b = some o := fun b o e => hsb.extBut b o (Nat.ne_of_lt (Heap.lt_size e)) (Heap.get?_push_of_some _ e)
    have J2 : Inv (lamCx X (X.A.deeper (envOfC qg sg s.heap.objs.size g cdg)) (envOfC qg sg s.heap.objs.size g cdg :: X.stack) t1 G E sc fl cl) [] σ G { t1 with heap := g1, toks := t1.toks + ([] : List (Str × Value)).length } := lam_start2 J L J1.env0 hr.r.hd un hns kp
    show codeAny _ _ (.expr bo (lamEnv X sc t1.heap.objs.size fl cl)) _ _
    refine PySem.W.kla_codeExpr (wpAny_mono ((hbody _ _ t1 G E (hr.deeper _)).run [] _ _ G Q J2 ht) (fun v t3 ⟨z, G3, J3, rv, q⟩ => ⟨z, G3, J3.os, J3.bare, J3.base, J3.hok, rv, q⟩) fun _ _ z => z)
  · cases r with
    | error e => exact tk e t2 (XE.of_call J1 (fun cls d G2 z => hW cls d G2 z) hq)
    | ok fl2 =>
      cases fl2 with
      | ret u => exact J1.after hq
      | next => exact hq.elim
      | brk => exact hq.elim
      | cont => exact hq.elim
end
/-- the def that calls what it got; TT: what it makes of that -/
def GivesR (X : Cx) (k : Nat) (Ng : List Str) (qg : Str) (sg : Scope) (g : Addr) (cdg : Value) (bg : List Stmt) (an q : Str) (TT : (XK → Hp → VK → Prop) → Hp → VK → Prop) : Prop :=
  ∀ (f c : Addr) (s : Shared) (H : Hp) (Q : VK) (tl : XK → Hp → VK → Prop), Rm (k + 1) (X.A.deeper (envOfC qg sg s.heap.objs.size g cdg)) →
    (∀ (W : WX) (pn : List (Addr × Obj)) (xe : Value → Shared → Prop) (p1 p2 : Pos), Takes ((cxOf (L2.CX X.prog X.w) X.prog X.w X.K X.mg X.base Ng qg sg g cdg X.A X.stack s H E0).tr pn xe) W →
      PE ((cxOf (L2.CX X.prog X.w) X.prog X.w X.K X.mg X.base Ng qg sg g cdg X.A X.stack s H E0).tr pn xe) (.Call (.Name an p1) [] [] p2) (tAct f c q W tl)) →
    H c = some (CodeO c q) → TT tl H Q →
    ∃ t, PSs (cxOf (L2.CX X.prog X.w) X.prog X.w X.K X.mg X.base Ng qg sg g cdg X.A X.stack s H E0) bg t ∧ t { nx := fun _ H2 => Q .non H2, rt := Q } (start Ng [.ref f]) H
/-- the readings of a lambda's body: what it raises is told at the very names -/
def tS (t : WX → TE) : XK → TE := fun E σ H Q => t (fun cls d σ2 H2 => σ2 = σ ∧ E cls d H2) σ H Q
theorem pe_tS {X : Cx} {e : Expr} {t : WX → TE} {E : XK} (tk : Takes X (WO E)) (h : ∀ W, Takes X W → PE X e (t W)) : PE X e (tS t E) := by
  refine ⟨fun pins s σ H Q I q => (h (fun cls d σ2 H2 => σ2 = σ ∧ E cls d H2) (fun u s2 ⟨a, B, sI, pz, σ3, H3, cls, d, q1, q2, q3, q4, q5, q6, q7, q8, _, q9⟩ => tk u s2 ⟨a, B, sI, pz, σ3, H3, cls, d, q1, q2, q3, q4, q5, q6, q7, q8, q9⟩)).run pins s σ H Q I q⟩
section
variable {X : Cx}
theorem takes_lam {A : Around} {o2 : List Env} {s2 : Shared} {H2 : Hp} {E : XK} {sc : Scope} {fl cl : Addr} : Takes (lamCx X A o2 s2 H2 E sc fl cl) (WO E) := takes_of rfl rfl rfl rfl
theorem pe_lamR {T : List (Addr × Str)} {TT : (XK → Hp → VK → Prop) → Hp → VK → Prop} {x qg an : Str} {g c P : Addr} {k : Nat} {pg pa : Arguments} {bg : List Stmt} {sg sc : Scope} {dvs : List V} {kws : List (Str × V)} {fd : FuncData} {Ng : List Str}
    {bo : Expr} {t : XK → TE} {p lp pos : Pos} (D : FunD X.K x qg pg bg sg dvs kws g fd) (hg : Gl X x) (hm : X.mg x = some (.ref g)) (hk : PySem.W.keepIn X.K (.ref g) = true) (hb : L2.Binds X.K fd [an] []) (Sg : FnScope Ng [an] sg) (hN : Ng[0]? = some an) (hv : Vis sg an)
    (hG : ∀ cdv, GivesR X k Ng qg sg g cdv bg an (X.env.qual ++ "<lambda>") TT) (TB : TabB X.base X.mg c P) (hcode : X.env.code = .ref c) (hmT : (P, X.env.qual ++ "<lambda>") ∈ T) (hu : ∀ p ∈ T, p.1 = P → p.2 = X.env.qual ++ "<lambda>") (hr : Rm (k + 2) X.A) (L : LamS X.env.scope sc)
    (hdf : defaultsOf pa X.env = ([], [])) (hbi : ∀ (q : Str) (cl : List (Str × Addr)) (pm cv ctv : Value), bindArgs (PySem.W.kla_fn "<lambda>" q pa bo sc cl pm cv ctv) ⟨[], []⟩ = pure [])
    (hbody : ∀ (A : Around) (o2 : List Env) (s2 : Shared) (H2 : Hp) (E : XK) (fl cl : Addr), Rm k (A.deeper (lamEnv X sc s2.heap.objs.size fl cl)) → PE (lamCx X A o2 s2 H2 E sc fl cl) bo (t E))
    (hdb : (x == ("__debug__" : Str)) = false := by decide) (hd : (an == ("__debug__" : Str)) = false := by decide) (hcd : (an == ("__classdict__" : Str)) = false := by decide) :
    PE X (.Call (.Name x p) [.Lambda pa bo sc lp] [] pos) (tLam T TT t) := by
  refine ⟨fun pins s σ H Q I ⟨hT, h⟩ => wpAny_Call_Name_kw (ld_glob I hg hm (PySem.W.callWith_K (h₀ := X.base) I.ok.mod.kin hk ?_ (by rfl) (by rfl)) hdb)⟩
  show wpAny _ _ (spliced ((false, eval (.Lambda pa bo sc lp) X.env) :: backTo pos (starEach [] X.env))) _ _ s
  refine Calls.spliced_cons (lam_make2 I TB hcode hmT hu hT hdf (L.has I.ok) fun f cl pm2 ctv H1 s2 I1 eN T1 hf hfn hfr hco => Calls.spliced_nil ⟨I1.kIn, ?_⟩)
  obtain ⟨oc, od, dV, kV, doc, pm, an0, cdv, ct, osl, rfl, lk, hcg, _, _⟩ := D.ex
  have e0 := I1.env0
  have KX : X.K.In s2.heap := e0.mod.kin.keeps fun b o z => (e0.bs b o z).1
  have lim : s2.heap.NoLimit := e0.mod.nolimit.keeps fun b o z => (e0.bs b o z).1
  have rv : Vals [V.ref f] [Value.ref f] := .cons rfl .nil
  have kinds : ∀ y ∈ [an].zip [Value.ref f], sg.names.lookup y.1 = some .local ∨ (sg.names.lookup y.1 = some .cell ∧ ((cellsFrom (s2.heap.objs.size + 1) sg.names []).lookup y.1).isSome = true) := fun ⟨n, v⟩ hy => by
    rcases Sg.par n (List.of_mem_zip hy).1 with z | z
    · exact .inl z
    · exact .inr ⟨z, PySem.W.cellsFrom_some _ _ _ (.inl z)⟩
  have rc : codeAny (model X.prog X.w) X.A (.call (.ref g) ⟨[.ref f], []⟩) (CR (L2.CX X.prog X.w) X.stack X.prog X.w H1 s2 Q E0) s2 := by
    refine codeAny_call_function hr.r.depth (KX _ _ lk) rfl Sg.co Sg.gen rfl (PySem.W.codeRec_of KX hcg) (hb s2 [.ref f] I1.kIn rfl _ _ _ _ (wpAny_newFunctionEnv_cells Sg.kind kinds fun env he s3 x1 => ?_))
    subst he
    refine ⟨lim.keeps x1.toInCall.keep, codeAny_func ?_⟩
    obtain ⟨t2, ht, hq⟩ := hG cdv f cl s2 H1 Q (fun E H2 Q2 => t E σ H2 Q2) (hr.deeper _) (fun W pn xe p1 p2 tk => act_of I1 L hf hfn hfr (hbi _ _ _ _ _) tk (hr.deeper _) (fun A o2 s4 H4 E hr2 => hbody A o2 s4 H4 E f cl hr2) hN hv hd hcd) hco (h H1 eN T1)
    have I3 : Inv (cxOf (L2.CX X.prog X.w) X.prog X.w X.K X.mg X.base Ng qg sg g cdv X.A X.stack s2 H1 E0) [] (start Ng [.ref f]) H1 s3 := inv_start Sg hr.r.hd e0 rfl rv x1
    refine wpAny_mono (ht.run [] s3 (start Ng [.ref f]) H1 _ I3 hq) (fun fl s4 hs => ?_) fun _ _ z => z
    cases fl with
    | ret u => obtain ⟨v, σ2, H2, J, r2, q⟩ := hs; exact ⟨v, H2, J.os, J.bare, J.base, J.hok, r2, q⟩
    | next => obtain ⟨σ2, H2, J, q⟩ := hs; exact ⟨.non, H2, J.os, J.bare, J.base, J.hok, rfl, q⟩
    | brk => obtain ⟨_, _, _, q⟩ := hs; exact q.elim
    | cont => obtain ⟨_, _, _, q⟩ := hs; exact q.elim
  refine wpAny_call (codeAny_mono rc fun r s3 hq => ?_)
  cases r with
  | error er => obtain ⟨_, _, _, _, _, _, _, _, _, _, _, _, z⟩ := hq; exact z.elim
  | ok fl =>
    cases fl with
    | ret w => exact I1.after hq
    | next => exact hq.elim
    | brk => exact hq.elim
    | cont => exact hq.elim
end
end SJ
namespace SJ
open PySem PySem.Spec PyProof.Rows L2 He
end SJ
namespace SJ
open PySem PySem.Spec PyProof.Rows L2 He
end SJ
namespace SJ
open PySem PySem.Spec PyProof.Rows L2 He
end SJ
namespace SJ
open PySem PySem.Spec PyProof.Rows L2 He
end SJ
namespace SJ
open PySem PySem.Spec PyProof.Rows L2 He
end SJ
namespace SJ
open PySem PySem.Spec PyProof.Rows L2
def txtV (v : Value) : Str := match v with
  | .str y _ => y
  | _ => Str.empty
def txtE (e : Int × Value) : Str := txtV e.2
def TxtE (P : Program) (w : World) (e : Int × Value) : Prop := ∃ y tk, e.2 = Value.str y tk ∧ e.1 = (PySem.strKind P w).hash y
/-- the set of texts at D, walkable -/
def TxtSet (P : Program) (w : World) (h : Heap) (D : Addr) (S : Str → Bool) (n : Nat) : Prop := ∃ ob al ep tb, h.get? D = some ob ∧ ob.ExactSet ∧ ob.data = .set al ep tb ∧ (∀ e ∈ al.toList, TxtE P w e) ∧ (al.toList.map txtE).Nodup ∧ (∀ y, S y = true ↔ y ∈ al.toList.map txtE) ∧
  al.size < scanBound ∧ tb.fits al.size = true ∧ al.size = n ∧ Ris tb.place.toList ∧ (w.params.followText "set-order" = true ∨ tb.led = true)
section
variable {P : Program} {w : World} {h h2 : Heap} {D : Addr} {S : Str → Bool} {n : Nat}
theorem TxtSet.keep (B : TxtSet P w h D S n) (k : ∀ ob, h.get? D = some ob → h2.get? D = some ob) : TxtSet P w h2 D S n := by
  obtain ⟨ob, al, ep, tb, hob, B⟩ := B
  exact ⟨ob, al, ep, tb, k ob hob, B⟩
end
end SJ
namespace SJ
open PySem PySem.Spec PyProof.Rows L2 He
open Sem (wp)
open AutoSeq1 (wpAny_loadPart')
end SJ
namespace SJ
open PySem PySem.Spec PyProof.Rows L2 He
end SJ
namespace SJ
open PySem PySem.Spec PyProof.Rows L2 He
end SJ
namespace SJ
open PySem PySem.Spec PySem.W PyProof.Rows L2 GQ PySem.MeetsSeq3
open AutoSeq1 (wpAny_loadPart')
section
variable {prog : Program} {w : World} {A : Around} {E : Value → Shared → Prop} {s : Shared}
theorem dict_eq_no {a : Addr} {b : Value} {Q : Value → Shared → Prop} (hd : s.TypeIs (.ref a) "dict") (hi : ∀ {A : Around} {E : Value → Shared → Prop} {Qi : Bool → Shared → Prop}, Qi false s → wpAny (model prog w) A (isInstance b (.type "dict")) Qi E s) (h : Q .notImplemented s) : wpAny (model prog w) A (call (.builtin "dict.__eq__") [.ref a, b]) Q E s := by
  refine call_here PySem.F.slot_dict_eq hd PySem.F.entry_dict_eq (PySem.F.args_dict_eq_2 _ _) ?_
  show wpAny _ _ (Builtin.Dict.dictSlotArgs "__eq__" ⟨[.ref a, b], []⟩ >>= _) _ _ s
  refine wpAny_bind ?_
  unfold Builtin.Dict.dictSlotArgs
  refine wpAny_bind (wpAny_notOrdered_dict hd (wpAny_pure (wpAny_bind (hi ?_))))
  simp only [Bool.not_false, if_true]
  refine wpAny_bind (wpAny_rule ?_)
  first | exact wpAny_pure h | (refine wpAny_bind (wpAny_pure ?_); exact wpAny_pure h) | exact h
theorem str_eq_no {z : Str} {t : Tok} {a : Addr} {ob : Obj} {Q : Value → Shared → Prop} (ho : s.heap.get? a = some ob) (hd : ∀ y k, ob.data ≠ .prim (.str y k)) (h : Q .notImplemented s) : wpAny (model prog w) A (call (.builtin "str.__eq__") [.str z t, .ref a]) Q E s := by
  refine call_here PySem.F.slot_str_eq (typeIs_str s z t) PySem.F.entry_str_eq (PySem.F.args_str_eq_2 _ _) ?_
  obtain ⟨hp, g, d, tk, os⟩ := s
  obtain ⟨cls, dct, dat, sls⟩ := ob
  have hd : ∀ y k, dat ≠ .prim (.str y k) := hd
  wp_walk using wpAny_loadPart' ho, wpAny_load ho
  cases dat with
  | prim v =>
    cases v with
    | str y k => exact absurd rfl (hd y k)
    | _ => wp_walk; exact h
  | _ => wp_walk; exact h
theorem str_dict_at {a : Addr} {ob : Obj} {z : Str} {t : Tok} (ho : s.heap.get? a = some ob) (hc : ob.cls = .type "dict") (hd : ∀ y k, ob.data ≠ .prim (.str y k)) (hu : A.units < cLine) : SeqAt.EqAt A s (.str z t) (.ref a) false := fun prog w E Q h => by
  have td : s.TypeIs (.ref a) "dict" := ⟨ob, ho, hc⟩
  unfold eqBool
  refine wpAny_holding (wpAny_ite_split (fun e => absurd (eq_of_beq e) nofun) fun _ => wpAny_bind ?_)
  refine SeqAt.rc_eq_decline_or (k := false) (typeIs_str s z t) td (by decide) PySem.F.sub_dict_str PySem.F.slot_str_eq PySem.F.slot_dict_eq_refl (fun _ hq => str_eq_no ho hd hq) (fun _ hq => dict_eq_no td (fun q => wpAny_isInstance (typeIs_str s z t) PySem.F.sub_str_dict q) hq)
    (fun _ hq => wpAny_of_eq (rfl : isSame (.str z t) (.ref a) = pure false) hq) (.inr hu) (wpAny_truthy_bool h)
end
/-- dict(xs), xs a list of pairs -/
def rDictL (K : Frag) : List V → Hp → VK → Prop := fun xs H Q => ∃ (a : Addr) (ps : List Addr) (kvs : List (Key × V)), xs = [.ref a] ∧ SqL K H a (ps.map V.ref) ∧ Paired (fun p kv => SqT K H p [kV kv.1, kv.2]) ps kvs ∧ ∀ p, H p = none → Q (.ref p) (upd H p (.dK (mergeK [] kvs)))
theorem c_dictL {X : Cx} (hc : X.calm = true) : CallR X (.type "dict") (rDictL X.K) := call_dictP hc
def rStrI : List V → Hp → VK → Prop := fun xs H Q => ∃ i, xs = [.int i] ∧ i.natAbs.log2 < 1920 ∧ Q (.str (toString i)) H
theorem c_strI {X : Cx} : CallR X (.type "str") rStrI := call_str_int
end SJ
namespace SJ
open PySem PySem.Spec PySem.W PyProof.Rows L2 GQ PySem.MeetsSeq3
end SJ
namespace SJ
open PySem PySem.Spec PyProof.Rows L2 He LamX
end SJ
namespace SJ
open PySem PySem.Spec PySem.W PyProof.Rows L2 GQ PySem.MeetsSeq3
/-- is the item v equal to the asked x -/
inductive CmpV (K : Frag) (H : Hp) : V → V → Bool → Prop
  | data {v x : V} {d e : PyData} : Dp K H v d → Dp K H x e → SeqAt.shaped d = true → SeqAt.shaped e = true → CmpV K H v x (PyData.eqv d e)
  | dk {a : Addr} {kvs : List (Key × V)} {z : Str} : H a = some (.dK kvs) → CmpV K H (.ref a) (.str z) false
  | kd {a : Addr} {kvs : List (Key × V)} {z : Str} : H a = some (.dK kvs) → CmpV K H (.str z) (.ref a) false
def rInG (K : Frag) (neg : Bool) : R2 := fun x y H Q => ∃ l xs bs, y = .ref l ∧ (SqL K H l xs ∨ SqT K H l xs) ∧ Paired (fun v b => CmpV K H v x b) xs bs ∧ Q (.bl (if neg then !bs.any id else bs.any id)) H
def rInH (K : Frag) (neg : Bool) : R2 := fun x y H Q => rInU K neg x y H Q ∨ rInG K neg x y H Q
section
variable {X : Cx} {pins : List (Addr × Obj)} {σ : L2.St} {H : Hp} {s : Shared} {A : Around}
theorem dict_str_at {a : Addr} {ob : Obj} {z : Str} {t : Tok} (ho : s.heap.get? a = some ob) (hc : ob.cls = .type "dict") (hd : ∀ y k, ob.data ≠ .prim (.str y k)) (hu : A.units < cLine) : SeqAt.EqAt A s (.ref a) (.str z t) false := fun prog w E Q h => by
  have td : s.TypeIs (.ref a) "dict" := ⟨ob, ho, hc⟩
  unfold eqBool
  refine wpAny_holding (wpAny_ite_split (fun e => absurd (eq_of_beq e) nofun) fun _ => wpAny_bind ?_)
  refine SeqAt.rc_eq_decline_or (k := false) td (typeIs_str s z t) (by decide) PySem.F.sub_str_dict PySem.F.slot_dict_eq PySem.F.slot_str_eq_refl (fun _ hq => dict_eq_no td (fun q => wpAny_isInstance (typeIs_str s z t) PySem.F.sub_str_dict q) hq) (fun _ hq => str_eq_no ho hd hq)
    (fun _ hq => wpAny_of_eq (rfl : isSame (.ref a) (.str z t) = pure false) hq) (.inr hu) (wpAny_truthy_bool h)
theorem cmp_at (hu : A.units + 65 < cLine) {v x : V} {v' x' : Value} {b : Bool} (I : Inv X pins σ H s) (h : CmpV X.K H v x b) (rv : RelV v v') (rx : RelV x x') : SeqAt.EqAt A.in1 s v' x' b := by
  cases h with
  | @data _ _ d e h1 h2 h3 h4 =>
    obtain ⟨as, r1⟩ := Dp.reads I _ _ _ h1 rv
    obtain ⟨bs, r2⟩ := Dp.reads I _ _ _ h2 rx
    refine SeqAt.eqAt_reads _ _ A.in1 s _ _ _ _ r1 r2 (SeqAt.canLay_of_shaped h3) (SeqAt.canLay_of_shaped h4) ?_
    have hm := room_in_shaped (A := A) (xs := [d]) h4 hu
    have h5 : min d.depth e.depth ≤ min (PyData.depthAll [d]) e.depth := Nat.le_min.mpr ⟨Nat.le_trans (Nat.min_le_left _ _) (by simp only [PyData.depthAll]; omega), Nat.min_le_right _ _⟩
    show A.units + 1 + min d.depth e.depth < cLine
    omega
  | @dk a kvs z h1 =>
    obtain rfl : v' = Value.ref a := rv
    obtain ⟨t, rfl⟩ := rx
    obtain ⟨y, hd, vs, rel, dd⟩ := dk_of I.hok h1
    obtain ⟨ob, es, ep, ho, hx, hda, _⟩ := dd
    exact dict_str_at ho hx.1 (fun y k e => by rw [hda] at e; cases e) (by show A.units + 1 < cLine; omega)
  | @kd a kvs z h1 =>
    obtain rfl : x' = Value.ref a := rx
    obtain ⟨t, rfl⟩ := rv
    obtain ⟨y, hd, vs, rel, dd⟩ := dk_of I.hok h1
    obtain ⟨ob, es, ep, ho, hx, hda, _⟩ := dd
    exact str_dict_at ho hx.1 (fun y k e => by rw [hda] at e; cases e) (by show A.units + 1 < cLine; omega)
/-- the answers as one question over values -/
noncomputable def askV (us : List Value) (bs : List Bool) : Value → Bool := fun y => open Classical in decide (∃ i : Nat, us[i]? = some y ∧ bs[i]? = some true)
open Classical in
theorem ask_any {us : List Value} {bs : List Bool} (hl : us.length = bs.length) : us.toArray.any (askV us bs) = bs.any id := by
  rw [show us.toArray.any (askV us bs) = us.any (askV us bs) by simp]
  rw [Bool.eq_iff_iff, List.any_eq_true, List.any_eq_true]
  unfold askV
  constructor
  · rintro ⟨y, hy, h⟩
    obtain ⟨i, h1, h2⟩ := of_decide_eq_true h
    exact ⟨true, List.mem_of_getElem? h2, rfl⟩
  · rintro ⟨b, hb, h⟩
    have h : b = true := h
    subst h
    obtain ⟨i, hi⟩ := List.getElem?_of_mem hb
    have hi2 : i < us.length := by rw [hl]; exact (List.getElem?_eq_some_iff.mp hi).1
    exact ⟨us[i], List.getElem_mem hi2, decide_eq_true ⟨i, List.getElem?_eq_getElem hi2, hi⟩⟩
theorem paired_get {α β : Type} {R : α → β → Prop} : ∀ {xs : List α} {ys : List β}, Paired R xs ys → ∀ {i : Nat} {x : α} {y : β}, xs[i]? = some x → ys[i]? = some y → R x y
  | _, _, .cons h a, 0, _, _, e, f => by cases e; cases f; exact h
  | _, _, .cons h a, i + 1, _, _, e, f => paired_get a (i := i) e f
theorem paired_size {α β : Type} {R : α → β → Prop} : ∀ {xs : List α} {ys : List β}, Paired R xs ys → xs.length = ys.length
  | _, _, .nil => rfl
  | _, _, .cons _ a => by rw [List.length_cons, List.length_cons, paired_size a]
open Classical in
theorem ask_at (hu : A.units + 65 < cLine) {x : V} {x' : Value} {xs : List V} {bs : List Bool} {us : List Value} (I : Inv X pins σ H s) (hp : Paired (fun v b => CmpV X.K H v x b) xs bs) (r : Vals xs us) (rx : RelV x x') :
    ∀ y, y ∈ us.toArray → SeqAt.EqAt A.in1 s y x' (askV us bs y) := fun y hy => by
  have hlen := paired_size hp
  have hlen2 := r.length
  have key : ∀ i b, us[i]? = some y → bs[i]? = some b → SeqAt.EqAt A.in1 s y x' b := fun i b h1 h2 => by
    have hi : i < xs.length := by rw [hlen]; exact (List.getElem?_eq_some_iff.mp h2).1
    have h3 := List.getElem?_eq_getElem hi
    obtain ⟨u, h4, h5⟩ := r.get h3
    rw [h1] at h4; cases h4
    exact cmp_at hu I (paired_get hp h3 h2) h5 rx
  obtain ⟨i, hi⟩ := List.getElem?_of_mem (show y ∈ us by simpa using hy)
  have hib : i < bs.length := by rw [← hlen, hlen2]; exact (List.getElem?_eq_some_iff.mp hi).1
  unfold askV
  by_cases h : ∃ i : Nat, us[i]? = some y ∧ bs[i]? = some true
  · rw [decide_eq_true h]
    obtain ⟨j, h1, h2⟩ := h
    exact key j true h1 h2
  · rw [decide_eq_false h]
    cases hb : bs[i] with
    | true => exact absurd ⟨i, hi, by rw [List.getElem?_eq_getElem hib, hb]⟩ h
    | false => exact key i false hi (by rw [List.getElem?_eq_getElem hib, hb])
theorem op_inG (hu : X.A.units + 65 < cLine) : OpR X (compareOp .In) (rInG X.K false) := by
  intro pins s σ H x y v u Q I rx ry h
  obtain ⟨l, xs, bs, rfl, hl, hp, q⟩ := h
  obtain rfl : u = Value.ref l := ry
  rcases hl with hl | hl
  · obtain ⟨its, r, ht, _⟩ := I.list hl
    exact SeqAt.in_listAt (askV its bs) ht.isList (ask_at hu I hp r rx) ⟨_, H, I, (by rw [ask_any (by rw [← r.length, paired_size hp])]; exact rfl), q⟩
  · obtain ⟨its, r, ht, _⟩ := I.tuple hl
    exact SeqAt.in_tupleAt (askV its bs) ht (ask_at hu I hp r rx) ⟨_, H, I, (by rw [ask_any (by rw [← r.length, paired_size hp])]; exact rfl), q⟩
theorem o_inH {k : Nat} (hr : Rm (k + 1) X.A) : OpR X (compareOp .In) (rInH X.K false) := o_in.or (op_inG hr.in1.units)
end
end SJ
namespace SJ
open PySem PySem.Spec PySem.W PyProof.Rows L2 GQ PySem.MeetsSeq3
end SJ
namespace SJ
open PySem PySem.Spec PyProof.Rows L2
abbrev TkT (P : Program) (w : World) (h : Heap) (zs : List Str) (b : Addr) : Prop := IsTupleKey (PySem.strKind P w) h zs b
abbrev hsT (P : Program) (w : World) (zs : List Str) : Int := tupleKeyHash (PySem.strKind P w) zs
abbrev Mem := Addr × List Str
def entT (P : Program) (w : World) (ms : List Mem) : List (Int × Value) := ms.map fun m => (hsT P w m.2, .ref m.1)
/-- the set at D with these members -/
structure SetS (P : Program) (w : World) (h : Heap) (D : Addr) (ms : List Mem) (al : Array (Int × Value)) (ep : Nat) (tb : SetTable) : Prop where
  obj : ∃ ob, h.get? D = some ob ∧ ob.ExactSet ∧ ob.data = .set al ep tb
  ent : al.toList = entT P w ms
  tab : TabOk tb (ms.map fun m => hsT P w m.2)
  uni : (ms.map (·.2)).Nodup
  key : ∀ m ∈ ms, TkT P w h m.2 m.1
  led : w.params.followText "set-order" = true ∨ tb.led = true
  air : ms.length * 5 < tb.mask * 3
  few : ms.length < 64
section
variable {P : Program} {w : World} {A : Around} {E : Value → Shared → Prop} {s : Shared} {D x : Addr} {ms : List Mem} {al : Array (Int × Value)} {ep : Nat} {tb : SetTable} {zs : List Str}
theorem SetS.len (R : SetS P w s.heap D ms al ep tb) : al.size = ms.length := by
  rw [← Array.length_toList, R.ent]
  exact List.length_map ..
end
end SJ
namespace SJ
open PySem PySem.Spec PyProof.Rows L2
/-- the set, without what its members are made of -/
structure SetW (P : Program) (w : World) (h : Heap) (D : Addr) (ms : List Mem) : Prop where
  ex : ∃ al ep tb, (∃ ob, h.get? D = some ob ∧ ob.ExactSet ∧ ob.data = .set al ep tb) ∧ al.toList = entT P w ms ∧ TabOk tb (ms.map fun m => hsT P w m.2) ∧ (ms.map (·.2)).Nodup ∧
    (w.params.followText "set-order" = true ∨ tb.led = true) ∧ ms.length * 5 < tb.mask * 3 ∧ ms.length < 64
section
variable {P : Program} {w : World} {h h2 : Heap} {D : Addr} {ms : List Mem}
theorem SetS.weak {al : Array (Int × Value)} {ep : Nat} {tb : SetTable} (R : SetS P w h D ms al ep tb) : SetW P w h D ms := ⟨⟨al, ep, tb, R.obj, R.ent, R.tab, R.uni, R.led, R.air, R.few⟩⟩
theorem SetW.keep (R : SetW P w h D ms) (k : ∀ ob, h.get? D = some ob → h2.get? D = some ob) : SetW P w h2 D ms := by
  obtain ⟨al, ep, tb, ⟨ob, h1, q⟩, r⟩ := R.ex
  exact ⟨⟨al, ep, tb, ⟨ob, k ob h1, q⟩, r⟩⟩
end
/-- what a walk over the first i has put there -/
structure Took (ms ns : List Mem) (i : Nat) : Prop where
  sub : ∀ m ∈ ns, m ∈ ms.take i
  all : ∀ m ∈ ms.take i, m.2 ∈ ns.map (·.2)
  few : ns.length ≤ i
end SJ
namespace SJ
open PySem PySem.Spec PySem.W PyProof.Rows L2
section
variable {X : Cx} {pins : List (Addr × Obj)} {σ : L2.St} {H : Hp} {s : Shared}
def SetTS (P : Program) (w : World) (D : Addr) (ms : List Mem) : HO := .ext fun h => SetW P w h D ms
/-- set(l), l a list of tuples of texts -/
def rSetL (K : PySem.W.Frag) (P : Program) (w : World) : List V → Hp → VK → Prop := fun xs H Q => ∃ (l : Addr) (ms : List Mem), xs = [V.ref l] ∧ SqL K H l (ms.map fun m => V.ref m.1) ∧ (∀ m ∈ ms, SqT K H m.1 (m.2.map V.str)) ∧ ms.length < 63 ∧
  ∀ D ns, H D = none → Took ms ns ms.length → (ns.map (·.2)).Nodup → Q (.ref D) (upd H D (SetTS P w D ns))
end
end SJ
namespace SJ
open PySem PySem.Spec PySem.W PyProof.Rows L2 PpSet
def rListV : List V → Hp → VK → Prop := fun xs H Q => ∃ p a kvs, xs = [.ref p] ∧ H p = some (valsO p a) ∧ H a = some (.dK kvs) ∧ ∀ q, H q = none → Q (.ref q) (upd H q (.lst (kvs.map (·.2))))
section
variable {X : Cx} {pins : List (Addr × Obj)} {σ : L2.St} {H : Hp} {s : Shared}
theorem c_listV (hc : X.calm = true) : CallR X (.type "list") rListV := by
  intro pins s σ H xs us Q I r h
  obtain ⟨p, a, kvs, rfl, hp, hd, q⟩ := h
  obtain ⟨u, rfl, ru⟩ := vals1 r
  obtain rfl : u = Value.ref p := ru
  obtain ⟨z, lo, vs, rel, dd⟩ := dk_of I.hok hd
  obtain ⟨ep, hat⟩ := dd.dictAt
  have vw : s.heap.IsValuesView p a := (I.hok _ _ hp).1
  refine PySem.W.kdl_call (kdl_values (knd := mixKind X.prog X.w) (r := p) (d := a) (kvs := vs) (ep := ep)) (I.ok.hd hc) ⟨vw, hat⟩ (by rw [← rel.length]; exact z) fun h2 tk acc c hk hS hacc => ?_
  refine ⟨.ref s.heap.objs.size, upd H s.heap.objs.size (.lst (kvs.map (·.2))), I.laid (t' := tk) hk (Nat.le_refl _) (show ObjOk X.prog X.w _ _ _ (.lst (kvs.map (·.2))) from ⟨by rw [List.length_map]; exact z, acc.toList, c, ?_, ?_⟩), rfl, q _ (I.hok.fresh (Nat.le_refl _))⟩
  · exact vals_at2 rel (by rw [Array.length_toList]; exact hacc.1) fun j v e => hacc.2 j v (by rw [← Array.getElem?_toList]; exact e)
  · rw [Array.toArray_toList]; exact hS
theorem SetW.obj {P : Program} {w : World} {h : Heap} {D : Addr} {ns : List Mem} (R : SetW P w h D ns) : ∃ ob, h.get? D = some ob ∧ ∀ v, ob.data ≠ .cell v := by
  obtain ⟨al, ep, tb, ⟨ob, ho, hx, hd⟩, _⟩ := R.ex
  exact ⟨ob, ho, fun v e => by rw [hd] at e; cases e⟩
end
end SJ
namespace SJ
open PySem PySem.Spec PySem.W PyProof.Rows L2 GQ
end SJ
namespace SJ
open PySem PySem.Spec PyProof.Rows L2 He
end SJ
namespace SJ
open PySem PySem.Spec PyProof.Rows L2 He
end SJ
namespace SJ
open PySem PySem.Spec PyProof.Rows L2 He
open Sem (wp)
theorem draws_endL {prog : Program} {w : World} {A : Around} (hh : A.handled = none) (it t : Addr) (ws : Array Value) (i : Nat) (hi : ws[i]? = none) :
    Draws prog w A it [it, t] i (fun _ _ => True) (fun j h => j = i ∧ h.IsListIter it t i ∧ h.IsList t ws) where
  live := fun _ _ st => let ⟨u, hu, _⟩ := st.2.1; ⟨u, hu⟩
  frame := fun _ _ _ st hk => ⟨st.1, st.2.1.at fun u e => hk it (by simp) u e, st.2.2.at fun u e => hk t (by simp) u e⟩
  item := fun j s Q E hj st hQ => absurd st.1 (Nat.ne_of_lt hj)
  done := fun s Q E st hE => wpAny_nextOf_list_end hh st.2.1 st.2.2 hi hE
end SJ
namespace SJ
open PySem PySem.Spec PyProof.Rows L2 He
open Sem (wp)
/-- x.split(y) -/
def rSplit : V → List V → Hp → VK → Prop := fun x xs H Q => ∃ a b, x = .str a ∧ xs = [.str b] ∧ (b.length == 0) = false ∧ a.length + 2 ≤ sizeLine ∧ rNewStrs (Txt.split a b) H Q
theorem pe_splitS {X : Cx} {o e : Expr} {to te : TE} {apos pos : Pos} (ho : PE X o to) (he : PE X e te) (hs : starEach [e] X.env = [(false, eval e X.env)] := by rfl) (hbase : attributeBase o "split" X.env (eval o X.env) = eval o X.env := by rfl) (hline : (apos.endLine == pos.line) = true := by rfl) :
    PE X (.Call (.Attribute o "split" apos) [e] [] pos) (tM1 rSplit to te) := pe_split ho he hs hbase hline
/-- d.update(e) -/
def rDUpd : V → List V → Hp → VK → Prop := fun x vs H Q => ∃ (d o : Addr) (kvs more : List (Key × V)), x = .ref d ∧ vs = [.ref o] ∧ d ≠ o ∧ H d = some (.dK kvs) ∧ H o = some (.dK more) ∧ kvs.length + more.length ≤ sizeLine ∧ Q .non (upd H d (.dK (mergeK kvs more)))
theorem mt_dUpd {X : Cx} : MtR X "dict.update" rDUpd := by
  intro pins s σ H x xs v us Q I rx rv h
  obtain ⟨d, o, kvs, more, rfl, rfl, hne, hd, ho, hz, q⟩ := h
  cases rx
  obtain ⟨u, rfl, ru⟩ := rv.one
  cases ru
  obtain ⟨z1, ld, vs, rel, dd⟩ := dk_of I.hok hd
  obtain ⟨z2, lo, ws, rel2, dO⟩ := dk_of I.hok ho
  refine call_meetsIn PySem.F.slot_dict_update dd.typeIs PySem.F.entry_dict_update (PySem.F.args_dict_update_2 _ _) (meets_dict_update (mixKind X.prog X.w) d o hne lo) ⟨vs, ws, dd, dO, by rw [← rel.length, ← rel2.length]; exact hz, fun g hg _ hs => ?_⟩
  have he : ∃ q, g.get? d = some q := let ⟨q, _, _, hq, _⟩ := hg; ⟨q, hq⟩
  have hl : (mergeK kvs more).length ≤ sizeLine := Nat.le_trans (length_mergeK more kvs) hz
  exact ⟨.non, _, d_write I (by rw [hd]; exact True.intro) hs he (dk_new hl ld (KV.merge rel2 rel) hg), rfl, q⟩
/-- int(text) -/
def rIntS : List V → Hp → VK → Prop := fun xs H Q => ∃ a n, xs = [.str a] ∧ PySem.intText? a = some n ∧ a.length ≤ 640 ∧ Q (.int n) H
theorem c_intS {X : Cx} : CallR X (.type "int") rIntS := call_int_str
/-- a tuple of texts that the module's top holds -/
def TupG (K : PySem.W.Frag) (n : Str) (xs : List Str) : Prop :=
  ∃ (o : Obj) (its : Array Value) (k : Nat), K.lookup (ga K n) = some o ∧ o.cls = .type "tuple" ∧ o.data = .seq its k ∧ its.size ≤ sizeLine ∧ Vals (xs.map V.str) its.toList
def txtsB : List Str → List Value → Bool
  | [], [] => true
  | x :: xs, .str y _ :: vs => decide (x = y) && txtsB xs vs
  | _, _ => false
theorem txtsB_ok : ∀ {xs : List Str} {vs : List Value}, txtsB xs vs = true → Vals (xs.map V.str) vs
  | [], [], _ => .nil
  | x :: xs, .str y t :: vs, h => by
    obtain ⟨h1, h2⟩ := ba h
    obtain rfl := of_decide_eq_true h1
    exact .cons ⟨_, rfl⟩ (txtsB_ok h2)
def tupT (n : Str) (xs : List Str) : Tst := fun K => match K.lookup (ga K n) with
  | some o => decide (o.cls = .type "tuple") && (match o.data with
    | .seq its _ => decide (its.size ≤ 1000) && txtsB xs its.toList
    | _ => false)
  | none => false
theorem tupT_ok {K : PySem.W.Frag} {n : Str} {xs : List Str} (c : tupT n xs K = true) : TupG K n xs := by
  unfold tupT at c
  cases q : K.lookup (ga K n) with
  | none => rw [q] at c; cases c
  | some o =>
    rw [q] at c
    obtain ⟨c1, c2⟩ := ba c
    cases hd : o.data with
    | seq its k =>
      rw [hd] at c2
      obtain ⟨c3, c4⟩ := ba c2
      exact ⟨o, its, k, q, of_decide_eq_true c1, hd, Nat.le_trans (of_decide_eq_true c3) (by decide), txtsB_ok c4⟩
    | _ => rw [hd] at c2; cases c2
/-- isinstance(error, C) where the error is caught right here -/
def rIsiP (K : PySem.W.Frag) (a : Addr) (cls : Value) (d : Option Addr) : List V → Hp → VK → Prop := fun xs H Q => ∃ (C : Addr) (c : V) (u : Value) (b : Bool), cls = .ref C ∧ xs = [.ref a, c] ∧ ClsV c u ∧ L2.ExcC K C ∧ (∀ dd, d = some dd → ∃ fs, DAt H dd fs) ∧ PySem.W.kitOne K (.ref C) u = some b ∧ Q (.bl b) H
theorem c_isiP {X : Cx} {a : Addr} {oe : Obj} {cls : Value} {d : Option Addr} {pn : List (Addr × Obj)} (hz : Zc cls d oe) (hf : ∃ vs, oe.data = .fields vs) : CallR (X.suite a ((a, oe) :: pn)) (.builtin "isinstance") (rIsiP X.K a cls d) := by
  intro pins s σ H xs us Q I r h
  obtain ⟨C, c, u, b, rfl, rfl, hc, T, hd, e, q⟩ := h
  obtain ⟨u1, u2, rfl, r1, r2⟩ := vals2 r
  obtain rfl : u1 = Value.ref a := r1
  obtain rfl := hc.eq r2
  obtain ⟨g1, _⟩ := I.pin (a, oe) (List.mem_append_left _ List.mem_cons_self)
  obtain ⟨vs, g4⟩ := hf
  have nc : PySem.W.notCls oe = true := by unfold PySem.W.notCls; rw [g4] <;> rfl
  have hcl : (PySem.W.clsIn X.K C).isSome = true := by
    obtain ⟨cd, z, _⟩ := PySem.W.any_some T.hd
    rw [z]
    rfl
  have J : ∃ od, PySem.W.InstAt s.heap a oe C od := by
    cases d with
    | none => exact ⟨none, g1, hz.1, nc, by rw [hz.2]; exact trivial⟩
    | some dd =>
      obtain ⟨fs, hdd⟩ := hd dd rfl
      obtain ⟨mA, hns, rel⟩ := dat_get I hdd
      obtain ⟨od, ho, _⟩ := lookIn_ns hns
      exact ⟨some od, g1, hz.1, nc, by rw [hz.2]; exact ho⟩
  obtain ⟨od, J⟩ := J
  exact PySem.W.kia_one (PySem.W.kitx_exc hcl T.hg T.hk T.hs T.ha T.hn T.ht T.hm) I.kIn J e (fun z => nomatch z) fun tk => ⟨.bl b, H, I.kept (t' := tk) fun _ _ z => z, rfl, q⟩
/-- what is returned stands elsewhere than the error -/
def tRtN (a : Addr) (t : TS) : TS := fun D σ H => t { D with rt := fun v H2 => H2 a = none → D.rt v H2 } σ H
theorem pss_rtN {X : Cx} {a : Addr} {oe : Obj} {pn : List (Addr × Obj)} {b : List Stmt} {t : TS} (h : PSs (X.suite a ((a, oe) :: pn)) b t) : PSs (X.suite a ((a, oe) :: pn)) b (tRtN a t) := by
  refine ⟨fun pins s σ H D I q => wpAny_mono (h.run pins s σ H _ I q) (fun f s6 hsp => ?_) (fun _ _ z => z)⟩
  cases f with
  | next => exact hsp
  | brk => exact hsp
  | cont => exact hsp
  | ret u =>
    obtain ⟨v6, σ6, H6, S6, r6, q6⟩ := hsp
    exact ⟨v6, σ6, H6, S6, r6, q6 (S6.pin (a, oe) (List.mem_append_left _ List.mem_cons_self)).2.1⟩
/-- the list at a, each item in a new pair, counted from k -/
def EnK (K : PySem.W.Frag) (a : Addr) (k : Int) : It :=
  ⟨fun n G => ∃ (xs : List V) (y : V), SqL K G a xs ∧ xs[n]? = some y, fun n G v G' => ∃ T y, v = .ref T ∧ G T = none ∧ G' = upd G T (.tup [.int (k + (n : Nat)), y]) ∧ ∀ xs, SqL K G a xs → xs[n]? = some y, fun n G => ∃ xs : List V, SqL K G a xs ∧ xs.length ≤ n⟩
theorem turn_enK {P : Program} {w : World} {K : PySem.W.Frag} {elts : List Expr} {kk : Nat} {tp : Pos} (k : Int) (a e it : Addr) :
    Turn P w K (.Tuple elts kk tp) (EnK K a k) [e, it] e (fun n h => (∃ old, IsEnum h e it (k + ((n : Nat) : Int)) old) ∧ h.IsListIter it a n ∧ e ≠ it ∧ e ≠ a ∧ a ≠ it) where
  mem := by simp
  obj := fun n h st b hb => by
    obtain ⟨⟨old, he⟩, ⟨u, hu, hc, hd⟩, _⟩ := st
    rcases (show b = e ∨ b = it by simpa using hb) with rfl | rfl
    · exact ⟨_, he, fun v q => nomatch q⟩
    · exact ⟨u, hu, fun v q => by rw [hd] at q; cases q⟩
  keep := fun n h h2 st kp => let ⟨⟨old, he⟩, hit, h3⟩ := st; ⟨⟨old, kp e (by simp) _ he⟩, hit.at fun u q => kp it (by simp) u q, h3⟩
  item := by
    intro X hP hw hK hc n pins s σ H E I fo st hg
    subst hP hw hK
    obtain ⟨⟨old, he⟩, hit, ne1, ne2, ne3⟩ := st
    obtain ⟨xs, y, hq, hy⟩ := hg
    obtain ⟨its, rv, pt, hz⟩ := I.list hq
    obtain ⟨u, hu, ru⟩ := rv.get hy
    have le : e < s.heap.objs.size := Heap.lt_size he
    have li : it < s.heap.objs.size := by obtain ⟨_, q, _⟩ := hit; exact Heap.lt_size q
    have hd := I.ok.hd hc
    have lt : n < its.toArray.size := by simpa using (List.getElem?_eq_some_iff.mp hu).1
    refine wpAny_pyNext_enum_itemC (Draws.list (A := X.A.in1) (by simp [hd]) it a ne3 its.toArray) he ⟨hit, pt.isList⟩ lt ne1 (by simp [ne1, ne2]) fun x h1 tk hx ho hst hT hsz hk => ?_
    obtain rfl : x = u := by
      have hx : its.toArray[n]? = some x := hx
      rw [List.getElem?_toArray, hu] at hx
      exact (Option.some.inj hx).symm
    refine ⟨_, rfl, wpAny_letOwnedTupleGo_enum (s := { s with heap := h1, toks := tk + 1 }) ho fun h2 he2 sb => ?_⟩
    have hT2 : h2.get? s.heap.objs.size = some { cls := .type "tuple", data := .seq #[.int (k + (n : Nat)) tk, x] } := (sb.2 _ (Nat.ne_of_gt le)).trans hT
    have fresh : ObjOk X.prog X.w (upd H s.heap.objs.size (.tup [.int (k + (n : Nat)), y])) h2 s.heap.objs.size (.tup [.int (k + (n : Nat)), y]) :=
      ⟨by show 2 ≤ sizeLine; decide, [.int (k + (n : Nat)) tk, x], .cons ⟨_, rfl⟩ (.cons ru .nil), ⟨_, hT2, rfl, _, rfl⟩⟩
    have I1 : Inv X pins σ (upd H s.heap.objs.size (.tup [.int (k + (n : Nat)), y])) { s with heap := h2, toks := tk + 1 } :=
      I.turnedNew (ch := [e, it]) (fun b ob hb q => (sb.2 b (fun z => hb (by simp [z]))).trans (hk b ob (fun z => hb (by simp [z])) (fun z => hb (by simp [z])) q)) fo (Nat.le_refl _) fresh
    have itn : h2.IsListIter it a (n + 1) := hst.1.at fun u q => (sb.2 it (Ne.symm ne1)).trans q
    refine ⟨.ref s.heap.objs.size, _, I1, rfl, ⟨_, y, rfl, I.hok.fresh (Nat.le_refl _), rfl, fun zs hz2 => by rw [I.list_inj hz2 hq]; exact hy⟩, ⟨⟨x, ?_⟩, itn, ne1, ne2, ne3⟩, fun b hb => ?_⟩
    · rw [show k + ((n + 1 : Nat) : Int) = k + (n : Int) + 1 by omega]
      exact he2
    · have lb : b < s.heap.objs.size := by
        rcases (show b = e ∨ b = it by simpa using hb) with rfl | rfl
        · exact le
        · exact li
      rw [upd_ne (Nat.ne_of_lt lb)]
      exact (fo b hb).1
  done := by
    intro X hP hw hK hc n pins s σ H E I fo st hg
    subst hP hw hK
    obtain ⟨⟨old, he⟩, hit, ne1, ne2, ne3⟩ := st
    obtain ⟨xs, hq, hx⟩ := hg
    obtain ⟨its, rv, pt, hz⟩ := I.list hq
    obtain ⟨f0, f1, f2, f3, f4, f5⟩ := fo it (by simp)
    have len := rv.length
    refine wpAny_pyNext_enum_endD (draws_endL (A := X.A.in1) (by simp [I.ok.hd hc]) it a its.toArray n (by simp; omega)) he ⟨rfl, hit, pt.isList⟩ fun h1 eb => ⟨rfl, I.turned (t' := s.toks) (fun b u hb q => eb b u hb q) f0 f1 f3 f4 f5⟩
  self := fun A n s Q E st kp => let ⟨⟨_, he⟩, _⟩ := st; wpAny_pyIter_enum he kp
def iEnK (K : PySem.W.Frag) (ta : TA) : TI := fun σ H R => ta σ H fun vs H1 => ∃ a xs k, vs = [.ref a, .int k] ∧ SqL K H1 a xs ∧ -(2 ^ 62) ≤ k ∧ k < 2 ^ 62 ∧ R (EnK K a k) H1
theorem pi_enK {X : Cx} {e e2 : Expr} {ta : TA} {p pos tp : Pos} {elts : List Expr} {kk : Nat} (hg : Gl X "enumerate") (hm : X.mg "enumerate" = none) (ha : PA X [e, e2] ta)
    (st : starEach [e, e2] X.env = (false, eval e X.env) :: starEach [e2] X.env := by rfl) (st2 : (backTo pos (starEach [e2] X.env)).any (·.1) = false := by rfl) :
    PI X (.Tuple elts kk tp) (.Call (.Name "enumerate" p) [e, e2] [] pos) (iEnK X.K ta) := by
  refine ⟨fun pins s σ H R I h => ?_⟩
  refine Call_ (ld_blt I hg hm boot_enumerate (PyProof.Rows.callWith_type1 (thn (ha.run pos pins s σ H _ I h) fun us s1 ⟨vs, H1, I1, r1, a, xs, k, ex, hq, k0, k1, q⟩ => ?_) st st2))
  subst ex
  cases r1 with
  | cons r rr =>
    cases rr with
    | cons r2 rr =>
      cases rr
      cases r
      obtain ⟨t, rfl⟩ := r2
      obtain ⟨its, rv, pt, hz⟩ := I1.list hq
      have la : a < s1.heap.objs.size := by
        obtain ⟨u, n, hu, _⟩ := pt
        exact Heap.lt_size hu
      refine enum_begins (begins_list a its.toArray) pt.isList (by omega) (by omega) fun h2 he hit hsz hk => wpAny_pyIter_enum he ?_
      have I2 : Inv X pins σ H1 { s1 with heap := h2 } := I1.kept (t' := s1.toks) hk
      refine ⟨s1.heap.objs.size + 1, [s1.heap.objs.size + 1, s1.heap.objs.size], _, _, H1, rfl, I2, turn_enK k a (s1.heap.objs.size + 1) s1.heap.objs.size, ⟨⟨.none, by rw [show k + ((0 : Nat) : Int) = k by omega]; exact he⟩, ⟨_, hit, rfl, rfl⟩, Nat.succ_ne_self _, Nat.ne_of_gt (Nat.lt_succ_of_lt la), Nat.ne_of_lt la⟩, fun b hb => ?_, q⟩
      have lb : s1.heap.objs.size ≤ b := by
        rcases (show b = s1.heap.objs.size + 1 ∨ b = s1.heap.objs.size by simpa using hb) with rfl | rfl
        · exact Nat.le_succ _
        · exact Nat.le_refl _
      exact I1.fpOk lb (I1.hok.fresh lb)
end SJ
namespace SJ
open PySem PySem.Spec PyProof.Rows L2 He LamX
def asR (n : Nat) : List Addr := mainGlobals :: cStatics :: sysModules :: List.range n
def obsR (file : Str) (fa : List Tst) (fn : List DD) (fx : List XD) (tf : List DD) (n : Nat) (g : Addr → Option Obj) : AlW := (obsZ file fa fn fx (frT g (asR n)), tabW g tf (frT g (asR n)))
theorem saysR_of {file : Str} {fa : List Tst} {fn : List DD} {fx : List XD} {tf : List DD} {h : Heap} {n : Nat} (e : obsR file fa fn fx tf n h.get? = (valZ fn fx, true)) : SaysW file fa fn fx tf h (frT h.get? (asR n)) := by
  have e1 : obsZ file fa fn fx (frT h.get? (asR n)) = valZ fn fx := congrArg (fun q : AlW => q.1) e
  have e2 : tabW h.get? tf (frT h.get? (asR n)) = true := congrArg (fun q : AlW => q.2) e
  have key : ∀ d ∈ tf, PySem.W.codeHdIn (frT h.get? (asR n)) (cTA (frT h.get? (asR n)) d).1 (cTA (frT h.get? (asR n)) d).2 = true ∧ ∃ o, h.get? (cTA (frT h.get? (asR n)) d).2 = some o ∧ emptyTab o = true := fun d hd => by
    obtain ⟨h3, h4⟩ := ba (List.all_eq_true.mp e2 d hd)
    cases q : h.get? (cTA (frT h.get? (asR n)) d).2 with
    | none => rw [q] at h4; cases h4
    | some o => rw [q] at h4; exact ⟨h3, o, rfl, h4⟩
  refine ⟨e1, fun d hd => (key d hd).1, fun d hd => ?_, fun d hd => ?_⟩
  · obtain ⟨_, o, q, z⟩ := key d hd; exact frT_none q z
  · obtain ⟨_, o, q, z⟩ := key d hd; rw [q, emptyTab_eq z]
def hookR (file : Str) (fa : List Tst) (fn : List DD) (fx : List XD) (tf : List DD) : PySem.W.Hook where
  α := AlW
  obs := fun s => obsR file fa fn fx tf s.heap.objs.size s.heap.get?
  val := fun _ => (valZ fn fx, true)
  says := fun _ h => ∃ K : PySem.W.Frag, K.In h ∧ SaysW file fa fn fx tf h K
  of := fun _ _ e => ⟨_, frT_in, saysR_of e⟩
  keeps := fun _ _ _ ⟨K, hK, c⟩ k => ⟨K, PySem.W.Frag.In.keeps hK k, ⟨c.z, c.hd, c.out, fun d hd => k _ _ (c.got d hd)⟩⟩
def obR (file : Str) (fa : List Tst) (fn : List DD) (fx : List XD) (tf : List DD) (s : PySem.W.SharedT) : AlW := obsR file fa fn fx tf s.n (HandSHeadRun.getT s)
theorem obR_eq {file : Str} {fa : List Tst} {fn : List DD} {fx : List XD} {tf : List DD} (s : PySem.W.SharedT) : obR file fa fn fx tf s = (hookR file fa fn fx tf).obs s.abs := by
  have e : HandSHeadRun.getT s = s.abs.heap.get? := funext fun a => HandSHeadRun.getT_eq s a
  have e2 : s.n = s.abs.heap.objs.size := (PySem.W.absHeap_size s.tree s.n s.life).symm
  unfold obR
  rw [e, e2] <;> rfl
/-- the run's equation from its three parts -/
theorem map3 {α β γ δ : Type} {o : Option α} {f : α → β} {g : α → γ} {h : α → δ} {x : β} {y : γ} {z : δ} (e1 : o.map f = some x) (e2 : o.map g = some y) (e3 : o.map h = some z) : o.map (fun s => (f s, g s, h s)) = some (x, y, z) := by
  cases o with
  | none => cases e1
  | some a =>
    have a1 : f a = x := Option.some.inj e1
    have a2 : g a = y := Option.some.inj e2
    have a3 : h a = z := Option.some.inj e3
    show some (f a, g a, h a) = _
    rw [a1, a2, a3]
end SJ
namespace K86
open PySem PySem.Spec PyProof.Rows L2 He SJ
open LamX (CodeO lamS_by Tabs tLam)
def top (i : Nat) : Stmt := PySem.Challenge.pw_strayjoins_k86_frames_refused.main.body.getD i (.Pass ⟨0, 0, 0, 0⟩)
abbrev s_InvalidFrame_init : Stmt := inClass (top 3) 0
abbrev s_InvalidText_init : Stmt := inClass (top 4) 0
abbrev s_NoLeg_init : Stmt := inClass (top 6) 0
abbrev s_is_integer : Stmt := top 13
abbrev s_is_between : Stmt := top 14
abbrev s_is_name : Stmt := top 15
abbrev s_Leg_init : Stmt := inClass (top 17) 1
abbrev s_Leg_drives : Stmt := inClass (top 17) 2
abbrev s_Leg_eq : Stmt := inClass (top 17) 3
abbrev s_fault_of : Stmt := top 22
abbrev s_Frame_init : Stmt := inClass (top 23) 1
abbrev s_Frame_of : Stmt := inClass (top 23) 2
abbrev s_Frame_legs : Stmt := inClass (top 23) 3
abbrev s_Frame_rails : Stmt := inClass (top 23) 7
abbrev s_Frame_eq : Stmt := inClass (top 23) 13
abbrev s_number_in : Stmt := top 27
abbrev s_leg_of : Stmt := top 28
abbrev s_lines_in : Stmt := top 29
abbrev s_need : Stmt := top 30
abbrev s_frame_in : Stmt := top 31
abbrev s_read_frame : Stmt := top 32
abbrev s_Lpen : Stmt := top 34
abbrev s_Ldraw : Stmt := top 35
abbrev s_Lpick : Stmt := top 36
abbrev s_Lbare : Stmt := top 37
abbrev s_Lframe : Stmt := top 38
abbrev s_Lframe_lines : Stmt := top 39
abbrev s_Lnumber : Stmt := top 40
abbrev s_Lis_name : Stmt := top 41
abbrev s_Lframe_in : Stmt := top 42
abbrev s_Lspoilt : Stmt := top 43
abbrev s_Lheard : Stmt := top 44
abbrev s_Lright : Stmt := top 45
abbrev s_Lmany_right : Stmt := top 46
abbrev s_law : Stmt := top 47
def a_is_integer : PySem.W.Frag → Addr := fun K => ga K "is_integer"
def a_is_between : PySem.W.Frag → Addr := fun K => ga K "is_between"
def a_is_name : PySem.W.Frag → Addr := fun K => ga K "is_name"
def a_Leg_init : PySem.W.Frag → Addr := fun K => ma K (ga K "Leg") "__init__"
def a_Leg_drives : PySem.W.Frag → Addr := pgA "Leg" "drives"
def a_Leg_eq : PySem.W.Frag → Addr := fun K => ma K (ga K "Leg") "__eq__"
def a_fault_of : PySem.W.Frag → Addr := fun K => ga K "fault_of"
def a_Frame_init : PySem.W.Frag → Addr := fun K => ma K (ga K "Frame") "__init__"
def a_Frame_of : PySem.W.Frag → Addr := cmA "Frame" "of"
def a_Frame_legs : PySem.W.Frag → Addr := pgA "Frame" "legs"
def a_Frame_rails : PySem.W.Frag → Addr := pgA "Frame" "rails"
def a_Frame_eq : PySem.W.Frag → Addr := fun K => ma K (ga K "Frame") "__eq__"
def a_number_in : PySem.W.Frag → Addr := fun K => ga K "number_in"
def a_leg_of : PySem.W.Frag → Addr := fun K => ga K "leg_of"
def a_lines_in : PySem.W.Frag → Addr := fun K => ga K "lines_in"
def a_need : PySem.W.Frag → Addr := fun K => ga K "need"
def a_frame_in : PySem.W.Frag → Addr := fun K => ga K "frame_in"
def a_read_frame : PySem.W.Frag → Addr := fun K => ga K "read_frame"
def a_Lpen : PySem.W.Frag → Addr := fun K => ga K "_law_pen"
def a_Ldraw : PySem.W.Frag → Addr := fun K => ga K "_law_draw"
def a_Lpick : PySem.W.Frag → Addr := fun K => ga K "_law_pick"
def a_Lbare : PySem.W.Frag → Addr := fun K => ga K "_law_bare"
def a_Lframe : PySem.W.Frag → Addr := fun K => ga K "_law_frame"
def a_Lframe_lines : PySem.W.Frag → Addr := fun K => ga K "_law_frame_lines"
def a_Lnumber : PySem.W.Frag → Addr := fun K => ga K "_law_number"
def a_Lis_name : PySem.W.Frag → Addr := fun K => ga K "_law_is_name"
def a_Lframe_in : PySem.W.Frag → Addr := fun K => ga K "_law_frame_in"
def a_Lspoilt : PySem.W.Frag → Addr := fun K => ga K "_law_spoilt"
def a_Lheard : PySem.W.Frag → Addr := fun K => ga K "_law_heard"
def a_Lright : PySem.W.Frag → Addr := fun K => ga K "_law_right"
def a_Lmany_right : PySem.W.Frag → Addr := fun K => ga K "_law_many_right"
def a_law : PySem.W.Frag → Addr := fun K => ga K "law"
theorem sc_is_integer : FnScope ["value"] ["value"] (defScope s_is_integer) := ⟨rfl, rfl, rfl, by decide +kernel, rfl, by decide +kernel, by decide +kernel⟩
theorem sc_is_between : FnScope ["value", "least", "most"] ["value", "least", "most"] (defScope s_is_between) := ⟨rfl, rfl, rfl, by decide +kernel, rfl, by decide +kernel, by decide +kernel⟩
theorem sc_is_name : FnScope ["value", "letter"] ["value"] (defScope s_is_name) := ⟨rfl, rfl, rfl, by decide +kernel, rfl, by decide +kernel, by decide +kernel⟩
theorem sc_Leg_init : FnScope ["self", "name"] ["self", "name"] (defScope s_Leg_init) := ⟨rfl, rfl, rfl, by decide +kernel, rfl, by decide +kernel, by decide +kernel⟩
theorem sc_Leg_eq : FnScope ["self", "other"] ["self", "other"] (defScope s_Leg_eq) := ⟨rfl, rfl, rfl, by decide +kernel, rfl, by decide +kernel, by decide +kernel⟩
theorem sc_fault_of : FnScope ["legs", "most", "top", "rails", "leg", "rail"] ["legs", "most", "top", "rails"] (defScope s_fault_of) := ⟨rfl, rfl, rfl, by decide +kernel, rfl, by decide +kernel, by decide +kernel⟩
theorem sc_Frame_init : FnScope ["self", "top", "ground", "power", "legs", "fault", "leg"] ["self", "top", "ground", "power", "legs"] (defScope s_Frame_init) := ⟨rfl, rfl, rfl, by decide +kernel, rfl, by decide +kernel, by decide +kernel⟩
theorem sc_Frame_of : FnScope ["cls", "legs", "top", "ground", "power"] ["cls", "legs", "top", "ground", "power"] (defScope s_Frame_of) := ⟨rfl, rfl, rfl, by decide +kernel, rfl, by decide +kernel, by decide +kernel⟩
theorem sc_Frame_legs : FnScope ["self"] ["self"] (defScope s_Frame_legs) := ⟨rfl, rfl, rfl, by decide +kernel, rfl, by decide +kernel, by decide +kernel⟩
theorem sc_Frame_rails : FnScope ["self"] ["self"] (defScope s_Frame_rails) := ⟨rfl, rfl, rfl, by decide +kernel, rfl, by decide +kernel, by decide +kernel⟩
theorem sc_Frame_eq : FnScope ["self", "other"] ["self", "other"] (defScope s_Frame_eq) := ⟨rfl, rfl, rfl, by decide +kernel, rfl, by decide +kernel, by decide +kernel⟩
theorem sc_number_in : FnScope ["word", "least", "most", "sign"] ["word", "least", "most"] (defScope s_number_in) := ⟨rfl, rfl, rfl, by decide +kernel, rfl, by decide +kernel, by decide +kernel⟩
theorem sc_leg_of : FnScope ["kind", "name"] ["kind", "name"] (defScope s_leg_of) := ⟨rfl, rfl, rfl, by decide +kernel, rfl, by decide +kernel, by decide +kernel⟩
theorem sc_lines_in : FnScope ["text", "line"] ["text"] (defScope s_lines_in) := ⟨rfl, rfl, rfl, by decide +kernel, rfl, by decide +kernel, by decide +kernel⟩
theorem sc_need : FnScope ["is_right", "line", "word"] ["is_right", "line", "word"] (defScope s_need) := ⟨rfl, rfl, rfl, by decide +kernel, rfl, by decide +kernel, by decide +kernel⟩
theorem sc_frame_in : FnScope ["rows", "head", "top", "rails", "rail", "legs", "line", "words"] ["rows"] (defScope s_frame_in) := ⟨rfl, rfl, rfl, by decide +kernel, rfl, by decide +kernel, by decide +kernel⟩
theorem sc_read_frame : FnScope ["text"] ["text"] (defScope s_read_frame) := ⟨rfl, rfl, rfl, by decide +kernel, rfl, by decide +kernel, by decide +kernel⟩
theorem sc_Lpen : FnScope ["_law_script"] ["_law_script"] (defScope s_Lpen) := ⟨rfl, rfl, rfl, by decide +kernel, rfl, by decide +kernel, by decide +kernel⟩
theorem sc_Ldraw : FnScope ["_law_pen_here", "_law_many", "_law_digit", "_law_at", "_law_cell", "_law_great", "_law_mixed"] ["_law_pen_here", "_law_many"] (defScope s_Ldraw) := ⟨rfl, rfl, rfl, by decide +kernel, rfl, by decide +kernel, by decide +kernel⟩
theorem sc_Lpick : FnScope ["_law_pen_here", "_law_some"] ["_law_pen_here", "_law_some"] (defScope s_Lpick) := ⟨rfl, rfl, rfl, by decide +kernel, rfl, by decide +kernel, by decide +kernel⟩
theorem sc_Lbare : FnScope ["_law_pen_here", "_law_most", "_law_bare_here", "_law_tags", "_law_turn", "_law_kind"] ["_law_pen_here", "_law_most"] (defScope s_Lbare) := ⟨rfl, rfl, rfl, by decide +kernel, rfl, by decide +kernel, by decide +kernel⟩
theorem sc_Lframe : FnScope ["_law_bare_here", "_law_legs_so", "_law_tag", "_law_rails_so"] ["_law_bare_here"] (defScope s_Lframe) := ⟨rfl, rfl, rfl, by decide +kernel, rfl, by decide +kernel, by decide +kernel⟩
theorem sc_Lframe_lines : FnScope ["_law_bare_here", "_law_kinds_so", "_law_tag", "_law_found"] ["_law_bare_here"] (defScope s_Lframe_lines) := ⟨rfl, rfl, rfl, by decide +kernel, rfl, by decide +kernel, by decide +kernel⟩
theorem sc_Lnumber : FnScope ["_law_some", "_law_most", "_law_k"] ["_law_some", "_law_most"] (defScope s_Lnumber) := ⟨rfl, rfl, rfl, by decide +kernel, rfl, by decide +kernel, by decide +kernel⟩
theorem sc_Lis_name : FnScope ["_law_tag", "_law_sign"] ["_law_tag"] (defScope s_Lis_name) := ⟨rfl, rfl, rfl, by decide +kernel, rfl, by decide +kernel, by decide +kernel⟩
theorem sc_Lframe_in : FnScope ["_law_rows_so", "_law_first", "_law_rails_so", "_law_rail", "_law_at", "_law_bare_here", "_law_row", "_law_tags"] ["_law_rows_so"] (defScope s_Lframe_in) := ⟨rfl, rfl, rfl, by decide +kernel, rfl, by decide +kernel, by decide +kernel⟩
theorem sc_Lspoilt : FnScope ["_law_pen_here", "_law_lines", "_law_odd", "_law_rows_so", "_law_line", "_law_at", "_law_way", "_law_row", "_law_spot", "_law_found", "_law_more"] ["_law_pen_here", "_law_lines"] (defScope s_Lspoilt) := ⟨rfl, rfl, rfl, by decide +kernel, rfl, by decide +kernel, by decide +kernel⟩
theorem sc_Lheard : FnScope ["_law_ask", "error"] ["_law_ask"] (defScope s_Lheard) := ⟨rfl, rfl, rfl, by decide +kernel, rfl, by decide +kernel, by decide +kernel⟩
theorem sc_Lright : FnScope ["_law_text_so", "_law_due", "_law_line", "_law_told"] ["_law_text_so"] (defScope s_Lright) := ⟨rfl, rfl, rfl, by decide +kernel, rfl, by decide +kernel, by decide +kernel⟩
theorem sc_Lmany_right : FnScope ["_law_tags", "_law_k", "_law_lines", "_law_tag"] [] (defScope s_Lmany_right) := ⟨rfl, rfl, rfl, by decide +kernel, rfl, by decide +kernel, by decide +kernel⟩
theorem sc_law : FnScope ["_law_script", "_law_pen_here", "_law_turn", "_law_lines", "_law_again", "_law_odd", "_law_some", "_law_text_so"] ["_law_script"] (defScope s_law) := ⟨rfl, rfl, rfl, by decide +kernel, rfl, by decide +kernel, by decide +kernel⟩
def d_is_integer : DD := ⟨a_is_integer, "is_integer", "is_integer", defArgs s_is_integer, defBody s_is_integer, defScope s_is_integer, [], []⟩
abbrev Fn_is_integer (K : PySem.W.Frag) (fd : FuncData) : Prop := FunD K "is_integer" "is_integer" (defArgs s_is_integer) (defBody s_is_integer) (defScope s_is_integer) [] [] (a_is_integer K) fd
def d_is_between : DD := ⟨a_is_between, "is_between", "is_between", defArgs s_is_between, defBody s_is_between, defScope s_is_between, [], []⟩
abbrev Fn_is_between (K : PySem.W.Frag) (fd : FuncData) : Prop := FunD K "is_between" "is_between" (defArgs s_is_between) (defBody s_is_between) (defScope s_is_between) [] [] (a_is_between K) fd
def d_is_name : DD := ⟨a_is_name, "is_name", "is_name", defArgs s_is_name, defBody s_is_name, defScope s_is_name, [], []⟩
abbrev Fn_is_name (K : PySem.W.Frag) (fd : FuncData) : Prop := FunD K "is_name" "is_name" (defArgs s_is_name) (defBody s_is_name) (defScope s_is_name) [] [] (a_is_name K) fd
def d_Leg_init : DD := ⟨a_Leg_init, "__init__", "Leg.__init__", defArgs s_Leg_init, defBody s_Leg_init, defScope s_Leg_init, [], []⟩
abbrev Fn_Leg_init (K : PySem.W.Frag) (fd : FuncData) : Prop := FunD K "__init__" "Leg.__init__" (defArgs s_Leg_init) (defBody s_Leg_init) (defScope s_Leg_init) [] [] (a_Leg_init K) fd
def d_Leg_drives : DD := ⟨a_Leg_drives, "drives", "Leg.drives", defArgs s_Leg_drives, defBody s_Leg_drives, defScope s_Leg_drives, [], []⟩
abbrev Fn_Leg_drives (K : PySem.W.Frag) (fd : FuncData) : Prop := FunD K "drives" "Leg.drives" (defArgs s_Leg_drives) (defBody s_Leg_drives) (defScope s_Leg_drives) [] [] (a_Leg_drives K) fd
def d_Leg_eq : DD := ⟨a_Leg_eq, "__eq__", "Leg.__eq__", defArgs s_Leg_eq, defBody s_Leg_eq, defScope s_Leg_eq, [], []⟩
abbrev Fn_Leg_eq (K : PySem.W.Frag) (fd : FuncData) : Prop := FunD K "__eq__" "Leg.__eq__" (defArgs s_Leg_eq) (defBody s_Leg_eq) (defScope s_Leg_eq) [] [] (a_Leg_eq K) fd
def d_fault_of : DD := ⟨a_fault_of, "fault_of", "fault_of", defArgs s_fault_of, defBody s_fault_of, defScope s_fault_of, [], []⟩
abbrev Fn_fault_of (K : PySem.W.Frag) (fd : FuncData) : Prop := FunD K "fault_of" "fault_of" (defArgs s_fault_of) (defBody s_fault_of) (defScope s_fault_of) [] [] (a_fault_of K) fd
def d_Frame_init : DD := ⟨a_Frame_init, "__init__", "Frame.__init__", defArgs s_Frame_init, defBody s_Frame_init, defScope s_Frame_init, [], [("top", .int 1), ("ground", .bl false), ("power", .bl false)]⟩
abbrev Fn_Frame_init (K : PySem.W.Frag) (fd : FuncData) : Prop := FunD K "__init__" "Frame.__init__" (defArgs s_Frame_init) (defBody s_Frame_init) (defScope s_Frame_init) [] [("top", .int 1), ("ground", .bl false), ("power", .bl false)] (a_Frame_init K) fd
def d_Frame_of : DD := ⟨a_Frame_of, "of", "Frame.of", defArgs s_Frame_of, defBody s_Frame_of, defScope s_Frame_of, [], [("top", .int 1), ("ground", .bl false), ("power", .bl false)]⟩
abbrev Fn_Frame_of (K : PySem.W.Frag) (fd : FuncData) : Prop := FunD K "of" "Frame.of" (defArgs s_Frame_of) (defBody s_Frame_of) (defScope s_Frame_of) [] [("top", .int 1), ("ground", .bl false), ("power", .bl false)] (a_Frame_of K) fd
def d_Frame_legs : DD := ⟨a_Frame_legs, "legs", "Frame.legs", defArgs s_Frame_legs, defBody s_Frame_legs, defScope s_Frame_legs, [], []⟩
abbrev Fn_Frame_legs (K : PySem.W.Frag) (fd : FuncData) : Prop := FunD K "legs" "Frame.legs" (defArgs s_Frame_legs) (defBody s_Frame_legs) (defScope s_Frame_legs) [] [] (a_Frame_legs K) fd
def d_Frame_rails : DD := ⟨a_Frame_rails, "rails", "Frame.rails", defArgs s_Frame_rails, defBody s_Frame_rails, defScope s_Frame_rails, [], []⟩
abbrev Fn_Frame_rails (K : PySem.W.Frag) (fd : FuncData) : Prop := FunD K "rails" "Frame.rails" (defArgs s_Frame_rails) (defBody s_Frame_rails) (defScope s_Frame_rails) [] [] (a_Frame_rails K) fd
def d_Frame_eq : DD := ⟨a_Frame_eq, "__eq__", "Frame.__eq__", defArgs s_Frame_eq, defBody s_Frame_eq, defScope s_Frame_eq, [], []⟩
abbrev Fn_Frame_eq (K : PySem.W.Frag) (fd : FuncData) : Prop := FunD K "__eq__" "Frame.__eq__" (defArgs s_Frame_eq) (defBody s_Frame_eq) (defScope s_Frame_eq) [] [] (a_Frame_eq K) fd
def d_number_in : DD := ⟨a_number_in, "number_in", "number_in", defArgs s_number_in, defBody s_number_in, defScope s_number_in, [], []⟩
abbrev Fn_number_in (K : PySem.W.Frag) (fd : FuncData) : Prop := FunD K "number_in" "number_in" (defArgs s_number_in) (defBody s_number_in) (defScope s_number_in) [] [] (a_number_in K) fd
def d_leg_of : DD := ⟨a_leg_of, "leg_of", "leg_of", defArgs s_leg_of, defBody s_leg_of, defScope s_leg_of, [], []⟩
abbrev Fn_leg_of (K : PySem.W.Frag) (fd : FuncData) : Prop := FunD K "leg_of" "leg_of" (defArgs s_leg_of) (defBody s_leg_of) (defScope s_leg_of) [] [] (a_leg_of K) fd
def d_lines_in : DD := ⟨a_lines_in, "lines_in", "lines_in", defArgs s_lines_in, defBody s_lines_in, defScope s_lines_in, [], []⟩
abbrev Fn_lines_in (K : PySem.W.Frag) (fd : FuncData) : Prop := FunD K "lines_in" "lines_in" (defArgs s_lines_in) (defBody s_lines_in) (defScope s_lines_in) [] [] (a_lines_in K) fd
def d_need : DD := ⟨a_need, "need", "need", defArgs s_need, defBody s_need, defScope s_need, [], []⟩
abbrev Fn_need (K : PySem.W.Frag) (fd : FuncData) : Prop := FunD K "need" "need" (defArgs s_need) (defBody s_need) (defScope s_need) [] [] (a_need K) fd
def d_frame_in : DD := ⟨a_frame_in, "frame_in", "frame_in", defArgs s_frame_in, defBody s_frame_in, defScope s_frame_in, [], []⟩
abbrev Fn_frame_in (K : PySem.W.Frag) (fd : FuncData) : Prop := FunD K "frame_in" "frame_in" (defArgs s_frame_in) (defBody s_frame_in) (defScope s_frame_in) [] [] (a_frame_in K) fd
def d_read_frame : DD := ⟨a_read_frame, "read_frame", "read_frame", defArgs s_read_frame, defBody s_read_frame, defScope s_read_frame, [], []⟩
abbrev Fn_read_frame (K : PySem.W.Frag) (fd : FuncData) : Prop := FunD K "read_frame" "read_frame" (defArgs s_read_frame) (defBody s_read_frame) (defScope s_read_frame) [] [] (a_read_frame K) fd
def d_Lpen : DD := ⟨a_Lpen, "_law_pen", "_law_pen", defArgs s_Lpen, defBody s_Lpen, defScope s_Lpen, [], []⟩
abbrev Fn_Lpen (K : PySem.W.Frag) (fd : FuncData) : Prop := FunD K "_law_pen" "_law_pen" (defArgs s_Lpen) (defBody s_Lpen) (defScope s_Lpen) [] [] (a_Lpen K) fd
def d_Ldraw : DD := ⟨a_Ldraw, "_law_draw", "_law_draw", defArgs s_Ldraw, defBody s_Ldraw, defScope s_Ldraw, [], []⟩
abbrev Fn_Ldraw (K : PySem.W.Frag) (fd : FuncData) : Prop := FunD K "_law_draw" "_law_draw" (defArgs s_Ldraw) (defBody s_Ldraw) (defScope s_Ldraw) [] [] (a_Ldraw K) fd
def d_Lpick : DD := ⟨a_Lpick, "_law_pick", "_law_pick", defArgs s_Lpick, defBody s_Lpick, defScope s_Lpick, [], []⟩
abbrev Fn_Lpick (K : PySem.W.Frag) (fd : FuncData) : Prop := FunD K "_law_pick" "_law_pick" (defArgs s_Lpick) (defBody s_Lpick) (defScope s_Lpick) [] [] (a_Lpick K) fd
def d_Lbare : DD := ⟨a_Lbare, "_law_bare", "_law_bare", defArgs s_Lbare, defBody s_Lbare, defScope s_Lbare, [], []⟩
abbrev Fn_Lbare (K : PySem.W.Frag) (fd : FuncData) : Prop := FunD K "_law_bare" "_law_bare" (defArgs s_Lbare) (defBody s_Lbare) (defScope s_Lbare) [] [] (a_Lbare K) fd
def d_Lframe : DD := ⟨a_Lframe, "_law_frame", "_law_frame", defArgs s_Lframe, defBody s_Lframe, defScope s_Lframe, [], []⟩
abbrev Fn_Lframe (K : PySem.W.Frag) (fd : FuncData) : Prop := FunD K "_law_frame" "_law_frame" (defArgs s_Lframe) (defBody s_Lframe) (defScope s_Lframe) [] [] (a_Lframe K) fd
def d_Lframe_lines : DD := ⟨a_Lframe_lines, "_law_frame_lines", "_law_frame_lines", defArgs s_Lframe_lines, defBody s_Lframe_lines, defScope s_Lframe_lines, [], []⟩
abbrev Fn_Lframe_lines (K : PySem.W.Frag) (fd : FuncData) : Prop := FunD K "_law_frame_lines" "_law_frame_lines" (defArgs s_Lframe_lines) (defBody s_Lframe_lines) (defScope s_Lframe_lines) [] [] (a_Lframe_lines K) fd
def d_Lnumber : DD := ⟨a_Lnumber, "_law_number", "_law_number", defArgs s_Lnumber, defBody s_Lnumber, defScope s_Lnumber, [], []⟩
abbrev Fn_Lnumber (K : PySem.W.Frag) (fd : FuncData) : Prop := FunD K "_law_number" "_law_number" (defArgs s_Lnumber) (defBody s_Lnumber) (defScope s_Lnumber) [] [] (a_Lnumber K) fd
def d_Lis_name : DD := ⟨a_Lis_name, "_law_is_name", "_law_is_name", defArgs s_Lis_name, defBody s_Lis_name, defScope s_Lis_name, [], []⟩
abbrev Fn_Lis_name (K : PySem.W.Frag) (fd : FuncData) : Prop := FunD K "_law_is_name" "_law_is_name" (defArgs s_Lis_name) (defBody s_Lis_name) (defScope s_Lis_name) [] [] (a_Lis_name K) fd
def d_Lframe_in : DD := ⟨a_Lframe_in, "_law_frame_in", "_law_frame_in", defArgs s_Lframe_in, defBody s_Lframe_in, defScope s_Lframe_in, [], []⟩
abbrev Fn_Lframe_in (K : PySem.W.Frag) (fd : FuncData) : Prop := FunD K "_law_frame_in" "_law_frame_in" (defArgs s_Lframe_in) (defBody s_Lframe_in) (defScope s_Lframe_in) [] [] (a_Lframe_in K) fd
def d_Lspoilt : DD := ⟨a_Lspoilt, "_law_spoilt", "_law_spoilt", defArgs s_Lspoilt, defBody s_Lspoilt, defScope s_Lspoilt, [], []⟩
abbrev Fn_Lspoilt (K : PySem.W.Frag) (fd : FuncData) : Prop := FunD K "_law_spoilt" "_law_spoilt" (defArgs s_Lspoilt) (defBody s_Lspoilt) (defScope s_Lspoilt) [] [] (a_Lspoilt K) fd
def d_Lheard : DD := ⟨a_Lheard, "_law_heard", "_law_heard", defArgs s_Lheard, defBody s_Lheard, defScope s_Lheard, [], []⟩
abbrev Fn_Lheard (K : PySem.W.Frag) (fd : FuncData) : Prop := FunD K "_law_heard" "_law_heard" (defArgs s_Lheard) (defBody s_Lheard) (defScope s_Lheard) [] [] (a_Lheard K) fd
def d_Lright : DD := ⟨a_Lright, "_law_right", "_law_right", defArgs s_Lright, defBody s_Lright, defScope s_Lright, [], []⟩
abbrev Fn_Lright (K : PySem.W.Frag) (fd : FuncData) : Prop := FunD K "_law_right" "_law_right" (defArgs s_Lright) (defBody s_Lright) (defScope s_Lright) [] [] (a_Lright K) fd
def d_Lmany_right : DD := ⟨a_Lmany_right, "_law_many_right", "_law_many_right", defArgs s_Lmany_right, defBody s_Lmany_right, defScope s_Lmany_right, [], []⟩
abbrev Fn_Lmany_right (K : PySem.W.Frag) (fd : FuncData) : Prop := FunD K "_law_many_right" "_law_many_right" (defArgs s_Lmany_right) (defBody s_Lmany_right) (defScope s_Lmany_right) [] [] (a_Lmany_right K) fd
def d_law : DD := ⟨a_law, "law", "law", defArgs s_law, defBody s_law, defScope s_law, [], []⟩
abbrev Fn_law (K : PySem.W.Frag) (fd : FuncData) : Prop := FunD K "law" "law" (defArgs s_law) (defBody s_law) (defScope s_law) [] [] (a_law K) fd
def d_InvalidFrame_init : XD := ⟨"InvalidFrame", "InvalidFrame.__init__", defArgs s_InvalidFrame_init, defBody s_InvalidFrame_init, defScope s_InvalidFrame_init⟩
def a_InvalidFrame_init : PySem.W.Frag → Addr := fun K => ma K (ga K "InvalidFrame") "__init__"
def d_InvalidText_init : XD := ⟨"InvalidText", "InvalidText.__init__", defArgs s_InvalidText_init, defBody s_InvalidText_init, defScope s_InvalidText_init⟩
def a_InvalidText_init : PySem.W.Frag → Addr := fun K => ma K (ga K "InvalidText") "__init__"
def d_NoLeg_init : XD := ⟨"NoLeg", "NoLeg.__init__", defArgs s_NoLeg_init, defBody s_NoLeg_init, defScope s_NoLeg_init⟩
def fn : List DD := [d_is_integer, d_is_between, d_is_name, d_Leg_init, d_Leg_drives, d_Leg_eq, d_fault_of, d_Frame_init, d_Frame_of, d_Frame_legs, d_Frame_rails, d_Frame_eq, d_number_in, d_leg_of, d_lines_in, d_need, d_frame_in, d_read_frame, d_Lpen, d_Ldraw, d_Lpick, d_Lbare, d_Lframe, d_Lframe_lines, d_Lnumber, d_Lis_name, d_Lframe_in, d_Lspoilt, d_Lheard, d_Lright, d_Lmany_right, d_law]
def fx : List XD := [d_InvalidFrame_init, d_InvalidText_init, d_NoLeg_init]
def tf : List DD := [d_Frame_init, d_Lright, d_Lmany_right, d_law]
def TB (K : PySem.W.Frag) : List (Addr × Str) := [((cTA K d_Frame_init).2, ("Frame.__init__" : Str) ++ ".<locals>." ++ "<lambda>"), ((cTA K d_Lright).2, ("_law_right" : Str) ++ ".<locals>." ++ "<lambda>"), ((cTA K d_Lmany_right).2, ("_law_many_right" : Str) ++ ".<locals>." ++ "<lambda>"), ((cTA K d_law).2, ("law" : Str) ++ ".<locals>." ++ "<lambda>")]
theorem mem_tab_Frame_init {K : PySem.W.Frag} : cTA K d_Frame_init ∈ tf.map (cTA K) := List.mem_of_getElem? (i := 0) rfl
theorem mem_tab_Lright {K : PySem.W.Frag} : cTA K d_Lright ∈ tf.map (cTA K) := List.mem_of_getElem? (i := 1) rfl
theorem mem_tab_Lmany_right {K : PySem.W.Frag} : cTA K d_Lmany_right ∈ tf.map (cTA K) := List.mem_of_getElem? (i := 2) rfl
theorem mem_tab_law {K : PySem.W.Frag} : cTA K d_law ∈ tf.map (cTA K) := List.mem_of_getElem? (i := 3) rfl
structure Tx (K : PySem.W.Frag) (mg : Str → Option Value) : Prop where
  f_LookupError : mg "LookupError" = none
  f_TypeError : mg "TypeError" = none
  f_ValueError : mg "ValueError" = none
  f_abs : mg "abs" = none
  f_all : mg "all" = none
  f_bool : mg "bool" = none
  f_dict : mg "dict" = none
  f_enumerate : mg "enumerate" = none
  f_int : mg "int" = none
  f_isinstance : mg "isinstance" = none
  f_len : mg "len" = none
  f_list : mg "list" = none
  f_range : mg "range" = none
  f_repr : mg "repr" = none
  f_sorted : mg "sorted" = none
  f_str : mg "str" = none
  f_super : mg "super" = none
  f_tuple : mg "tuple" = none
  g_wall : mg "_wall" = some (.ref (ga K "_wall"))
  g_JoinError : mg "JoinError" = some (.ref (ga K "JoinError"))
  g_InvalidFrame : mg "InvalidFrame" = some (.ref (ga K "InvalidFrame"))
  g_InvalidText : mg "InvalidText" = some (.ref (ga K "InvalidText"))
  g_MissingError : mg "MissingError" = some (.ref (ga K "MissingError"))
  g_NoLeg : mg "NoLeg" = some (.ref (ga K "NoLeg"))
  g_LETTERS : ∃ t, mg "LETTERS" = some (.str "abcdefghijklmnopqrstuvwxyz" t)
  g_MOST_LETTERS : ∃ t, mg "MOST_LETTERS" = some (.int 8 t)
  g_GROUND : ∃ t, mg "GROUND" = some (.str "ground" t)
  g_POWER : ∃ t, mg "POWER" = some (.str "power" t)
  g_NOTHING : ∃ t, mg "NOTHING" = some (.str "nothing" t)
  g_is_integer : mg "is_integer" = some (.ref (ga K "is_integer"))
  g_is_between : mg "is_between" = some (.ref (ga K "is_between"))
  g_is_name : mg "is_name" = some (.ref (ga K "is_name"))
  g_Leg : mg "Leg" = some (.ref (ga K "Leg"))
  g_Driver : mg "Driver" = some (.ref (ga K "Driver"))
  g_Listener : mg "Listener" = some (.ref (ga K "Listener"))
  g_MOST_TOP : ∃ t, mg "MOST_TOP" = some (.int 3 t)
  g_fault_of : mg "fault_of" = some (.ref (ga K "fault_of"))
  g_Frame : mg "Frame" = some (.ref (ga K "Frame"))
  g_DIGITS : ∃ t, mg "DIGITS" = some (.str "0123456789" t)
  g_KINDS : mg "KINDS" = some (.ref (ga K "KINDS"))
  g_number_in : mg "number_in" = some (.ref (ga K "number_in"))
  g_leg_of : mg "leg_of" = some (.ref (ga K "leg_of"))
  g_lines_in : mg "lines_in" = some (.ref (ga K "lines_in"))
  g_need : mg "need" = some (.ref (ga K "need"))
  g_frame_in : mg "frame_in" = some (.ref (ga K "frame_in"))
  g_read_frame : mg "read_frame" = some (.ref (ga K "read_frame"))
  g_Lpen : mg "_law_pen" = some (.ref (ga K "_law_pen"))
  g_Ldraw : mg "_law_draw" = some (.ref (ga K "_law_draw"))
  g_Lpick : mg "_law_pick" = some (.ref (ga K "_law_pick"))
  g_Lbare : mg "_law_bare" = some (.ref (ga K "_law_bare"))
  g_Lframe : mg "_law_frame" = some (.ref (ga K "_law_frame"))
  g_Lframe_lines : mg "_law_frame_lines" = some (.ref (ga K "_law_frame_lines"))
  g_Lnumber : mg "_law_number" = some (.ref (ga K "_law_number"))
  g_Lis_name : mg "_law_is_name" = some (.ref (ga K "_law_is_name"))
  g_Lframe_in : mg "_law_frame_in" = some (.ref (ga K "_law_frame_in"))
  g_Lspoilt : mg "_law_spoilt" = some (.ref (ga K "_law_spoilt"))
  g_Lheard : mg "_law_heard" = some (.ref (ga K "_law_heard"))
  g_Lright : mg "_law_right" = some (.ref (ga K "_law_right"))
  g_Lmany_right : mg "_law_many_right" = some (.ref (ga K "_law_many_right"))
  g_law : mg "law" = some (.ref (ga K "law"))
  x_InvalidFrame : ExT K "InvalidFrame" "ValueError" "ValueError.__new__" "ValueError.__init__" [.type "ValueError", .type "Exception", .type "BaseException", .type "object"] ["reason"]
  x_InvalidText : ExT K "InvalidText" "ValueError" "ValueError.__new__" "ValueError.__init__" [.type "ValueError", .type "Exception", .type "BaseException", .type "object"] ["line", "word"]
  x_NoLeg : ExT K "NoLeg" "LookupError" "LookupError.__new__" "LookupError.__init__" [.type "LookupError", .type "Exception", .type "BaseException", .type "object"] ["name"]
  sys : (K.lookup sysModules).isSome = true
  xc_JoinError : L2.ExcC K (ga K "JoinError")
  xc_InvalidFrame : L2.ExcC K (ga K "InvalidFrame")
  xc_InvalidText : L2.ExcC K (ga K "InvalidText")
  xc_MissingError : L2.ExcC K (ga K "MissingError")
  xc_NoLeg : L2.ExcC K (ga K "NoLeg")
  in_Leg : InT K (ga K "Leg")
  mk_Leg : Mk K (ga K "Leg") (a_Leg_init K)
  in_Driver : InT K (ga K "Driver")
  mk_Driver : Mk K (ga K "Driver") (a_Leg_init K)
  in_Listener : InT K (ga K "Listener")
  mk_Listener : Mk K (ga K "Listener") (a_Leg_init K)
  in_Frame : InT K (ga K "Frame")
  mk_Frame : Mk K (ga K "Frame") (a_Frame_init K)
  fn_Leg_init : PySem.W.isFn K (.ref (a_Leg_init K)) = true
  fn_Leg_eq : PySem.W.isFn K (.ref (a_Leg_eq K)) = true
  fn_Frame_init : PySem.W.isFn K (.ref (a_Frame_init K)) = true
  fn_Frame_eq : PySem.W.isFn K (.ref (a_Frame_eq K)) = true
  n_Driver : NoAttr K (ga K "Driver") "name"
  ka_Driver : PySem.W.kitAny K (.ref (ga K "Driver")) [.ref (ga K "Driver"), .ref (ga K "Listener")] = some true
  k_Driver : ∃ t, Con K (ga K "Driver") "KIND" (.str "driver") (.str "driver" t)
  eq_Driver : PySem.W.findIn K (.ref (ga K "Driver")) "__eq__" = some (some (.ref (a_Leg_eq K)))
  pr_Driver : PropOf K (ga K "Driver") "drives" (ma K (ga K "Driver") "drives") (a_Leg_drives K)
  kit_Driver_Leg : PySem.W.kitOne K (.ref (ga K "Driver")) (.ref (ga K "Leg")) = some true
  nf_Driver_Driver : PySem.W.notFirst K (ga K "Driver") (.ref (ga K "Driver")) = true
  nf_Driver_Listener : PySem.W.notFirst K (ga K "Driver") (.ref (ga K "Listener")) = true
  n_Listener : NoAttr K (ga K "Listener") "name"
  ka_Listener : PySem.W.kitAny K (.ref (ga K "Listener")) [.ref (ga K "Driver"), .ref (ga K "Listener")] = some true
  k_Listener : ∃ t, Con K (ga K "Listener") "KIND" (.str "listener") (.str "listener" t)
  eq_Listener : PySem.W.findIn K (.ref (ga K "Listener")) "__eq__" = some (some (.ref (a_Leg_eq K)))
  pr_Listener : PropOf K (ga K "Listener") "drives" (ma K (ga K "Listener") "drives") (a_Leg_drives K)
  kit_Listener_Leg : PySem.W.kitOne K (.ref (ga K "Listener")) (.ref (ga K "Leg")) = some true
  nf_Listener_Driver : PySem.W.notFirst K (ga K "Listener") (.ref (ga K "Driver")) = true
  nf_Listener_Listener : PySem.W.notFirst K (ga K "Listener") (.ref (ga K "Listener")) = true
  dif : ga K "Driver" ≠ ga K "Listener"
  n_Ftop : NoAttr K (ga K "Frame") "top"
  n_Fground : NoAttr K (ga K "Frame") "ground"
  n_Fpower : NoAttr K (ga K "Frame") "power"
  n_Fown_legs : NoAttr K (ga K "Frame") "own_legs"
  m_Frame : ∃ t, Con K (ga K "Frame") "MOST" (.int 40) (.int 40 t)
  pr_Flegs : PropOf K (ga K "Frame") "legs" (ma K (ga K "Frame") "legs") (a_Frame_legs K)
  pr_Frails : PropOf K (ga K "Frame") "rails" (ma K (ga K "Frame") "rails") (a_Frame_rails K)
  o_Feq : PySem.W.findIn K (.ref (ga K "Frame")) "__eq__" = some (some (.ref (a_Frame_eq K)))
  sf_Frame : PySem.W.selfFirst K (ga K "Frame") = true
  kit_NoneType_Frame : PySem.W.kitOne K (.type "NoneType") (.ref (ga K "Frame")) = some false
  kit_tuple_Frame : PySem.W.kitOne K (.type "tuple") (.ref (ga K "Frame")) = some false
  ne_Frame : PySem.W.findIn K (.ref (ga K "Frame")) "__ne__" = some (some (.builtin "object.__ne__"))
  kit_Frame : PySem.W.kitOne K (.ref (ga K "Frame")) (.ref (ga K "Frame")) = some true
  nf_Frame : PySem.W.notFirst K (ga K "Frame") (.ref (ga K "Frame")) = true
  kd_dict : PySem.W.kitOne K (.type "dict") (.type "dict") = some true
  ks_str : PySem.W.kitOne K (.type "str") (.type "str") = some true
  ks_NoneType : PySem.W.kitOne K (.type "NoneType") (.type "str") = some false
  ks_bool : PySem.W.kitOne K (.type "bool") (.type "str") = some false
  ks_int : PySem.W.kitOne K (.type "int") (.type "str") = some false
  ks_list : PySem.W.kitOne K (.type "list") (.type "str") = some false
  ks_tuple : PySem.W.kitOne K (.type "tuple") (.type "str") = some false
  ks_dict : PySem.W.kitOne K (.type "dict") (.type "str") = some false
  ki_NoneType : PySem.W.kitOne K (.type "NoneType") (.type "int") = some false
  kb_NoneType : PySem.W.kitOne K (.type "NoneType") (.type "bool") = some false
  kL_NoneType : PySem.W.kitOne K (.type "NoneType") (.type "list") = some false
  kl_NoneType : PySem.W.kitAny K (.type "NoneType") [.type "list", .type "tuple"] = some false
  ki_bool : PySem.W.kitOne K (.type "bool") (.type "int") = some true
  kb_bool : PySem.W.kitOne K (.type "bool") (.type "bool") = some true
  kL_bool : PySem.W.kitOne K (.type "bool") (.type "list") = some false
  kl_bool : PySem.W.kitAny K (.type "bool") [.type "list", .type "tuple"] = some false
  ki_int : PySem.W.kitOne K (.type "int") (.type "int") = some true
  kb_int : PySem.W.kitOne K (.type "int") (.type "bool") = some false
  kL_int : PySem.W.kitOne K (.type "int") (.type "list") = some false
  kl_int : PySem.W.kitAny K (.type "int") [.type "list", .type "tuple"] = some false
  ki_str : PySem.W.kitOne K (.type "str") (.type "int") = some false
  kb_str : PySem.W.kitOne K (.type "str") (.type "bool") = some false
  kL_str : PySem.W.kitOne K (.type "str") (.type "list") = some false
  kl_str : PySem.W.kitAny K (.type "str") [.type "list", .type "tuple"] = some false
  ki_list : PySem.W.kitOne K (.type "list") (.type "int") = some false
  kb_list : PySem.W.kitOne K (.type "list") (.type "bool") = some false
  kL_list : PySem.W.kitOne K (.type "list") (.type "list") = some true
  kl_list : PySem.W.kitAny K (.type "list") [.type "list", .type "tuple"] = some true
  ki_tuple : PySem.W.kitOne K (.type "tuple") (.type "int") = some false
  kb_tuple : PySem.W.kitOne K (.type "tuple") (.type "bool") = some false
  kL_tuple : PySem.W.kitOne K (.type "tuple") (.type "list") = some false
  kl_tuple : PySem.W.kitAny K (.type "tuple") [.type "list", .type "tuple"] = some true
  ki_dict : PySem.W.kitOne K (.type "dict") (.type "int") = some false
  kb_dict : PySem.W.kitOne K (.type "dict") (.type "bool") = some false
  kL_dict : PySem.W.kitOne K (.type "dict") (.type "list") = some false
  kl_dict : PySem.W.kitAny K (.type "dict") [.type "list", .type "tuple"] = some false
  cv_MOST : ∃ mc v, ClX.CRead K (ga K "Frame") mc ∧ ClX.CVal K (ga K "Frame") mc "MOST" (.int 40) v
  kt_tuple : PySem.W.kitOne K (.type "tuple") (.type "tuple") = some true
  kt_dict : PySem.W.kitOne K (.type "dict") (.type "tuple") = some false
  tg_KINDS : TupG K "KINDS" ["driver", "listener"]
  exm : PySem.W.exmOne K (.ref (ga K "InvalidText")) (.ref (ga K "JoinError")) = some true
  xn_line : PySem.W.findIn K (.ref (ga K "InvalidText")) "line" = some none
  xn_word : PySem.W.findIn K (.ref (ga K "InvalidText")) "word" = some none
  kx : PySem.W.kitOne K (.ref (ga K "InvalidText")) (.ref (ga K "InvalidText")) = some true
  kv : PySem.W.kitOne K (.ref (ga K "InvalidText")) (.type "ValueError") = some true
  cm_Frame_of : ClX.CRead K (ga K "Frame") (.type "type") ∧ ClX.CMet K (ga K "Frame") (.type "type") "of" (ma K (ga K "Frame") "of") (a_Frame_of K)
  ta_Frame_init_Lright : (cTA K d_Frame_init).2 ≠ (cTA K d_Lright).2
  ta_Frame_init_Lmany_right : (cTA K d_Frame_init).2 ≠ (cTA K d_Lmany_right).2
  ta_Frame_init_law : (cTA K d_Frame_init).2 ≠ (cTA K d_law).2
  ta_Lright_Lmany_right : (cTA K d_Lright).2 ≠ (cTA K d_Lmany_right).2
  ta_Lright_law : (cTA K d_Lright).2 ≠ (cTA K d_law).2
  ta_Lmany_right_law : (cTA K d_Lmany_right).2 ≠ (cTA K d_law).2
  d_is_integer : ∃ fd, Fn_is_integer K fd
  d_is_between : ∃ fd, Fn_is_between K fd
  d_is_name : ∃ fd, Fn_is_name K fd
  d_Leg_init : ∃ fd, Fn_Leg_init K fd
  d_Leg_drives : ∃ fd, Fn_Leg_drives K fd
  d_Leg_eq : ∃ fd, Fn_Leg_eq K fd
  d_fault_of : ∃ fd, Fn_fault_of K fd
  d_Frame_init : ∃ fd, Fn_Frame_init K fd
  d_Frame_of : ∃ fd, Fn_Frame_of K fd
  d_Frame_legs : ∃ fd, Fn_Frame_legs K fd
  d_Frame_rails : ∃ fd, Fn_Frame_rails K fd
  d_Frame_eq : ∃ fd, Fn_Frame_eq K fd
  d_number_in : ∃ fd, Fn_number_in K fd
  d_leg_of : ∃ fd, Fn_leg_of K fd
  d_lines_in : ∃ fd, Fn_lines_in K fd
  d_need : ∃ fd, Fn_need K fd
  d_frame_in : ∃ fd, Fn_frame_in K fd
  d_read_frame : ∃ fd, Fn_read_frame K fd
  d_Lpen : ∃ fd, Fn_Lpen K fd
  d_Ldraw : ∃ fd, Fn_Ldraw K fd
  d_Lpick : ∃ fd, Fn_Lpick K fd
  d_Lbare : ∃ fd, Fn_Lbare K fd
  d_Lframe : ∃ fd, Fn_Lframe K fd
  d_Lframe_lines : ∃ fd, Fn_Lframe_lines K fd
  d_Lnumber : ∃ fd, Fn_Lnumber K fd
  d_Lis_name : ∃ fd, Fn_Lis_name K fd
  d_Lframe_in : ∃ fd, Fn_Lframe_in K fd
  d_Lspoilt : ∃ fd, Fn_Lspoilt K fd
  d_Lheard : ∃ fd, Fn_Lheard K fd
  d_Lright : ∃ fd, Fn_Lright K fd
  d_Lmany_right : ∃ fd, Fn_Lmany_right K fd
  d_law : ∃ fd, Fn_law K fd
  e_InvalidFrame_init : fnXA K (d_InvalidFrame_init.ad K) = d_InvalidFrame_init.val ∧ d_InvalidFrame_init.ok PySem.Challenge.pw_strayjoins_k86_frames_refused.main.file K = true
  e_InvalidText_init : fnXA K (d_InvalidText_init.ad K) = d_InvalidText_init.val ∧ d_InvalidText_init.ok PySem.Challenge.pw_strayjoins_k86_frames_refused.main.file K = true
  e_NoLeg_init : fnXA K (d_NoLeg_init.ad K) = d_NoLeg_init.val ∧ d_NoLeg_init.ok PySem.Challenge.pw_strayjoins_k86_frames_refused.main.file K = true
def fa : List Tst := [fun K => (Fa.free "LookupError").ok K,
  fun K => (Fa.free "TypeError").ok K,
  fun K => (Fa.free "ValueError").ok K,
  fun K => (Fa.free "abs").ok K,
  fun K => (Fa.free "all").ok K,
  fun K => (Fa.free "bool").ok K,
  fun K => (Fa.free "dict").ok K,
  fun K => (Fa.free "enumerate").ok K,
  fun K => (Fa.free "int").ok K,
  fun K => (Fa.free "isinstance").ok K,
  fun K => (Fa.free "len").ok K,
  fun K => (Fa.free "list").ok K,
  fun K => (Fa.free "range").ok K,
  fun K => (Fa.free "repr").ok K,
  fun K => (Fa.free "sorted").ok K,
  fun K => (Fa.free "str").ok K,
  fun K => (Fa.free "super").ok K,
  fun K => (Fa.free "tuple").ok K,
  fun K => (Fa.glo "_wall").ok K,
  fun K => (Fa.glo "JoinError").ok K,
  fun K => (Fa.glo "InvalidFrame").ok K,
  fun K => (Fa.glo "InvalidText").ok K,
  fun K => (Fa.glo "MissingError").ok K,
  fun K => (Fa.glo "NoLeg").ok K,
  fun K => (Fa.str "LETTERS" "abcdefghijklmnopqrstuvwxyz").ok K,
  fun K => (Fa.int "MOST_LETTERS" 8).ok K,
  fun K => (Fa.str "GROUND" "ground").ok K,
  fun K => (Fa.str "POWER" "power").ok K,
  fun K => (Fa.str "NOTHING" "nothing").ok K,
  fun K => (Fa.glo "is_integer").ok K,
  fun K => (Fa.glo "is_between").ok K,
  fun K => (Fa.glo "is_name").ok K,
  fun K => (Fa.glo "Leg").ok K,
  fun K => (Fa.glo "Driver").ok K,
  fun K => (Fa.glo "Listener").ok K,
  fun K => (Fa.int "MOST_TOP" 3).ok K,
  fun K => (Fa.glo "fault_of").ok K,
  fun K => (Fa.glo "Frame").ok K,
  fun K => (Fa.str "DIGITS" "0123456789").ok K,
  fun K => (Fa.glo "KINDS").ok K,
  fun K => (Fa.glo "number_in").ok K,
  fun K => (Fa.glo "leg_of").ok K,
  fun K => (Fa.glo "lines_in").ok K,
  fun K => (Fa.glo "need").ok K,
  fun K => (Fa.glo "frame_in").ok K,
  fun K => (Fa.glo "read_frame").ok K,
  fun K => (Fa.glo "_law_pen").ok K,
  fun K => (Fa.glo "_law_draw").ok K,
  fun K => (Fa.glo "_law_pick").ok K,
  fun K => (Fa.glo "_law_bare").ok K,
  fun K => (Fa.glo "_law_frame").ok K,
  fun K => (Fa.glo "_law_frame_lines").ok K,
  fun K => (Fa.glo "_law_number").ok K,
  fun K => (Fa.glo "_law_is_name").ok K,
  fun K => (Fa.glo "_law_frame_in").ok K,
  fun K => (Fa.glo "_law_spoilt").ok K,
  fun K => (Fa.glo "_law_heard").ok K,
  fun K => (Fa.glo "_law_right").ok K,
  fun K => (Fa.glo "_law_many_right").ok K,
  fun K => (Fa.glo "law").ok K,
  exT "InvalidFrame" "ValueError" "ValueError.__new__" "ValueError.__init__" [.type "ValueError", .type "Exception", .type "BaseException", .type "object"] ["reason"],
  exT "InvalidText" "ValueError" "ValueError.__new__" "ValueError.__init__" [.type "ValueError", .type "Exception", .type "BaseException", .type "object"] ["line", "word"],
  exT "NoLeg" "LookupError" "LookupError.__new__" "LookupError.__init__" [.type "LookupError", .type "Exception", .type "BaseException", .type "object"] ["name"],
  sysT,
  xcT "JoinError",
  xcT "InvalidFrame",
  xcT "InvalidText",
  xcT "MissingError",
  xcT "NoLeg",
  inT "Leg",
  mkT "Leg" a_Leg_init,
  inT "Driver",
  mkT "Driver" a_Leg_init,
  inT "Listener",
  mkT "Listener" a_Leg_init,
  inT "Frame",
  mkT "Frame" a_Frame_init,
  fun K => PySem.W.isFn K (.ref (a_Leg_init K)),
  fun K => PySem.W.isFn K (.ref (a_Leg_eq K)),
  fun K => PySem.W.isFn K (.ref (a_Frame_init K)),
  fun K => PySem.W.isFn K (.ref (a_Frame_eq K)),
  finT "Driver" "name" (fun _ => none),
  kaT (fun K => .ref (ga K "Driver")) (fun K => [.ref (ga K "Driver"), .ref (ga K "Listener")]) true,
  conT "Driver" "KIND" "driver",
  finT "Driver" "__eq__" (fun K => (some (.ref (a_Leg_eq K)))),
  prT "Driver" "drives" a_Leg_drives,
  kitT (fun K => .ref (ga K "Driver")) (fun K => .ref (ga K "Leg")) true,
  nfT "Driver" (fun K => .ref (ga K "Driver")),
  nfT "Driver" (fun K => .ref (ga K "Listener")),
  finT "Listener" "name" (fun _ => none),
  kaT (fun K => .ref (ga K "Listener")) (fun K => [.ref (ga K "Driver"), .ref (ga K "Listener")]) true,
  conT "Listener" "KIND" "listener",
  finT "Listener" "__eq__" (fun K => (some (.ref (a_Leg_eq K)))),
  prT "Listener" "drives" a_Leg_drives,
  kitT (fun K => .ref (ga K "Listener")) (fun K => .ref (ga K "Leg")) true,
  nfT "Listener" (fun K => .ref (ga K "Driver")),
  nfT "Listener" (fun K => .ref (ga K "Listener")),
  neT "Driver" "Listener",
  finT "Frame" "top" (fun _ => none),
  finT "Frame" "ground" (fun _ => none),
  finT "Frame" "power" (fun _ => none),
  finT "Frame" "own_legs" (fun _ => none),
  conI "Frame" "MOST" 40,
  prT "Frame" "legs" a_Frame_legs,
  prT "Frame" "rails" a_Frame_rails,
  finT "Frame" "__eq__" (fun K => (some (.ref (a_Frame_eq K)))),
  fun K => PySem.W.selfFirst K (ga K "Frame"),
  kitT (fun K => .type "NoneType") (fun K => .ref (ga K "Frame")) false,
  kitT (fun K => .type "tuple") (fun K => .ref (ga K "Frame")) false,
  finT "Frame" "__ne__" (fun K => (some (.builtin "object.__ne__"))),
  kitT (fun K => .ref (ga K "Frame")) (fun K => .ref (ga K "Frame")) true,
  nfT "Frame" (fun K => .ref (ga K "Frame")),
  kitT (fun K => .type "dict") (fun K => .type "dict") true,
  kitT (fun K => .type "str") (fun K => .type "str") true,
  kitT (fun K => .type "NoneType") (fun K => .type "str") false,
  kitT (fun K => .type "bool") (fun K => .type "str") false,
  kitT (fun K => .type "int") (fun K => .type "str") false,
  kitT (fun K => .type "list") (fun K => .type "str") false,
  kitT (fun K => .type "tuple") (fun K => .type "str") false,
  kitT (fun K => .type "dict") (fun K => .type "str") false,
  kitT (fun K => .type "NoneType") (fun K => .type "int") false,
  kitT (fun K => .type "NoneType") (fun K => .type "bool") false,
  kitT (fun K => .type "NoneType") (fun K => .type "list") false,
  kaT (fun K => .type "NoneType") (fun K => [.type "list", .type "tuple"]) false,
  kitT (fun K => .type "bool") (fun K => .type "int") true,
  kitT (fun K => .type "bool") (fun K => .type "bool") true,
  kitT (fun K => .type "bool") (fun K => .type "list") false,
  kaT (fun K => .type "bool") (fun K => [.type "list", .type "tuple"]) false,
  kitT (fun K => .type "int") (fun K => .type "int") true,
  kitT (fun K => .type "int") (fun K => .type "bool") false,
  kitT (fun K => .type "int") (fun K => .type "list") false,
  kaT (fun K => .type "int") (fun K => [.type "list", .type "tuple"]) false,
  kitT (fun K => .type "str") (fun K => .type "int") false,
  kitT (fun K => .type "str") (fun K => .type "bool") false,
  kitT (fun K => .type "str") (fun K => .type "list") false,
  kaT (fun K => .type "str") (fun K => [.type "list", .type "tuple"]) false,
  kitT (fun K => .type "list") (fun K => .type "int") false,
  kitT (fun K => .type "list") (fun K => .type "bool") false,
  kitT (fun K => .type "list") (fun K => .type "list") true,
  kaT (fun K => .type "list") (fun K => [.type "list", .type "tuple"]) true,
  kitT (fun K => .type "tuple") (fun K => .type "int") false,
  kitT (fun K => .type "tuple") (fun K => .type "bool") false,
  kitT (fun K => .type "tuple") (fun K => .type "list") false,
  kaT (fun K => .type "tuple") (fun K => [.type "list", .type "tuple"]) true,
  kitT (fun K => .type "dict") (fun K => .type "int") false,
  kitT (fun K => .type "dict") (fun K => .type "bool") false,
  kitT (fun K => .type "dict") (fun K => .type "list") false,
  kaT (fun K => .type "dict") (fun K => [.type "list", .type "tuple"]) false,
  cvI "Frame" "MOST" 40,
  kitT (fun K => .type "tuple") (fun K => .type "tuple") true,
  kitT (fun K => .type "dict") (fun K => .type "tuple") false,
  tupT "KINDS" ["driver", "listener"],
  exmT (fun K => .ref (ga K "InvalidText")) (fun K => .ref (ga K "JoinError")) true,
  finT "InvalidText" "line" (fun _ => none),
  finT "InvalidText" "word" (fun _ => none),
  kitT (fun K => .ref (ga K "InvalidText")) (fun K => .ref (ga K "InvalidText")) true,
  kitT (fun K => .ref (ga K "InvalidText")) (fun K => .type "ValueError") true,
  cmT "Frame" "of",
  fun K => decide ((cTA K d_Frame_init).2 ≠ (cTA K d_Lright).2),
  fun K => decide ((cTA K d_Frame_init).2 ≠ (cTA K d_Lmany_right).2),
  fun K => decide ((cTA K d_Frame_init).2 ≠ (cTA K d_law).2),
  fun K => decide ((cTA K d_Lright).2 ≠ (cTA K d_Lmany_right).2),
  fun K => decide ((cTA K d_Lright).2 ≠ (cTA K d_law).2),
  fun K => decide ((cTA K d_Lmany_right).2 ≠ (cTA K d_law).2)]
theorem tx_of {K : PySem.W.Frag} {h : Heap} {mg : Str → Option Value} (X : K.In h) (G : h.Ns mainGlobals mg) (c : SaysZ PySem.Challenge.pw_strayjoins_k86_frames_refused.main.file fa fn fx K) : Tx K mg where
  f_LookupError := free_ok X G (c.fact 0)
  f_TypeError := free_ok X G (c.fact 1)
  f_ValueError := free_ok X G (c.fact 2)
  f_abs := free_ok X G (c.fact 3)
  f_all := free_ok X G (c.fact 4)
  f_bool := free_ok X G (c.fact 5)
  f_dict := free_ok X G (c.fact 6)
  f_enumerate := free_ok X G (c.fact 7)
  f_int := free_ok X G (c.fact 8)
  f_isinstance := free_ok X G (c.fact 9)
  f_len := free_ok X G (c.fact 10)
  f_list := free_ok X G (c.fact 11)
  f_range := free_ok X G (c.fact 12)
  f_repr := free_ok X G (c.fact 13)
  f_sorted := free_ok X G (c.fact 14)
  f_str := free_ok X G (c.fact 15)
  f_super := free_ok X G (c.fact 16)
  f_tuple := free_ok X G (c.fact 17)
  g_wall := glo_ok X G (c.fact 18)
  g_JoinError := glo_ok X G (c.fact 19)
  g_InvalidFrame := glo_ok X G (c.fact 20)
  g_InvalidText := glo_ok X G (c.fact 21)
  g_MissingError := glo_ok X G (c.fact 22)
  g_NoLeg := glo_ok X G (c.fact 23)
  g_LETTERS := str_ok X G (c.fact 24)
  g_MOST_LETTERS := int_ok X G (c.fact 25)
  g_GROUND := str_ok X G (c.fact 26)
  g_POWER := str_ok X G (c.fact 27)
  g_NOTHING := str_ok X G (c.fact 28)
  g_is_integer := glo_ok X G (c.fact 29)
  g_is_between := glo_ok X G (c.fact 30)
  g_is_name := glo_ok X G (c.fact 31)
  g_Leg := glo_ok X G (c.fact 32)
  g_Driver := glo_ok X G (c.fact 33)
  g_Listener := glo_ok X G (c.fact 34)
  g_MOST_TOP := int_ok X G (c.fact 35)
  g_fault_of := glo_ok X G (c.fact 36)
  g_Frame := glo_ok X G (c.fact 37)
  g_DIGITS := str_ok X G (c.fact 38)
  g_KINDS := glo_ok X G (c.fact 39)
  g_number_in := glo_ok X G (c.fact 40)
  g_leg_of := glo_ok X G (c.fact 41)
  g_lines_in := glo_ok X G (c.fact 42)
  g_need := glo_ok X G (c.fact 43)
  g_frame_in := glo_ok X G (c.fact 44)
  g_read_frame := glo_ok X G (c.fact 45)
  g_Lpen := glo_ok X G (c.fact 46)
  g_Ldraw := glo_ok X G (c.fact 47)
  g_Lpick := glo_ok X G (c.fact 48)
  g_Lbare := glo_ok X G (c.fact 49)
  g_Lframe := glo_ok X G (c.fact 50)
  g_Lframe_lines := glo_ok X G (c.fact 51)
  g_Lnumber := glo_ok X G (c.fact 52)
  g_Lis_name := glo_ok X G (c.fact 53)
  g_Lframe_in := glo_ok X G (c.fact 54)
  g_Lspoilt := glo_ok X G (c.fact 55)
  g_Lheard := glo_ok X G (c.fact 56)
  g_Lright := glo_ok X G (c.fact 57)
  g_Lmany_right := glo_ok X G (c.fact 58)
  g_law := glo_ok X G (c.fact 59)
  x_InvalidFrame := exT_ok (c.fact 60)
  x_InvalidText := exT_ok (c.fact 61)
  x_NoLeg := exT_ok (c.fact 62)
  sys := id (c.fact 63)
  xc_JoinError := xcT_ok (c.fact 64)
  xc_InvalidFrame := xcT_ok (c.fact 65)
  xc_InvalidText := xcT_ok (c.fact 66)
  xc_MissingError := xcT_ok (c.fact 67)
  xc_NoLeg := xcT_ok (c.fact 68)
  in_Leg := inT_ok (c.fact 69)
  mk_Leg := mkT_ok (c.fact 70)
  in_Driver := inT_ok (c.fact 71)
  mk_Driver := mkT_ok (c.fact 72)
  in_Listener := inT_ok (c.fact 73)
  mk_Listener := mkT_ok (c.fact 74)
  in_Frame := inT_ok (c.fact 75)
  mk_Frame := mkT_ok (c.fact 76)
  fn_Leg_init := id (c.fact 77)
  fn_Leg_eq := id (c.fact 78)
  fn_Frame_init := id (c.fact 79)
  fn_Frame_eq := id (c.fact 80)
  n_Driver := finT_ok (v := fun _ => none) (c.fact 81)
  ka_Driver := kaT_ok (t := fun K => .ref (ga K "Driver")) (cs := fun K => [.ref (ga K "Driver"), .ref (ga K "Listener")]) (c.fact 82)
  k_Driver := conT_ok (c.fact 83)
  eq_Driver := finT_ok (v := fun K => (some (.ref (a_Leg_eq K)))) (c.fact 84)
  pr_Driver := prT_ok (c.fact 85)
  kit_Driver_Leg := kitT_ok (t := fun K => .ref (ga K "Driver")) (c := fun K => .ref (ga K "Leg")) (c.fact 86)
  nf_Driver_Driver := id (c.fact 87)
  nf_Driver_Listener := id (c.fact 88)
  n_Listener := finT_ok (v := fun _ => none) (c.fact 89)
  ka_Listener := kaT_ok (t := fun K => .ref (ga K "Listener")) (cs := fun K => [.ref (ga K "Driver"), .ref (ga K "Listener")]) (c.fact 90)
  k_Listener := conT_ok (c.fact 91)
  eq_Listener := finT_ok (v := fun K => (some (.ref (a_Leg_eq K)))) (c.fact 92)
  pr_Listener := prT_ok (c.fact 93)
  kit_Listener_Leg := kitT_ok (t := fun K => .ref (ga K "Listener")) (c := fun K => .ref (ga K "Leg")) (c.fact 94)
  nf_Listener_Driver := id (c.fact 95)
  nf_Listener_Listener := id (c.fact 96)
  dif := neT_ok (c.fact 97)
  n_Ftop := finT_ok (v := fun _ => none) (c.fact 98)
  n_Fground := finT_ok (v := fun _ => none) (c.fact 99)
  n_Fpower := finT_ok (v := fun _ => none) (c.fact 100)
  n_Fown_legs := finT_ok (v := fun _ => none) (c.fact 101)
  m_Frame := conI_ok (c.fact 102)
  pr_Flegs := prT_ok (c.fact 103)
  pr_Frails := prT_ok (c.fact 104)
  o_Feq := finT_ok (v := fun K => (some (.ref (a_Frame_eq K)))) (c.fact 105)
  sf_Frame := id (c.fact 106)
  kit_NoneType_Frame := kitT_ok (t := fun K => .type "NoneType") (c := fun K => .ref (ga K "Frame")) (c.fact 107)
  kit_tuple_Frame := kitT_ok (t := fun K => .type "tuple") (c := fun K => .ref (ga K "Frame")) (c.fact 108)
  ne_Frame := finT_ok (v := fun K => (some (.builtin "object.__ne__"))) (c.fact 109)
  kit_Frame := kitT_ok (t := fun K => .ref (ga K "Frame")) (c := fun K => .ref (ga K "Frame")) (c.fact 110)
  nf_Frame := id (c.fact 111)
  kd_dict := kitT_ok (t := fun K => .type "dict") (c := fun K => .type "dict") (c.fact 112)
  ks_str := kitT_ok (t := fun K => .type "str") (c := fun K => .type "str") (c.fact 113)
  ks_NoneType := kitT_ok (t := fun K => .type "NoneType") (c := fun K => .type "str") (c.fact 114)
  ks_bool := kitT_ok (t := fun K => .type "bool") (c := fun K => .type "str") (c.fact 115)
  ks_int := kitT_ok (t := fun K => .type "int") (c := fun K => .type "str") (c.fact 116)
  ks_list := kitT_ok (t := fun K => .type "list") (c := fun K => .type "str") (c.fact 117)
  ks_tuple := kitT_ok (t := fun K => .type "tuple") (c := fun K => .type "str") (c.fact 118)
  ks_dict := kitT_ok (t := fun K => .type "dict") (c := fun K => .type "str") (c.fact 119)
  ki_NoneType := kitT_ok (t := fun K => .type "NoneType") (c := fun K => .type "int") (c.fact 120)
  kb_NoneType := kitT_ok (t := fun K => .type "NoneType") (c := fun K => .type "bool") (c.fact 121)
  kL_NoneType := kitT_ok (t := fun K => .type "NoneType") (c := fun K => .type "list") (c.fact 122)
  kl_NoneType := kaT_ok (t := fun K => .type "NoneType") (cs := fun K => [.type "list", .type "tuple"]) (c.fact 123)
  ki_bool := kitT_ok (t := fun K => .type "bool") (c := fun K => .type "int") (c.fact 124)
  kb_bool := kitT_ok (t := fun K => .type "bool") (c := fun K => .type "bool") (c.fact 125)
  kL_bool := kitT_ok (t := fun K => .type "bool") (c := fun K => .type "list") (c.fact 126)
  kl_bool := kaT_ok (t := fun K => .type "bool") (cs := fun K => [.type "list", .type "tuple"]) (c.fact 127)
  ki_int := kitT_ok (t := fun K => .type "int") (c := fun K => .type "int") (c.fact 128)
  kb_int := kitT_ok (t := fun K => .type "int") (c := fun K => .type "bool") (c.fact 129)
  kL_int := kitT_ok (t := fun K => .type "int") (c := fun K => .type "list") (c.fact 130)
  kl_int := kaT_ok (t := fun K => .type "int") (cs := fun K => [.type "list", .type "tuple"]) (c.fact 131)
  ki_str := kitT_ok (t := fun K => .type "str") (c := fun K => .type "int") (c.fact 132)
  kb_str := kitT_ok (t := fun K => .type "str") (c := fun K => .type "bool") (c.fact 133)
  kL_str := kitT_ok (t := fun K => .type "str") (c := fun K => .type "list") (c.fact 134)
  kl_str := kaT_ok (t := fun K => .type "str") (cs := fun K => [.type "list", .type "tuple"]) (c.fact 135)
  ki_list := kitT_ok (t := fun K => .type "list") (c := fun K => .type "int") (c.fact 136)
  kb_list := kitT_ok (t := fun K => .type "list") (c := fun K => .type "bool") (c.fact 137)
  kL_list := kitT_ok (t := fun K => .type "list") (c := fun K => .type "list") (c.fact 138)
  kl_list := kaT_ok (t := fun K => .type "list") (cs := fun K => [.type "list", .type "tuple"]) (c.fact 139)
  ki_tuple := kitT_ok (t := fun K => .type "tuple") (c := fun K => .type "int") (c.fact 140)
  kb_tuple := kitT_ok (t := fun K => .type "tuple") (c := fun K => .type "bool") (c.fact 141)
  kL_tuple := kitT_ok (t := fun K => .type "tuple") (c := fun K => .type "list") (c.fact 142)
  kl_tuple := kaT_ok (t := fun K => .type "tuple") (cs := fun K => [.type "list", .type "tuple"]) (c.fact 143)
  ki_dict := kitT_ok (t := fun K => .type "dict") (c := fun K => .type "int") (c.fact 144)
  kb_dict := kitT_ok (t := fun K => .type "dict") (c := fun K => .type "bool") (c.fact 145)
  kL_dict := kitT_ok (t := fun K => .type "dict") (c := fun K => .type "list") (c.fact 146)
  kl_dict := kaT_ok (t := fun K => .type "dict") (cs := fun K => [.type "list", .type "tuple"]) (c.fact 147)
  cv_MOST := cvI_ok (c.fact 148)
  kt_tuple := kitT_ok (t := fun K => .type "tuple") (c := fun K => .type "tuple") (c.fact 149)
  kt_dict := kitT_ok (t := fun K => .type "dict") (c := fun K => .type "tuple") (c.fact 150)
  tg_KINDS := tupT_ok (c.fact 151)
  exm := exmT_ok (t := fun K => .ref (ga K "InvalidText")) (c := fun K => .ref (ga K "JoinError")) (c.fact 152)
  xn_line := finT_ok (v := fun _ => none) (c.fact 153)
  xn_word := finT_ok (v := fun _ => none) (c.fact 154)
  kx := kitT_ok (t := fun K => .ref (ga K "InvalidText")) (c := fun K => .ref (ga K "InvalidText")) (c.fact 155)
  kv := kitT_ok (t := fun K => .ref (ga K "InvalidText")) (c := fun K => .type "ValueError") (c.fact 156)
  cm_Frame_of := cmT_ok (c.fact 157)
  ta_Frame_init_Lright := of_decide_eq_true (c.fact 158)
  ta_Frame_init_Lmany_right := of_decide_eq_true (c.fact 159)
  ta_Frame_init_law := of_decide_eq_true (c.fact 160)
  ta_Lright_Lmany_right := of_decide_eq_true (c.fact 161)
  ta_Lright_law := of_decide_eq_true (c.fact 162)
  ta_Lmany_right_law := of_decide_eq_true (c.fact 163)
  d_is_integer := c.def_ 0
  d_is_between := c.def_ 1
  d_is_name := c.def_ 2
  d_Leg_init := c.def_ 3
  d_Leg_drives := c.def_ 4
  d_Leg_eq := c.def_ 5
  d_fault_of := c.def_ 6
  d_Frame_init := c.def_ 7
  d_Frame_of := c.def_ 8
  d_Frame_legs := c.def_ 9
  d_Frame_rails := c.def_ 10
  d_Frame_eq := c.def_ 11
  d_number_in := c.def_ 12
  d_leg_of := c.def_ 13
  d_lines_in := c.def_ 14
  d_need := c.def_ 15
  d_frame_in := c.def_ 16
  d_read_frame := c.def_ 17
  d_Lpen := c.def_ 18
  d_Ldraw := c.def_ 19
  d_Lpick := c.def_ 20
  d_Lbare := c.def_ 21
  d_Lframe := c.def_ 22
  d_Lframe_lines := c.def_ 23
  d_Lnumber := c.def_ 24
  d_Lis_name := c.def_ 25
  d_Lframe_in := c.def_ 26
  d_Lspoilt := c.def_ 27
  d_Lheard := c.def_ 28
  d_Lright := c.def_ 29
  d_Lmany_right := c.def_ 30
  d_law := c.def_ 31
  e_InvalidFrame_init := c.exc 0
  e_InvalidText_init := c.exc 1
  e_NoLeg_init := c.exc 2
end K86
namespace K86
open PySem PySem.Spec PyProof.Rows L2 He SJ
open LamX (CodeO lamS_by Tabs tLam)
def loose0 : List PySem.Str := ["_wall", "__name__", "JoinError", "InvalidFrame", "InvalidText", "MissingError", "NoLeg", "LETTERS", "MOST_LETTERS", "GROUND", "POWER", "NOTHING", "is_integer", "is_between", "is_name", "Leg"]
def loose1 : List PySem.Str := ["Driver", "Listener", "MOST_TOP", "fault_of", "Frame", "DIGITS", "KINDS", "number_in", "leg_of", "lines_in", "need", "frame_in", "read_frame", "_law_pen", "_law_draw", "_law_pick"]
def loose2 : List PySem.Str := ["_law_bare", "_law_frame", "_law_frame_lines", "_law_number", "_law_is_name", "_law_frame_in", "_law_spoilt", "_law_heard", "_law_right", "_law_many_right"]
def loose : List PySem.Str := loose0 ++ loose1 ++ loose2
abbrev R : PySem.W.OpenRow := PySem.W.OpenLaw.row PySem.Challenge.rw_strayjoins_k86_frames_refused
abbrev file : Str := PySem.Challenge.pw_strayjoins_k86_frames_refused.main.file
abbrev hk : PySem.W.Hook := hookR file fa fn fx tf
abbrev ob : PySem.W.SharedT → AlW := obR file fa fn fx tf
theorem ob_eq (s : PySem.W.SharedT) : ob s = hk.obs s.abs := obR_eq s
open PySem.W PySem.Calls in
theorem run1 (w : World) (os : OsState) : (HandSHeadRun.endF (HandSHeadRun.stepQ (HandSHeadRun.denQ HandSHeadRun.tabQ) R.prog w) 12000 R.prog w os).map (fun s => HandSHeadRun.looksF R.prog (boot_heap w.params) s.abs) = some true := by
  kernel_rfl
open PySem.W PySem.Calls in
theorem run2 (w : World) (os : OsState) : (HandSHeadRun.endF (HandSHeadRun.stepQ (HandSHeadRun.denQ HandSHeadRun.tabQ) R.prog w) 12000 R.prog w os).map (fun s => HandSHeadRun.seenQ (PySem.W.view R.prog [47]) loose (importedModules R.prog.main.body) (fun s => PySem.W.xlAt (PySem.W.view R.prog [47]) [] s && PySem.W.recOk R.toRowW.records s) s.abs) = some (PySem.W.openGood (PySem.W.view R.prog [47]) loose) := by
  kernel_rfl
theorem run3 (w : World) (os : OsState) : (HandSHeadRun.endF (HandSHeadRun.stepQ (HandSHeadRun.denQ HandSHeadRun.tabQ) R.prog w) 12000 R.prog w os).map ob = some (hk.val w) := by
  kernel_rfl
theorem run (w : World) : HandSHeadRun.RunEq R (PySem.W.view R.prog [47]) hk ob 12000 loose w := fun os => map3 (run1 w os) (run2 w os) (run3 w os)
end K86
namespace SJ
open PySem PySem.Spec PyProof.Rows L2 He LamX
inductive D where
  | non | bl (b : Bool) | int (i : Int) | str (s : Str) | cls (c : Str) | ty (n : String)
  | adr (a : Addr) | lst (xs : List D) | tup (xs : List D) | dct (kvs : List (Key × D)) | obj (c : Str) (fs : List (Str × D)) | exc (c : Str) (fs : List (Str × D))
mutual
inductive Rep (K : PySem.W.Frag) (F : Hp) : V → D → Prop
  | non : Rep K F .non .non
  | bl (b : Bool) : Rep K F (.bl b) (.bl b)
  | int (i : Int) : Rep K F (.int i) (.int i)
  | str (s : Str) : Rep K F (.str s) (.str s)
  | cls (c : Str) : Rep K F (.ref (ga K c)) (.cls c)
  | ty (n : String) : Rep K F (.ty n) (.ty n)
  | adr (a : Addr) : Rep K F (.ref a) (.adr a)
  | lst {a : Addr} {xs : List V} {ds : List D} : F a = some (.lst xs) → RepL K F xs ds → Rep K F (.ref a) (.lst ds)
  | tup {a : Addr} {xs : List V} {ds : List D} : SqT K F a xs → RepL K F xs ds → Rep K F (.ref a) (.tup ds)
  | dct {a : Addr} {kvs : List (Key × V)} {kds : List (Key × D)} : F a = some (.dK kvs) → kvs.map (·.1) = kds.map (·.1) → RepL K F (kvs.map (·.2)) (kds.map (·.2)) → Rep K F (.ref a) (.dct kds)
  | obj {a dx : Addr} {c : Str} {fs : List (Str × V)} {fds : List (Str × D)} : F a = some (.ins (ga K c) dx fs) → fs.map (·.1) = fds.map (·.1) → RepL K F (fs.map (·.2)) (fds.map (·.2)) → Rep K F (.ref a) (.obj c fds)
  | exc {a dd : Addr} {c : Str} {fs : List (Str × V)} {fds : List (Str × D)} : F a = some (XW a (.ref (ga K c)) (some dd)) → F dd = some (.xd fs) → fs.map (·.1) = fds.map (·.1) → RepL K F (fs.map (·.2)) (fds.map (·.2)) → Rep K F (.ref a) (.exc c fds)
inductive RepL (K : PySem.W.Frag) (F : Hp) : List V → List D → Prop
  | nil : RepL K F [] []
  | cons {v : V} {vs : List V} {d : D} {ds : List D} : Rep K F v d → RepL K F vs ds → RepL K F (v :: vs) (d :: ds)
end
def RepP {κ : Type} (K : PySem.W.Frag) (F : Hp) (kvs : List (κ × V)) (kds : List (κ × D)) : Prop := kvs.map (·.1) = kds.map (·.1) ∧ RepL K F (kvs.map (·.2)) (kds.map (·.2))
section
variable {K : PySem.W.Frag} {F F2 H : Hp} {κ : Type}
theorem sql_same (s : Same F F2) {l : Addr} {xs : List V} (h : SqL K F l xs) : SqL K F2 l xs := Same.seq s h
mutual
theorem Rep.mono (s : Same F F2) : ∀ {v : V} {d : D}, Rep K F v d → Rep K F2 v d
  | _, _, .non => .non
  | _, _, .bl b => .bl b
  | _, _, .int i => .int i
  | _, _, .str z => .str z
  | _, _, .cls z => .cls z
  | _, _, .ty z => .ty z
  | _, _, .adr z => .adr z
  | _, _, .lst h a => .lst (s _ _ h) (RepL.mono s a)
  | _, _, .tup h a => .tup (sqt_same s h) (RepL.mono s a)
  | _, _, .dct h e a => .dct (s _ _ h) e (RepL.mono s a)
  | _, _, .obj h e a => .obj (s _ _ h) e (RepL.mono s a)
  | _, _, .exc h h2 e a => .exc (s _ _ h) (s _ _ h2) e (RepL.mono s a)
theorem RepL.mono (s : Same F F2) : ∀ {vs : List V} {ds : List D}, RepL K F vs ds → RepL K F2 vs ds
  | _, _, .nil => .nil
  | _, _, .cons h a => .cons (Rep.mono s h) (RepL.mono s a)
end
theorem RepP.mono (s : Same F F2) {kvs : List (κ × V)} {kds : List (κ × D)} (h : RepP K F kvs kds) : RepP K F2 kvs kds := ⟨h.1, h.2.mono s⟩
theorem RepL.length {vs : List V} {ds : List D} (h : RepL K F vs ds) : vs.length = ds.length := by
  induction ds generalizing vs with
  | nil => cases h; rfl
  | cons d ds ih => cases h with | cons a b => rw [List.length_cons, List.length_cons, ih b]
theorem RepL.append {vs us : List V} {ds es : List D} (h : RepL K F vs ds) (g : RepL K F us es) : RepL K F (vs ++ us) (ds ++ es) := by
  induction ds generalizing vs with
  | nil => cases h; exact g
  | cons d ds ih => cases h with | cons a b => exact .cons a (ih b)
theorem RepL.one {v : V} {d : D} (h : Rep K F v d) : RepL K F [v] [d] := .cons h .nil
theorem RepL.at {vs : List V} {ds : List D} (h : RepL K F vs ds) {i : Nat} {d : D} (e : ds[i]? = some d) : ∃ v, vs[i]? = some v ∧ Rep K F v d := by
  induction ds generalizing vs i with
  | nil => cases e
  | cons d0 ds ih =>
    cases h with
    | cons a b =>
      cases i with
      | zero => cases e; exact ⟨_, rfl, a⟩
      | succ i => exact ih b e
theorem RepL.at' {vs : List V} {ds : List D} (h : RepL K F vs ds) {i : Nat} {v : V} (e : vs[i]? = some v) : ∃ d, ds[i]? = some d ∧ Rep K F v d := by
  induction ds generalizing vs i with
  | nil => cases h; cases e
  | cons d0 ds ih =>
    cases h with
    | cons a b =>
      cases i with
      | zero => cases e; exact ⟨_, rfl, a⟩
      | succ i => exact ih b e
theorem RepL.sub {vs : List V} {ds : List D} (h : RepL K F vs ds) (a b : Nat) : RepL K F ((vs.drop a).take b) ((ds.drop a).take b) := by
  induction ds generalizing vs a b with
  | nil => cases h; simp; exact .nil
  | cons d0 ds ih =>
    cases h with
    | cons x y =>
      cases a with
      | succ a => exact ih y a b
      | zero =>
        cases b with
        | zero => exact .nil
        | succ b => exact .cons x (ih y 0 b)
theorem RepL.erase {vs : List V} {ds : List D} (h : RepL K F vs ds) (i : Nat) : RepL K F (vs.eraseIdx i) (ds.eraseIdx i) := by
  induction ds generalizing vs i with
  | nil => cases h; exact .nil
  | cons d0 ds ih =>
    cases h with
    | cons x y =>
      cases i with
      | zero => exact y
      | succ i => exact .cons x (ih y i)
theorem RepL.set {vs : List V} {ds : List D} (h : RepL K F vs ds) (i : Nat) {v : V} {d : D} (r : Rep K F v d) : RepL K F (vs.set i v) (ds.set i d) := by
  induction ds generalizing vs i with
  | nil => cases h; exact .nil
  | cons d0 ds ih =>
    cases h with
    | cons x y =>
      cases i with
      | zero => exact .cons r y
      | succ i => exact .cons x (ih y i)
theorem RepL.strs {ns : List Str} : RepL K F (ns.map V.str) (ns.map D.str) := by
  induction ns with
  | nil => exact .nil
  | cons i ns ih => exact .cons (.str i) ih
theorem RepL.strs' {vs : List V} {ns : List Str} (h : RepL K F vs (ns.map D.str)) : vs = ns.map V.str := by
  induction ns generalizing vs with
  | nil => cases h; rfl
  | cons i ns ih =>
    cases h with
    | cons a b => cases a; rw [List.map_cons, ih b]
theorem RepL.bls' {vs : List V} {ns : List Bool} (h : RepL K F vs (ns.map D.bl)) : vs = ns.map V.bl := by
  induction ns generalizing vs with
  | nil => cases h; rfl
  | cons i ns ih =>
    cases h with
    | cons a b => cases a; rw [List.map_cons, ih b]
theorem RepP.nil : RepP K F ([] : List (κ × V)) [] := ⟨rfl, .nil⟩
theorem RepP.cons {k : κ} {v : V} {d : D} {kvs : List (κ × V)} {kds : List (κ × D)} (r : Rep K F v d) (h : RepP K F kvs kds) : RepP K F ((k, v) :: kvs) ((k, d) :: kds) := ⟨by rw [List.map_cons, List.map_cons, h.1], .cons r h.2⟩
theorem RepP.inv {kvs : List (κ × V)} {k : κ} {d : D} {kds : List (κ × D)} (h : RepP K F kvs ((k, d) :: kds)) : ∃ v r, kvs = (k, v) :: r ∧ Rep K F v d ∧ RepP K F r kds := by
  obtain ⟨h1, h2⟩ := h
  cases kvs with
  | nil => cases h1
  | cons q r =>
    obtain ⟨k2, v⟩ := q
    rw [List.map_cons, List.map_cons] at h1
    cases List.cons.inj h1 with
    | intro e1 e2 =>
      have e1 : k2 = k := e1
      subst e1
      cases h2 with
      | cons a b => exact ⟨v, r, rfl, a, e2, b⟩
theorem RepP.inv0 {kvs : List (κ × V)} (h : RepP K F kvs []) : kvs = [] := by
  cases kvs with
  | nil => rfl
  | cons q r => cases h.1
theorem RepP.lookup [BEq κ] {kvs : List (κ × V)} {kds : List (κ × D)} {k : κ} {d : D} (h : RepP K F kvs kds) (e : kds.lookup k = some d) : ∃ v, kvs.lookup k = some v ∧ Rep K F v d := by
  induction kds generalizing kvs with
  | nil => cases e
  | cons q kds ih =>
    obtain ⟨k2, d2⟩ := q
    obtain ⟨v, r, rfl, a, b⟩ := h.inv
    rw [List.lookup_cons] at e ⊢
    split at e
    · rename_i z; cases e; exact ⟨v, rfl, a⟩
    · rename_i z; exact ih b e
theorem RepP.lookupN [BEq κ] {kvs : List (κ × V)} {kds : List (κ × D)} {k : κ} (h : RepP K F kvs kds) (e : kds.lookup k = none) : kvs.lookup k = none := by
  induction kds generalizing kvs with
  | nil => rw [h.inv0]; rfl
  | cons q kds ih =>
    obtain ⟨k2, d2⟩ := q
    obtain ⟨v, r, rfl, a, b⟩ := h.inv
    rw [List.lookup_cons] at e ⊢
    split at e
    · cases e
    · exact ih b e
def putD (f : Str) (d : D) : List (Str × D) → List (Str × D)
  | [] => [(f, d)]
  | (g, x) :: r => if g = f then (g, d) :: r else (g, x) :: putD f d r
theorem RepP.putF {fs : List (Str × V)} {fds : List (Str × D)} {f : Str} {v : V} {d : D} (h : RepP K F fs fds) (r : Rep K F v d) : RepP K F (L2.putF f v fs) (putD f d fds) := by
  induction fds generalizing fs with
  | nil => rw [h.inv0]; exact RepP.cons r RepP.nil
  | cons q kds ih =>
    obtain ⟨k2, d2⟩ := q
    obtain ⟨v2, r2, rfl, a, b⟩ := h.inv
    show RepP K F (if k2 = f then (k2, v) :: r2 else (k2, v2) :: L2.putF f v r2) (if k2 = f then (k2, d) :: kds else (k2, d2) :: putD f d kds)
    by_cases e : k2 = f
    · rw [if_pos e, if_pos e]; exact RepP.cons r b
    · rw [if_neg e, if_neg e]; exact RepP.cons a (ih b)
theorem RepP.length {kvs : List (κ × V)} {kds : List (κ × D)} (h : RepP K F kvs kds) : kvs.length = kds.length := by
  have := congrArg List.length h.1
  rwa [List.length_map, List.length_map] at this
theorem Rep.ofDct {a : Addr} {kvs : List (Key × V)} {kds : List (Key × D)} (h : F a = some (.dK kvs)) (r : RepP K F kvs kds) : Rep K F (.ref a) (.dct kds) := .dct h r.1 r.2
theorem Rep.ofObj {a dx : Addr} {c : Str} {fs : List (Str × V)} {kds : List (Str × D)} (h : F a = some (.ins (ga K c) dx fs)) (r : RepP K F fs kds) : Rep K F (.ref a) (.obj c kds) := .obj h r.1 r.2
theorem Rep.objP {v : V} {c : Str} {fds : List (Str × D)} (h : Rep K F v (.obj c fds)) : ∃ a dx fs, v = .ref a ∧ F a = some (.ins (ga K c) dx fs) ∧ RepP K F fs fds := by
  cases h with
  | obj h1 h2 h3 => exact ⟨_, _, _, rfl, h1, h2, h3⟩
theorem Rep.lstP {v : V} {ds : List D} (h : Rep K F v (.lst ds)) : ∃ a xs, v = .ref a ∧ F a = some (.lst xs) ∧ RepL K F xs ds := by
  cases h with
  | lst h1 h2 => exact ⟨_, _, rfl, h1, h2⟩
theorem Rep.tupP {v : V} {ds : List D} (h : Rep K F v (.tup ds)) : ∃ a xs, v = .ref a ∧ SqT K F a xs ∧ RepL K F xs ds := by
  cases h with
  | tup h1 h2 => exact ⟨_, _, rfl, h1, h2⟩
end
inductive Sl where
  | none | val (d : D) | own (d : D) | pen (n : Nat)
abbrev Ro := List Sl
def Sl.mut : Sl → Bool
  | .own _ => true
  | .pen _ => true
  | _ => false
def sl (ρ : Ro) (i : Nat) : Sl := (ρ[i]?).getD .none
def sv (σ : L2.St) (i : Nat) : Option V := (σ[i]?).getD none
def Shl (K : PySem.W.Frag) (F H : Hp) (p : Addr) : D → Prop
  | .lst ds => ∃ vs, H p = some (.lst vs) ∧ RepL K F vs ds
  | .dct kds => ∃ kvs, H p = some (.dK kvs) ∧ RepP K F kvs kds
  | .obj c fds => ∃ dx fs, H p = some (.ins (ga K c) dx fs) ∧ RepP K F fs fds
  | _ => False
def PenS (F H : Hp) (p : Addr) (n : Nat) : Prop := ∃ P : Pen, P.p = p ∧ F P.c = some (.lst (P.ns.map V.int)) ∧ ∃ a r : Int, H P.p = some (.lst [.ref P.c, .int a, .int r]) ∧ 0 ≤ a ∧ a ≤ n ∧ 0 ≤ r ∧ P.ns.length ≤ 1000
def MutOk (K : PySem.W.Frag) (F H : Hp) (p : Addr) : Sl → Prop
  | .own d => Shl K F H p d
  | .pen n => PenS F H p n
  | _ => False
def SlOk (K : PySem.W.Frag) (O : Hp) (F H : Hp) (w : Option V) (s : Sl) : Prop := match s with
  | .none => True
  | .val d => ∃ v, w = some v ∧ Rep K F v d
  | s => ∃ p, w = some (.ref p) ∧ F p = none ∧ O p = none ∧ MutOk K F H p s
/-- what lies outside and stays; what the first slot holds throughout -/
structure Oc where
  o : Hp
  w : Option V
  T : List (Addr × Str)
/-- no code object, no table of such -/
def NX (o : HO) : Prop := (∀ ps, o ≠ .tbl ps) ∧ ∀ φ, o ≠ .ext φ
theorem nx_lst {xs : List V} : NX (.lst xs) := ⟨fun _ z => (nomatch z), fun _ z => (nomatch z)⟩
theorem nx_tup {xs : List V} : NX (.tup xs) := ⟨fun _ z => (nomatch z), fun _ z => (nomatch z)⟩
theorem nx_dK {xs : List (Key × V)} : NX (.dK xs) := ⟨fun _ z => (nomatch z), fun _ z => (nomatch z)⟩
theorem nx_ins {C dx : Addr} {fs : List (Str × V)} : NX (.ins C dx fs) := ⟨fun _ z => (nomatch z), fun _ z => (nomatch z)⟩
theorem nx_xd {fs : List (Str × V)} : NX (.xd fs) := ⟨fun _ z => (nomatch z), fun _ z => (nomatch z)⟩
theorem tabs_new {T : List (Addr × Str)} {H : Hp} {p : Addr} {o : HO} (t : Tabs T H) (h : H p = none) : Tabs T (upd H p o) := Tabs.ext t fun b u e => by rw [upd_ne (ne_of_none e h)]; exact e
theorem tabs_mut {T : List (Addr × Str)} {H : Hp} {p : Addr} {o u : HO} (t : Tabs T H) (h : H p = some o) (n : NX o) : Tabs T (upd H p u) := fun q hq => by
  obtain ⟨ps, a1, a2, a3⟩ := t q hq
  have e1 : q.1 ≠ p := fun z => by rw [z, h] at a1; exact n.1 ps (Option.some.inj a1)
  refine ⟨ps, by rw [upd_ne e1]; exact a1, a2, fun pos cv hc => ?_⟩
  obtain ⟨c, b1, b2⟩ := a3 pos cv hc
  have e2 : c ≠ p := fun z => by rw [z, h] at b2; exact n.2 _ (Option.some.inj b2)
  exact ⟨c, b1, by rw [upd_ne e2]; exact b2⟩
structure RS (K : PySem.W.Frag) (O : Oc) (F H : Hp) (σ : L2.St) (ρ : Ro) : Prop where
  fh : Same F H
  oh : Same O.o H
  dj : ∀ a o, O.o a = some o → F a = none
  tb : Tabs O.T H
  ot : ∀ a o, O.o a = some o → NX o
  ft : ∀ a o, F a = some o → ∀ ps, o ≠ .tbl ps
  w0 : ∀ v, O.w = some v → sv σ 0 = some v
  len : σ.length = ρ.length
  at_ : ∀ i, SlOk K O.o F H (sv σ i) (sl ρ i)
  ne : ∀ i j p, i ≠ j → (sl ρ i).mut = true → (sl ρ j).mut = true → sv σ i = some (.ref p) → sv σ j = some (.ref p) → False
section
variable {K : PySem.W.Frag} {F F2 H H2 : Hp} {σ : L2.St} {ρ : Ro} {p : Addr} {o : HO} {s : Sl} {w : Option V}
theorem sv_set {n i : Nat} {x : Option V} (h : n < σ.length) : sv (σ.set n x) i = if i = n then x else sv σ i := by
  unfold sv
  rw [List.getElem?_set]
  by_cases e : n = i
  · subst e; rw [if_pos rfl, if_pos h, if_pos rfl]; rfl
  · rw [if_neg e, if_neg (Ne.symm e)]
theorem sl_set {n i : Nat} {x : Sl} (h : n < ρ.length) : sl (ρ.set n x) i = if i = n then x else sl ρ i := by
  unfold sl
  rw [List.getElem?_set]
  by_cases e : n = i
  · subst e; rw [if_pos rfl, if_pos h, if_pos rfl]; rfl
  · rw [if_neg e, if_neg (Ne.symm e)]
theorem SlOk.mut_of {O : Hp} (h : SlOk K O F H w s) (m : s.mut = true) : ∃ p, w = some (.ref p) ∧ F p = none ∧ O p = none ∧ MutOk K F H p s := by
  cases s with
  | none => cases m
  | val d => cases m
  | own d => exact h
  | pen n => exact h
theorem SlOk.of_mut {O : Hp} (m : s.mut = true) (hw : w = some (.ref p)) (hF : F p = none) (hO : O p = none) (h : MutOk K F H p s) : SlOk K O F H w s := by
  cases s with
  | none => cases m
  | val d => cases m
  | own d => exact ⟨p, hw, hF, hO, h⟩
  | pen n => exact ⟨p, hw, hF, hO, h⟩
theorem MutOk.some (h : MutOk K F H p s) : ∃ o, H p = some o := by
  cases s with
  | none => cases h
  | val d => cases h
  | pen n => obtain ⟨P, rfl, _, a, r, h, _⟩ := h; exact ⟨_, h⟩
  | own d =>
    cases d with
    | lst ds => obtain ⟨_, h, _⟩ := h; exact ⟨_, h⟩
    | dct ds => obtain ⟨_, h, _⟩ := h; exact ⟨_, h⟩
    | obj c ds => obtain ⟨_, _, h, _⟩ := h; exact ⟨_, h⟩
    | _ => cases h
theorem MutOk.nx (h : MutOk K F H p s) : ∃ o, H p = Option.some o ∧ NX o := by
  cases s with
  | none => cases h
  | val d => cases h
  | pen n => obtain ⟨P, rfl, _, a, r, h, _⟩ := h; exact ⟨_, h, nx_lst⟩
  | own d =>
    cases d with
    | lst ds => obtain ⟨_, h, _⟩ := h; exact ⟨_, h, nx_lst⟩
    | dct ds => obtain ⟨_, h, _⟩ := h; exact ⟨_, h, nx_dK⟩
    | obj c ds => obtain ⟨_, _, h, _⟩ := h; exact ⟨_, h, nx_ins⟩
    | _ => cases h
/-- what a slot owns, over a heap that grew, or turned elsewhere -/
theorem MutOk.mono (h : MutOk K F H p s) (e : H2 p = H p) (g : Same F F2) : MutOk K F2 H2 p s := by
  cases s with
  | none => cases h
  | val d => cases h
  | pen n => obtain ⟨P, rfl, hc, a, r, h, z⟩ := h; exact ⟨P, rfl, g _ _ hc, a, r, by rw [e]; exact h, z⟩
  | own d =>
    cases d with
    | lst ds => obtain ⟨vs, h, r⟩ := h; exact ⟨vs, by rw [e]; exact h, r.mono g⟩
    | dct ds => obtain ⟨vs, h, r⟩ := h; exact ⟨vs, by rw [e]; exact h, r.mono g⟩
    | obj c ds => obtain ⟨dx, vs, h, r⟩ := h; exact ⟨dx, vs, by rw [e]; exact h, r.mono g⟩
    | _ => cases h
end
section
variable {K : PySem.W.Frag} {O : Oc} {F F2 H H2 : Hp} {σ : L2.St} {ρ : Ro} {p : Addr} {o : HO} {s : Sl} {w : Option V}
theorem RS.free (R : RS K O F H σ ρ) (h : H p = none) : F p = none ∧ O.o p = none := ⟨Same.free R.fh h, Same.free R.oh h⟩
theorem RS.owned (R : RS K O F H σ ρ) {i : Nat} (m : (sl ρ i).mut = true) : ∃ p, sv σ i = some (.ref p) ∧ F p = none ∧ O.o p = none ∧ MutOk K F H p (sl ρ i) := (R.at_ i).mut_of m
/-- a new frozen object -/
theorem ft_updT (R : RS K O F H σ ρ) (hx : ∀ ps, o ≠ .tbl ps) : ∀ a u, upd F p o a = some u → ∀ ps, u ≠ .tbl ps := fun a u e => by
  by_cases z : a = p
  · rw [z, upd_same] at e; cases e; exact hx
  · rw [upd_ne z] at e; exact R.ft a u e
theorem ft_upd (R : RS K O F H σ ρ) (hx : NX o) : ∀ a u, upd F p o a = some u → ∀ ps, u ≠ .tbl ps := ft_updT R hx.1
theorem RS.alloc (R : RS K O F H σ ρ) (h : H p = none) (hx : NX o) : RS K O (upd F p o) (upd H p o) σ ρ ∧ Same F (upd F p o) := by
  obtain ⟨f, q⟩ := R.free h
  have g : Same F (upd F p o) := Same.upd (Same.refl _) f
  refine ⟨⟨fun b u e => ?_, Same.upd R.oh h, fun a u e => ?_, tabs_new R.tb h, R.ot, ft_upd R hx, R.w0, R.len, fun i => ?_, R.ne⟩, g⟩
  · by_cases z : b = p
    · rw [z, upd_same] at e ⊢; exact e
    · rw [upd_ne z] at e ⊢; exact R.fh _ _ e
  · rw [upd_ne (ne_of_none e q)]; exact R.dj a u e
  · have h1 := R.at_ i
    cases es : sl ρ i with
    | none => trivial
    | val d => rw [es] at h1; obtain ⟨v, h1, h2⟩ := h1; exact ⟨v, h1, h2.mono g⟩
    | own d =>
      rw [es] at h1
      obtain ⟨a, h1, h2, h3, h4⟩ := h1
      obtain ⟨u, hu⟩ := h4.some
      have n := ne_of_none hu h
      exact ⟨a, h1, by rw [upd_ne n]; exact h2, h3, h4.mono (upd_ne n) g⟩
    | pen d =>
      rw [es] at h1
      obtain ⟨a, h1, h2, h3, h4⟩ := h1
      obtain ⟨u, hu⟩ := h4.some
      have n := ne_of_none hu h
      exact ⟨a, h1, by rw [upd_ne n]; exact h2, h3, h4.mono (upd_ne n) g⟩
/-- a new object that nobody holds yet -/
theorem RS.allocN (R : RS K O F H σ ρ) (h : H p = none) : RS K O F (upd H p o) σ ρ := by
  refine ⟨Same.upd R.fh h, Same.upd R.oh h, R.dj, tabs_new R.tb h, R.ot, R.ft, R.w0, R.len, fun i => ?_, R.ne⟩
  have h1 := R.at_ i
  by_cases m : (sl ρ i).mut = true
  · obtain ⟨a, h1, h2, h3, h4⟩ := h1.mut_of m
    obtain ⟨u, hu⟩ := h4.some
    exact SlOk.of_mut m h1 h2 h3 (h4.mono (upd_ne (ne_of_none hu h)) (Same.refl _))
  · cases es : sl ρ i with
    | none => trivial
    | val d => rw [es] at h1; exact h1
    | own d => rw [es] at m; exact absurd rfl m
    | pen d => rw [es] at m; exact absurd rfl m
/-- slot n gets a frozen value -/
theorem w_set {n : Nat} {x : Option V} (R : RS K O F H σ ρ) (hn0 : n ≠ 0) : ∀ v, O.w = some v → sv (σ.set n x) 0 = some v := fun v e => by
  rw [← R.w0 v e]
  unfold sv
  rw [List.getElem?_set_ne hn0]
theorem RS.put (R : RS K O F H σ ρ) {n : Nat} {v : V} {d : D} (hn0 : n ≠ 0) (r : Rep K F v d) : RS K O F H (σ.set n (some v)) (ρ.set n (.val d)) := by
  by_cases hn : n < σ.length
  · have hm : n < ρ.length := by rw [← R.len]; exact hn
    refine ⟨R.fh, R.oh, R.dj, R.tb, R.ot, R.ft, w_set R hn0, by rw [List.length_set, List.length_set, R.len], fun i => ?_, fun i j a ij mi mj vi vj => ?_⟩
    · rw [sv_set hn, sl_set hm]
      by_cases e : i = n
      · rw [if_pos e, if_pos e]; exact ⟨v, rfl, r⟩
      · rw [if_neg e, if_neg e]; exact R.at_ i
    · rw [sl_set hm] at mi mj
      rw [sv_set hn] at vi vj
      by_cases e : i = n
      · rw [if_pos e] at mi; cases mi
      · by_cases f : j = n
        · rw [if_pos f] at mj; cases mj
        · rw [if_neg e] at mi vi; rw [if_neg f] at mj vj; exact R.ne i j a ij mi mj vi vj
  · rw [List.set_eq_of_length_le (by omega), List.set_eq_of_length_le (by rw [← R.len]; omega)]; exact R
/-- slot n comes to own p -/
theorem RS.putO (R : RS K O F H σ ρ) {n : Nat} (hn0 : n ≠ 0) (hn : n < ρ.length) (m : s.mut = true) (hF : F p = none) (hO : O.o p = none) (h : MutOk K F H p s) (hx : ∀ i, i ≠ n → (sl ρ i).mut = true → sv σ i ≠ some (.ref p)) : RS K O F H (σ.set n (some (.ref p))) (ρ.set n s) := by
  have hs : n < σ.length := by rw [R.len]; exact hn
  refine ⟨R.fh, R.oh, R.dj, R.tb, R.ot, R.ft, w_set R hn0, by rw [List.length_set, List.length_set, R.len], fun i => ?_, fun i j a ij mi mj vi vj => ?_⟩
  · rw [sv_set hs, sl_set hn]
    by_cases e : i = n
    · rw [if_pos e, if_pos e]; exact SlOk.of_mut m rfl hF hO h
    · rw [if_neg e, if_neg e]; exact R.at_ i
  · rw [sl_set hn] at mi mj
    rw [sv_set hs] at vi vj
    by_cases e : i = n
    · rw [if_pos e] at mi vi
      by_cases f : j = n
      · exact ij (e.trans f.symm)
      · rw [if_neg f] at mj vj
        cases vi
        exact hx j f mj vj
    · rw [if_neg e] at mi vi
      by_cases f : j = n
      · rw [if_pos f] at mj vj
        cases vj
        exact hx i e mi vi
      · rw [if_neg f] at mj vj; exact R.ne i j a ij mi mj vi vj
theorem RS.no_new (R : RS K O F H σ ρ) (h : H p = none) : ∀ i, (sl ρ i).mut = true → sv σ i ≠ some (.ref p) := fun i m e => by
  obtain ⟨a, h1, _, _, h4⟩ := R.owned m
  rw [h1] at e
  cases e
  obtain ⟨o, ho⟩ := h4.some
  rw [ho] at h; cases h
/-- the object that slot n owns turns -/
theorem RS.mutO (R : RS K O F H σ ρ) {n : Nat} (m : (sl ρ n).mut = true) (hp : sv σ n = some (.ref p)) (m2 : s.mut = true) (h : MutOk K F (upd H p o) p s) : RS K O F (upd H p o) σ (ρ.set n s) := by
  obtain ⟨p2, h1, h2, h3, h4⟩ := R.owned m
  rw [hp] at h1
  cases h1
  have hn : n < ρ.length := by
    by_cases q : n < ρ.length
    · exact q
    · exfalso
      unfold sl at m
      rw [List.getElem?_eq_none (by omega)] at m
      cases m
  obtain ⟨oo, ho1, ho2⟩ := h4.nx
  refine ⟨Same.mut R.fh h2, Same.mut R.oh h3, R.dj, tabs_mut R.tb ho1 ho2, R.ot, R.ft, R.w0, by rw [List.length_set, R.len], fun i => ?_, fun i j a ij mi mj vi vj => ?_⟩
  · rw [sl_set hn]
    by_cases e : i = n
    · rw [if_pos e, e, hp]; exact SlOk.of_mut m2 rfl h2 h3 h
    · rw [if_neg e]
      have q := R.at_ i
      by_cases mi : (sl ρ i).mut = true
      · obtain ⟨b, q1, q2, q3, q4⟩ := q.mut_of mi
        have nb : b ≠ p := fun z => R.ne i n p e mi m (by rw [q1, z]) hp
        exact SlOk.of_mut mi q1 q2 q3 (q4.mono (upd_ne nb) (Same.refl _))
      · cases es : sl ρ i with
        | none => trivial
        | val d => rw [es] at q; exact q
        | own d => rw [es] at mi; exact absurd rfl mi
        | pen d => rw [es] at mi; exact absurd rfl mi
  · rw [sl_set hn] at mi mj
    refine R.ne i j a ij ?_ ?_ vi vj
    · by_cases e : i = n
      · rw [e]; exact m
      · rw [if_neg e] at mi; exact mi
    · by_cases e : j = n
      · rw [e]; exact m
      · rw [if_neg e] at mj; exact mj
/-- what is owned is frozen -/
theorem Shl.rep {d : D} (h : Shl K F H p d) (hF : F p = none) : ∃ o, H p = some o ∧ NX o ∧ Rep K (upd F p o) (.ref p) d := by
  have g : ∀ {o}, Same F (upd F p o) := fun {o} => Same.upd (Same.refl _) hF
  cases d with
  | lst ds => obtain ⟨vs, h, r⟩ := h; exact ⟨_, h, nx_lst, .lst upd_same (r.mono g)⟩
  | dct ds => obtain ⟨vs, h, r⟩ := h; exact ⟨_, h, nx_dK, .ofDct upd_same (r.mono g)⟩
  | obj c ds => obtain ⟨dx, vs, h, r⟩ := h; exact ⟨_, h, nx_ins, .ofObj upd_same (r.mono g)⟩
  | _ => cases h
theorem RS.thaw (R : RS K O F H σ ρ) (ho : H p = some o) (hnx : NX o) (hF : F p = none) (hO : O.o p = none) (hx : ∀ i, (sl ρ i).mut = true → sv σ i ≠ some (.ref p)) : RS K O (upd F p o) H σ ρ ∧ Same F (upd F p o) := by
  have g : Same F (upd F p o) := Same.upd (Same.refl _) hF
  refine ⟨⟨fun b u e => ?_, R.oh, fun a u e => ?_, R.tb, R.ot, ft_upd R hnx, R.w0, R.len, fun i => ?_, R.ne⟩, g⟩
  · by_cases z : b = p
    · rw [z, upd_same] at e; rw [z]; cases e; exact ho
    · rw [upd_ne z] at e; exact R.fh _ _ e
  · rw [upd_ne (ne_of_none e hO)]; exact R.dj a u e
  · have q := R.at_ i
    by_cases mi : (sl ρ i).mut = true
    · obtain ⟨b, q1, q2, q3, q4⟩ := q.mut_of mi
      have nb : b ≠ p := fun z => hx i mi (by rw [q1, z])
      exact SlOk.of_mut mi q1 (by rw [upd_ne nb]; exact q2) q3 (q4.mono rfl g)
    · cases es : sl ρ i with
      | none => trivial
      | val d => rw [es] at q; obtain ⟨v, q1, q2⟩ := q; exact ⟨v, q1, q2.mono g⟩
      | own d => rw [es] at mi; exact absurd rfl mi
      | pen d => rw [es] at mi; exact absurd rfl mi
theorem RS.freeze (R : RS K O F H σ ρ) {n : Nat} {d : D} (e : sl ρ n = .own d) : ∃ p F2, sv σ n = some (.ref p) ∧ Same F F2 ∧ Rep K F2 (.ref p) d ∧ RS K O F2 H σ (ρ.set n (.val d)) := by
  have m : (sl ρ n).mut = true := by rw [e]; rfl
  obtain ⟨p, h1, h2, h3, h4⟩ := R.owned m
  rw [e] at h4
  obtain ⟨o, ho, hnx, r⟩ := Shl.rep h4 h2
  have hn : n < ρ.length := by
    by_cases q : n < ρ.length
    · exact q
    · exfalso
      unfold sl at m
      rw [List.getElem?_eq_none (by omega)] at m
      cases m
  have R1 : RS K O F H σ (ρ.set n .none) := by
    refine ⟨R.fh, R.oh, R.dj, R.tb, R.ot, R.ft, R.w0, by rw [List.length_set, R.len], fun i => ?_, fun i j a ij mi mj vi vj => ?_⟩
    · rw [sl_set hn]
      by_cases q : i = n
      · rw [if_pos q]; trivial
      · rw [if_neg q]; exact R.at_ i
    · rw [sl_set hn] at mi mj
      by_cases q : i = n
      · rw [if_pos q] at mi; cases mi
      · by_cases t : j = n
        · rw [if_pos t] at mj; cases mj
        · rw [if_neg q] at mi; rw [if_neg t] at mj; exact R.ne i j a ij mi mj vi vj
  obtain ⟨R2, g⟩ := R1.thaw ho hnx h2 h3 (fun i mi vi => by
    rw [sl_set hn] at mi
    by_cases q : i = n
    · rw [if_pos q] at mi; cases mi
    · rw [if_neg q] at mi; exact R.ne i n p q mi m vi h1)
  refine ⟨p, _, h1, g, r, ?_⟩
  have hn2 : n < (ρ.set n Sl.none).length := by rw [List.length_set]; exact hn
  refine ⟨R2.fh, R2.oh, R2.dj, R2.tb, R2.ot, R2.ft, R2.w0, by rw [List.length_set, R.len], fun i => ?_, fun i j a ij mi mj vi vj => ?_⟩
  · have q := R2.at_ i
    rw [sl_set hn] at q ⊢
    by_cases e2 : i = n
    · rw [if_pos e2, e2, h1]; exact ⟨_, rfl, r⟩
    · rw [if_neg e2] at q ⊢; exact q
  · rw [sl_set hn] at mi mj
    by_cases q : i = n
    · rw [if_pos q] at mi; cases mi
    · by_cases t : j = n
      · rw [if_pos t] at mj; cases mj
      · rw [if_neg q] at mi; rw [if_neg t] at mj; exact R.ne i j a ij mi mj vi vj
theorem RS.drop (R : RS K O F H σ ρ) {O2 : Oc} (h : Same O2.o O.o) (hw : O2.w = O.w ∨ O2.w = none) (hT : O2.T = O.T) : RS K O2 F H σ ρ := by
  refine ⟨R.fh, Same.trans h R.oh, fun a o e => R.dj a o (h _ _ e), (by rw [hT]; exact R.tb), (fun a o e => R.ot a o (h _ _ e)), R.ft, (fun v e => hw.elim (fun z => R.w0 v (z ▸ e)) fun z => nomatch (z.symm.trans e)), R.len, fun i => ?_, R.ne⟩
  have q := R.at_ i
  by_cases mi : (sl ρ i).mut = true
  · obtain ⟨b, q1, q2, q3, q4⟩ := q.mut_of mi
    exact SlOk.of_mut mi q1 q2 (Same.free h q3) q4
  · cases es : sl ρ i with
    | none => trivial
    | val d => rw [es] at q; exact q
    | own d => rw [es] at mi; exact absurd rfl mi
    | pen d => rw [es] at mi; exact absurd rfl mi
end
end SJ
namespace SJ
open PySem PySem.Spec PyProof.Rows L2 He
inductive X where
  | val (d : D) | slot (n : Nat)
def XvR (K : PySem.W.Frag) (F : Hp) (σ : L2.St) (v : V) : X → Prop
  | .val d => Rep K F v d
  | .slot n => sv σ n = some v
def XsV (K : PySem.W.Frag) (F : Hp) (σ : L2.St) : List V → List X → Prop
  | [], [] => True
  | v :: vs, x :: xs => XvR K F σ v x ∧ XsV K F σ vs xs
  | _, _ => False
/-- what is taken as a value for good -/
def Frz (x : X) (ρ : Ro) (Q : D → Ro → Prop) : Prop := match x with
  | .val d => Q d ρ
  | .slot n => match sl ρ n with
    | .own d => Q d (ρ.set n (.val d))
    | .val d => Q d ρ
    | _ => False
def FrzL : List X → Ro → (List D → Ro → Prop) → Prop
  | [], ρ, Q => Q [] ρ
  | x :: xs, ρ, Q => Frz x ρ fun d ρ2 => FrzL xs ρ2 fun ds ρ3 => Q (d :: ds) ρ3
structure Hn where
  nx : Ro → Prop
  rt : D → Ro → Prop
  bk : Ro → Prop := fun _ => False
  ct : Ro → Prop := fun _ => False
  rf : D → Ro → Prop := fun _ _ => False
section
variable (K : PySem.W.Frag) (O : Oc) (F0 : Hp)
def Me (t : TE) (ρ : Ro) (Q : X → Ro → Prop) : Prop := ∀ (F H : Hp) (σ : L2.St) (Qh : VK), Same F0 F → RS K O F H σ ρ → (∀ v H2 F2 x ρ2, Same F F2 → RS K O F2 H2 σ ρ2 → XvR K F2 σ v x → Q x ρ2 → Qh v H2) → t σ H Qh
def Mt (t : TT) (ρ : Ro) (Q : Bool → Ro → Prop) : Prop := ∀ (F H : Hp) (σ : L2.St) (Qh : Bool → Hp → Prop), Same F0 F → RS K O F H σ ρ → (∀ b H2 F2 ρ2, Same F F2 → RS K O F2 H2 σ ρ2 → Q b ρ2 → Qh b H2) → t σ H Qh
def Ma (t : TA) (ρ : Ro) (Q : List X → Ro → Prop) : Prop := ∀ (F H : Hp) (σ : L2.St) (Qh : List V → Hp → Prop), Same F0 F → RS K O F H σ ρ → (∀ vs H2 F2 xs ρ2, Same F F2 → RS K O F2 H2 σ ρ2 → XsV K F2 σ vs xs → Q xs ρ2 → Qh vs H2) → t σ H Qh
def Mr (r : R2) (x y : X) (ρ : Ro) (Q : X → Ro → Prop) : Prop := ∀ (F H : Hp) (σ : L2.St) (u v : V) (Qh : VK), Same F0 F → RS K O F H σ ρ → XvR K F σ u x → XvR K F σ v y → (∀ v H2 F2 x ρ2, Same F F2 → RS K O F2 H2 σ ρ2 → XvR K F2 σ v x → Q x ρ2 → Qh v H2) → r u v H Qh
def Mc (r : List V → Hp → VK → Prop) (xs : List X) (ρ : Ro) (Q : X → Ro → Prop) : Prop := ∀ (F H : Hp) (σ : L2.St) (vs : List V) (Qh : VK), Same F0 F → RS K O F H σ ρ → XsV K F σ vs xs → (∀ v H2 F2 x ρ2, Same F F2 → RS K O F2 H2 σ ρ2 → XvR K F2 σ v x → Q x ρ2 → Qh v H2) → r vs H Qh
/-- a new object, nobody's yet -/
def Nw (K : PySem.W.Frag) (O : Oc) (F H : Hp) (σ : L2.St) (ρ : Ro) (p : Addr) (d : D) : Prop := F p = none ∧ O.o p = none ∧ (∀ i, (sl ρ i).mut = true → sv σ i ≠ some (.ref p)) ∧ Shl K F H p d
def Mf (t : TE) (ρ : Ro) (Q : D → Ro → Prop) : Prop := ∀ (F H : Hp) (σ : L2.St) (Qh : VK), Same F0 F → RS K O F H σ ρ → (∀ p H2 F2 d ρ2, Same F F2 → RS K O F2 H2 σ ρ2 → Nw K O F2 H2 σ ρ2 p d → Q d ρ2 → Qh (.ref p) H2) → t σ H Qh
structure EnOk (F : Hp) (E : Ends) (N : Hn) : Prop where
  nx : ∀ F2 H2 σ2 ρ2, Same F F2 → RS K O F2 H2 σ2 ρ2 → N.nx ρ2 → E.nx σ2 H2
  rt : ∀ F2 H2 σ2 ρ2 v d, Same F F2 → RS K O F2 H2 σ2 ρ2 → Rep K F2 v d → N.rt d ρ2 → E.rt v H2
  bk : ∀ F2 H2 σ2 ρ2, Same F F2 → RS K O F2 H2 σ2 ρ2 → N.bk ρ2 → E.bk σ2 H2
  ct : ∀ F2 H2 σ2 ρ2, Same F F2 → RS K O F2 H2 σ2 ρ2 → N.ct ρ2 → E.ct σ2 H2
  rf : ∀ F2 H2 σ2 ρ2 p d, Same F F2 → RS K O F2 H2 σ2 ρ2 → Nw K O F2 H2 σ2 ρ2 p d → N.rf d ρ2 → E.rt (.ref p) H2
def Ms (t : TS) (ρ : Ro) (N : Hn) : Prop := ∀ (F H : Hp) (σ : L2.St) (E : Ends), Same F0 F → RS K O F H σ ρ → EnOk K O F E N → t E σ H
/-- js: the slots that a target writes -/
def Mg (g : TG) (js : List Nat) (d : D) (ρ : Ro) (N : Ro → Prop) : Prop := ∀ (F H : Hp) (σ : L2.St) (v : V) (Qs : L2.St → Hp → Prop), Same F0 F → RS K O F H σ ρ → Rep K F v d →
  (∀ F2 H2 σ2 ρ2, Same F F2 → RS K O F2 H2 σ2 ρ2 → (∀ vs, (∀ j ∈ js, j ∈ vs) → wipe σ2 vs = wipe σ vs) → N ρ2 → Qs σ2 H2) → g v σ H Qs
/-- what is raised: the record d's fields -/
def Wr (W : WX) (Xp : Str → List (Str × D) → Ro → Prop) : Prop := ∀ (F H : Hp) (σ : L2.St) (ρ : Ro) (c : Str) (fs : List (Str × D)) (dd : Addr) (fvs : List (Str × V)), Same F0 F → H dd = some (.xd fvs) → RS K { O with o := upd O.o dd (.xd fvs) } F H σ ρ → O.o dd = none → RepP K F fvs fs → Xp c fs ρ → W (.ref (ga K c)) (some dd) σ H
/-- an iterator's walk over trees -/
def WalkD (F : Hp) (J : It) (ds : List D) : Prop := ∀ (i : Nat) (F1 H : Hp) (σ : L2.St) (ρ : Ro), Same F F1 → RS K O F1 H σ ρ → (ds.length ≤ i → J.stop i H) ∧ ∀ d, ds[i]? = some d → J.go i H ∧ ∀ x H2, J.yld i H x H2 → ∃ F2, Same F1 F2 ∧ RS K O F2 H2 σ ρ ∧ Rep K F2 x d
end
def Mi (K : PySem.W.Frag) (O : Oc) (F0 : Hp) (wi : TI) (ρ : Ro) (Q : List D → Ro → Prop) : Prop := ∀ (F H : Hp) (σ : L2.St) (R : It → Hp → Prop), Same F0 F → RS K O F H σ ρ → (∀ J H2 F2 ds ρ2, Same F F2 → RS K O F2 H2 σ ρ2 → (∀ O2 : Oc, WalkD K O2 F2 J ds) → Q ds ρ2 → R J H2) → wi σ H R
section
variable {K : PySem.W.Frag} {O : Oc} {F0 F F2 H H2 : Hp} {σ : L2.St} {ρ : Ro} {Q : X → Ro → Prop} {QT : Bool → Ro → Prop} {QA : List X → Ro → Prop} {QF : D → Ro → Prop} {ta tb te to : TE} {t u : TT} {tA tK : TA} {ts tz : TS} {r : R2} {N : Hn} {n i : Nat} {x y : X} {d : D} {g : TG}
theorem XvR.mono {v : V} (h : XvR K F σ v x) (s : Same F F2) : XvR K F2 σ v x := by
  cases x with
  | val d => exact Rep.mono s h
  | slot n => exact h
theorem XsV.mono : ∀ {vs : List V} {xs : List X}, XsV K F σ vs xs → Same F F2 → XsV K F2 σ vs xs
  | [], [], _, _ => trivial
  | _ :: _, _ :: _, h, s => ⟨h.1.mono s, h.2.mono s⟩
theorem EnOk.mono {E : Ends} (h : EnOk K O F E N) (s : Same F F2) : EnOk K O F2 E N := ⟨fun F3 H3 a b c => h.nx F3 H3 a b (Same.trans s c), fun F3 H3 a b c d e => h.rt F3 H3 a b c d (Same.trans s e), fun F3 H3 a b c => h.bk F3 H3 a b (Same.trans s c), fun F3 H3 a b c => h.ct F3 H3 a b (Same.trans s c), fun F3 H3 a b c d e => h.rf F3 H3 a b c d (Same.trans s e)⟩
theorem Wr.mono {W : WX} {Xp : Str → List (Str × D) → Ro → Prop} (h : Wr K O F W Xp) (s : Same F F2) : Wr K O F2 W Xp := fun F3 H3 a b c d e f g => h F3 H3 a b c d e f (Same.trans s g)
theorem sv_some {v : V} (h : sv σ n = some v) : σ[n]? = some (some v) := by
  unfold sv at h
  cases e : σ[n]? with
  | none => rw [e] at h; cases h
  | some w => rw [e] at h; exact congrArg some h
/-- a frozen value out of a held one -/
theorem frz_of {v : V} {P : D → Ro → Prop} (R : RS K O F H σ ρ) (h : XvR K F σ v x) (q : Frz x ρ P) : ∃ d ρ2 F2, Same F F2 ∧ RS K O F2 H σ ρ2 ∧ Rep K F2 v d ∧ P d ρ2 := by
  cases x with
  | val d => exact ⟨d, ρ, F, Same.refl _, R, h, q⟩
  | slot n =>
    have e : sv σ n = some v := h
    unfold Frz at q
    cases es : sl ρ n with
    | none => simp only [es] at q
    | pen k => simp only [es] at q
    | val d =>
      simp only [es] at q
      have a := R.at_ n
      rw [es] at a
      obtain ⟨w, a1, a2⟩ := a
      rw [e] at a1; cases a1
      exact ⟨d, ρ, F, Same.refl _, R, a2, q⟩
    | own d =>
      simp only [es] at q
      obtain ⟨p, F2, h1, h2, h3, h4⟩ := R.freeze es
      rw [e] at h1; cases h1
      exact ⟨d, _, F2, h2, h4, h3, q⟩
theorem frzL_of {vs : List V} {xs : List X} {P : List D → Ro → Prop} (R : RS K O F H σ ρ) (h : XsV K F σ vs xs) (q : FrzL xs ρ P) : ∃ ds ρ2 F2, Same F F2 ∧ RS K O F2 H σ ρ2 ∧ RepL K F2 vs ds ∧ P ds ρ2 := by
  induction xs generalizing vs ρ F P with
  | nil =>
    cases vs with
    | nil => exact ⟨[], ρ, F, Same.refl _, R, .nil, q⟩
    | cons v vs => cases h
  | cons x xs ih =>
    cases vs with
    | nil => cases h
    | cons v vs =>
      obtain ⟨d, ρ1, F1, s1, R1, r1, q1⟩ := frz_of R h.1 q
      obtain ⟨ds, ρ2, F2, s2, R2, r2, q2⟩ := ih R1 (h.2.mono s1) q1
      exact ⟨_, ρ2, F2, Same.trans s1 s2, R2, .cons (r1.mono s2) r2, q2⟩
theorem m_var (e : sl ρ n = .val d) (k : Q (.val d) ρ) : Me K O F0 (tVar n) ρ Q := fun F H σ Qh s R c => by
  have a := R.at_ n
  rw [e] at a
  obtain ⟨w, a1, a2⟩ := a
  exact ⟨w, sv_some a1, c w H F (.val d) ρ (Same.refl _) R a2 k⟩
theorem m_varS (e : (sl ρ n).mut = true) (k : Q (.slot n) ρ) : Me K O F0 (tVar n) ρ Q := fun F H σ Qh s R c => by
  obtain ⟨p, a1, _⟩ := R.owned e
  exact ⟨_, sv_some a1, c _ H F (.slot n) ρ (Same.refl _) R a1 k⟩
theorem m_cI {i : Int} (k : Q (.val (.int i)) ρ) : Me K O F0 (tC (.int i)) ρ Q := fun F H σ Qh s R c => c _ H F (.val (.int i)) ρ (Same.refl _) R (Rep.int i) k
theorem m_cS {i : Str} (k : Q (.val (.str i)) ρ) : Me K O F0 (tC (.str i)) ρ Q := fun F H σ Qh s R c => c _ H F (.val (.str i)) ρ (Same.refl _) R (Rep.str i) k
theorem m_cB {i : Bool} (k : Q (.val (.bl i)) ρ) : Me K O F0 (tC (.bl i)) ρ Q := fun F H σ Qh s R c => c _ H F (.val (.bl i)) ρ (Same.refl _) R (Rep.bl i) k
theorem m_cN (k : Q (.val .non) ρ) : Me K O F0 (tC .non) ρ Q := fun F H σ Qh s R c => c _ H F (.val .non) ρ (Same.refl _) R Rep.non k
theorem m_cC {i : Str} (k : Q (.val (.cls i)) ρ) : Me K O F0 (tC (.ref (ga K i))) ρ Q := fun F H σ Qh s R c => c _ H F (.val (.cls i)) ρ (Same.refl _) R (Rep.cls i) k
theorem m_cT {i : String} (k : Q (.val (.ty i)) ρ) : Me K O F0 (tC (.ty i)) ρ Q := fun F H σ Qh s R c => c _ H F (.val (.ty i)) ρ (Same.refl _) R (Rep.ty i) k
theorem m_op (k : Me K O F0 ta ρ fun x ρ1 => Me K O F0 tb ρ1 fun y ρ2 => Mr K O F0 r x y ρ2 Q) : Me K O F0 (tOp r ta tb) ρ Q := fun F H σ Qh s R c =>
  k F H σ _ s R fun v1 H1 F1 x ρ1 s1 R1 r1 k1 => k1 F1 H1 σ _ (Same.trans s s1) R1 fun v2 H2 F2 y ρ2 s2 R2 r2 k2 => k2 F2 H2 σ v1 v2 Qh (Same.trans s (Same.trans s1 s2)) R2 (r1.mono s2) r2 fun v H3 F3 z ρ3 s3 R3 r3 q => c v H3 F3 z ρ3 (Same.trans s1 (Same.trans s2 s3)) R3 r3 q
theorem m_cb {r : List V → Hp → VK → Prop} (k : Ma K O F0 tA ρ fun xs ρ1 => Mc K O F0 r xs ρ1 Q) : Me K O F0 (tCB r tA) ρ Q := fun F H σ Qh s R c =>
  k F H σ _ s R fun v1 H1 F1 x ρ1 s1 R1 r1 k1 => k1 F1 H1 σ v1 Qh (Same.trans s s1) R1 r1 fun v H3 F3 z ρ3 s3 R3 r3 q => c v H3 F3 z ρ3 (Same.trans s1 s3) R3 r3 q
theorem m_nil (k : QA [] ρ) : Ma K O F0 tNil ρ QA := fun F H σ Qh s R c => c [] H F [] ρ (Same.refl _) R trivial k
theorem m_cons (k : Me K O F0 ta ρ fun x ρ1 => Ma K O F0 tA ρ1 fun xs ρ2 => QA (x :: xs) ρ2) : Ma K O F0 (tCons ta tA) ρ QA := fun F H σ Qh s R c =>
  k F H σ _ s R fun v1 H1 F1 x ρ1 s1 R1 r1 k1 => k1 F1 H1 σ _ (Same.trans s s1) R1 fun vs H2 F2 xs ρ2 s2 R2 r2 q => c (v1 :: vs) H2 F2 (x :: xs) ρ2 (Same.trans s1 s2) R2 ⟨r1.mono s2, r2⟩ q
theorem m_test (k : Me K O F0 te ρ fun x ρ1 => ∃ b, x = .val (.bl b) ∧ QT b ρ1) : Mt K O F0 (tTest te) ρ QT := fun F H σ Qh s R c =>
  k F H σ _ s R fun v H2 F2 x ρ2 s2 R2 r2 ⟨b, e, q⟩ => by
    subst e
    cases r2
    exact ⟨b, rfl, c b H2 F2 ρ2 s2 R2 q⟩
theorem m_B (k : Me K O F0 te ρ fun x ρ1 => ∃ b, x = .val (.bl b) ∧ QT b ρ1) : Mt K O F0 (tB te) ρ QT := fun F H σ Qh s R c =>
  k F H σ _ s R fun v H2 F2 x ρ2 s2 R2 r2 ⟨b, e, q⟩ => by
    subst e
    cases r2
    exact ⟨b, rfl, c b H2 F2 ρ2 s2 R2 q⟩
theorem m_and (k : Mt K O F0 t ρ fun b ρ1 => if b = true then Mt K O F0 u ρ1 QT else QT false ρ1) : Mt K O F0 (tAnd t u) ρ QT := fun F H σ Qh s R c =>
  k F H σ _ s R fun b H1 F1 ρ1 s1 R1 k1 => by
    cases b with
    | true => exact k1 F1 H1 σ _ (Same.trans s s1) R1 fun b H2 F2 ρ2 s2 R2 q => c b H2 F2 ρ2 (Same.trans s1 s2) R2 q
    | false => exact c false H1 F1 ρ1 s1 R1 k1
theorem m_or (k : Mt K O F0 t ρ fun b ρ1 => if b = true then QT true ρ1 else Mt K O F0 u ρ1 QT) : Mt K O F0 (tOr t u) ρ QT := fun F H σ Qh s R c =>
  k F H σ _ s R fun b H1 F1 ρ1 s1 R1 k1 => by
    cases b with
    | false => exact k1 F1 H1 σ _ (Same.trans s s1) R1 fun b H2 F2 ρ2 s2 R2 q => c b H2 F2 ρ2 (Same.trans s1 s2) R2 q
    | true => exact c true H1 F1 ρ1 s1 R1 k1
theorem m_not (k : Mt K O F0 t ρ fun b ρ1 => QT (!b) ρ1) : Mt K O F0 (tNot t) ρ QT := fun F H σ Qh s R c =>
  k F H σ _ s R fun b H1 F1 ρ1 s1 R1 k1 => c (!b) H1 F1 ρ1 s1 R1 k1
theorem m_andV (k : Me K O F0 ta ρ fun x ρ1 => ∃ b, x = .val (.bl b) ∧ if b = true then Me K O F0 tb ρ1 Q else Q (.val (.bl false)) ρ1) : Me K O F0 (tAndV ta tb) ρ Q := fun F H σ Qh s R c =>
  k F H σ _ s R fun v H1 F1 x ρ1 s1 R1 r1 ⟨b, e, k1⟩ => by
    subst e
    cases r1
    cases b with
    | true => exact ⟨true, rfl, k1 F1 H1 σ _ (Same.trans s s1) R1 fun b H2 F2 x2 ρ2 s2 R2 r2 q => c b H2 F2 x2 ρ2 (Same.trans s1 s2) R2 r2 q⟩
    | false => exact ⟨false, rfl, c _ H1 F1 (.val (.bl false)) ρ1 s1 R1 (Rep.bl false) k1⟩
theorem m_orV (k : Me K O F0 ta ρ fun x ρ1 => ∃ b, x = .val (.bl b) ∧ if b = true then Q (.val (.bl true)) ρ1 else Me K O F0 tb ρ1 Q) : Me K O F0 (tOrV ta tb) ρ Q := fun F H σ Qh s R c =>
  k F H σ _ s R fun v H1 F1 x ρ1 s1 R1 r1 ⟨b, e, k1⟩ => by
    subst e
    cases r1
    cases b with
    | false => exact ⟨false, rfl, k1 F1 H1 σ _ (Same.trans s s1) R1 fun b H2 F2 x2 ρ2 s2 R2 r2 q => c b H2 F2 x2 ρ2 (Same.trans s1 s2) R2 r2 q⟩
    | true => exact ⟨true, rfl, c _ H1 F1 (.val (.bl true)) ρ1 s1 R1 (Rep.bl true) k1⟩
theorem m_notV (k : Me K O F0 ta ρ fun x ρ1 => ∃ b, x = .val (.bl b) ∧ Q (.val (.bl (!b))) ρ1) : Me K O F0 (tNotV ta) ρ Q := fun F H σ Qh s R c =>
  k F H σ _ s R fun v H1 F1 x ρ1 s1 R1 r1 ⟨b, e, k1⟩ => by
    subst e
    cases r1
    exact ⟨b, rfl, c _ H1 F1 (.val (.bl _)) ρ1 s1 R1 (Rep.bl _) k1⟩
theorem m_ife (k : Mt K O F0 t ρ fun b ρ1 => if b = true then Me K O F0 ta ρ1 Q else Me K O F0 tb ρ1 Q) : Me K O F0 (tIf t ta tb) ρ Q := fun F H σ Qh s R c =>
  k F H σ _ s R fun b H1 F1 ρ1 s1 R1 k1 => by
    cases b with
    | true => exact k1 F1 H1 σ _ (Same.trans s s1) R1 fun b H2 F2 x2 ρ2 s2 R2 r2 q => c b H2 F2 x2 ρ2 (Same.trans s1 s2) R2 r2 q
    | false => exact k1 F1 H1 σ _ (Same.trans s s1) R1 fun b H2 F2 x2 ρ2 s2 R2 r2 q => c b H2 F2 x2 ρ2 (Same.trans s1 s2) R2 r2 q
/-- a fresh one frozen -/
theorem m_f (k : Mf K O F0 te ρ fun d ρ1 => Q (.val d) ρ1) : Me K O F0 te ρ Q := fun F H σ Qh s R c =>
  k F H σ Qh s R fun p H2 F2 d ρ2 s2 R2 nw q => by
    obtain ⟨n1, n2, n3, n4⟩ := nw
    obtain ⟨o, ho, hx, rp⟩ := Shl.rep n4 n1
    obtain ⟨R3, s3⟩ := R2.thaw ho hx n1 n2 n3
    exact c _ H2 _ (.val d) ρ2 (Same.trans s2 s3) R3 rp q
theorem mf_new {vs : List V} {ds : List D} {F2 : Hp} {ρ2 : Ro} {Qh : VK} {p : Addr} (R : RS K O F H σ ρ) (hp : H p = none) (r : RepL K F vs ds) (c : ∀ H2, RS K O F H2 σ ρ → Nw K O F H2 σ ρ p (.lst ds) → Qh (.ref p) H2) : Qh (.ref p) (upd H p (.lst vs)) :=
  c _ (R.allocN hp) ⟨(R.free hp).1, (R.free hp).2, R.no_new hp, vs, upd_same, r⟩
theorem mf_lst (k : Ma K O F0 tA ρ fun xs ρ1 => FrzL xs ρ1 fun ds ρ2 => ds.length ≤ 1000 ∧ QF (.lst ds) ρ2) : Mf K O F0 (tLst tA) ρ QF := fun F H σ Qh s R c =>
  k F H σ _ s R fun vs H1 F1 xs ρ1 s1 R1 r1 k1 => by
    obtain ⟨ds, ρ2, F2, s2, R2, r2, l, q⟩ := frzL_of R1 r1 k1
    refine ⟨by rw [r2.length]; exact Nat.le_trans l (by decide), fun p hp => ?_⟩
    exact mf_new (ρ2 := ρ2) (F2 := F2) R2 hp r2 fun H3 R3 nw => c p H3 F2 _ ρ2 (Same.trans s1 s2) R3 nw q
theorem m_tup (k : Ma K O F0 tA ρ fun xs ρ1 => FrzL xs ρ1 fun ds ρ2 => ds.length ≤ 1000 ∧ Q (.val (.tup ds)) ρ2) : Me K O F0 (tTup tA) ρ Q := fun F H σ Qh s R c =>
  k F H σ _ s R fun vs H1 F1 xs ρ1 s1 R1 r1 k1 => by
    obtain ⟨ds, ρ2, F2, s2, R2, r2, l, q⟩ := frzL_of R1 r1 k1
    refine ⟨by rw [r2.length]; exact Nat.le_trans l (by decide), fun p hp => ?_⟩
    obtain ⟨R3, s3⟩ := R2.alloc (o := .tup vs) hp nx_tup
    exact c _ _ _ (.val (.tup ds)) ρ2 (Same.trans s1 (Same.trans s2 s3)) R3 (Rep.tup (SqT.of upd_same) (r2.mono s3)) q
theorem m_dnew (k : QF (.dct []) ρ) : Mf K O F0 tDNewK ρ QF := fun F H σ Qh s R c p hp =>
  c p _ F (.dct []) ρ (Same.refl _) (R.allocN hp) ⟨(R.free hp).1, (R.free hp).2, R.no_new hp, [], upd_same, RepP.nil⟩ k
theorem ms_seq (k : Ms K O F0 ts ρ { N with nx := fun ρ1 => Ms K O F0 tz ρ1 N }) : Ms K O F0 (tSeq ts tz) ρ N := fun F H σ E s R c =>
  k F H σ _ s R ⟨fun F2 H2 σ2 ρ2 s2 R2 q => q F2 H2 σ2 E (Same.trans s s2) R2 (c.mono s2), c.rt, c.bk, c.ct, c.rf⟩
theorem ms_next (k : N.nx ρ) : Ms K O F0 tNext ρ N := fun F H σ E s R c => c.nx F H σ ρ (Same.refl _) R k
theorem ms_asg (k : Me K O F0 te ρ fun x ρ1 => Frz x ρ1 fun d ρ2 => N.nx (ρ2.set n (.val d))) (hn : n ≠ 0 := by decide) : Ms K O F0 (tAsg te (gName n)) ρ N := fun F H σ E s R c =>
  k F H σ _ s R fun v H1 F1 x ρ1 s1 R1 r1 k1 => by
    obtain ⟨d, ρ2, F2, s2, R2, r2, q⟩ := frz_of R1 r1 k1
    exact c.nx F2 H1 _ _ (Same.trans s1 s2) (R2.put hn r2) q
theorem ms_asgF (k : Mf K O F0 te ρ fun d ρ1 => n < ρ1.length ∧ N.nx (ρ1.set n (.own d))) (hn : n ≠ 0 := by decide) : Ms K O F0 (tAsg te (gName n)) ρ N := fun F H σ E s R c =>
  k F H σ _ s R fun p H2 F2 d ρ2 s2 R2 nw ⟨l, q⟩ => c.nx F2 H2 _ _ s2 (R2.putO (s := .own d) hn l rfl nw.1 nw.2.1 nw.2.2.2 fun i _ m => nw.2.2.1 i m) q
theorem ms_ret (k : Me K O F0 te ρ fun x ρ1 => Frz x ρ1 fun d ρ2 => N.rt d ρ2) : Ms K O F0 (tRet te) ρ N := fun F H σ E s R c =>
  k F H σ _ s R fun v H1 F1 x ρ1 s1 R1 r1 k1 => by
    obtain ⟨d, ρ2, F2, s2, R2, r2, q⟩ := frz_of R1 r1 k1
    exact c.rt F2 H1 σ ρ2 v d (Same.trans s1 s2) R2 r2 q
theorem ms_drop (k : Me K O F0 te ρ fun _ ρ1 => N.nx ρ1) : Ms K O F0 (tDrop te) ρ N := fun F H σ E s R c =>
  k F H σ _ s R fun v H1 F1 x ρ1 s1 R1 r1 q => c.nx F1 H1 σ ρ1 s1 R1 q
theorem ms_if (k : Mt K O F0 t ρ fun b ρ1 => if b = true then Ms K O F0 ts ρ1 N else Ms K O F0 tz ρ1 N) : Ms K O F0 (tIfS t ts tz) ρ N := fun F H σ E s R c =>
  k F H σ _ s R fun b H1 F1 ρ1 s1 R1 k1 => by
    cases b with
    | true => exact k1 F1 H1 σ E (Same.trans s s1) R1 (c.mono s1)
    | false => exact k1 F1 H1 σ E (Same.trans s s1) R1 (c.mono s1)
theorem ms_par {i j : Nat} (k : Ma K O F0 tA ρ fun xs ρ1 => FrzL xs ρ1 fun ds ρ2 => ∃ d e, ds = [d, e] ∧ N.nx ((ρ2.set i (.val d)).set j (.val e))) (hi : i ≠ 0 := by decide) (hj : j ≠ 0 := by decide) : Ms K O F0 (tPar i j tA) ρ N := fun F H σ E s R c =>
  k F H σ _ s R fun vs H1 F1 xs ρ1 s1 R1 r1 k1 => by
    obtain ⟨ds, ρ2, F2, s2, R2, r2, d, e, rfl, q⟩ := frzL_of R1 r1 k1
    cases r2 with
    | cons a b =>
      cases b with
      | cons b z =>
        cases z
        exact ⟨_, _, rfl, c.nx F2 H1 _ _ (Same.trans s1 s2) ((R2.put hi a).put hj b) q⟩
theorem wipe_set {j : Nat} {w : Option V} : ∀ {vs : List Nat}, j ∈ vs → wipe (σ.set j w) vs = wipe σ vs
  | [], h => nomatch h
  | v :: vs, h => by
    show (wipe (σ.set j w) vs).set v none = (wipe σ vs).set v none
    by_cases m : j ∈ vs
    · rw [wipe_set m]
    · have e : j = v := by rcases List.mem_cons.mp h with e | e; exact e; exact absurd e m
      subst e
      have : ∀ (us : List Nat), j ∉ us → wipe (σ.set j w) us = (wipe σ us).set j w := by
        intro us
        induction us with
        | nil => intro _; rfl
        | cons a us ih =>
          intro hm
          show (wipe (σ.set j w) us).set a none = ((wipe σ us).set a none).set j w
          rw [ih (fun z => hm (List.mem_cons_of_mem _ z)), List.set_comm _ _ (fun z => hm (by rw [z]; exact List.mem_cons_self ..))]
      rw [this vs m, List.set_set]
theorem mg_name {j : Nat} {P : Ro → Prop} (k : P (ρ.set j (.val d))) (hj : j ≠ 0 := by decide) : Mg K O F0 (gName j) [j] d ρ P := fun F H σ v Qs s R r c =>
  c F H _ _ (Same.refl _) (R.put hj r) (fun vs h => wipe_set (h j (List.mem_singleton.mpr rfl))) k
end
end SJ
namespace SJ
open PySem PySem.Spec PyProof.Rows L2 He
def wipeR (ρ : Ro) : List Nat → Ro
  | [] => ρ
  | v :: vs => (wipeR ρ vs).set v .none
def rst (ρ2 ρ : Ro) : List Nat → Ro
  | [] => ρ2
  | v :: vs => (rst ρ2 ρ vs).set v (sl ρ v)
section
variable {K : PySem.W.Frag} {O : Oc} {F0 F F2 F3 H H2 H3 : Hp} {σ σ2 : L2.St} {ρ ρ2 : Ro} {Q : X → Ro → Prop} {QT : Bool → Ro → Prop} {QA : List X → Ro → Prop} {QF : D → Ro → Prop} {ta tb te to : TE} {t u tt : TT} {tA tK : TA} {ts tz : TS} {r : R2} {N : Hn} {n i : Nat} {x y : X} {d : D} {g : TG} {wi : TI} {p : Addr} {o o2 : HO} {vs js : List Nat} {QL : List D → Ro → Prop}
theorem sv_none (h : σ.length ≤ i) : sv σ i = none := by unfold sv; rw [List.getElem?_eq_none h]; rfl
theorem sl_none (h : ρ.length ≤ i) : sl ρ i = .none := by unfold sl; rw [List.getElem?_eq_none h]; rfl
theorem sv_set0 {j : Nat} : sv (σ.set j none) i = if i = j then none else sv σ i := by
  by_cases h : j < σ.length
  · exact sv_set h
  · rw [List.set_eq_of_length_le (by omega)]
    by_cases e : i = j
    · rw [if_pos e, sv_none (by omega)]
    · rw [if_neg e]
theorem sl_set0 {j : Nat} {s : Sl} (h : ρ.length ≤ j → s = .none) : sl (ρ.set j s) i = if i = j then s else sl ρ i := by
  by_cases h1 : j < ρ.length
  · exact sl_set h1
  · rw [List.set_eq_of_length_le (by omega)]
    by_cases e : i = j
    · rw [if_pos e, sl_none (by omega), h (by omega)]
    · rw [if_neg e]
theorem sv_wipe : ∀ {vs : List Nat}, sv (wipe σ vs) i = if i ∈ vs then none else sv σ i
  | [] => by rw [if_neg (fun h => nomatch h)]; rfl
  | v :: vs => by
    show sv ((wipe σ vs).set v none) i = _
    rw [sv_set0, sv_wipe]
    by_cases e : i = v
    · rw [if_pos e, if_pos (by rw [e]; exact List.mem_cons_self ..)]
    · rw [if_neg e]
      by_cases m : i ∈ vs
      · rw [if_pos m, if_pos (List.mem_cons_of_mem _ m)]
      · rw [if_neg m, if_neg (fun z => by rcases List.mem_cons.mp z with q | q; exact e q; exact m q)]
theorem sl_wipe : ∀ {vs : List Nat}, sl (wipeR ρ vs) i = if i ∈ vs then .none else sl ρ i
  | [] => by rw [if_neg (fun h => nomatch h)]; rfl
  | v :: vs => by
    show sl ((wipeR ρ vs).set v .none) i = _
    rw [sl_set0 (fun _ => rfl), sl_wipe]
    by_cases e : i = v
    · rw [if_pos e, if_pos (by rw [e]; exact List.mem_cons_self ..)]
    · rw [if_neg e]
      by_cases m : i ∈ vs
      · rw [if_pos m, if_pos (List.mem_cons_of_mem _ m)]
      · rw [if_neg m, if_neg (fun z => by rcases List.mem_cons.mp z with q | q; exact e q; exact m q)]
theorem wipeR_len : ∀ {vs : List Nat}, (wipeR ρ vs).length = ρ.length
  | [] => rfl
  | v :: vs => by show ((wipeR ρ vs).set v .none).length = _; rw [List.length_set, wipeR_len]
theorem rst_len : ∀ {vs : List Nat}, (rst ρ2 ρ vs).length = ρ2.length
  | [] => rfl
  | v :: vs => by show ((rst ρ2 ρ vs).set v _).length = _; rw [List.length_set, rst_len]
theorem sl_rst (hl : ρ2.length = ρ.length) : ∀ {vs : List Nat}, sl (rst ρ2 ρ vs) i = if i ∈ vs then sl ρ i else sl ρ2 i
  | [] => by rw [if_neg (fun h => nomatch h)]; rfl
  | v :: vs => by
    show sl ((rst ρ2 ρ vs).set v (sl ρ v)) i = _
    rw [sl_set0 (fun h => sl_none (by rw [rst_len] at h; omega)), sl_rst hl]
    by_cases e : i = v
    · rw [if_pos e, if_pos (by rw [e]; exact List.mem_cons_self ..), e]
    · rw [if_neg e]
      by_cases m : i ∈ vs
      · rw [if_pos m, if_pos (List.mem_cons_of_mem _ m)]
      · rw [if_neg m, if_neg (fun z => by rcases List.mem_cons.mp z with q | q; exact e q; exact m q)]
theorem RS.wipe (R : RS K O F H σ ρ) (h0 : 0 ∉ vs) : RS K O F H (L2.wipe σ vs) (wipeR ρ vs) := by
  refine ⟨R.fh, R.oh, R.dj, R.tb, R.ot, R.ft, fun v e => by rw [sv_wipe, if_neg h0]; exact R.w0 v e, by rw [wipe_length, wipeR_len, R.len], fun i => ?_, fun i j a ij mi mj vi vj => ?_⟩
  · rw [sv_wipe, sl_wipe]
    by_cases m : i ∈ vs
    · rw [if_pos m, if_pos m]; trivial
    · rw [if_neg m, if_neg m]; exact R.at_ i
  · rw [sl_wipe] at mi mj
    rw [sv_wipe] at vi vj
    by_cases m : i ∈ vs
    · rw [if_pos m] at mi; cases mi
    · by_cases m2 : j ∈ vs
      · rw [if_pos m2] at mj; cases mj
      · rw [if_neg m] at mi vi; rw [if_neg m2] at mj vj; exact R.ne i j a ij mi mj vi vj
theorem SlOk.mono {O2 : Hp} {w : Option V} {s : Sl} (h : SlOk K O2 F H w s) (m : s.mut = false) (g : Same F F2) {O3 H3 : Hp} : SlOk K O3 F2 H3 w s := by
  cases s with
  | none => trivial
  | val d => obtain ⟨v, h1, h2⟩ := h; exact ⟨v, h1, h2.mono g⟩
  | own d => cases m
  | pen d => cases m
theorem RS.unwipe {O2 : Oc} (R : RS K O F H σ ρ) (R2 : RS K O2 F2 H2 σ2 ρ2) (g : Same F F2) (hw : L2.wipe σ2 vs = L2.wipe σ vs) (hO : O2.w = O.w) (hl : ρ2.length = ρ.length) (h0 : 0 ∉ vs) (hm : ∀ v ∈ vs, (sl ρ v).mut = false) : RS K O2 F2 H2 σ (rst ρ2 ρ vs) := by
  have es : ∀ i, i ∉ vs → sv σ2 i = sv σ i := fun i m => by
    have e : sv (L2.wipe σ2 vs) i = sv (L2.wipe σ vs) i := by rw [hw]
    rw [sv_wipe, sv_wipe, if_neg m, if_neg m] at e
    exact e
  refine ⟨R2.fh, R2.oh, R2.dj, R2.tb, R2.ot, R2.ft, fun v e => R.w0 v (by rw [← hO]; exact e), by rw [rst_len, hl, R.len], fun i => ?_, fun i j a ij mi mj vi vj => ?_⟩
  · rw [sl_rst hl]
    by_cases m : i ∈ vs
    · rw [if_pos m]; exact (R.at_ i).mono (hm i m) g
    · rw [if_neg m, ← es i m]; exact R2.at_ i
  · rw [sl_rst hl] at mi mj
    by_cases m : i ∈ vs
    · rw [if_pos m, hm i m] at mi; cases mi
    · by_cases m2 : j ∈ vs
      · rw [if_pos m2, hm j m2] at mj; cases mj
      · rw [if_neg m] at mi; rw [if_neg m2] at mj
        exact R2.ne i j a ij mi mj (by rw [es i m]; exact vi) (by rw [es j m2]; exact vj)
/-- an object that is kept apart -/
theorem ot_upd {O : Hp} (R : ∀ a u, O a = some u → NX u) (hx : NX o) : ∀ a u, upd O p o a = some u → NX u := fun a u e => by
  by_cases z : a = p
  · rw [z, upd_same] at e; cases e; exact hx
  · rw [upd_ne z] at e; exact R a u e
theorem RS.out (R : RS K O F H σ ρ) (hp : H p = some o) (hnx : NX o) (hF : F p = none) (hx : ∀ i, (sl ρ i).mut = true → sv σ i ≠ some (.ref p)) : RS K { O with o := upd O.o p o } F H σ ρ := by
  refine ⟨R.fh, fun b u (e : upd O.o p o b = some u) => ?_, fun b u (e : upd O.o p o b = some u) => ?_, R.tb, ot_upd R.ot hnx, R.ft, R.w0, R.len, fun i => ?_, R.ne⟩
  · by_cases z : b = p
    · rw [z] at e ⊢; rw [upd_same] at e; cases e; exact hp
    · rw [upd_ne z] at e; exact R.oh _ _ e
  · by_cases z : b = p
    · rw [z]; exact hF
    · rw [upd_ne z] at e; exact R.dj _ _ e
  · by_cases m : (sl ρ i).mut = true
    · obtain ⟨a, h1, h2, h3, h4⟩ := R.owned m
      have n : a ≠ p := fun z => hx i m (by rw [h1, z])
      exact SlOk.of_mut m h1 h2 (by show upd O.o p o a = none; rw [upd_ne n]; exact h3) h4
    · exact (R.at_ i).mono (by cases q : (sl ρ i).mut with | true => exact absurd q m | false => rfl) (Same.refl _)
theorem RS.turn (R : RS K { O with o := upd O.o p o } F H σ ρ) (hnx : NX o2) : RS K { O with o := upd O.o p o2 } F (upd H p o2) σ ρ := by
  have hF : F p = none := R.dj p o upd_same
  refine ⟨Same.mut R.fh hF, fun b u (e : upd O.o p o2 b = some u) => ?_, fun b u (e : upd O.o p o2 b = some u) => ?_, tabs_mut R.tb (R.oh p o upd_same) (R.ot p o upd_same), (fun a u (e : upd O.o p o2 a = some u) => by
    by_cases z : a = p
    · rw [z, upd_same] at e; cases e; exact hnx
    · rw [upd_ne z] at e; exact R.ot a u (show upd O.o p o a = some u by rw [upd_ne z]; exact e)), R.ft, R.w0, R.len, fun i => ?_, R.ne⟩
  · by_cases z : b = p
    · rw [z] at e ⊢; rw [upd_same] at e ⊢; exact e
    · rw [upd_ne z] at e; rw [upd_ne z]; exact R.oh _ _ (show upd O.o p o b = some u by rw [upd_ne z]; exact e)
  · by_cases z : b = p
    · rw [z]; exact hF
    · rw [upd_ne z] at e; exact R.dj b u (show upd O.o p o b = some u by rw [upd_ne z]; exact e)
  · by_cases m : (sl ρ i).mut = true
    · obtain ⟨a, h1, h2, h3, h4⟩ := R.owned m
      have h3 : upd O.o p o a = none := h3
      have n : a ≠ p := fun z => by rw [z, upd_same] at h3; cases h3
      rw [upd_ne n] at h3
      exact SlOk.of_mut m h1 h2 (show upd O.o p o2 a = none by rw [upd_ne n]; exact h3) (h4.mono (upd_ne n) (Same.refl _))
    · exact (R.at_ i).mono (by cases q : (sl ρ i).mut with | true => exact absurd q m | false => rfl) (Same.refl _)
theorem RS.back (R : RS K { O with o := upd O.o p o } F H σ ρ) (h : O.o p = none) : RS K O F H σ ρ ∧ F p = none ∧ H p = some o ∧ ∀ i, (sl ρ i).mut = true → sv σ i ≠ some (.ref p) := by
  refine ⟨R.drop (Same.upd (Same.refl _) h) (.inl rfl) rfl, R.dj p o upd_same, R.oh p o upd_same, fun i m e => ?_⟩
  obtain ⟨a, h1, h2, h3, h4⟩ := R.owned m
  rw [h1] at e
  cases e
  have h3 : upd O.o p o p = none := h3
  rw [upd_same] at h3; cases h3
theorem ms_for {tb : TS} (js : List Nat) (k : Mi K O F0 wi ρ fun ds ρ1 => ∃ I : Nat → Ro → Prop, I 0 ρ1 ∧ (∀ i d ρ2, ds[i]? = some d → I i ρ2 → Mg K O F0 g js d ρ2 fun ρ3 => Ms K O F0 tb ρ3 { N with nx := I (i + 1), ct := I (i + 1), bk := N.nx }) ∧ ∀ ρ2, I ds.length ρ2 → N.nx ρ2) : Ms K O F0 (tFor wi g tb) ρ N := fun F H σ E s R c =>
  k F H σ _ s R fun J H2 F2 ds ρ2 s2 R2 wd ⟨I, i0, is, ie⟩ => by
    refine ⟨fun i m σ H => m = ds.length - i ∧ i ≤ ds.length ∧ ∃ F3 ρ3, Same F2 F3 ∧ RS K O F3 H σ ρ3 ∧ I i ρ3, ⟨ds.length, rfl, Nat.zero_le _, F2, ρ2, Same.refl _, R2, i0⟩, ?_⟩
    rintro i m σ1 H1 ⟨rfl, hi, F3, ρ3, s3, R3, q3⟩
    obtain ⟨w1, w2⟩ := wd O i F3 H1 σ1 ρ3 s3 R3
    by_cases hlt : i < ds.length
    · obtain ⟨go, yl⟩ := w2 _ (List.getElem?_eq_getElem hlt)
      refine .inr ⟨go, fun σ' H' => ∃ F4 ρ4, Same F2 F4 ∧ RS K O F4 H' σ' ρ4 ∧ I (i + 1) ρ4, fun σ' H' z => ⟨ds.length - (i + 1), by omega, rfl, hlt, z⟩, fun x H' y => ?_⟩
      obtain ⟨F4, s4, R4, r4⟩ := yl x H' y
      have s04 : Same F0 F4 := Same.trans s (Same.trans s2 (Same.trans s3 s4))
      refine is i _ ρ3 (List.getElem?_eq_getElem hlt) q3 F4 H' σ1 x _ s04 R4 r4 fun F5 H5 σ5 ρ5 s5 R5 _ ms => ?_
      refine ms F5 H5 σ5 _ (Same.trans s04 s5) R5 ⟨fun F6 H6 σ6 ρ6 s6 R6 q => ⟨F6, ρ6, Same.trans s3 (Same.trans s4 (Same.trans s5 s6)), R6, q⟩, fun F6 H6 σ6 ρ6 v d s6 => c.rt F6 H6 σ6 ρ6 v d (Same.trans s2 (Same.trans s3 (Same.trans s4 (Same.trans s5 s6)))),
        fun F6 H6 σ6 ρ6 s6 => c.nx F6 H6 σ6 ρ6 (Same.trans s2 (Same.trans s3 (Same.trans s4 (Same.trans s5 s6)))), fun F6 H6 σ6 ρ6 s6 R6 q => ⟨F6, ρ6, Same.trans s3 (Same.trans s4 (Same.trans s5 s6)), R6, q⟩, fun F6 H6 σ6 ρ6 v d s6 => c.rf F6 H6 σ6 ρ6 v d (Same.trans s2 (Same.trans s3 (Same.trans s4 (Same.trans s5 s6))))⟩
    · have e : i = ds.length := by omega
      subst e
      exact .inl ⟨w1 (Nat.le_refl _), c.nx F3 H1 σ1 ρ3 (Same.trans s2 s3) R3 (ie ρ3 q3)⟩
theorem mf_lc (js : List Nat) (hjs : ∀ j ∈ js, j ∈ vs) (h0 : 0 ∉ vs) (k : Mi K O F0 wi ρ fun ds ρ1 => ds.length ≤ 10000 ∧ ∃ I : Nat → List D → Ro → Prop, I 0 [] ρ1 ∧
    (∀ i d acc ρ2, ds[i]? = some d → acc.length ≤ i → I i acc ρ2 → (∀ v ∈ vs, (sl ρ2 v).mut = false) ∧ ∀ (oo : Hp) (ww : Option V), Mg K ⟨oo, ww, O.T⟩ F0 g js d (wipeR ρ2 vs) fun ρ3 => ρ3.length = ρ2.length ∧ Mt K ⟨oo, ww, O.T⟩ F0 tt ρ3 fun b ρ4 => if b = true then Me K ⟨oo, ww, O.T⟩ F0 tb ρ4 fun y ρ5 => Frz y ρ5 fun e ρ6 => ρ6.length = ρ2.length ∧ I (i + 1) (acc ++ [e]) (rst ρ6 ρ2 vs) else ρ4.length = ρ2.length ∧ I (i + 1) acc (rst ρ4 ρ2 vs)) ∧
    ∀ acc ρ2, I ds.length acc ρ2 → QF (.lst acc) ρ2) : Mf K O F0 (tLc wi g tt tb vs) ρ QF := fun F H σ Qh s R c =>
  k F H σ _ s R fun J H2 F2 ds ρ2 s2 R2 wd ⟨hds, I, i0, is, ie⟩ l hl => by
    have hOl : O.o l = none := (R2.free hl).2
    have R20 : RS K { O with o := upd O.o l (.lst []) } F2 (upd H2 l (.lst [])) σ ρ2 := (R2.allocN hl).out upd_same nx_lst (R2.free hl).1 (R2.no_new hl)
    refine ⟨fun i m H => m = ds.length - i ∧ i ≤ ds.length ∧ ∃ F3 ρ3 acc us, Same F2 F3 ∧ RS K { O with o := upd O.o l (.lst us) } F3 H σ ρ3 ∧ RepL K F3 us acc ∧ acc.length ≤ i ∧ I i acc ρ3, ⟨ds.length, rfl, Nat.zero_le _, F2, ρ2, [], [], Same.refl _, R20, .nil, Nat.le_refl _, i0⟩, ?_⟩
    rintro i m H1 ⟨rfl, hi, F3, ρ3, acc, us, s3, R3, ra, hacc, q3⟩
    obtain ⟨w1, w2⟩ := wd _ i F3 H1 σ ρ3 s3 R3
    by_cases hlt : i < ds.length
    · obtain ⟨go, yl⟩ := w2 _ (List.getElem?_eq_getElem hlt)
      refine .inr ⟨go, fun H' => ∃ F4 ρ4 acc us, Same F2 F4 ∧ RS K { O with o := upd O.o l (.lst us) } F4 H' σ ρ4 ∧ RepL K F4 us acc ∧ acc.length ≤ i + 1 ∧ I (i + 1) acc ρ4, fun H' z => ⟨ds.length - (i + 1), by omega, rfl, hlt, z⟩, fun x H' y => ?_⟩
      obtain ⟨F4, s4, R4, r4⟩ := yl x H' y
      have s04 : Same F0 F4 := Same.trans s (Same.trans s2 (Same.trans s3 s4))
      obtain ⟨hm, body⟩ := is i _ acc ρ3 (List.getElem?_eq_getElem hlt) hacc q3
      refine body (upd O.o l (.lst us)) O.w F4 H' (L2.wipe σ vs) x _ s04 (R4.wipe h0) r4 fun F5 H5 σ5 ρ5 s5 R5 hw ⟨hl5, mt⟩ => ?_
      have hw5 : L2.wipe σ5 vs = L2.wipe σ vs := by
        rw [hw vs hjs]
        exact List.ext_getElem? fun j => by
          have wl : (L2.wipe (L2.wipe σ vs) vs).length = (L2.wipe σ vs).length := wipe_length _ _
          have e1 : sv (L2.wipe (L2.wipe σ vs) vs) j = sv (L2.wipe σ vs) j := by
            rw [sv_wipe]
            by_cases m : j ∈ vs
            · rw [if_pos m, sv_wipe, if_pos m]
            · rw [if_neg m]
          unfold sv at e1
          by_cases hj : j < (L2.wipe σ vs).length
          · rw [List.getElem?_eq_getElem (by rw [wl]; exact hj), List.getElem?_eq_getElem hj] at e1 ⊢
            exact congrArg some e1
          · rw [List.getElem?_eq_none (by rw [wl]; omega), List.getElem?_eq_none (by omega)]
      refine ⟨hw5, mt F5 H5 σ5 _ (Same.trans s04 s5) R5 fun b H6 F6 ρ6 s6 R6 kb => ?_⟩
      cases b with
      | true =>
        refine kb F6 H6 σ5 _ (Same.trans s04 (Same.trans s5 s6)) R6 fun v H7 F7 y ρ7 s7 R7 r7 fz => ?_
        obtain ⟨e, ρ8, F8, s8, R8, r8, hl8, q8⟩ := frz_of R7 r7 fz
        have R9 := RS.unwipe R4 R8 (Same.trans s5 (Same.trans s6 (Same.trans s7 s8))) hw5 rfl hl8 h0 hm
        refine ⟨us, R9.oh l _ upd_same, ?_, F8, _, acc ++ [e], us ++ [v], Same.trans s3 (Same.trans s4 (Same.trans s5 (Same.trans s6 (Same.trans s7 s8)))), R9.turn nx_lst, (ra.mono (Same.trans s4 (Same.trans s5 (Same.trans s6 (Same.trans s7 s8))))).append (.one r8), by rw [List.length_append]; exact Nat.succ_le_succ hacc, q8⟩
        rw [ra.length]
        exact Nat.lt_of_le_of_lt (Nat.le_trans hacc hi) (Nat.lt_of_le_of_lt hds (by decide))
      | false =>
        have R9 := RS.unwipe R4 R6 (Same.trans s5 s6) hw5 rfl kb.1 h0 hm
        exact ⟨F6, _, acc, us, Same.trans s3 (Same.trans s4 (Same.trans s5 s6)), R9, ra.mono (Same.trans s4 (Same.trans s5 s6)), Nat.le_succ_of_le hacc, kb.2⟩
    · have e : i = ds.length := by omega
      subst e
      obtain ⟨b1, b2, b3, b4⟩ := R3.back hOl
      exact .inl ⟨w1 (Nat.le_refl _), c l H1 F3 (.lst acc) ρ3 (Same.trans s2 s3) b1 ⟨b2, hOl, b4, us, b3, ra⟩ (ie acc ρ3 q3)⟩
/-- .. each element told by itself -/
theorem mf_lcM (js : List Nat) (P : D → Bool) (Fn : D → D) (hjs : ∀ j ∈ js, j ∈ vs := by decide) (h0 : 0 ∉ vs := by decide) (k : Mi K O F0 wi ρ fun ds ρ1 => ds.length ≤ 10000 ∧ (∀ v ∈ vs, (sl ρ1 v).mut = false) ∧
    (∀ d ∈ ds, ∀ (oo : Hp) (ww : Option V), Mg K ⟨oo, ww, O.T⟩ F0 g js d (wipeR ρ1 vs) fun ρ3 => ρ3.length = ρ1.length ∧ rst ρ3 ρ1 vs = ρ1 ∧ Mt K ⟨oo, ww, O.T⟩ F0 tt ρ3 fun b ρ4 => ρ4 = ρ3 ∧ b = P d ∧ (b = true → Me K ⟨oo, ww, O.T⟩ F0 tb ρ4 fun y ρ5 => y = .val (Fn d) ∧ ρ5 = ρ3)) ∧
    QF (.lst ((ds.filter P).map Fn)) ρ1) : Mf K O F0 (tLc wi g tt tb vs) ρ QF := by
  refine mf_lc js hjs h0 fun F H σ R s R0 c => k F H σ R s R0 fun J H2 F2 ds ρ2 s2 R2 wd ⟨hds, hm, hb, q⟩ => c J H2 F2 ds ρ2 s2 R2 wd ⟨hds, fun i acc ρ3 => ρ3 = ρ2 ∧ acc = ((ds.take i).filter P).map Fn, ⟨rfl, rfl⟩, fun i d acc ρ3 hd hacc ⟨e1, e2⟩ => ?_, fun acc ρ3 ⟨e1, e2⟩ => ?_⟩
  · subst e1
    refine ⟨hm, fun oo ww => ?_⟩
    intro F H σ v Qs sa Ra ra ca
    refine hb d (List.mem_of_getElem? hd) oo ww F H σ v Qs sa Ra ra fun F2 H2 σ2 ρ4 sb Rb wb ⟨l1, l2, mt⟩ => ca F2 H2 σ2 ρ4 sb Rb wb ⟨l1, ?_⟩
    intro F H σ Qh sc Rc cc
    refine mt F H σ Qh sc Rc fun b H3 F3 ρ5 sd Rd ⟨e3, e4, me⟩ => cc b H3 F3 ρ5 sd Rd ?_
    subst e3
    have ht : ds.take (i + 1) = ds.take i ++ [d] := by
      rw [List.take_add_one, hd]; rfl
    cases b with
    | true =>
      show Me K ⟨oo, ww, O.T⟩ F0 tb ρ5 _
      intro F H σ Qh se Re ce
      refine me rfl F H σ Qh se Re fun v H4 F4 y ρ6 sf Rf rf ⟨e5, e6⟩ => ce v H4 F4 y ρ6 sf Rf rf ?_
      subst e5 e6
      refine ⟨l1, l2, ?_⟩
      rw [ht, List.filter_append, List.map_append, e2]
      simp only [List.filter, ← e4, List.map]
    | false =>
      refine ⟨l1, l2, ?_⟩
      rw [ht, List.filter_append, List.map_append, e2]
      simp only [List.filter, ← e4, List.map, List.append_nil]
  · subst e1 e2
    rw [List.take_length]
    exact q
theorem mi_list (k : Me K O F0 te ρ fun x ρ1 => Frz x ρ1 fun d ρ2 => ∃ ds, d = .lst ds ∧ QL ds ρ2) : Mi K O F0 (iList K te) ρ QL := fun F H σ R s R0 c =>
  k F H σ _ s R0 fun v H1 F1 x ρ1 s1 R1 r1 k1 => by
    obtain ⟨d, ρ2, F2, s2, R2, r2, ds, rfl, q⟩ := frz_of R1 r1 k1
    obtain ⟨a, xs, rfl, ha, rx⟩ := r2.lstP
    have ha : SqL K F2 a xs := SqL.of ha
    refine ⟨a, rfl, ⟨xs, Same.seq R2.fh ha⟩, c _ H1 F2 ds ρ2 (Same.trans s1 s2) R2 (fun O2 i F3 H3 σ3 ρ3 s3 R3 => ?_) q⟩
    have hs : SqL K H3 a xs := Same.seq R3.fh (Same.seq s3 ha)
    refine ⟨fun hi => ⟨xs, hs, by rw [rx.length]; exact hi⟩, fun d hd => ?_⟩
    obtain ⟨v, hv, rv⟩ := rx.at hd
    refine ⟨⟨xs, v, hs, hv⟩, fun x H4 y => ?_⟩
    obtain ⟨rfl, y⟩ := y
    have := y xs hs
    rw [hv] at this
    cases this
    exact ⟨F3, Same.refl _, R3, rv.mono s3⟩
theorem mi_tup (k : Me K O F0 te ρ fun x ρ1 => Frz x ρ1 fun d ρ2 => ∃ ds, d = .tup ds ∧ QL ds ρ2) : Mi K O F0 (iTup K te) ρ QL := fun F H σ R s R0 c =>
  k F H σ _ s R0 fun v H1 F1 x ρ1 s1 R1 r1 k1 => by
    obtain ⟨d, ρ2, F2, s2, R2, r2, ds, rfl, q⟩ := frz_of R1 r1 k1
    obtain ⟨a, xs, rfl, ha, rx⟩ := r2.tupP
    refine ⟨a, rfl, ⟨xs, sqt_same R2.fh ha⟩, c _ H1 F2 ds ρ2 (Same.trans s1 s2) R2 (fun O2 i F3 H3 σ3 ρ3 s3 R3 => ?_) q⟩
    have hs : SqT K H3 a xs := sqt_same R3.fh (sqt_same s3 ha)
    refine ⟨fun hi => ⟨xs, hs, by rw [rx.length]; exact hi⟩, fun d hd => ?_⟩
    obtain ⟨v, hv, rv⟩ := rx.at hd
    refine ⟨⟨xs, v, hs, hv⟩, fun x H4 y => ?_⟩
    obtain ⟨rfl, y⟩ := y
    have := y xs hs
    rw [hv] at this
    cases this
    exact ⟨F3, Same.refl _, R3, rv.mono s3⟩
def rngD (lo : Int) (n : Nat) : List D := (List.range n).map fun (i : Nat) => D.int (lo + (i : Int))
theorem mi_rng1 (k : Ma K O F0 tA ρ fun xs ρ1 => ∃ j : Int, xs = [.val (.int j)] ∧ (-1000000 ≤ j ∧ j ≤ 1000000) ∧ QL (rngD 0 j.toNat) ρ1) : Mi K O F0 (iRng1 tA) ρ QL := fun F H σ R s R0 c =>
  k F H σ _ s R0 fun vs H1 F1 xs ρ1 s1 R1 r1 ⟨j, e, hj, q⟩ => by
    subst e
    match vs, r1 with
    | [v], r1 =>
    obtain ⟨r1, _⟩ := r1
    cases r1
    · refine ⟨j, rfl, by omega, by omega, c _ H1 F1 _ ρ1 s1 R1 (fun O2 i F3 H3 σ3 ρ3 s3 R3 => ?_) q⟩
      have hl : (rngD 0 j.toNat).length = j.toNat := by unfold rngD; rw [List.length_map, List.length_range]
      refine ⟨fun hi => by rw [hl] at hi; exact hi, fun d hd => ?_⟩
      have hi : i < j.toNat := by rw [← hl]; exact (List.getElem?_eq_some_iff.mp hd).1
      refine ⟨hi, fun x H4 y => ?_⟩
      obtain ⟨rfl, rfl⟩ := y
      refine ⟨F3, Same.refl _, R3, ?_⟩
      unfold rngD at hd
      rw [List.getElem?_map, List.getElem?_range hi] at hd
      cases hd
      exact .int _
end
end SJ
namespace SJ
open PySem PySem.Spec PyProof.Rows L2 He
abbrev XP := Str → List (Str × D) → Ro → Prop
def spS (K : PySem.W.Frag) (T : List (Addr × Str)) (M : Ro → (D → Ro → Prop) → XP → Prop) : Sp := fun vs H Q E => ∃ (O : Oc) (F : Hp) (ρ : Ro), O.T = T ∧ RS K O F H (vs.map some) ρ ∧
  M ρ (fun d ρ2 => ∀ v H2 F2, Same F F2 → RS K O F2 H2 (vs.map some) ρ2 → Rep K F2 v d → Q v H2)
    (fun c fs ρ2 => ∀ dd H2 F2 fvs, Same F F2 → H2 dd = some (.xd fvs) → RS K { O with o := upd O.o dd (.xd fvs) } F2 H2 (vs.map some) ρ2 → O.o dd = none → RepP K F2 fvs fs → E (.ref (ga K c)) (some dd) H2)
abbrev PD := List D → (D → Prop) → (Str → List (Str × D) → Prop) → Prop
/-- all parameters are plain values -/
def pu (P : PD) : Ro → (D → Ro → Prop) → XP → Prop := fun ρ Q E => ∃ ds Qd Ed, ρ = ds.map Sl.val ∧ P ds Qd Ed ∧ (∀ d, Qd d → Q d ρ) ∧ ∀ c fs, Ed c fs → E c fs ρ
/-- the first is a pen -/
def pp (P : Nat → List D → (D → Nat → Prop) → Prop) : Ro → (D → Ro → Prop) → XP → Prop := fun ρ Q _ => ∃ n ds Qd, ρ = .pen n :: ds.map Sl.val ∧ P n ds Qd ∧ ∀ d m, Qd d m → Q d (.pen m :: ds.map Sl.val)
/-- the first is an object that is being made -/
def pin (P : Str → List D → (List (Str × D) → Prop) → (Str → List (Str × D) → Prop) → Prop) : Ro → (D → Ro → Prop) → XP → Prop := fun ρ Q E => ∃ c ds Qd Ed, ρ = .own (.obj c []) :: ds.map Sl.val ∧ P c ds Qd Ed ∧ (∀ fs, Qd fs → Q .non (.own (.obj c fs) :: ds.map Sl.val)) ∧ ∀ c2 fs, Ed c2 fs → E c2 fs ρ
section
variable {K : PySem.W.Frag} {O : Oc} {F0 F F2 F3 H H2 H3 : Hp} {σ σ2 : L2.St} {ρ ρ2 : Ro} {Q : X → Ro → Prop} {QT : Bool → Ro → Prop} {QA : List X → Ro → Prop} {QF : D → Ro → Prop} {ta tb te to : TE} {t u tt : TT} {tA tK : TA} {ts tz : TS} {r : R2} {N : Hn} {n i : Nat} {x y : X} {d : D} {g : TG} {wi : TI} {p : Addr} {o o2 : HO} {vs : List V} {ds : List D} {s : Sl} {W : WX} {Xp : XP}
theorem sl_vals {i : Nat} : sl (ds.map Sl.val) i = match ds[i]? with | some d => .val d | none => .none := by
  unfold sl
  rw [List.getElem?_map]
  cases ds[i]? <;> rfl
theorem vals_mut : (sl (ds.map Sl.val) i).mut = false := by
  rw [sl_vals]
  cases ds[i]? <;> rfl
theorem sv_map {i : Nat} : sv (vs.map some) i = vs[i]? := by
  unfold sv
  rw [List.getElem?_map]
  cases vs[i]? <;> rfl
theorem vals_ok {O2 : Hp} (h : RepL K F vs ds) : SlOk K O2 F H (sv (vs.map some) i) (sl (ds.map Sl.val) i) := by
  rw [sl_vals]
  cases e : ds[i]? with
  | none => trivial
  | some d =>
    obtain ⟨v, hv, r⟩ := h.at e
    exact ⟨v, by rw [sv_map, hv], r⟩
/-- a table or a code object -/
def tx : Option HO → Bool
  | some (.tbl _) => true
  | some (.ext _) => true
  | _ => false
theorem nx_of {o : HO} (h : tx (some o) = false) : NX o := ⟨(fun ps z => by rw [z] at h; cases h), (fun φ z => by rw [z] at h; cases h)⟩
theorem tx_no {a : Addr} {q : Oc} (R : RS K q F H σ ρ) (h : tx (H a) = true) : q.o a = none ∧ True ∧ ∀ i, (sl ρ i).mut = true → sv σ i ≠ some (.ref a) := by
  have k : ∀ o, H a = some o → NX o → False := fun o e n => by
    rw [e] at h
    cases o with
    | tbl ps => exact n.1 ps rfl
    | ext φ => exact n.2 φ rfl
    | _ => cases h
  refine ⟨?_, ?_, fun i m e => ?_⟩
  · cases z : q.o a with
    | none => rfl
    | some o => exact (k o (R.oh _ _ z) (R.ot _ _ z)).elim
  · trivial
  · obtain ⟨b, h1, _, _, h4⟩ := R.owned m
    rw [h1] at e
    cases e
    obtain ⟨o, e1, e2⟩ := h4.nx
    exact k o e1 e2
/-- the heap beside F and p -/
def beside (F H : Hp) (q : Addr → Bool) : Hp := fun a => match F a with
  | some _ => none
  | none => if q a then none else H a
theorem beside_some {q : Addr → Bool} {a : Addr} (h : beside F H q a = some o) : F a = none ∧ q a = false ∧ H a = some o := by
  unfold beside at h
  cases e : F a with
  | some z => rw [e] at h; cases h
  | none =>
    rw [e] at h
    cases e2 : q a with
    | true => simp only [e2, if_true] at h; cases h
    | false => simp only [e2] at h; exact ⟨rfl, rfl, h⟩
theorem beside_of {q : Addr → Bool} {a : Addr} (hF : F a = none) (hq : q a = false) (h : H a = some o) : beside F H q a = some o := by
  unfold beside
  rw [hF]
  simp only [hq]
  exact h
theorem beside_none {q : Addr → Bool} {a : Addr} (h : beside F H q a = none) (hF : F a = none) (hq : q a = false) : H a = none := by
  unfold beside at h
  rw [hF] at h
  simp only [hq] at h
  exact h
/-- the callee's view, all arguments plain -/
theorem RS.enter (R : RS K O F H σ ρ) (rv : RepL K F vs ds) : RS K ⟨beside F H fun a => tx (H a), none, O.T⟩ F H (vs.map some) (ds.map Sl.val) :=
  { fh := R.fh, oh := (fun a o (e : beside F H (fun a => tx (H a)) a = some o) => (beside_some e).2.2), dj := (fun a o (e : beside F H (fun a => tx (H a)) a = some o) => (beside_some e).1), tb := R.tb, ot := (fun a o (e : beside F H (fun a => tx (H a)) a = some o) => by
      obtain ⟨e1, e2, e3⟩ := beside_some e
      have e2 : tx (H a) = false := e2
      rw [e3] at e2
      exact nx_of e2), ft := R.ft, w0 := (fun v (e : (none : Option V) = some v) => nomatch e), len := (by rw [List.length_map, List.length_map, rv.length]), at_ := (fun i => vals_ok rv), ne := (fun i j a ij mi => by rw [vals_mut] at mi; cases mi) }
theorem RS.after_ {O2 : Oc} {σ2 : L2.St} {q : Addr → Bool} (R : RS K O F H σ ρ) (C : RS K O2 F2 H2 σ2 ρ2) (g : Same F F2) (h : Same (beside F H q) O2.o) (hT : O2.T = O.T) (hq : ∀ a, q a = true → H a = none ∨ (O.o a = none ∧ ∀ i, (sl ρ i).mut = true → sv σ i ≠ some (.ref a))) : RS K O F2 H2 σ ρ := by
  have key : ∀ a o, H a = some o → F a = none → (O.o a ≠ none ∨ ∃ i, (sl ρ i).mut = true ∧ sv σ i = some (.ref a)) → H2 a = some o ∧ F2 a = none := fun a o ha hf hx => by
    have e : q a = false := by
      cases e : q a with
      | false => rfl
      | true =>
        rcases hq a e with z | ⟨z1, z2⟩
        · rw [z] at ha; cases ha
        · rcases hx with y | ⟨i, y1, y2⟩
          · exact absurd z1 y
          · exact absurd y2 (z2 i y1)
    have b := h a o (beside_of hf e ha)
    exact ⟨C.oh a o b, C.dj a o b⟩
  refine ⟨C.fh, fun a o e => (key a o (R.oh a o e) (R.dj a o e) (.inl (by rw [e]; simp))).1, fun a o e => (key a o (R.oh a o e) (R.dj a o e) (.inl (by rw [e]; simp))).2, (by rw [← hT]; exact C.tb), R.ot, C.ft, R.w0, R.len, fun i => ?_, R.ne⟩
  by_cases m : (sl ρ i).mut = true
  · obtain ⟨a, h1, h2, h3, h4⟩ := R.owned m
    obtain ⟨o, ho⟩ := h4.some
    obtain ⟨k1, k2⟩ := key a o ho h2 (.inr ⟨i, m, h1⟩)
    exact SlOk.of_mut m h1 k2 h3 (h4.mono (by rw [k1, ho]) g)
  · exact (R.at_ i).mono (by cases q : (sl ρ i).mut with | true => exact absurd q m | false => rfl) g
theorem RS.after {σ2 : L2.St} (R : RS K O F H σ ρ) (C : RS K ⟨beside F H fun a => tx (H a), none, O.T⟩ F2 H2 σ2 ρ2) (g : Same F F2) : RS K O F2 H2 σ ρ := R.after_ C g (Same.refl _) rfl fun a e => .inr ⟨(tx_no R e).1, (tx_no R e).2.2⟩
theorem RS.afterX {σ2 : L2.St} {dd : Addr} {xo : HO} {O2 : Hp} {q : Addr → Bool} (R : RS K O F H σ ρ) (C : RS K ⟨upd O2 dd xo, none, O.T⟩ F2 H2 σ2 ρ2) (g : Same F F2) (hd : O2 dd = none) (h : Same (beside F H q) O2) (hq : ∀ a, q a = true → H a = none ∨ (O.o a = none ∧ ∀ i, (sl ρ i).mut = true → sv σ i ≠ some (.ref a)))
    (hqd : q dd = true → O.o dd = none ∧ ∀ i, (sl ρ i).mut = true → sv σ i ≠ some (.ref dd)) : RS K { O with o := upd O.o dd xo } F2 H2 σ ρ ∧ O.o dd = none := by
  have s2 : Same O2 (upd O2 dd xo) := Same.upd (Same.refl _) hd
  have R2 := R.after_ C g (Same.trans h s2) rfl hq
  have f2 : F2 dd = none := C.dj dd xo upd_same
  have f1 : F dd = none := Same.free g f2
  have h1 : O.o dd = none ∧ ∀ i, (sl ρ i).mut = true → sv σ i ≠ some (.ref dd) := by
    cases e : q dd with
    | true => exact hqd e
    | false =>
      have h2 : H dd = none := beside_none (q := q) (Same.free h hd) f1 e
      exact ⟨(R.free h2).2, R.no_new h2⟩
  exact ⟨R2.out (C.oh dd xo upd_same) (C.ot dd xo upd_same) f2 h1.2, h1.1⟩
/-- f(a ..), all of them plain -/
theorem call_pu {P : PD} {Qh : VK} {Qd : D → Prop} {Ed : Str → List (Str × D) → Prop} (R : RS K O F H σ ρ) (s : Same F0 F) (hW : Wr K O F0 W Xp) (rv : RepL K F vs ds) (h : P ds Qd Ed) (hq : ∀ d, Qd d → ∀ v H2 F2, Same F F2 → RS K O F2 H2 σ ρ → Rep K F2 v d → Qh v H2) (he : ∀ c fs, Ed c fs → Xp c fs ρ) : spS K O.T (pu P) vs H Qh (WE W σ) := by
  refine ⟨⟨beside F H fun a => tx (H a), none, O.T⟩, F, _, rfl, R.enter rv, ds, Qd, Ed, rfl, h, fun d q v H2 F2 s2 C r => hq d q v H2 F2 s2 (R.after C s2) r, fun c fs q dd H2 F2 fvs s2 hd C hn rp => ?_⟩
  obtain ⟨R2, z⟩ := R.afterX C s2 hn (Same.refl _) (fun a e => .inr ⟨(tx_no R e).1, (tx_no R e).2.2⟩) (fun e => ⟨(tx_no R e).1, (tx_no R e).2.2⟩)
  exact hW F2 H2 σ ρ c fs dd fvs (Same.trans s s2) hd R2 z rp (he c fs q)
theorem m_fn {P : PD} (hW : Wr K O F0 W Xp) (k : Ma K O F0 tA ρ fun xs ρ1 => FrzL xs ρ1 fun ds ρ2 => P ds (fun d => Q (.val d) ρ2) fun c fs => Xp c fs ρ2) : Me K O F0 (tFn (spS K O.T (pu P)) [] W tA) ρ Q := fun F H σ Qh s R c =>
  k F H σ _ s R fun vs H1 F1 xs ρ1 s1 R1 r1 k1 => by
    obtain ⟨ds, ρ2, F2, s2, R2, r2, q⟩ := frzL_of R1 r1 k1
    rw [List.append_nil]
    exact call_pu R2 (Same.trans s (Same.trans s1 s2)) hW r2 q (fun d qd v H3 F3 s3 R3 r3 => c v H3 F3 (.val d) ρ2 (Same.trans s1 (Same.trans s2 s3)) R3 r3 qd) fun _ _ z => z
theorem wr0 : Wr K O F0 W0 fun _ _ _ => False := fun _ _ _ _ _ _ _ _ _ _ _ _ _ z => z
theorem RS.start {Nm : List Str} (R : RS K O F H (vs.map some) ρ) : RS K ⟨O.o, vs.head?, O.T⟩ F H (start Nm vs) (ρ ++ List.replicate (Nm.length - ρ.length) .none) := by
  have hl : vs.length = ρ.length := by have := R.len; rwa [List.length_map] at this
  have e1 : ∀ i, sv (L2.start Nm vs) i = sv (vs.map some) i := fun i => by
    unfold sv L2.start
    by_cases h : i < (vs.map some).length
    · rw [List.getElem?_append_left h]
    · rw [List.getElem?_append_right (by omega), List.getElem?_eq_none (by omega : (vs.map some).length ≤ i), List.getElem?_replicate]
      split <;> rfl
  have e2 : ∀ i, sl (ρ ++ List.replicate (Nm.length - ρ.length) Sl.none) i = sl ρ i := fun i => by
    unfold sl
    by_cases h : i < ρ.length
    · rw [List.getElem?_append_left h]
    · rw [List.getElem?_append_right (by omega), List.getElem?_eq_none (by omega : ρ.length ≤ i), List.getElem?_replicate]
      split <;> rfl
  refine ⟨R.fh, R.oh, R.dj, R.tb, R.ot, R.ft, fun v e => ?_, ?_, fun i => ?_, fun i j a ij mi mj vi vj => ?_⟩
  · rw [e1, sv_map, ← List.head?_eq_getElem?]; exact e
  · unfold L2.start; rw [List.length_append, List.length_append, List.length_map, List.length_replicate, List.length_replicate, hl]
  · rw [e1, e2]; exact R.at_ i
  · rw [e2] at mi mj; rw [e1] at vi vj; exact R.ne i j a ij mi mj vi vj
theorem RS.stopV {O2 : Oc} (R : RS K O F H (vs.map some) ρ) (C : RS K O2 F2 H2 σ2 ρ2) (g : Same F F2) (hO : Same O.o O2.o) (hT : O2.T = O.T) (hm : ∀ i, (sl ρ i).mut = false) : RS K O F2 H2 (vs.map some) ρ :=
  ⟨C.fh, Same.trans hO C.oh, fun a o e => C.dj a o (hO _ _ e), (by rw [← hT]; exact C.tb), R.ot, C.ft, R.w0, R.len, fun i => (R.at_ i).mono (hm i) g, fun i j a ij mi => by rw [hm i] at mi; cases mi⟩
theorem RS.stopM {O2 : Oc} {s : Sl} {ds : List D} (R : RS K O F H (vs.map some) (s :: ds.map Sl.val)) (C : RS K O2 F2 H2 σ2 ρ2) (g : Same F F2) (hO : Same O.o O2.o) (hT : O2.T = O.T) (hw : O2.w = vs.head?) : RS K O F2 H2 (vs.map some) (sl ρ2 0 :: ds.map Sl.val) := by
  have tl : ∀ i, sl (sl ρ2 0 :: ds.map Sl.val) (i + 1) = sl (ds.map Sl.val) i := fun i => rfl
  have hv : vs ≠ [] := fun e => by have := R.len; rw [e] at this; cases this
  obtain ⟨v, us, rfl⟩ := List.exists_cons_of_ne_nil hv
  have e0 : sv σ2 0 = some v := C.w0 v hw
  refine ⟨C.fh, Same.trans hO C.oh, fun a o e => C.dj a o (hO _ _ e), (by rw [← hT]; exact C.tb), R.ot, C.ft, R.w0, R.len, fun i => ?_, fun i j a ij mi mj => ?_⟩
  · cases i with
    | zero =>
      show SlOk K O.o F2 H2 (some v) (sl ρ2 0)
      have q := C.at_ 0
      rw [e0] at q
      by_cases m : (sl ρ2 0).mut = true
      · obtain ⟨b, q1, q2, q3, q4⟩ := q.mut_of m
        exact SlOk.of_mut m q1 q2 (Same.free hO q3) q4
      · exact q.mono (by cases q : (sl ρ2 0).mut with | true => exact absurd q m | false => rfl) (Same.refl _)
    | succ i =>
      have q := R.at_ (i + 1)
      have e : sl (s :: ds.map Sl.val) (i + 1) = sl (ds.map Sl.val) i := rfl
      rw [e] at q
      rw [tl]
      exact q.mono vals_mut g
  · cases i with
    | zero =>
      cases j with
      | zero => exact absurd rfl ij
      | succ j => rw [tl, vals_mut] at mj; cases mj
    | succ i => rw [tl, vals_mut] at mi; cases mi
/-- the body of a def whose parameters are plain -/
theorem body_pu {T : List (Addr × Str)} {P : PD} {Nm : List Str} {ts : TS} {Qh : VK} {E : XK} (h : spS K T (pu P) vs H Qh E)
    (k : ∀ (o : Hp) (w : Option V) (F0 : Hp) (ds : List D) (Qd : D → Prop) (Ed : Str → List (Str × D) → Prop), P ds Qd Ed → Wr K ⟨o, w, T⟩ F0 (WO E) (fun c fs _ => Ed c fs) →
      Ms K ⟨o, w, T⟩ F0 ts (ds.map Sl.val ++ List.replicate (Nm.length - ds.length) .none) { nx := fun _ => Qd .non, rt := fun d _ => Qd d }) : ts { nx := fun _ H2 => Qh .non H2, rt := Qh } (start Nm vs) H := by
  obtain ⟨O, F, ρ, rfl, R, ds, Qd, Ed, rfl, hp, q1, q2⟩ := h
  have R1 := R.start (Nm := Nm)
  rw [List.length_map] at R1
  refine k O.o vs.head? F ds Qd Ed hp (fun F2 H2 σ2 ρ2 c fs dd fvs s2 hd C hn rp e => ?_) F H _ _ (Same.refl _) R1 ⟨fun F2 H2 σ2 ρ2 s2 C q => ?_, fun F2 H2 σ2 ρ2 v d s2 C r q => ?_, fun _ _ _ _ _ _ z => z, fun _ _ _ _ _ _ z => z, fun _ _ _ _ _ _ _ _ _ z => z.elim⟩
  · refine q2 c fs e dd H2 F2 fvs s2 hd ?_ hn rp
    have R3 : RS K O F2 H2 (vs.map some) (ds.map Sl.val) := R.stopV C s2 (Same.upd (Same.refl _) hn) rfl fun i => vals_mut
    exact R3.out hd nx_xd (C.dj dd _ upd_same) fun i m => by rw [vals_mut] at m; cases m
  · exact q1 .non q .non H2 F2 s2 (R.stopV C s2 (Same.refl _) rfl fun i => vals_mut) .non
  · exact q1 d q v H2 F2 s2 (R.stopV C s2 (Same.refl _) rfl fun i => vals_mut) r
theorem len_pu {T : List (Addr × Str)} {P : PD} {Qh : VK} {E : XK} {n : Nat} (hn : ∀ ds Q E, P ds Q E → ds.length = n) (h : spS K T (pu P) vs H Qh E) : vs.length = n := by
  obtain ⟨O, F, ρ, rfl, R, ds, Qd, Ed, rfl, hp, q1, q2⟩ := h
  have := R.len
  rw [List.length_map, List.length_map] at this
  rw [this, hn ds Qd Ed hp]
theorem RS.lose (R : RS K O F H σ ρ) : RS K O F H σ (ρ.set i .none) := by
  refine ⟨R.fh, R.oh, R.dj, R.tb, R.ot, R.ft, R.w0, by rw [List.length_set, R.len], fun j => ?_, fun j l a jl mj ml vj vl => ?_⟩
  · rw [sl_set0 (fun _ => rfl)]
    by_cases e : j = i
    · rw [if_pos e]; trivial
    · rw [if_neg e]; exact R.at_ j
  · rw [sl_set0 (fun _ => rfl)] at mj ml
    by_cases e : j = i
    · rw [if_pos e] at mj; cases mj
    · by_cases e2 : l = i
      · rw [if_pos e2] at ml; cases ml
      · rw [if_neg e] at mj; rw [if_neg e2] at ml; exact R.ne j l a jl mj ml vj vl
theorem RS.lost (R : RS K O F H σ ρ) (m : (sl ρ i).mut = true) (hp : sv σ i = some (.ref p)) : ∀ j, (sl (ρ.set i .none) j).mut = true → sv σ j ≠ some (.ref p) := fun j mj e => by
  rw [sl_set0 (fun _ => rfl)] at mj
  by_cases z : j = i
  · rw [if_pos z] at mj; cases mj
  · rw [if_neg z] at mj; exact R.ne j i p z mj m e hp
theorem RS.regain (R : RS K O F H σ (ρ.set i .none)) (hi : i < ρ.length) (hp : sv σ i = some (.ref p)) (m : s.mut = true) (hF : F p = none) (hO : O.o p = none) (h : MutOk K F H p s) (hx : ∀ j, (sl (ρ.set i .none) j).mut = true → sv σ j ≠ some (.ref p)) : RS K O F H σ (ρ.set i s) := by
  refine ⟨R.fh, R.oh, R.dj, R.tb, R.ot, R.ft, R.w0, by rw [R.len, List.length_set, List.length_set], fun j => ?_, fun j l a jl mj ml vj vl => ?_⟩
  · rw [sl_set hi]
    by_cases e : j = i
    · rw [if_pos e, e, hp]; exact SlOk.of_mut m rfl hF hO h
    · have q := R.at_ j
      rw [sl_set hi, if_neg e] at q
      rw [if_neg e]; exact q
  · rw [sl_set hi] at mj ml
    by_cases e : j = i
    · by_cases e2 : l = i
      · exact jl (e.trans e2.symm)
      · rw [if_neg e2] at ml
        rw [e, hp] at vj
        cases vj
        exact hx l (by rw [sl_set hi, if_neg e2]; exact ml) vl
    · rw [if_neg e] at mj
      by_cases e2 : l = i
      · rw [e2, hp] at vl
        cases vl
        exact hx j (by rw [sl_set hi, if_neg e]; exact mj) vj
      · rw [if_neg e2] at ml
        exact R.ne j l a jl (by rw [sl_set hi, if_neg e]; exact mj) (by rw [sl_set hi, if_neg e2]; exact ml) vj vl
theorem RS.enterM (R : RS K O F H σ ρ) (rv : RepL K F vs ds) (m : s.mut = true) (hF : F p = none) (h : MutOk K F H p s) : RS K ⟨beside F H fun a => tx (H a) || decide (a = p), none, O.T⟩ F H ((V.ref p :: vs).map some) (s :: ds.map Sl.val) := by
  have tl : ∀ i, sl (s :: ds.map Sl.val) (i + 1) = sl (ds.map Sl.val) i := fun i => rfl
  refine ⟨R.fh, fun a o (e : beside F H (fun a => tx (H a) || decide (a = p)) a = some o) => (beside_some e).2.2, fun a o (e : beside F H (fun a => tx (H a) || decide (a = p)) a = some o) => (beside_some e).1, R.tb, fun a o (e : beside F H (fun a => tx (H a) || decide (a = p)) a = some o) => ?_, R.ft, (fun v (e : (none : Option V) = some v) => nomatch e), by rw [List.length_map, List.length_cons, List.length_cons, List.length_map, rv.length], fun i => ?_, fun i j a ij mi mj => ?_⟩
  · obtain ⟨e1, e2, e3⟩ := beside_some e
    have e2 := (Bool.or_eq_false_iff.mp e2).1
    rw [e3] at e2
    exact nx_of e2
  · cases i with
    | zero =>
      refine SlOk.of_mut m rfl hF ?_ h
      show beside F H (fun a => tx (H a) || decide (a = p)) p = none
      cases e : beside F H (fun a => tx (H a) || decide (a = p)) p with
      | none => rfl
      | some o => have := (Bool.or_eq_false_iff.mp (beside_some e).2.1).2; rw [decide_eq_true rfl] at this; cases this
    | succ i => exact vals_ok rv
  · cases i with
    | zero =>
      cases j with
      | zero => exact absurd rfl ij
      | succ j => rw [tl, vals_mut] at mj; cases mj
    | succ i => rw [tl, vals_mut] at mi; cases mi
theorem RS.afterM {s2 : Sl} (R : RS K O F H σ ρ) (C : RS K ⟨beside F H fun a => tx (H a) || decide (a = p), none, O.T⟩ F2 H2 ((V.ref p :: vs).map some) (s2 :: ρ2)) (g : Same F F2) (hO : O.o p = none) (hx : ∀ i, (sl ρ i).mut = true → sv σ i ≠ some (.ref p)) : RS K O F2 H2 σ ρ ∧ (s2.mut = true → F2 p = none ∧ MutOk K F2 H2 p s2) := by
  refine ⟨R.after_ C g (Same.refl _) rfl fun a e => .inr ?_, fun m => ?_⟩
  · rcases Bool.or_eq_true_iff.mp e with e | e
    · exact ⟨(tx_no R e).1, (tx_no R e).2.2⟩
    · obtain rfl := of_decide_eq_true e
      exact ⟨hO, hx⟩
  · obtain ⟨q, h1, h2, _, h4⟩ := C.owned (i := 0) m
    cases h1
    exact ⟨h2, h4⟩
/-- f(pen, a ..) -/
theorem m_fnP {P : Nat → List D → (D → Nat → Prop) → Prop} (k : Ma K O F0 tA ρ fun xs ρ1 => FrzL xs ρ1 fun ds ρ2 => ∃ n, sl ρ2 i = .pen n ∧ P n ds fun d m => Q (.val d) (ρ2.set i (.pen m))) (e : (sl ρ i).mut = true) : Me K O F0 (tFn (spS K O.T (pp P)) [] W (tCons (tVar i) tA)) ρ Q := fun F H σ Qh s R c => by
  obtain ⟨p, a1, _⟩ := R.owned e
  refine ⟨_, sv_some a1, ?_⟩
  refine k F H σ _ s R fun vs H1 F1 xs ρ1 s1 R1 r1 k1 => ?_
  obtain ⟨ds, ρ2, F2, s2, R2, r2, n, en, q⟩ := frzL_of R1 r1 k1
  rw [List.append_nil]
  have m : (sl ρ2 i).mut = true := by rw [en]; rfl
  obtain ⟨p2, h1, h2, h3, h4⟩ := R2.owned m
  rw [a1] at h1
  cases h1
  rw [en] at h4
  have hi : i < ρ2.length := by
    by_cases z : i < ρ2.length
    · exact z
    · rw [sl_none (by omega)] at m; cases m
  have R3 := R2.lose (i := i)
  have hx := R2.lost m a1
  refine ⟨⟨beside F2 H1 fun a => tx (H1 a) || decide (a = p), none, O.T⟩, F2, _, rfl, R2.enterM r2 rfl h2 h4, n, ds, _, rfl, q, fun d m2 qd v H4 F4 s4 C rv => ?_⟩
  obtain ⟨R4, z⟩ := R3.afterM (O := O) C s4 h3 hx
  obtain ⟨z1, z2⟩ := z rfl
  exact c v H4 F4 (.val d) _ (Same.trans s1 (Same.trans s2 s4)) (R4.regain hi a1 rfl z1 h3 z2 hx) rv qd
/-- C(a ..) -/
theorem call_pin {c : Str} {P : Str → List D → (List (Str × D) → Prop) → (Str → List (Str × D) → Prop) → Prop} {Qh : VK} {Qd : List (Str × D) → Prop} {Ed : Str → List (Str × D) → Prop} (R : RS K O F H σ ρ) (s : Same F0 F) (hW : Wr K O F0 W Xp) (rv : RepL K F vs ds) (h : P c ds Qd Ed)
    (hq : ∀ fs, Qd fs → ∀ v H2 F2, Same F F2 → RS K O F2 H2 σ ρ → Rep K F2 v (.obj c fs) → Qh v H2) (he : ∀ c2 fs, Ed c2 fs → Xp c2 fs ρ) : ∀ xx dx, H xx = none → H dx = none → dx ≠ xx →
      spS K O.T (pin P) (.ref xx :: vs) (upd (upd H dx (.own xx)) xx (.ins (ga K c) dx [])) (fun v H2 => v = .non ∧ Qh (.ref xx) H2) (WE W σ) := fun xx dx hx hd hne => by
  have R1 : RS K O F (upd H dx (.own xx)) σ ρ := R.allocN hd
  have hx1 : upd H dx (.own xx) xx = none := by rw [upd_ne (Ne.symm hne)]; exact hx
  have R2 : RS K O F (upd (upd H dx (.own xx)) xx (.ins (ga K c) dx [])) σ ρ := R1.allocN hx1
  have nx := R1.no_new hx1
  obtain ⟨f1, f2⟩ := R1.free hx1
  refine ⟨⟨beside F (upd (upd H dx (.own xx)) xx (.ins (ga K c) dx [])) fun a => tx (upd (upd H dx (.own xx)) xx (.ins (ga K c) dx []) a) || decide (a = xx), none, O.T⟩, F, _, rfl, R2.enterM rv (s := .own (.obj c [])) rfl f1 ⟨dx, [], upd_same, RepP.nil⟩, c, ds, Qd, Ed, rfl, h, fun fs q v H4 F4 s4 C r4 => ?_, fun c2 fs q dd H4 F4 fvs s4 hdd C hn rp => ?_⟩
  · cases r4
    obtain ⟨R4, z⟩ := R2.afterM C s4 f2 nx
    obtain ⟨z1, z2⟩ := z rfl
    obtain ⟨o, ho, hnx, rp⟩ := Shl.rep (d := .obj c fs) z2 z1
    obtain ⟨R5, s5⟩ := R4.thaw ho hnx z1 f2 nx
    exact ⟨rfl, hq fs q _ _ _ (Same.trans s4 s5) R5 rp⟩
  · have hz := R2.afterX C s4 hn (Same.refl _) (fun a e => .inr (by
      rcases Bool.or_eq_true_iff.mp e with e | e
      · exact ⟨(tx_no R2 e).1, (tx_no R2 e).2.2⟩
      · obtain rfl := of_decide_eq_true e
        exact ⟨f2, nx⟩)) (fun e => by
      rcases Bool.or_eq_true_iff.mp e with e | e
      · exact ⟨(tx_no R2 e).1, (tx_no R2 e).2.2⟩
      · exfalso
        obtain rfl := of_decide_eq_true e
        obtain ⟨b, b1, b2, b3, b4⟩ := C.owned (i := 0) rfl
        cases b1
        cases upd_same.symm.trans b3)
    exact hW F4 H4 σ ρ c2 fs dd fvs (Same.trans s s4) hdd hz.1 hz.2 rp (he c2 fs q)
theorem m_nw {c : Str} {P : Str → List D → (List (Str × D) → Prop) → (Str → List (Str × D) → Prop) → Prop} (hW : Wr K O F0 W Xp) (k : Ma K O F0 tA ρ fun xs ρ1 => FrzL xs ρ1 fun ds ρ2 => P c ds (fun fs => Q (.val (.obj c fs)) ρ2) fun c2 fs => Xp c2 fs ρ2) : Me K O F0 (tNw (ga K c) (spS K O.T (pin P)) [] W tA) ρ Q := fun F H σ Qh s R c =>
  k F H σ _ s R fun vs H1 F1 xs ρ1 s1 R1 r1 k1 => by
    obtain ⟨ds, ρ2, F2, s2, R2, r2, q⟩ := frzL_of R1 r1 k1
    rw [List.append_nil]
    exact call_pin R2 (Same.trans s (Same.trans s1 s2)) hW r2 q (fun fs qd v H3 F3 s3 R3 r3 => c v H3 F3 (.val (.obj _ fs)) ρ2 (Same.trans s1 (Same.trans s2 s3)) R3 r3 qd) fun _ _ z => z
end
end SJ
namespace SJ
open PySem PySem.Spec PyProof.Rows L2 He
def seeD : X → Ro → Option D
  | .val d, _ => some d
  | .slot n, ρ => match sl ρ n with
    | .own d => some d
    | .val d => some d
    | _ => none
section
variable {K : PySem.W.Frag} {O : Oc} {F0 F F2 F3 H H2 H3 : Hp} {σ σ2 : L2.St} {ρ ρ2 : Ro} {Q : X → Ro → Prop} {QT : Bool → Ro → Prop} {QA : List X → Ro → Prop} {QF : D → Ro → Prop} {ta tb te to : TE} {t u tt : TT} {tA tK : TA} {ts tz : TS} {r : R2} {N : Hn} {n : Nat} {x y : X} {d : D} {g : TG} {wi : TI} {p : Addr} {o o2 : HO} {vs : List V} {ds es : List D} {kds : List (Key × D)} {fds : List (Str × D)} {W : WX} {Xp : XP} {i j : Int} {b c : Bool} {s z : Str} {cn : Str} {v : V}
/-- what a value held shows: its parts are frozen -/
theorem look (R : RS K O F H σ ρ) (h : XvR K F σ v x) (e : seeD x ρ = some d) : Rep K F v d ∨ ∃ p, v = .ref p ∧ Shl K F H p d := by
  cases x with
  | val d0 => cases e; exact .inl h
  | slot n =>
    have hv : sv σ n = some v := h
    have a := R.at_ n
    have e : (match sl ρ n with | .own d => some d | .val d => some d | _ => none) = some d := e
    cases es : sl ρ n with
    | none => rw [es] at e; cases e
    | pen k => rw [es] at e; cases e
    | val d0 =>
      rw [es] at e a
      cases e
      obtain ⟨w, a1, a2⟩ := a
      rw [hv] at a1; cases a1
      exact .inl a2
    | own d0 =>
      rw [es] at e a
      cases e
      obtain ⟨p, a1, a2, a3, a4⟩ := a
      rw [hv] at a1; cases a1
      exact .inr ⟨p, rfl, a4⟩
theorem look_raw (R : RS K O F H σ ρ) (h : XvR K F σ v x) (e : seeD x ρ = some (.lst ds)) : ∃ a xs, v = .ref a ∧ H a = some (.lst xs) ∧ RepL K F xs ds := by
  rcases look R h e with q | ⟨p, rfl, vs, h1, h2⟩
  · obtain ⟨a, xs, rfl, h1, h2⟩ := q.lstP; exact ⟨a, xs, rfl, R.fh _ _ h1, h2⟩
  · exact ⟨p, vs, rfl, h1, h2⟩
theorem look_lst (R : RS K O F H σ ρ) (h : XvR K F σ v x) (e : seeD x ρ = some (.lst ds)) : ∃ a xs, v = .ref a ∧ SqL K H a xs ∧ RepL K F xs ds := by
  obtain ⟨a, xs, e1, e2, e3⟩ := look_raw R h e
  exact ⟨a, xs, e1, SqL.of e2, e3⟩
theorem look_tup (R : RS K O F H σ ρ) (h : XvR K F σ v x) (e : seeD x ρ = some (.tup ds)) : ∃ a xs, v = .ref a ∧ SqT K H a xs ∧ RepL K F xs ds := by
  rcases look R h e with q | ⟨p, rfl, q⟩
  · obtain ⟨a, xs, rfl, h1, h2⟩ := q.tupP; exact ⟨a, xs, rfl, sqt_same R.fh h1, h2⟩
  · cases q
theorem look_dct (R : RS K O F H σ ρ) (h : XvR K F σ v x) (e : seeD x ρ = some (.dct kds)) : ∃ a kvs, v = .ref a ∧ H a = some (.dK kvs) ∧ RepP K F kvs kds := by
  rcases look R h e with q | ⟨p, rfl, vs, h1, h2⟩
  · cases q with
    | dct h1 h2 h3 => exact ⟨_, _, rfl, R.fh _ _ h1, h2, h3⟩
  · exact ⟨p, vs, rfl, h1, h2⟩
theorem look_obj (R : RS K O F H σ ρ) (h : XvR K F σ v x) (e : seeD x ρ = some (.obj cn fds)) : ∃ a dx fs, v = .ref a ∧ H a = some (.ins (ga K cn) dx fs) ∧ RepP K F fs fds := by
  rcases look R h e with q | ⟨p, rfl, dx, vs, h1, h2⟩
  · obtain ⟨a, dx, fs, rfl, h1, h2⟩ := q.objP; exact ⟨a, dx, fs, rfl, R.fh _ _ h1, h2⟩
  · exact ⟨p, dx, vs, rfl, h1, h2⟩
theorem look_int (h : XvR K F σ v (.val (.int i))) : v = .int i := by cases (show Rep K F v (.int i) from h); rfl
theorem look_str (h : XvR K F σ v (.val (.str s))) : v = .str s := by cases (show Rep K F v (.str s) from h); rfl
theorem look_bl (h : XvR K F σ v (.val (.bl b))) : v = .bl b := by cases (show Rep K F v (.bl b) from h); rfl
theorem look_non (h : XvR K F σ v (.val .non)) : v = .non := by cases (show Rep K F v .non from h); rfl
theorem r_addI (k : Q (.val (.int (i + j))) ρ) : Mr K O F0 (rAdd K) (.val (.int i)) (.val (.int j)) ρ Q := fun F H σ u v Qh _ R hu hv q => by
  rw [look_int hu, look_int hv]; exact x_addI (q _ H F (.val (.int (i + j))) ρ (Same.refl _) R (Rep.int _) k)
theorem r_subI (k : Q (.val (.int (i - j))) ρ) : Mr K O F0 rSub (.val (.int i)) (.val (.int j)) ρ Q := fun F H σ u v Qh _ R hu hv q => by
  rw [look_int hu, look_int hv]; exact x_sub' (q _ H F (.val (.int (i - j))) ρ (Same.refl _) R (Rep.int _) k)
theorem r_mod (h : 0 < j) (k : Q (.val (.int (i % j))) ρ) : Mr K O F0 rMod (.val (.int i)) (.val (.int j)) ρ Q := fun F H σ u v Qh _ R hu hv q => by
  rw [look_int hu, look_int hv]; exact x_mod h (q _ H F (.val (.int (i % j))) ρ (Same.refl _) R (Rep.int _) k)
theorem r_fdv (h : 0 < j) (h2 : j < 1073741824) (k : Q (.val (.int (i / j))) ρ) : Mr K O F0 rFdv (.val (.int i)) (.val (.int j)) ρ Q := fun F H σ u v Qh _ R hu hv q => by
  rw [look_int hu, look_int hv]; exact x_fdv h h2 (q _ H F (.val (.int (i / j))) ρ (Same.refl _) R (Rep.int _) k)
theorem r_addS (h : s.length + z.length ≤ 1000) (k : Q (.val (.str (s ++ z))) ρ) : Mr K O F0 (rAdd K) (.val (.str s)) (.val (.str z)) ρ Q := fun F H σ u v Qh _ R hu hv q => by
  rw [look_str hu, look_str hv]; exact x_addS h (q _ H F (.val (.str (s ++ z))) ρ (Same.refl _) R (Rep.str _) k)
theorem r_eqI (k : Q (.val (.bl (decide (i = j)))) ρ) : Mr K O F0 (rEqU K) (.val (.int i)) (.val (.int j)) ρ Q := fun F H σ u v Qh _ R hu hv q => by
  rw [look_int hu, look_int hv]; exact x_eqI (q _ H F (.val (.bl _)) ρ (Same.refl _) R (Rep.bl _) k)
theorem r_neI (k : Q (.val (.bl (!decide (i = j)))) ρ) : Mr K O F0 (rNeU K) (.val (.int i)) (.val (.int j)) ρ Q := fun F H σ u v Qh _ R hu hv q => by
  rw [look_int hu, look_int hv]; exact x_neI (q _ H F (.val (.bl _)) ρ (Same.refl _) R (Rep.bl _) k)
theorem r_eqS (k : Q (.val (.bl (decide (s = z)))) ρ) : Mr K O F0 (rEqU K) (.val (.str s)) (.val (.str z)) ρ Q := fun F H σ u v Qh _ R hu hv q => by
  rw [look_str hu, look_str hv]; exact x_eqT (q _ H F (.val (.bl _)) ρ (Same.refl _) R (Rep.bl _) k)
theorem r_neS (k : Q (.val (.bl (!decide (s = z)))) ρ) : Mr K O F0 (rNeU K) (.val (.str s)) (.val (.str z)) ρ Q := fun F H σ u v Qh _ R hu hv q => by
  rw [look_str hu, look_str hv]; exact x_neT (q _ H F (.val (.bl _)) ρ (Same.refl _) R (Rep.bl _) k)
theorem r_ltI (k : Q (.val (.bl (decide (i < j)))) ρ) : Mr K O F0 rLtU (.val (.int i)) (.val (.int j)) ρ Q := fun F H σ u v Qh _ R hu hv q => by
  rw [look_int hu, look_int hv]; exact x_ltI (q _ H F (.val (.bl _)) ρ (Same.refl _) R (Rep.bl _) k)
theorem r_leI (k : Q (.val (.bl (decide (i ≤ j)))) ρ) : Mr K O F0 rLeU (.val (.int i)) (.val (.int j)) ρ Q := fun F H σ u v Qh _ R hu hv q => by
  rw [look_int hu, look_int hv]; exact x_leI (q _ H F (.val (.bl _)) ρ (Same.refl _) R (Rep.bl _) k)
theorem r_gtI (k : Q (.val (.bl (decide (j < i)))) ρ) : Mr K O F0 rGtU (.val (.int i)) (.val (.int j)) ρ Q := fun F H σ u v Qh _ R hu hv q => by
  rw [look_int hu, look_int hv]; exact x_gtI (q _ H F (.val (.bl _)) ρ (Same.refl _) R (Rep.bl _) k)
theorem r_geI (k : Q (.val (.bl (decide (j ≤ i)))) ρ) : Mr K O F0 rGeU (.val (.int i)) (.val (.int j)) ρ Q := fun F H σ u v Qh _ R hu hv q => by
  rw [look_int hu, look_int hv]; exact x_geI (q _ H F (.val (.bl _)) ρ (Same.refl _) R (Rep.bl _) k)
def isNon : D → Bool
  | .non => true
  | _ => false
theorem rep_non (h : Rep K F v d) : decide (v = .non) = isNon d := by
  cases h <;> first | rfl | exact decide_eq_false (fun z => nomatch z)
theorem r_isN (k : Q (.val (.bl (isNon d))) ρ) : Mr K O F0 (rIsU false) (.val d) (.val .non) ρ Q := fun F H σ u v Qh _ R hu hv q => by
  rw [look_non hv]
  refine x_isN ?_
  rw [rep_non hu]
  exact q _ H F (.val (.bl _)) ρ (Same.refl _) R (Rep.bl _) k
theorem r_isnN (k : Q (.val (.bl (!isNon d))) ρ) : Mr K O F0 (rIsU true) (.val d) (.val .non) ρ Q := fun F H σ u v Qh _ R hu hv q => by
  rw [look_non hv]
  refine x_isnN ?_
  rw [rep_non hu]
  exact q _ H F (.val (.bl _)) ρ (Same.refl _) R (Rep.bl _) k
theorem repL_atI {xs : List V} {k : Int} {e : D} (h : RepL K F xs ds) (q : atI ds k = some e) : ∃ v, atI xs k = some v ∧ Rep K F v e := by
  unfold atI at q ⊢
  rw [h.length]
  cases z : ixN ds.length k with
  | none => rw [z] at q; cases q
  | some m => rw [z] at q; exact h.at q
theorem r_ixL {e : D} (hx : seeD x ρ = some (.lst ds)) (h : atI ds i = some e) (k : Q (.val e) ρ) : Mr K O F0 (rIx K) x (.val (.int i)) ρ Q := fun F H σ u v Qh _ R hu hv q => by
  rw [look_int hv]
  obtain ⟨a, xs, rfl, h1, h2⟩ := look_lst R hu hx
  obtain ⟨w, e1, e2⟩ := repL_atI h2 h
  exact x_ixL h1 e1 (q w H F (.val e) ρ (Same.refl _) R e2 k)
theorem r_ixT {e : D} (hx : seeD x ρ = some (.tup ds)) (h : atI ds i = some e) (k : Q (.val e) ρ) : Mr K O F0 (rIx K) x (.val (.int i)) ρ Q := fun F H σ u v Qh _ R hu hv q => by
  rw [look_int hv]
  obtain ⟨a, xs, rfl, h1, h2⟩ := look_tup R hu hx
  obtain ⟨w, e1, e2⟩ := repL_atI h2 h
  exact x_ixT h1 e1 (q w H F (.val e) ρ (Same.refl _) R e2 k)
theorem r_ixS {e : Nat} (hl : s.length ≤ 10000) (h : atI s.cps.toList i = some e) (k : Q (.val (.str ⟨#[e]⟩)) ρ) : Mr K O F0 (rIx K) (.val (.str s)) (.val (.int i)) ρ Q := fun F H σ u v Qh _ R hu hv q => by
  rw [look_int hv, look_str hu]
  exact .inr (.inr ⟨s, i, e, rfl, rfl, Nat.le_trans hl (by decide), h, q _ H F (.val (.str ⟨#[e]⟩)) ρ (Same.refl _) R (Rep.str _) k⟩)
theorem one_arg (h : XsV K F σ vs [x]) : ∃ v, vs = [v] ∧ XvR K F σ v x := by
  match vs, h with
  | [v], h => exact ⟨v, rfl, h.1⟩
theorem two_args (h : XsV K F σ vs [x, y]) : ∃ v w, vs = [v, w] ∧ XvR K F σ v x ∧ XvR K F σ w y := by
  match vs, h with
  | [v, w], h => exact ⟨v, w, rfl, h.1, h.2.1⟩
theorem c_lenL (hx : seeD x ρ = some (.lst ds)) (k : Q (.val (.int (ds.length : Int))) ρ) : Mc K O F0 (rLenU K) [x] ρ Q := fun F H σ vs Qh _ R hu q => by
  obtain ⟨v, rfl, hv⟩ := one_arg hu
  obtain ⟨a, xs, rfl, h1, h2⟩ := look_lst R hv hx
  refine x_lenL h1 ?_
  rw [h2.length]
  exact q _ H F (.val (.int _)) ρ (Same.refl _) R (Rep.int _) k
theorem c_lenT (hx : seeD x ρ = some (.tup ds)) (k : Q (.val (.int (ds.length : Int))) ρ) : Mc K O F0 (rLenU K) [x] ρ Q := fun F H σ vs Qh _ R hu q => by
  obtain ⟨v, rfl, hv⟩ := one_arg hu
  obtain ⟨a, xs, rfl, h1, h2⟩ := look_tup R hv hx
  refine x_lenT' h1 ?_
  rw [h2.length]
  exact q _ H F (.val (.int _)) ρ (Same.refl _) R (Rep.int _) k
theorem c_lenD (hx : seeD x ρ = some (.dct kds)) (k : Q (.val (.int (kds.length : Int))) ρ) : Mc K O F0 (rLenU K) [x] ρ Q := fun F H σ vs Qh _ R hu q => by
  obtain ⟨v, rfl, hv⟩ := one_arg hu
  obtain ⟨a, xs, rfl, h1, h2⟩ := look_dct R hv hx
  refine .inr ⟨a, xs, rfl, h1, ?_⟩
  rw [h2.length]
  exact q _ H F (.val (.int _)) ρ (Same.refl _) R (Rep.int _) k
theorem c_lenS (hl : s.length ≤ 10000) (k : Q (.val (.int (s.length : Int))) ρ) : Mc K O F0 (rLenU K) [.val (.str s)] ρ Q := fun F H σ vs Qh _ R hu q => by
  obtain ⟨v, rfl, hv⟩ := one_arg hu
  rw [look_str hv]
  exact x_lenS hl (q _ H F (.val (.int _)) ρ (Same.refl _) R (Rep.int _) k)
theorem c_intI (k : Q (.val (.int i)) ρ) : Mc K O F0 rInt [.val (.int i)] ρ Q := fun F H σ vs Qh _ R hu q => by
  obtain ⟨v, rfl, hv⟩ := one_arg hu
  rw [look_int hv]
  exact x_intI (q _ H F (.val (.int _)) ρ (Same.refl _) R (Rep.int _) k)
theorem c_intB (k : Q (.val (.int (if b then 1 else 0))) ρ) : Mc K O F0 rInt [.val (.bl b)] ρ Q := fun F H σ vs Qh _ R hu q => by
  obtain ⟨v, rfl, hv⟩ := one_arg hu
  rw [look_bl hv]
  exact x_intBl (q _ H F (.val (.int _)) ρ (Same.refl _) R (Rep.int _) k)
theorem c_allB {bs : List Bool} (hx : seeD x ρ = some (.lst (bs.map D.bl))) (k : Q (.val (.bl (bs.all id))) ρ) : Mc K O F0 (rAll K) [x] ρ Q := fun F H σ vs Qh _ R hu q => by
  obtain ⟨v, rfl, hv⟩ := one_arg hu
  obtain ⟨a, xs, rfl, h1, h2⟩ := look_lst R hv hx
  rw [h2.bls'] at h1
  exact x_all h1 (q _ H F (.val (.bl _)) ρ (Same.refl _) R (Rep.bl _) k)
/-- the type of a tree; own classes by their records -/
def tyD (K : PySem.W.Frag) : D → Value
  | .non => .type "NoneType"
  | .bl _ => .type "bool"
  | .int _ => .type "int"
  | .str _ => .type "str"
  | .cls _ => .none
  | .ty _ => .none
  | .adr _ => .none
  | .lst _ => .type "list"
  | .tup _ => .type "tuple"
  | .dct _ => .type "dict"
  | .obj c _ => .ref (ga K c)
  | .exc _ _ => .none
def TyOk (K : PySem.W.Frag) : D → Prop
  | .obj c _ => InT K (ga K c)
  | .cls _ => False
  | .ty _ => False
  | .adr _ => False
  | .exc _ _ => False
  | _ => True
theorem ty_sql {a : Addr} {xs : List V} (h : SqL K H a xs) : TyX K H (.ref a) (.type "list") := by
  rcases h with (h | ⟨o, h⟩) | ⟨o, its, n, h1, h2, _⟩
  · exact .base (.lst h)
  · exact .base (.frz h)
  · exact .kList h1 h2
theorem ty_sqt {a : Addr} {xs : List V} (h : SqT K H a xs) : TyX K H (.ref a) (.type "tuple") := by
  rcases h with (h | ⟨o, h⟩) | ⟨o, its, n, h1, h2, _⟩
  · exact .base (.tup h)
  · exact .fTuple h
  · exact .kTuple h1 h2
theorem ty_rep (R : RS K O F H σ ρ) (h : XvR K F σ v x) (e : seeD x ρ = some d) (hd : TyOk K d) : TyX K H v (tyD K d) := by
  cases d with
  | non => rcases look R h e with q | ⟨p, _, q⟩; (cases q; exact .base .non); cases q
  | bl b => rcases look R h e with q | ⟨p, _, q⟩; (cases q; exact .base (.bl b)); cases q
  | int b => rcases look R h e with q | ⟨p, _, q⟩; (cases q; exact .base (.int b)); cases q
  | str b => rcases look R h e with q | ⟨p, _, q⟩; (cases q; exact .base (.str b)); cases q
  | cls c => cases hd
  | ty c => cases hd
  | adr c => cases hd
  | lst ds => obtain ⟨a, xs, rfl, h1, _⟩ := look_lst R h e; exact ty_sql h1
  | tup ds => obtain ⟨a, xs, rfl, h1, _⟩ := look_tup R h e; exact ty_sqt h1
  | dct ds => obtain ⟨a, xs, rfl, h1, _⟩ := look_dct R h e; exact .base (.dK h1)
  | obj c fs => obtain ⟨a, dx, fs2, rfl, h1, _⟩ := look_obj R h e; exact hd.ty h1
  | exc c fs => cases hd
theorem rep_cls {c : Str} (h : XvR K F σ v (.val (.cls c))) : v = .ref (ga K c) := by cases (show Rep K F v (.cls c) from h); rfl
/-- isinstance(x, C) -/
theorem c_isiC {c : Str} (hx : seeD x ρ = some d) (hd : TyOk K d) (hk : PySem.W.kitOne K (tyD K d) (.ref (ga K c)) = some b) (k : Q (.val (.bl b)) ρ) : Mc K O F0 (rIsi K) [x, .val (.cls c)] ρ Q := fun F H σ vs Qh _ R hu q => by
  obtain ⟨v, w, rfl, hv, hw⟩ := two_args hu
  rw [rep_cls hw]
  exact x_isi (.own _) (ty_rep R hv hx hd) hk (q _ H F (.val (.bl _)) ρ (Same.refl _) R (Rep.bl _) k)
theorem rep_ty {c : String} (h : XvR K F σ v (.val (.ty c))) : v = .ty c := by cases (show Rep K F v (.ty c) from h); rfl
/-- isinstance(x, int) -/
theorem c_isiY {c : String} (hx : seeD x ρ = some d) (hd : TyOk K d) (hk : PySem.W.kitOne K (tyD K d) (.type c) = some b) (k : Q (.val (.bl b)) ρ) : Mc K O F0 (rIsi K) [x, .val (.ty c)] ρ Q := fun F H σ vs Qh _ R hu q => by
  obtain ⟨v, w, rfl, hv, hw⟩ := two_args hu
  rw [rep_ty hw]
  exact x_isi (.ty _) (ty_rep R hv hx hd) hk (q _ H F (.val (.bl _)) ρ (Same.refl _) R (Rep.bl _) k)
/-- the classes named in a tuple -/
def clsV (K : PySem.W.Frag) : D → Value
  | .cls c => .ref (ga K c)
  | .ty n => .type n
  | _ => .none
def isCls : D → Bool
  | .cls _ => true
  | .ty _ => true
  | _ => false
theorem clsV_ok {xs : List V} (h : RepL K F xs ds) (a : ds.all isCls = true) : Paired ClsV xs (ds.map (clsV K)) := by
  induction ds generalizing xs with
  | nil => cases h; exact .nil
  | cons d ds ih =>
    cases h with
    | cons r1 r2 =>
      obtain ⟨a1, a2⟩ := Bool.and_eq_true_iff.mp (show (isCls d && ds.all isCls) = true from a)
      refine .cons ?_ (ih r2 a2)
      cases r1 with
      | cls c => exact .own _
      | ty n => exact .ty _
      | _ => cases a1
/-- isinstance(x, (C, D)) -/
theorem c_isiM (hx : seeD x ρ = some d) (hd : TyOk K d) (ha : ds.all isCls = true) (hk : PySem.W.kitAny K (tyD K d) (ds.map (clsV K)) = some b) (k : Q (.val (.bl b)) ρ) : Mc K O F0 (rIsiS K) [x, .val (.tup ds)] ρ Q := fun F H σ vs Qh _ R hu q => by
  obtain ⟨v, w, rfl, hv, hw⟩ := two_args hu
  obtain ⟨a, xs, rfl, h1, h2⟩ := look_tup R hw (ds := ds) rfl
  exact ⟨v, a, xs, _, _, b, rfl, h1, clsV_ok h2 ha, ty_rep R hv hx hd, hk, q _ H F (.val (.bl _)) ρ (Same.refl _) R (Rep.bl _) k⟩
/-- the class c has instances with a field f -/
def FdOk (K : PySem.W.Frag) (c f : Str) : Prop := Cls K (ga K c) ∧ NoAttr K (ga K c) f
theorem m_fld {f : Str} (k : Me K O F0 te ρ fun x ρ1 => ∃ c fds e, seeD x ρ1 = some (.obj c fds) ∧ FdOk K c f ∧ fds.lookup f = some e ∧ Q (.val e) ρ1) : Me K O F0 (tFld K te f) ρ Q := fun F H σ Qh s R c =>
  k F H σ _ s R fun v H1 F1 x ρ1 s1 R1 r1 ⟨cn, fds, e, hx, hf, hl, q⟩ => by
    obtain ⟨a, dx, fs, rfl, h1, h2⟩ := look_obj R1 r1 hx
    obtain ⟨w, e1, e2⟩ := h2.lookup hl
    exact ⟨a, _, dx, fs, w, rfl, h1, hf.1, hf.2, e1, c w H1 F1 (.val e) ρ1 s1 R1 e2 q⟩
/-- a constant of the class, read off an instance -/
def CnOk (K : PySem.W.Frag) (c f : Str) (v : V) : Prop := Cls K (ga K c) ∧ ∃ u, Con K (ga K c) f v u
theorem m_con {f : Str} (k : Me K O F0 te ρ fun x ρ1 => ∃ c fds v e, seeD x ρ1 = some (.obj c fds) ∧ CnOk K c f v ∧ fds.lookup f = none ∧ (∀ F, Rep K F v e) ∧ Q (.val e) ρ1) : Me K O F0 (tCon K te f) ρ Q := fun F H σ Qh s R c =>
  k F H σ _ s R fun v H1 F1 x ρ1 s1 R1 r1 ⟨cn, fds, w, e, hx, ⟨hc, u, hu⟩, hl, hr, q⟩ => by
    obtain ⟨a, dx, fs, rfl, h1, h2⟩ := look_obj R1 r1 hx
    exact ⟨a, _, dx, fs, w, u, rfl, h1, hc, hu, h2.lookupN hl, c w H1 F1 (.val e) ρ1 s1 R1 (hr F1) q⟩
/-- a property -/
theorem m_pr {f : Str} {gt : Addr} {P : PD} (k : Me K O F0 te ρ fun x ρ1 => Frz x ρ1 fun d ρ2 => ∃ c fds pp, d = .obj c fds ∧ Cls K (ga K c) ∧ PropOf K (ga K c) f pp gt ∧ P [d] (fun e => Q (.val e) ρ2) fun _ _ => False) : Me K O F0 (tPr K f gt (spS K O.T (pu P)) te) ρ Q := fun F H σ Qh s R c =>
  k F H σ _ s R fun v H1 F1 x ρ1 s1 R1 r1 k1 => by
    obtain ⟨d, ρ2, F2, s2, R2, r2, cn, fds, pp, rfl, hc, hp, q⟩ := frz_of R1 r1 k1
    obtain ⟨a, dx, fs, rfl, h1, h2⟩ := r2.objP
    refine ⟨a, _, dx, fs, pp, rfl, R2.fh _ _ h1, hc, hp, ?_⟩
    exact call_pu (W := W0) (Xp := fun _ _ _ => False) R2 (Same.trans s (Same.trans s1 s2)) wr0 (.cons r2 .nil) q (fun d qd v H3 F3 s3 R3 r3 => c v H3 F3 (.val d) ρ2 (Same.trans s1 (Same.trans s2 s3)) R3 r3 qd) fun _ _ z => z
/-- self.f = e, self being made -/
theorem ms_fld {f : Str} {i : Nat} (h0 : (sl ρ i).mut = true) (k : Me K O F0 te ρ fun x ρ1 => Frz x ρ1 fun d ρ2 => ∃ c fds, sl ρ2 i = .own (.obj c fds) ∧ FdOk K c f ∧ fds.length < 1000 ∧ N.nx (ρ2.set i (.own (.obj c (putD f d fds))))) : Ms K O F0 (sFld K (tVar i) te f) ρ N := fun F H σ E s R c => by
  refine k F H σ _ s R fun v H1 F1 x ρ1 s1 R1 r1 k1 => ?_
  obtain ⟨d, ρ2, F2, s2, R2, r2, cn, fds, e, hf, hl, q⟩ := frz_of R1 r1 k1
  have m : (sl ρ2 i).mut = true := by rw [e]; rfl
  obtain ⟨p, h1, h2, h3, h4⟩ := R2.owned m
  rw [e] at h4
  obtain ⟨dx, fs, a1, a2⟩ := h4
  refine ⟨_, sv_some h1, p, _, dx, fs, rfl, a1, hf.1, hf.2, by rw [a2.length]; exact hl, ?_⟩
  exact c.nx F2 _ σ _ (Same.trans s1 s2) (R2.mutO (s := .own (.obj cn (putD f d fds))) m h1 rfl ⟨dx, _, upd_same, a2.putF r2⟩) q
end
end SJ
namespace SJ
open PySem PySem.Spec PyProof.Rows L2 He
mutual
def pyOf : D → Option PyData
  | .non => some .none
  | .bl b => some (.bool b)
  | .int i => some (.int i)
  | .str s => some (.str s)
  | .lst ds => (pyOfL ds).map .list
  | .tup ds => (pyOfL ds).map .tuple
  | _ => none
def pyOfL : List D → Option (List PyData)
  | [] => some []
  | d :: ds => match pyOf d, pyOfL ds with
    | some p, some ps => some (p :: ps)
    | _, _ => none
end
section
variable {K : PySem.W.Frag} {H F : Hp}
mutual
theorem dp_of : ∀ {v : V} {d : D} {pd : PyData}, Rep K H v d → pyOf d = some pd → Dp K H v pd
  | _, _, _, .non, e => by cases e; exact .non
  | _, _, _, .bl b, e => by cases e; exact .bl b
  | _, _, _, .int b, e => by cases e; exact .int b
  | _, _, _, .str b, e => by cases e; exact .str b
  | _, _, _, .cls c, e => by cases e
  | _, _, _, .ty c, e => by cases e
  | _, .lst ds, _, .lst h a, e => by
    have e : (pyOfL ds).map PyData.list = some _ := e
    obtain ⟨ps, e1, rfl⟩ := Option.map_eq_some_iff.mp e
    exact .lst (SqL.of h) (dpl_of a e1)
  | _, .tup ds, _, .tup h a, e => by
    have e : (pyOfL ds).map PyData.tuple = some _ := e
    obtain ⟨ps, e1, rfl⟩ := Option.map_eq_some_iff.mp e
    exact .tup h (dpl_of a e1)
  | _, _, _, .dct _ _ _, e => by cases e
  | _, _, _, .obj _ _ _, e => by cases e
  | _, _, _, .exc _ _ _ _, e => by cases e
theorem dpl_of : ∀ {vs : List V} {ds : List D} {ps : List PyData}, RepL K H vs ds → pyOfL ds = some ps → DpAll K H vs ps
  | _, _, _, .nil, e => by cases e; exact .nil
  | _, d :: ds, _, .cons a b, e => by
    have e : (match pyOf d, pyOfL ds with | some p, some ps => some (p :: ps) | _, _ => none) = some _ := e
    cases e1 : pyOf d with
    | none => rw [e1] at e; cases e
    | some p =>
      cases e2 : pyOfL ds with
      | none => rw [e1, e2] at e; cases e
      | some ps => rw [e1, e2] at e; cases e; exact .cons (dp_of a e1) (dpl_of b e2)
end
end
section
variable {K : PySem.W.Frag} {O : Oc} {F0 F F2 F3 H H2 H3 : Hp} {σ σ2 : L2.St} {ρ ρ2 : Ro} {Q : X → Ro → Prop} {QT : Bool → Ro → Prop} {QA : List X → Ro → Prop} {QF : D → Ro → Prop} {ta tb te to : TE} {t u tt : TT} {tA tK : TA} {ts tz : TS} {r : R2} {N : Hn} {n : Nat} {x y : X} {d e : D} {g : TG} {wi : TI} {p : Addr} {o o2 : HO} {vs : List V} {ds es : List D} {kds : List (Key × D)} {fds : List (Str × D)} {W : WX} {Xp : XP} {i j : Int} {b c : Bool} {s z : Str} {cn : Str} {v : V} {pd pe : PyData}
/-- anything held is readable in the whole heap -/
theorem look_rep (R : RS K O F H σ ρ) (h : XvR K F σ v x) (e : seeD x ρ = some d) : Rep K H v d := by
  rcases look R h e with q | ⟨p, rfl, q⟩
  · exact q.mono R.fh
  · cases d with
    | lst ds => obtain ⟨vs, h1, h2⟩ := q; exact .lst h1 (h2.mono R.fh)
    | dct ds => obtain ⟨vs, h1, h2⟩ := q; exact .ofDct h1 (h2.mono R.fh)
    | obj c ds => obtain ⟨dx, vs, h1, h2⟩ := q; exact .ofObj h1 (h2.mono R.fh)
    | _ => cases q
theorem r_eqD (hx : seeD x ρ = some d) (hy : seeD y ρ = some e) (px : pyOf d = some pd) (py : pyOf e = some pe) (s1 : SeqAt.shaped pd = true) (s2 : SeqAt.shaped pe = true) (k : Q (.val (.bl (PyData.eqv pd pe))) ρ) : Mr K O F0 (rEqU K) x y ρ Q := fun F H σ u v Qh _ R hu hv q =>
  x_eqDD (dp_of (look_rep R hu hx) px) (dp_of (look_rep R hv hy) py) s1 s2 (q _ H F (.val (.bl _)) ρ (Same.refl _) R (Rep.bl _) k)
theorem r_neD (hx : seeD x ρ = some d) (hy : seeD y ρ = some e) (px : pyOf d = some pd) (py : pyOf e = some pe) (s1 : SeqAt.shaped pd = true) (s2 : SeqAt.shaped pe = true) (k : Q (.val (.bl (!PyData.eqv pd pe))) ρ) : Mr K O F0 (rNeU K) x y ρ Q := fun F H σ u v Qh _ R hu hv q =>
  x_neDD (dp_of (look_rep R hu hx) px) (dp_of (look_rep R hv hy) py) s1 s2 (q _ H F (.val (.bl _)) ρ (Same.refl _) R (Rep.bl _) k)
theorem inV_strs {zs : List Str} : inV (.str s) (zs.map V.str) = decide (s ∈ zs) := by
  induction zs with
  | nil => rfl
  | cons z zs ih =>
    show (eqV (.str z) (.str s) || inV (.str s) (zs.map V.str)) = _
    rw [ih]
    by_cases e : s = z
    · rw [decide_eq_true (show s ∈ z :: zs by rw [e]; exact List.mem_cons_self ..)]
      have : eqV (.str z) (.str s) = true := by rw [e]; exact decide_eq_true rfl
      rw [this, Bool.true_or]
    · have : eqV (.str z) (.str s) = false := decide_eq_false (fun q => e q.symm)
      rw [this, Bool.false_or]
      by_cases m : s ∈ zs
      · rw [decide_eq_true m, decide_eq_true (List.mem_cons_of_mem _ m)]
      · rw [decide_eq_false m, decide_eq_false (fun q => by rcases List.mem_cons.mp q with q | q; exact e q; exact m q)]
theorem flat_strs {zs : List Str} : (zs.map V.str).all flatV = true := by
  induction zs with
  | nil => rfl
  | cons z zs ih => exact ih
theorem r_inStrs {zs : List Str} (hy : seeD y ρ = some (.lst (zs.map D.str))) (k : Q (.val (.bl (decide (s ∈ zs)))) ρ) : Mr K O F0 (rInU K false) (.val (.str s)) y ρ Q := fun F H σ u v Qh _ R hu hv q => by
  rw [look_str hu]
  obtain ⟨a, xs, rfl, h1, h2⟩ := look_lst R hv hy
  rw [h2.strs'] at h1
  refine x_inL h1 rfl flat_strs ?_
  rw [inV_strs]
  exact q _ H F (.val (.bl _)) ρ (Same.refl _) R (Rep.bl _) k
theorem r_inStrsT {zs : List Str} (hy : seeD y ρ = some (.tup (zs.map D.str))) (k : Q (.val (.bl (decide (s ∈ zs)))) ρ) : Mr K O F0 (rInU K false) (.val (.str s)) y ρ Q := fun F H σ u v Qh _ R hu hv q => by
  rw [look_str hu]
  obtain ⟨a, xs, rfl, h1, h2⟩ := look_tup R hv hy
  rw [h2.strs'] at h1
  refine x_inT h1 rfl flat_strs ?_
  rw [inV_strs]
  exact q _ H F (.val (.bl _)) ρ (Same.refl _) R (Rep.bl _) k
theorem r_ninStrsT {zs : List Str} (hy : seeD y ρ = some (.tup (zs.map D.str))) (k : Q (.val (.bl (!decide (s ∈ zs)))) ρ) : Mr K O F0 (rInU K true) (.val (.str s)) y ρ Q := fun F H σ u v Qh _ R hu hv q => by
  rw [look_str hu]
  obtain ⟨a, xs, rfl, h1, h2⟩ := look_tup R hv hy
  rw [h2.strs'] at h1
  refine x_ninT h1 rfl flat_strs ?_
  rw [inV_strs]
  exact q _ H F (.val (.bl _)) ρ (Same.refl _) R (Rep.bl _) k
theorem mf_cat (k : Me K O F0 ta ρ fun x ρ1 => Me K O F0 tb ρ1 fun y ρ2 => ∃ ds es, seeD x ρ2 = some (.lst ds) ∧ seeD y ρ2 = some (.lst es) ∧ ds.length + es.length ≤ 10000 ∧ QF (.lst (ds ++ es)) ρ2) : Mf K O F0 (tOp (rAdd K) ta tb) ρ QF := fun F H σ Qh s R c =>
  k F H σ _ s R fun v1 H1 F1 x ρ1 s1 R1 r1 k1 => k1 F1 H1 σ _ (Same.trans s s1) R1 fun v2 H2 F2 y ρ2 s2 R2 r2 ⟨ds, es, hx, hy, hl, q⟩ => by
    obtain ⟨a, xs, rfl, h1, h2⟩ := look_raw R2 (r1.mono s2) hx
    obtain ⟨b, ys, rfl, h3, h4⟩ := look_raw R2 r2 hy
    refine .inr (.inr (.inl ⟨a, b, xs, ys, rfl, rfl, h1, h3, by rw [h2.length, h4.length]; exact Nat.le_trans hl (by decide), fun p hp => ?_⟩))
    exact mf_new (ρ2 := ρ2) (F2 := F2) R2 hp (h2.append h4) fun H3 R3 nw => c p H3 F2 _ ρ2 (Same.trans s1 s2) R3 nw q
theorem ms_append {i : Nat} (h0 : sl ρ i = .own (.lst ds)) (k : Me K O F0 te ρ fun x ρ1 => Frz x ρ1 fun e ρ2 => ∃ es, sl ρ2 i = .own (.lst es) ∧ es.length < 10000 ∧ N.nx (ρ2.set i (.own (.lst (es ++ [e]))))) : Ms K O F0 (tDrop (tBM K "list" rAppend (tVar i) (tCons te tNil))) ρ N := fun F H σ E s R c => by
  have m0 : (sl ρ i).mut = true := by rw [h0]; rfl
  obtain ⟨p, a1, a2, a3, a4⟩ := R.owned m0
  rw [h0] at a4
  obtain ⟨vs0, a4, _⟩ := a4
  refine ⟨_, sv_some a1, .inl ⟨rfl, vs0, SqL.of a4⟩, ?_⟩
  refine k F H σ _ s R fun v H1 F1 x ρ1 s1 R1 r1 k1 => ?_
  obtain ⟨e, ρ2, F2, s2, R2, r2, es, he, hl, q⟩ := frz_of R1 r1 k1
  have m : (sl ρ2 i).mut = true := by rw [he]; rfl
  obtain ⟨p2, b1, b2, b3, b4⟩ := R2.owned m
  rw [a1] at b1
  cases b1
  rw [he] at b4
  obtain ⟨vs, b4, b5⟩ := b4
  refine ⟨p, vs, v, rfl, rfl, b4, by rw [b5.length]; exact Nat.lt_of_lt_of_le hl (by decide), ?_⟩
  exact c.nx F2 _ σ _ (Same.trans s1 s2) (R2.mutO (s := .own (.lst (es ++ [e]))) m a1 rfl ⟨_, upd_same, b5.append (.one r2)⟩) q
theorem m_popAt {i : Nat} (h0 : sl ρ i = .own (.lst ds)) (k : Me K O F0 te ρ fun x ρ1 => ∃ (j : Nat) (es : List D) (e : D), x = .val (.int j) ∧ sl ρ1 i = .own (.lst es) ∧ j < 1000000 ∧ es[j]? = some e ∧ Q (.val e) (ρ1.set i (.own (.lst (es.eraseIdx j))))) : Me K O F0 (tBM K "list" rPopAt (tVar i) (tCons te tNil)) ρ Q := fun F H σ Qh s R c => by
  have m0 : (sl ρ i).mut = true := by rw [h0]; rfl
  obtain ⟨p, a1, a2, a3, a4⟩ := R.owned m0
  rw [h0] at a4
  obtain ⟨vs0, a4, _⟩ := a4
  refine ⟨_, sv_some a1, .inl ⟨rfl, vs0, SqL.of a4⟩, ?_⟩
  refine k F H σ _ s R fun v H1 F1 x ρ1 s1 R1 r1 ⟨j, es, e, ex, he, hj, hje, q⟩ => ?_
  subst ex
  rw [look_int r1]
  have m : (sl ρ1 i).mut = true := by rw [he]; rfl
  obtain ⟨p2, b1, b2, b3, b4⟩ := R1.owned m
  rw [a1] at b1
  cases b1
  rw [he] at b4
  obtain ⟨vs, b4, b5⟩ := b4
  obtain ⟨w, w1, w2⟩ := b5.at hje
  have hlt : j < vs.length := (List.getElem?_eq_some_iff.mp w1).1
  have hix : seqIndex? (j : Int) vs.length = some j := by
    have z : ixN vs.length (j : Int) = some j := by
      unfold ixN
      rw [if_pos (Int.natCast_nonneg j), if_pos (by omega)]
      rfl
    exact (ixN_seq z).1
  refine ⟨p, vs, j, j, w, rfl, rfl, b4, by omega, by omega, hix, w1, ?_⟩
  exact c w _ F1 (.val e) _ s1 (R1.mutO (s := .own (.lst (es.eraseIdx j))) m a1 rfl ⟨_, upd_same, b5.erase j⟩) w2 q
def keyD : D → Option Key
  | .int i => some (.inl i)
  | .str s => some (.inr s)
  | _ => none
theorem rep_key {k : Key} (h : Rep K F v d) (e : keyD d = some k) : v = kV k := by
  cases h <;> first | (cases e; rfl) | cases e
def valD (kds : List (Key × D)) (k : Key) : Option D := (kds.find? fun kv => decide (kv.1 = k)).map (·.2)
theorem valV_rep {kvs : List (Key × V)} {k : Key} (h : RepP K F kvs kds) : (∀ d, valD kds k = some d → ∃ v, valV kvs k = some v ∧ Rep K F v d) ∧ (valD kds k = none → valV kvs k = none) := by
  induction kds generalizing kvs with
  | nil => rw [h.inv0]; exact ⟨(fun d e => nomatch e), fun _ => rfl⟩
  | cons q kds ih =>
    obtain ⟨k2, d2⟩ := q
    obtain ⟨v, r, rfl, a, b⟩ := h.inv
    unfold valD valV
    rw [List.find?_cons, List.find?_cons]
    by_cases e : k2 = k
    · simp only [decide_eq_true e]
      exact ⟨fun d z => by cases z; exact ⟨v, rfl, a⟩, fun z => nomatch z⟩
    · simp only [decide_eq_false e]
      exact ih b
theorem m_dget {td ty : TE} (k : Me K O F0 td ρ fun x ρ1 => Me K O F0 ty ρ1 fun y ρ2 => ∃ kds kd e, seeD x ρ2 = some (.dct kds) ∧ (∃ d, y = .val d ∧ keyD d = some kd) ∧ valD kds kd = some e ∧ Q (.val e) ρ2) : Me K O F0 (tDGet td ty) ρ Q := fun F H σ Qh s R c =>
  k F H σ _ s R fun v1 H1 F1 x ρ1 s1 R1 r1 k1 => k1 F1 H1 σ _ (Same.trans s s1) R1 fun v2 H2 F2 y ρ2 s2 R2 r2 ⟨kds, kd, e, hx, ⟨d, ey, hd⟩, hv, q⟩ => by
    subst ey
    obtain ⟨a, kvs, rfl, h1, h2⟩ := look_dct R2 (r1.mono s2) hx
    rw [rep_key r2 hd]
    obtain ⟨w, w1, w2⟩ := (valV_rep h2).1 e hv
    exact ⟨a, w, rfl, by rw [← w1]; exact DGet.k h1, c w H2 F2 (.val e) ρ2 (Same.trans s1 s2) R2 w2 q⟩
end
end SJ
namespace SJ
open PySem PySem.Spec PyProof.Rows L2 He
section
variable {K : PySem.W.Frag} {F F2 H : Hp} {vs us : List V} {ds es : List D} {κ : Type}
theorem RepL.reverse (h : RepL K F vs ds) : RepL K F vs.reverse ds.reverse := by
  induction ds generalizing vs with
  | nil => cases h; exact .nil
  | cons d ds ih =>
    cases h with
    | cons a b => rw [List.reverse_cons, List.reverse_cons]; exact (ih b).append (.one a)
theorem RepP.zip {fs : List κ} (h : RepL K F vs ds) : RepP K F (fs.zip vs) (fs.zip ds) := by
  induction fs generalizing vs ds with
  | nil => exact ⟨rfl, .nil⟩
  | cons f fs ih =>
    cases h with
    | nil => exact ⟨rfl, .nil⟩
    | cons a b => exact RepP.cons a (ih b)
theorem RepP.reverse {kvs : List (κ × V)} {kds : List (κ × D)} (h : RepP K F kvs kds) : RepP K F kvs.reverse kds.reverse := ⟨by rw [List.map_reverse, List.map_reverse, h.1], by rw [List.map_reverse, List.map_reverse]; exact h.2.reverse⟩
theorem RepL.filterGet {ix : List Nat} (h : RepL K F vs ds) : RepL K F (ix.filterMap fun i => vs[i]?) (ix.filterMap fun i => ds[i]?) := by
  induction ix with
  | nil => exact .nil
  | cons i ix ih =>
    rw [List.filterMap_cons, List.filterMap_cons]
    cases e : ds[i]? with
    | none =>
      have : vs[i]? = none := by rw [List.getElem?_eq_none_iff] at e ⊢; rw [h.length]; exact e
      rw [this]; exact ih
    | some d =>
      obtain ⟨v, hv, r⟩ := h.at e
      rw [hv]
      exact .cons r ih
theorem RepL.pick {ix : List Nat} {ms zs : List V} {md zd : List D} (h1 : RepL K F vs ds) (h2 : RepL K F ms md) (h3 : RepL K F zs zd) : RepL K F (pickL ix vs ms zs) (pickL ix ds md zd) := ((h1.append h2).append h3).filterGet
theorem pick_self {ix : List Nat} {x : V} {ms zs : List V} (h : ix.all (fun i => decide (1 ≤ i)) = true) : pickL (0 :: ix) [x] ms zs = x :: pickL (ix.map (· - 1)) [] ms zs := by
  have e : ∀ ix : List Nat, ix.all (fun i => decide (1 ≤ i)) = true → (ix.filterMap fun i => ([x] ++ ms ++ zs)[i]?) = (ix.map (· - 1)).filterMap fun i => ([] ++ ms ++ zs)[i]? := by
    intro ix
    induction ix with
    | nil => intro _; rfl
    | cons i ix ih =>
      intro h
      obtain ⟨h1, h2⟩ := Bool.and_eq_true_iff.mp (show (decide (1 ≤ i) && ix.all fun i => decide (1 ≤ i)) = true from h)
      have h1 := of_decide_eq_true h1
      obtain ⟨j, rfl⟩ : ∃ j, i = j + 1 := ⟨i - 1, by omega⟩
      rw [List.map_cons, List.filterMap_cons, List.filterMap_cons, ih h2]
      rfl
  unfold pickL
  rw [List.filterMap_cons, e ix h]
  rfl
end
section
variable {K : PySem.W.Frag} {O : Oc} {F0 F F2 F3 H H2 H3 : Hp} {σ σ2 : L2.St} {ρ ρ2 : Ro} {Q : X → Ro → Prop} {QT : Bool → Ro → Prop} {QA : List X → Ro → Prop} {QF : D → Ro → Prop} {QL : List D → Ro → Prop} {ta tb te to tc : TE} {t u tt : TT} {tA tK : TA} {ts tz : TS} {r r2 : R2} {N : Hn} {n : Nat} {x y : X} {d e : D} {g : TG} {wi : TI} {p : Addr} {o o2 : HO} {vs : List V} {ds es : List D} {kds : List (Key × D)} {fds : List (Str × D)} {W : WX} {Xp : XP} {i j : Int} {b c : Bool} {s z : Str} {cn : Str} {v : V} {gf : Addr} {P : PD}
theorem m_chain (k : Me K O F0 ta ρ fun x ρ1 => Me K O F0 tb ρ1 fun y ρ2 => Mr K O F0 r x y ρ2 fun z ρ3 => ∃ b, z = .val (.bl b) ∧ if b = true then Me K O F0 tc ρ3 fun w ρ4 => Mr K O F0 r2 y w ρ4 Q else Q (.val (.bl false)) ρ3) : Me K O F0 (tChain r r2 ta tb tc) ρ Q := fun F H σ Qh s R c =>
  k F H σ _ s R fun v1 H1 F1 x ρ1 s1 R1 r1 k1 => k1 F1 H1 σ _ (Same.trans s s1) R1 fun v2 H2 F2 y ρ2 s2 R2 r2 k2 => k2 F2 H2 σ v1 v2 _ (Same.trans s (Same.trans s1 s2)) R2 (r1.mono s2) r2 fun v3 H3 F3 z ρ3 s3 R3 r3 ⟨b, e, k3⟩ => by
    subst e
    rw [look_bl r3]
    have s03 := Same.trans s (Same.trans s1 (Same.trans s2 s3))
    have s13 := Same.trans s1 (Same.trans s2 s3)
    refine ⟨b, rfl, ?_⟩
    cases b with
    | false => exact c _ H3 F3 (.val (.bl false)) ρ3 s13 R3 (Rep.bl false) k3
    | true => exact k3 F3 H3 σ _ s03 R3 fun v4 H4 F4 w ρ4 s4 R4 r4 k4 => k4 F4 H4 σ v2 v4 Qh (Same.trans s03 s4) R4 ((r2.mono s3).mono s4) r4 fun v H5 F5 z ρ5 s5 R5 r5 q => c v H5 F5 z ρ5 (Same.trans s13 (Same.trans s4 s5)) R5 r5 q
/-- the signs of a text -/
def signsD (s : Str) : List D := s.cps.toList.map fun c => D.str ⟨#[c]⟩
theorem mi_str (k : Me K O F0 te ρ fun x ρ1 => ∃ s, x = .val (.str s) ∧ QL (signsD s) ρ1) : Mi K O F0 (iStr te) ρ QL := fun F H σ R s R0 c =>
  k F H σ _ s R0 fun v H1 F1 x ρ1 s1 R1 r1 ⟨z, ex, q⟩ => by
    subst ex
    refine ⟨z, look_str r1, c _ H1 F1 (signsD z) ρ1 s1 R1 (fun O2 i F3 H3 σ3 ρ3 s3 R3 => ?_) q⟩
    have hl : (signsD z).length = z.cps.size := by unfold signsD; rw [List.length_map, Array.length_toList]
    refine ⟨fun hi => by rw [hl] at hi; exact hi, fun d hd => ?_⟩
    have hi : i < z.cps.size := by rw [← hl]; exact (List.getElem?_eq_some_iff.mp hd).1
    refine ⟨hi, fun x H4 y => ?_⟩
    obtain ⟨rfl, c0, hc, rfl⟩ := y
    refine ⟨F3, Same.refl _, R3, ?_⟩
    unfold signsD at hd
    rw [List.getElem?_map, Array.getElem?_toList, hc] at hd
    cases hd
    exact .str _
theorem r_inSign {c0 : Nat} (k : Q (.val (.bl (decide (c0 ∈ z.cps.toList)))) ρ) : Mr K O F0 rInS (.val (.str ⟨#[c0]⟩)) (.val (.str z)) ρ Q := fun F H σ u v Qh _ R hu hv q =>
  ⟨c0, z, look_str hu, look_str hv, q _ H F (.val (.bl _)) ρ (Same.refl _) R (Rep.bl _) k⟩
/-- raise C(a ..) -/
theorem ms_rz {c : Str} {fs : List Str} (hW : Wr K O F0 W Xp) (k : Ma K O F0 tA ρ fun xs ρ1 => FrzL xs ρ1 fun ds ρ2 => ds.length = fs.length ∧ Xp c (fs.zip ds).reverse ρ2) : Ms K O F0 (tRz (ga K c) fs W tA) ρ N := fun F H σ E s R _ =>
  k F H σ _ s R fun vs H1 F1 xs ρ1 s1 R1 r1 k1 => by
    obtain ⟨ds, ρ2, F2, s2, R2, r2, l, q⟩ := frzL_of R1 r1 k1
    refine ⟨by rw [r2.length]; exact l, fun dd hd => ?_⟩
    exact hW F2 _ σ ρ2 c _ dd _ (Same.trans s (Same.trans s1 s2)) upd_same ((R2.allocN hd).out upd_same nx_xd (R2.free hd).1 (R2.no_new hd)) (R2.free hd).2 (RepP.zip r2).reverse q
theorem frz2_of {u v : V} {P : D → D → Ro → Prop} (R : RS K O F H σ ρ) (hu : XvR K F σ u x) (hv : XvR K F σ v y) (q : Frz x ρ fun d ρ1 => Frz y ρ1 fun e ρ2 => P d e ρ2) : ∃ d e ρ2 F2, Same F F2 ∧ RS K O F2 H σ ρ2 ∧ Rep K F2 u d ∧ Rep K F2 v e ∧ P d e ρ2 := by
  obtain ⟨d, ρ1, F1, s1, R1, r1, q1⟩ := frz_of R hu q
  obtain ⟨e, ρ2, F2, s2, R2, r2, q2⟩ := frz_of R1 (hv.mono s1) q1
  exact ⟨d, e, ρ2, F2, Same.trans s1 s2, R2, r1.mono s2, r2, q2⟩
def OwnOp (K : PySem.W.Frag) (c : Str) (f : Str) (g : Addr) : Prop := PySem.W.findIn K (.ref (ga K c)) f = some (some (.ref g))
theorem r_ownIn {neg : Bool} (k : Frz x ρ fun e ρ1 => Frz y ρ1 fun d ρ2 => ∃ c fds, d = .obj c fds ∧ OwnOp K c "__contains__" gf ∧ P [d, e] (fun z => ∃ b, z = .bl b ∧ Q (.val (.bl (if neg then !b else b))) ρ2) fun _ _ => False) : Mr K O F0 (rOwnIn K gf (spS K O.T (pu P)) neg) x y ρ Q := fun F H σ u v Qh s R hu hv c => by
  obtain ⟨e, d, ρ2, F2, s2, R2, r1, r2, cn, fds, rfl, ho, q⟩ := frz2_of R hu hv k
  obtain ⟨a, dx, fs, rfl, h1, h2⟩ := r2.objP
  refine ⟨a, _, dx, fs, rfl, R2.fh _ _ h1, ho, ?_⟩
  refine call_pu (W := W0) (Xp := fun _ _ _ => False) (σ := σ) R2 (Same.trans s s2) wr0 (.cons r2 (.cons r1 .nil)) q (fun d qd v H3 F3 s3 R3 r3 => ?_) fun _ _ z => z
  obtain ⟨b, rfl, qd⟩ := qd
  cases r3
  exact ⟨b, rfl, c _ H3 F3 (.val (.bl _)) ρ2 (Same.trans s2 s3) R3 (Rep.bl _) qd⟩
theorem m_ownGet (hW : Wr K O F0 W Xp) (k : Me K O F0 ta ρ fun x ρ1 => Me K O F0 tb ρ1 fun y ρ2 => Frz x ρ2 fun d ρ3 => Frz y ρ3 fun e ρ4 => ∃ c fds, d = .obj c fds ∧ OwnOp K c "__getitem__" gf ∧ P [d, e] (fun z => Q (.val z) ρ4) fun c fs => Xp c fs ρ4) : Me K O F0 (tOwnGet K gf (spS K O.T (pu P)) W ta tb) ρ Q := fun F H σ Qh s R c =>
  k F H σ _ s R fun v1 H1 F1 x ρ1 s1 R1 r1 k1 => k1 F1 H1 σ _ (Same.trans s s1) R1 fun v2 H2 F2 y ρ2 s2 R2 r2 k2 => by
    obtain ⟨d, e, ρ3, F3, s3, R3, r3, r4, cn, fds, rfl, ho, q⟩ := frz2_of R2 (r1.mono s2) r2 k2
    obtain ⟨a, dx, fs, rfl, h1, h2⟩ := r3.objP
    refine ⟨a, _, dx, fs, rfl, R3.fh _ _ h1, ho, ?_⟩
    exact call_pu R3 (Same.trans s (Same.trans s1 (Same.trans s2 s3))) hW (.cons r3 (.cons r4 .nil)) q (fun d qd v H4 F4 s4 R4 r5 => c v H4 F4 (.val d) ρ3 (Same.trans s1 (Same.trans s2 (Same.trans s3 s4))) R4 r5 qd) fun _ _ z => z
theorem XsV.append : ∀ {vs ws : List V} {xs zs : List X}, XsV K F σ vs xs → XsV K F σ ws zs → XsV K F σ (vs ++ ws) (xs ++ zs)
  | [], _, [], _, _, h => h
  | _ :: _, _, _ :: _, _, a, h => ⟨a.1, a.2.append h⟩
  | [], _, _ :: _, _, a, _ => a.elim
  | _ :: _, _, [], _, a, _ => a.elim
theorem XsV.length : ∀ {vs : List V} {xs : List X}, XsV K F σ vs xs → vs.length = xs.length
  | [], [], _ => rfl
  | _ :: _, _ :: _, a => congrArg (· + 1) a.2.length
  | [], _ :: _, a => a.elim
  | _ :: _, [], a => a.elim
theorem RepL.split {ws : List V} : ∀ {vs : List V} {es zs : List D}, RepL K F (vs ++ ws) (es ++ zs) → vs.length = es.length → RepL K F vs es ∧ RepL K F ws zs
  | [], [], _, h, _ => ⟨.nil, h⟩
  | _ :: _, _ :: _, _, .cons a b, l => let ⟨x, y⟩ := RepL.split b (Nat.succ.inj l); ⟨.cons a x, y⟩
theorem m_cmK {C : Str} {n l : Nat} {ix : List Nat} {ms : List V} (md : List D) (hm : ∀ F, RepL K F ms md) (hW : Wr K O F0 W Xp)
    (k : Me K O F0 to ρ fun x ρ1 => x = .val (.cls C) ∧ Ma K O F0 tA ρ1 fun xs ρ2 => Ma K O F0 tK ρ2 fun zs ρ3 => FrzL (xs ++ zs) ρ3 fun ds ρ4 => ∃ es zs2, ds = es ++ zs2 ∧ es.length = n ∧ zs2.length = l ∧ xs.length = n ∧ P (pickL ix (.cls C :: es) md zs2) (fun d => Q (.val d) ρ4) fun c fs => Xp c fs ρ4) :
    Me K O F0 (tCmK (ga K C) n l (spS K O.T (pu P)) (fun vs zs => pickL ix vs ms zs) W to tA tK) ρ Q := fun F H σ Qh s R c =>
  k F H σ _ s R fun v0 H0 F0' x ρ0 s0 R0 r0 ⟨ex, k0⟩ => by
    subst ex
    refine ⟨rep_cls r0, k0 F0' H0 σ _ (Same.trans s s0) R0 fun vs H1 F1 xs ρ1 s1 R1 r1 k1 => k1 F1 H1 σ _ (Same.trans s (Same.trans s0 s1)) R1 fun ws H2 F2 zs ρ2 s2 R2 r2 k2 => ?_⟩
    obtain ⟨ds, ρ3, F3, s3, R3, r3, es, zs2, rfl, l1, l2, l3, q⟩ := frzL_of R2 ((r1.mono s2).append r2) k2
    have hl : vs.length = n := by rw [r1.length, l3]
    obtain ⟨q1, q2⟩ := RepL.split r3 (by rw [hl, l1])
    refine ⟨hl, by rw [q2.length, l2], ?_⟩
    exact call_pu R3 (Same.trans s (Same.trans s0 (Same.trans s1 (Same.trans s2 s3)))) hW (RepL.pick (.cons (.cls C) q1) (hm F3) q2) q (fun d qd v H4 F4 s4 R4 r5 => c v H4 F4 (.val d) ρ3 (Same.trans s0 (Same.trans s1 (Same.trans s2 (Same.trans s3 s4)))) R4 r5 qd) fun _ _ z => z
/-- an object that is being made, handed to its __init__ -/
theorem call_pinG {c : Str} {P : Str → List D → (List (Str × D) → Prop) → (Str → List (Str × D) → Prop) → Prop} {Qh : VK} {Qd : List (Str × D) → Prop} {Ed : Str → List (Str × D) → Prop} {xx dx : Addr} (R2 : RS K O F H σ ρ) (hx : H xx = some (.ins (ga K c) dx [])) (f1 : F xx = none) (f2 : O.o xx = none) (nx : ∀ i, (sl ρ i).mut = true → sv σ i ≠ some (.ref xx)) (s : Same F0 F) (hW : Wr K O F0 W Xp) (rv : RepL K F vs ds) (h : P c ds Qd Ed)
    (hq : ∀ fs, Qd fs → ∀ v H2 F2, Same F F2 → RS K O F2 H2 σ ρ → Rep K F2 v (.obj c fs) → Qh v H2) (he : ∀ c2 fs, Ed c2 fs → Xp c2 fs ρ) :
      spS K O.T (pin P) (.ref xx :: vs) H (fun v H2 => v = .non ∧ Qh (.ref xx) H2) (WE W σ) := by
  refine ⟨⟨beside F H fun a => tx (H a) || decide (a = xx), none, O.T⟩, F, _, rfl, R2.enterM rv (s := .own (.obj c [])) rfl f1 ⟨dx, [], hx, RepP.nil⟩, c, ds, Qd, Ed, rfl, h, fun fs q v H4 F4 s4 C r4 => ?_, fun c2 fs q dd H4 F4 fvs s4 hdd C hn rp => ?_⟩
  · cases r4
    obtain ⟨R4, z⟩ := R2.afterM C s4 f2 nx
    obtain ⟨z1, z2⟩ := z rfl
    obtain ⟨o, ho, hnx, rp⟩ := Shl.rep (d := .obj c fs) z2 z1
    obtain ⟨R5, s5⟩ := R4.thaw ho hnx z1 f2 nx
    exact ⟨rfl, hq fs q _ _ _ (Same.trans s4 s5) R5 rp⟩
  · have hz := R2.afterX C s4 hn (Same.refl _) (fun a e => .inr (by
      rcases Bool.or_eq_true_iff.mp e with e | e
      · exact ⟨(tx_no R2 e).1, (tx_no R2 e).2.2⟩
      · obtain rfl := of_decide_eq_true e
        exact ⟨f2, nx⟩)) (fun e => by
      rcases Bool.or_eq_true_iff.mp e with e | e
      · exact ⟨(tx_no R2 e).1, (tx_no R2 e).2.2⟩
      · exfalso
        obtain rfl := of_decide_eq_true e
        obtain ⟨b, b1, b2, b3, b4⟩ := C.owned (i := 0) rfl
        cases b1
        cases upd_same.symm.trans b3)
    exact hW F4 H4 σ ρ c2 fs dd fvs (Same.trans s s4) hdd hz.1 hz.2 rp (he c2 fs q)
abbrev PI1 := Str → List D → (List (Str × D) → Prop) → (Str → List (Str × D) → Prop) → Prop
/-- C(*y, k = v ..): the star's tuple comes last -/
theorem nwS_of {P : PI1} {C : Str} {ix : List Nat} {ms xs zs : List V} {md : List D} {Qh : VK} (hix : ix.all (fun i => decide (1 ≤ i)) = true) (hm : ∀ F, RepL K F ms md) (R : RS K O F H σ ρ) (s : Same F0 F) (hW : Wr K O F0 W Xp) (rx : RepL K F xs ds) (rz : RepL K F zs es) (hl : ds.length ≤ 1000)
    (h : P C (pickL (ix.map (· - 1)) [] md es ++ [.tup ds]) (fun fs => Q (.val (.obj C fs)) ρ) fun c fs => Xp c fs ρ) (c : ∀ v H2 F2 x ρ2, Same F F2 → RS K O F2 H2 σ ρ2 → XvR K F2 σ v x → Q x ρ2 → Qh v H2) : gNwS (ga K C) (spS K O.T (pin P)) (fun vs zs => pickL (0 :: ix) vs ms zs) W σ xs zs H Qh := by
  refine ⟨by rw [rx.length]; exact Nat.le_trans hl (by decide), fun x dx p hx hd hne hp hpx hpd => ?_⟩
  show spS K O.T (pin P) (pickL (0 :: ix) [V.ref x] ms zs ++ [V.ref p]) _ _ _
  rw [pick_self hix]
  have R1 : RS K O F (upd H dx (.own x)) σ ρ := R.allocN hd
  have hx1 : upd H dx (.own x) x = none := by rw [upd_ne (Ne.symm hne)]; exact hx
  have R2 : RS K O F (upd (upd H dx (.own x)) x (.ins (ga K C) dx [])) σ ρ := R1.allocN hx1
  have nx := R1.no_new hx1
  obtain ⟨f1, f2⟩ := R1.free hx1
  have hp2 : upd (upd H dx (.own x)) x (.ins (ga K C) dx []) p = none := by rw [upd_ne hpx, upd_ne hpd]; exact hp
  obtain ⟨R3, s3⟩ := R2.alloc (o := .tup xs) hp2 nx_tup
  refine call_pinG (xx := x) (dx := dx) R3 (by rw [upd_ne (Ne.symm hpx), upd_same]) (by rw [upd_ne (Ne.symm hpx)]; exact f1) f2 nx (Same.trans s s3) hW ((RepL.pick .nil ((hm F).mono s3) (rz.mono s3)).append (.one (.tup (SqT.of upd_same) (rx.mono s3)))) h (fun fs qd v H4 F4 s4 R4 r4 => c v H4 F4 (.val (.obj C fs)) ρ (Same.trans s3 s4) R4 r4 qd) fun _ _ z => z
theorem m_nwSs {P : PI1} {C : Str} {m : Nat} {ix : List Nat} {ms : List V} (md : List D) (hm : ∀ F, RepL K F ms md) (hW : Wr K O F0 W Xp) (k : Me K O F0 te ρ fun x ρ1 => Ma K O F0 tK ρ1 fun zs ρ2 => FrzL zs ρ2 fun es ρ3 => es.length = m ∧ ∃ ds, (seeD x ρ3 = some (.lst ds) ∨ seeD x ρ3 = some (.tup ds)) ∧ ds.length ≤ 1000 ∧ P C (pickL (ix.map (· - 1)) [] md es ++ [.tup ds]) (fun fs => Q (.val (.obj C fs)) ρ3) fun c fs => Xp c fs ρ3) (hix : ix.all (fun i => decide (1 ≤ i)) = true := by rfl) :
    Me K O F0 (tNwSs K (ga K C) m (spS K O.T (pin P)) (fun vs zs => pickL (0 :: ix) vs ms zs) W te tK) ρ Q := fun F H σ Qh s R c =>
  k F H σ _ s R fun v H1 F1 x ρ1 s1 R1 r1 k1 => k1 F1 H1 σ _ (Same.trans s s1) R1 fun ws H2 F2 zs ρ2 s2 R2 r2 k2 => by
    obtain ⟨es, ρ3, F3, s3, R3, r3, l, ds, hx, hl, q⟩ := frzL_of R2 r2 k2
    refine ⟨by rw [r3.length, l], ?_⟩
    have rx := (r1.mono s2).mono s3
    have s13 := Same.trans s1 (Same.trans s2 s3)
    rcases hx with hx | hx
    · obtain ⟨a, xs, rfl, h1, h2⟩ := look_lst R3 rx hx
      exact ⟨a, xs, rfl, .inr h1, nwS_of hix hm R3 (Same.trans s s13) hW h2 r3 hl q fun v H4 F4 z ρ4 s4 R4 r4 qz => c v H4 F4 z ρ4 (Same.trans s13 s4) R4 r4 qz⟩
    · obtain ⟨a, xs, rfl, h1, h2⟩ := look_tup R3 rx hx
      exact ⟨a, xs, rfl, .inl h1, nwS_of hix hm R3 (Same.trans s s13) hW h2 r3 hl q fun v H4 F4 z ρ4 s4 R4 r4 qz => c v H4 F4 z ρ4 (Same.trans s13 s4) R4 r4 qz⟩
theorem m_at {C : Str} {i : Nat} (h : sl ρ i = .val (.cls C)) (k : Me K O F0 te ρ Q) : Me K O F0 (tAt i (ga K C) te) ρ Q := fun F H σ Qh s R c => by
  refine ⟨?_, k F H σ Qh s R c⟩
  have a := R.at_ i
  rw [h] at a
  obtain ⟨w, a1, a2⟩ := a
  cases a2
  exact sv_some a1
end
end SJ
namespace SJ
open PySem PySem.Spec PyProof.Rows L2 He
def keyOf : Key → D
  | .inl i => .int i
  | .inr s => .str s
section
variable {K : PySem.W.Frag} {F F2 H : Hp} {vs us : List V} {ds es : List D} {κ : Type}
theorem rep_kV {k : Key} : Rep K F (kV k) (keyOf k) := by
  cases k with
  | inl i => exact .int i
  | inr s => exact .str s
theorem RepL.keys {kvs : List (Key × V)} {kds : List (Key × D)} (h : RepP K F kvs kds) : RepL K F (kvs.map fun q => kV q.1) (kds.map fun q => keyOf q.1) := by
  induction kds generalizing kvs with
  | nil => rw [h.inv0]; exact .nil
  | cons q kds ih =>
    obtain ⟨k, d⟩ := q
    obtain ⟨v, r, rfl, a, b⟩ := h.inv
    exact .cons rep_kV (ih b)
/-- a place in a dict, or at its end -/
def putKD (kds : List (Key × D)) (k : Key) (d : D) : List (Key × D) := if (kds.any fun kv => decide (kv.1 = k)) = true then kds.map (fun kv => if kv.1 = k then (kv.1, d) else kv) else kds ++ [(k, d)]
theorem RepP.any {kvs : List (Key × V)} {kds : List (Key × D)} {k : Key} (h : RepP K F kvs kds) : (kvs.any fun kv => decide (kv.1 = k)) = kds.any fun kv => decide (kv.1 = k) := by
  induction kds generalizing kvs with
  | nil => rw [h.inv0]; rfl
  | cons q kds ih =>
    obtain ⟨k2, d⟩ := q
    obtain ⟨v, r, rfl, a, b⟩ := h.inv
    rw [List.any_cons, List.any_cons, ih b]
theorem RepP.append {kvs kws : List (κ × V)} {kds kes : List (κ × D)} (h : RepP K F kvs kds) (g : RepP K F kws kes) : RepP K F (kvs ++ kws) (kds ++ kes) := ⟨by rw [List.map_append, List.map_append, h.1, g.1], by rw [List.map_append, List.map_append]; exact h.2.append g.2⟩
theorem RepP.putK {kvs : List (Key × V)} {kds : List (Key × D)} {k : Key} {v : V} {d : D} (h : RepP K F kvs kds) (r : Rep K F v d) : RepP K F (L2.putK kvs k v) (putKD kds k d) := by
  unfold L2.putK putKD
  rw [h.any]
  split
  · rename_i z
    clear z
    induction kds generalizing kvs with
    | nil => rw [h.inv0]; exact RepP.nil
    | cons q kds ih =>
      obtain ⟨k2, d2⟩ := q
      obtain ⟨v2, r2, rfl, a, b⟩ := h.inv
      rw [List.map_cons, List.map_cons]
      by_cases e : k2 = k
      · simp only [e, if_pos]; exact RepP.cons r (ih b)
      · simp only [e, if_neg, if_false]; exact RepP.cons a (ih b)
  · exact h.append (RepP.cons r RepP.nil)
end
section
variable {K : PySem.W.Frag} {O : Oc} {F0 F F2 F3 H H2 H3 : Hp} {σ σ2 : L2.St} {ρ ρ2 : Ro} {Q : X → Ro → Prop} {QT : Bool → Ro → Prop} {QA : List X → Ro → Prop} {QF : D → Ro → Prop} {QL : List D → Ro → Prop} {ta tb te to tc : TE} {t u tt : TT} {tA tK : TA} {ts tz : TS} {r r2 : R2} {N : Hn} {n : Nat} {x y : X} {d e : D} {g : TG} {wi : TI} {p : Addr} {o o2 : HO} {vs : List V} {ds es : List D} {kds : List (Key × D)} {fds : List (Str × D)} {W : WX} {Xp : XP} {i j : Int} {b c : Bool} {s z : Str} {cn : Str} {v : V} {gf : Addr} {P : PD}
/-- tuple(d.values()) -/
theorem m_tupV (k : Me K O F0 te ρ fun x ρ1 => ∃ kds, seeD x ρ1 = some (.dct kds) ∧ Q (.val (.tup (kds.map (·.2)))) ρ1) : Me K O F0 (tCB rTupD (tCons (tBM0 K "dict" rVals te) tNil)) ρ Q := fun F H σ Qh s R c =>
  k F H σ _ s R fun v H1 F1 x ρ1 s1 R1 r1 ⟨kds, hx, q⟩ => by
    obtain ⟨a, kvs, rfl, h1, h2⟩ := look_dct R1 r1 hx
    refine ⟨.inr (.inr (.inl ⟨rfl, .inl ⟨kvs, h1⟩⟩)), a, kvs, rfl, rfl, h1, fun w hw => ?_⟩
    have R2 : RS K O F1 (upd H1 w (valsO w a)) σ ρ1 := R1.allocN hw
    refine ⟨w, _, rfl, .vals upd_same (by rw [upd_ne (ne_of_none h1 hw)]; exact h1), fun l hl => ?_⟩
    obtain ⟨R3, s3⟩ := R2.alloc (o := .tup (kvs.map (·.2))) hl nx_tup
    exact c _ _ _ (.val (.tup _)) ρ1 (Same.trans s1 s3) R3 (Rep.tup (SqT.of upd_same) (h2.2.mono s3)) q
theorem r_rep01 (hd : ds ≠ []) (k : Q (.val (.tup (if b = true then ds else []))) ρ) : Mr K O F0 (rRep01 K) (.val (.tup ds)) (.val (.int (if b = true then 1 else 0))) ρ Q := fun F H σ u v Qh _ R hu hv q => by
  rw [look_int hv]
  obtain ⟨a, xs, rfl, h1, h2⟩ := look_tup R hu (ds := ds) rfl
  refine ⟨a, xs, rfl, h1, fun z => hd (by have := h2.length; rw [z] at this; exact List.eq_nil_of_length_eq_zero this.symm), ?_⟩
  cases b with
  | true => exact .inl ⟨rfl, q _ H F (.val (.tup ds)) ρ (Same.refl _) R hu k⟩
  | false =>
    refine .inr ⟨rfl, fun p hp => ?_⟩
    obtain ⟨R3, s3⟩ := R.alloc (o := .tup []) hp nx_tup
    exact q _ _ _ (.val (.tup [])) ρ s3 R3 (Rep.tup (SqT.of upd_same) .nil) k
theorem r_catT (hl : ds.length + es.length ≤ 10000) (k : Q (.val (.tup (ds ++ es))) ρ) : Mr K O F0 (rAdd K) (.val (.tup ds)) (.val (.tup es)) ρ Q := fun F H σ u v Qh _ R hu hv q => by
  have hu0 := hu
  have hv0 := hv
  obtain ⟨a, xs, rfl, h1, h2⟩ := look_tup R hu (ds := ds) rfl
  obtain ⟨b, ys, rfl, h3, h4⟩ := look_tup R hv (ds := es) rfl
  refine .inr (.inr (.inr ⟨a, b, xs, ys, rfl, rfl, h1, h3, by rw [h2.length, h4.length]; exact Nat.le_trans hl (by decide), fun e => ?_, fun _ e => ?_, fun _ _ p hp => ?_⟩))
  · subst e
    cases h2
    exact q _ H F (.val (.tup es)) ρ (Same.refl _) R hv0 k
  · subst e
    cases h4
    rw [List.append_nil] at k
    exact q _ H F (.val (.tup ds)) ρ (Same.refl _) R hu0 k
  · obtain ⟨R3, s3⟩ := R.alloc (o := .tup (xs ++ ys)) hp nx_tup
    exact q _ _ _ (.val (.tup (ds ++ es))) ρ s3 R3 (Rep.tup (SqT.of upd_same) ((h2.append h4).mono s3)) k
def cutD (xs : List D) (lo hi : Option Int) : List D := (xs.drop (HT.sIx xs.length 0 lo)).take (HT.sIx xs.length xs.length hi - HT.sIx xs.length 0 lo)
def Mo (K : PySem.W.Frag) (O : Oc) (F0 : Hp) (t : TO) (ρ : Ro) (Q : Option Int → Ro → Prop) : Prop := ∀ (F H : Hp) (σ : L2.St) (Qh : Option Int → Hp → Prop), Same F0 F → RS K O F H σ ρ → (∀ v H2 F2 ρ2, Same F F2 → RS K O F2 H2 σ ρ2 → Q v ρ2 → Qh v H2) → t σ H Qh
theorem mo_no {QO : Option Int → Ro → Prop} (k : QO none ρ) : Mo K O F0 tNoPart ρ QO := fun F H σ Qh s R c => c none H F ρ (Same.refl _) R k
theorem mo_part {QO : Option Int → Ro → Prop} (k : Me K O F0 te ρ fun x ρ1 => ∃ i, x = .val (.int i) ∧ QO (some i) ρ1) : Mo K O F0 (tPart te) ρ QO := fun F H σ Qh s R c =>
  k F H σ _ s R fun v H1 F1 x ρ1 s1 R1 r1 ⟨i, ex, q⟩ => by
    subst ex
    exact ⟨i, look_int r1, c (some i) H1 F1 ρ1 s1 R1 q⟩
theorem mf_sl {tl th : TO} (k : Me K O F0 te ρ fun x ρ1 => Mo K O F0 tl ρ1 fun lo ρ2 => Mo K O F0 th ρ2 fun hi ρ3 => ∃ ds, seeD x ρ3 = some (.lst ds) ∧ QF (.lst (cutD ds lo hi)) ρ3) : Mf K O F0 (tSl (rSlU K) te tl th) ρ QF := fun F H σ Qh s R c =>
  k F H σ _ s R fun v H1 F1 x ρ1 s1 R1 r1 k1 => k1 F1 H1 σ _ (Same.trans s s1) R1 fun lo H2 F2 ρ2 s2 R2 k2 => k2 F2 H2 σ _ (Same.trans s (Same.trans s1 s2)) R2 fun hi H3 F3 ρ3 s3 R3 ⟨ds, hx, q⟩ => by
    obtain ⟨a, xs, rfl, h1, h2⟩ := look_lst R3 ((r1.mono s2).mono s3) hx
    refine .inl ⟨a, xs, rfl, h1, fun p hp => ?_⟩
    have e : RepL K F3 (cutV xs lo hi) (cutD ds lo hi) := by
      unfold cutV cutD
      rw [h2.length]
      exact h2.sub _ _
    exact mf_new (ρ2 := ρ3) (F2 := F3) R3 hp e fun H4 R4 nw => c p H4 F3 _ ρ3 (Same.trans s1 (Same.trans s2 s3)) R4 nw q
end
end SJ
namespace SJ
open PySem PySem.Spec PySem.W PySem.Calls PyProof.Rows L2 LamX
section
variable {K : PySem.W.Frag} {O : Oc} {F0 F F2 F3 H H2 H3 : Hp} {σ σ2 : L2.St} {ρ ρ2 : Ro} {Q : X → Ro → Prop} {QT : Bool → Ro → Prop} {QA : List X → Ro → Prop} {QF : D → Ro → Prop} {QL : List D → Ro → Prop} {ta tb te to tc tk tv : TE} {t u tt : TT} {tA tK : TA} {ts tz : TS} {r r2 : R2} {N : Hn} {n : Nat} {x y : X} {d e : D} {g : TG} {wi : TI} {p : Addr} {o o2 : HO} {ds es : List D} {kds : List (Key × D)} {fds : List (Str × D)} {W : WX} {Xp : XP} {i j : Int} {b c : Bool} {s z : Str} {cn : Str} {v : V} {gf : Addr} {P : PD}
/-- the heap grew, tables turned -/
theorem RS.extN (R : RS K O F H σ ρ) (e : ExtN H H2) (t : Tabs O.T H2) : RS K O F H2 σ ρ := by
  refine ⟨fun a o h => e a o (R.fh a o h) (R.ft a o h), fun a o h => e a o (R.oh a o h) (R.ot a o h).1, R.dj, t, R.ot, R.ft, R.w0, R.len, fun i => ?_, R.ne⟩
  by_cases m : (sl ρ i).mut = true
  · obtain ⟨a, h1, h2, h3, h4⟩ := R.owned m
    obtain ⟨o, q1, q2⟩ := h4.nx
    exact SlOk.of_mut m h1 h2 h3 (h4.mono (by rw [q1, e a o q1 q2.1]) (Same.refl _))
  · exact (R.at_ i).mono (by cases q : (sl ρ i).mut with | true => exact absurd q m | false => rfl) (Same.refl _)
def HasD (K : PySem.W.Frag) (f : Str) (d : D) (z : Str) : Prop := ∃ c fds, d = .obj c fds ∧ FdOk K c f ∧ fds.lookup f = some (.str z)
def sortD (ds : List D) (zs : List Str) : List D := ((ds.zip zs).mergeSort (dataLe false fun q => PyData.str q.2)).map (·.1)
theorem hasS_of {xs : List V} {zs : List Str} {f : Str} (h : RepL K H xs ds) (q : Paired (HasD K f) ds zs) : Paired (HasS K H f) xs zs := by
  induction ds generalizing xs zs with
  | nil => cases h; cases q; exact .nil
  | cons d ds ih =>
    cases h with
    | cons a b =>
      cases q with
      | cons c d =>
        refine .cons ?_ (ih b d)
        obtain ⟨cn, fds, rfl, hf, hl⟩ := c
        obtain ⟨p, dx, fs, rfl, h1, h2⟩ := a.objP
        obtain ⟨w, w1, w2⟩ := h2.lookup hl
        cases w2
        exact ⟨p, _, dx, fs, rfl, h1, hf.1, hf.2, w1⟩
theorem rep_sort {xs : List V} {zs : List Str} (h : RepL K F xs ds) : RepL K F (sortV xs zs) (sortD ds zs) := by
  have key : ∀ (xs : List V) (ds : List D) (zs : List Str), RepL K F xs ds → ∃ l : List ((V × D) × Str), (∀ q ∈ l, Rep K F q.1.1 q.1.2) ∧ xs.zip zs = l.map (fun q => (q.1.1, q.2)) ∧ ds.zip zs = l.map (fun q => (q.1.2, q.2)) := by
    intro xs ds
    induction ds generalizing xs with
    | nil => intro zs h; cases h; exact ⟨[], (fun q hq => nomatch hq), rfl, rfl⟩
    | cons d ds ih =>
      intro zs h
      cases h with
      | cons a b =>
        cases zs with
        | nil => exact ⟨[], (fun q hq => nomatch hq), rfl, rfl⟩
        | cons z zs =>
          obtain ⟨l, l1, l2, l3⟩ := ih _ zs b
          refine ⟨((_, d), z) :: l, fun q hq => ?_, by rw [List.zip_cons_cons, l2]; rfl, by rw [List.zip_cons_cons, l3]; rfl⟩
          rcases List.mem_cons.mp hq with rfl | hq
          · exact a
          · exact l1 q hq
  obtain ⟨l, l1, l2, l3⟩ := key xs ds zs h
  unfold sortV sortD
  have m1 := List.map_mergeSort (r := dataLe false fun q : (V × D) × Str => PyData.str q.2) (s := dataLe false fun q : V × Str => PyData.str q.2) (f := fun q => (q.1.1, q.2)) (l := l) (fun a _ b _ => rfl)
  have m2 := List.map_mergeSort (r := dataLe false fun q : (V × D) × Str => PyData.str q.2) (s := dataLe false fun q : D × Str => PyData.str q.2) (f := fun q => (q.1.2, q.2)) (l := l) (fun a _ b _ => rfl)
  rw [l2, l3, ← m1, ← m2, List.map_map, List.map_map]
  have hm : ∀ q ∈ l.mergeSort (dataLe false fun q : (V × D) × Str => PyData.str q.2), Rep K F q.1.1 q.1.2 := fun q hq => l1 q (List.mem_mergeSort.mp hq)
  generalize l.mergeSort (dataLe false fun q : (V × D) × Str => PyData.str q.2) = m at hm
  induction m with
  | nil => exact .nil
  | cons q m ih => exact .cons (hm q (List.mem_cons_self ..)) (ih fun q hq => hm q (List.mem_cons_of_mem _ hq))
/-- sorted(xs, key=lambda x: x.f) -/
theorem mf_sortA {f : Str} (k : Me K O F0 te ρ fun x ρ1 => ∃ ds zs, (seeD x ρ1 = some (.tup ds) ∨ seeD x ρ1 = some (.lst ds)) ∧ ds.length ≤ 1000 ∧ Paired (HasD K f) ds zs ∧ QF (.lst (sortD ds zs)) ρ1) : Mf K O F0 (tSortA K O.T f (tCons te tNil)) ρ QF := fun F H σ Qh s R c =>
  k F H σ _ s R fun v H1 F1 x ρ1 s1 R1 r1 ⟨ds, zs, hx, hl, hp, q⟩ => by
    refine ⟨v, rfl, R1.tb, ?_⟩
    have fin : ∀ xs : List V, RepL K F1 xs ds → ∀ H2 p, ExtN H1 H2 → Tabs O.T H2 → H2 p = none → Qh (.ref p) (upd H2 p (.lst (sortV xs zs))) := fun xs hr H2 p he ht hn =>
      mf_new (ρ2 := ρ1) (F2 := F1) (R1.extN he ht) hn (rep_sort hr) fun H3 R3 nw => c p H3 F1 _ ρ1 s1 R3 nw q
    rcases hx with hx | hx
    · obtain ⟨a, xs, rfl, h1, h2⟩ := look_tup R1 r1 hx
      exact ⟨a, xs, zs, rfl, .inl h1, by rw [h2.length]; exact hl, hasS_of (h2.mono R1.fh) hp, fin xs h2⟩
    · obtain ⟨a, xs, rfl, h1, h2⟩ := look_lst R1 r1 hx
      exact ⟨a, xs, zs, rfl, .inr h1, by rw [h2.length]; exact hl, hasS_of (h2.mono R1.fh) hp, fin xs h2⟩
theorem putKD_len {acc : List (Key × D)} {k : Key} {e : D} : (putKD acc k e).length ≤ acc.length + 1 := by
  unfold putKD
  split
  · rw [List.length_map]; exact Nat.le_succ _
  · rw [List.length_append]; exact Nat.le_refl _
theorem wipe_wipe {σ : L2.St} {vs : List Nat} : L2.wipe (L2.wipe σ vs) vs = L2.wipe σ vs := List.ext_getElem? fun j => by
  have wl : (L2.wipe (L2.wipe σ vs) vs).length = (L2.wipe σ vs).length := wipe_length _ _
  have e1 : sv (L2.wipe (L2.wipe σ vs) vs) j = sv (L2.wipe σ vs) j := by
    rw [sv_wipe]
    by_cases m : j ∈ vs
    · rw [if_pos m, sv_wipe, if_pos m]
    · rw [if_neg m]
  unfold sv at e1
  by_cases hj : j < (L2.wipe σ vs).length
  · rw [List.getElem?_eq_getElem (by rw [wl]; exact hj), List.getElem?_eq_getElem hj] at e1 ⊢
    exact congrArg some e1
  · rw [List.getElem?_eq_none (by rw [wl]; omega), List.getElem?_eq_none (by omega)]
theorem mf_dc {vs : List Nat} (js : List Nat) (hjs : ∀ j ∈ js, j ∈ vs) (h0 : 0 ∉ vs) (k : Mi K O F0 wi ρ fun ds ρ1 => ds.length ≤ 10000 ∧ ∃ I : Nat → List (Key × D) → Ro → Prop, I 0 [] ρ1 ∧
    (∀ i d acc ρ2, ds[i]? = some d → acc.length ≤ i → I i acc ρ2 → (∀ v ∈ vs, (sl ρ2 v).mut = false) ∧ ∀ (oo : Hp) (ww : Option V), Mg K ⟨oo, ww, O.T⟩ F0 g js d (wipeR ρ2 vs) fun ρ3 => ρ3.length = ρ2.length ∧ Mt K ⟨oo, ww, O.T⟩ F0 tt ρ3 fun b ρ4 => if b = true then Me K ⟨oo, ww, O.T⟩ F0 tk ρ4 fun y ρ5 => ∃ dy kd, y = .val dy ∧ keyD dy = some kd ∧ Me K ⟨oo, ww, O.T⟩ F0 tv ρ5 fun z ρ6 => Frz z ρ6 fun e ρ7 => ρ7.length = ρ2.length ∧ I (i + 1) (putKD acc kd e) (rst ρ7 ρ2 vs) else ρ4.length = ρ2.length ∧ I (i + 1) acc (rst ρ4 ρ2 vs)) ∧
    ∀ acc ρ2, I ds.length acc ρ2 → QF (.dct acc) ρ2) : Mf K O F0 (tDc wi g tt tk tv vs) ρ QF := fun F H σ Qh s R c =>
  k F H σ _ s R fun J H2 F2 ds ρ2 s2 R2 wd ⟨hds, I, i0, is, ie⟩ l hl => by
    have hOl : O.o l = none := (R2.free hl).2
    have R20 : RS K { O with o := upd O.o l (.dK []) } F2 (upd H2 l (.dK [])) σ ρ2 := (R2.allocN hl).out upd_same nx_dK (R2.free hl).1 (R2.no_new hl)
    refine ⟨fun i m H => m = ds.length - i ∧ i ≤ ds.length ∧ ∃ F3 ρ3 acc us, Same F2 F3 ∧ RS K { O with o := upd O.o l (.dK us) } F3 H σ ρ3 ∧ RepP K F3 us acc ∧ acc.length ≤ i ∧ I i acc ρ3, ⟨ds.length, rfl, Nat.zero_le _, F2, ρ2, [], [], Same.refl _, R20, RepP.nil, Nat.le_refl _, i0⟩, ?_⟩
    rintro i m H1 ⟨rfl, hi, F3, ρ3, acc, us, s3, R3, ra, hacc, q3⟩
    obtain ⟨w1, w2⟩ := wd _ i F3 H1 σ ρ3 s3 R3
    by_cases hlt : i < ds.length
    · obtain ⟨go, yl⟩ := w2 _ (List.getElem?_eq_getElem hlt)
      refine .inr ⟨go, fun H' => ∃ F4 ρ4 acc us, Same F2 F4 ∧ RS K { O with o := upd O.o l (.dK us) } F4 H' σ ρ4 ∧ RepP K F4 us acc ∧ acc.length ≤ i + 1 ∧ I (i + 1) acc ρ4, fun H' z => ⟨ds.length - (i + 1), by omega, rfl, hlt, z⟩, fun x H' y => ?_⟩
      obtain ⟨F4, s4, R4, r4⟩ := yl x H' y
      have s04 : Same F0 F4 := Same.trans s (Same.trans s2 (Same.trans s3 s4))
      obtain ⟨hm, body⟩ := is i _ acc ρ3 (List.getElem?_eq_getElem hlt) hacc q3
      refine body (upd O.o l (.dK us)) O.w F4 H' (L2.wipe σ vs) x _ s04 (R4.wipe h0) r4 fun F5 H5 σ5 ρ5 s5 R5 hw ⟨hl5, mt⟩ => ?_
      have hw5 : L2.wipe σ5 vs = L2.wipe σ vs := by rw [hw vs hjs, wipe_wipe]
      refine ⟨hw5, mt F5 H5 σ5 _ (Same.trans s04 s5) R5 fun b H6 F6 ρ6 s6 R6 kb => ?_⟩
      cases b with
      | true =>
        refine kb F6 H6 σ5 _ (Same.trans s04 (Same.trans s5 s6)) R6 fun v H7 F7 y ρ7 s7 R7 r7 ⟨dy, kd, ey, hk, kv⟩ => ?_
        subst ey
        refine kv F7 H7 σ5 _ (Same.trans s04 (Same.trans s5 (Same.trans s6 s7))) R7 fun v2 H8 F8 z ρ8 s8 R8 r8 fz => ?_
        obtain ⟨e, ρ9, F9, s9, R9, r9, hl9, q9⟩ := frz_of R8 r8 fz
        have s49 := Same.trans s5 (Same.trans s6 (Same.trans s7 (Same.trans s8 s9)))
        have R10 := RS.unwipe R4 R9 s49 hw5 rfl hl9 h0 hm
        refine ⟨us, kd, rep_key r7 hk, R10.oh l _ upd_same, ?_, F9, _, putKD acc kd e, L2.putK us kd v2, Same.trans s3 (Same.trans s4 s49), R10.turn nx_dK, (ra.mono (Same.trans s4 s49)).putK r9, Nat.le_trans putKD_len (Nat.succ_le_succ hacc), q9⟩
        rw [ra.length]
        exact Nat.lt_of_le_of_lt (Nat.le_trans hacc hi) (Nat.lt_of_le_of_lt hds (by decide))
      | false =>
        have R9 := RS.unwipe R4 R6 (Same.trans s5 s6) hw5 rfl kb.1 h0 hm
        exact ⟨F6, _, acc, us, Same.trans s3 (Same.trans s4 (Same.trans s5 s6)), R9, ra.mono (Same.trans s4 (Same.trans s5 s6)), Nat.le_succ_of_le hacc, kb.2⟩
    · have e : i = ds.length := by omega
      subst e
      obtain ⟨b1, b2, b3, b4⟩ := R3.back hOl
      exact .inl ⟨w1 (Nat.le_refl _), c l H1 F3 (.dct acc) ρ3 (Same.trans s2 s3) b1 ⟨b2, hOl, b4, us, b3, ra⟩ (ie acc ρ3 q3)⟩
/-- .. each element told by itself -/
def dcD (Kn : D → Key) (Fn : D → D) (ds : List D) : List (Key × D) := ds.foldl (fun acc d => putKD acc (Kn d) (Fn d)) []
theorem mf_dcM {vs : List Nat} (js : List Nat) (Kn : D → Key) (Fn : D → D) (hjs : ∀ j ∈ js, j ∈ vs := by decide) (h0 : 0 ∉ vs := by decide) (k : Mi K O F0 wi ρ fun ds ρ1 => ds.length ≤ 10000 ∧ (∀ v ∈ vs, (sl ρ1 v).mut = false) ∧
    (∀ d ∈ ds, ∀ (oo : Hp) (ww : Option V), Mg K ⟨oo, ww, O.T⟩ F0 g js d (wipeR ρ1 vs) fun ρ3 => ρ3.length = ρ1.length ∧ rst ρ3 ρ1 vs = ρ1 ∧ Me K ⟨oo, ww, O.T⟩ F0 tk ρ3 fun y ρ5 => ρ5 = ρ3 ∧ (∃ dy, y = .val dy ∧ keyD dy = some (Kn d)) ∧ Me K ⟨oo, ww, O.T⟩ F0 tv ρ5 fun z ρ6 => z = .val (Fn d) ∧ ρ6 = ρ3) ∧
    QF (.dct (dcD Kn Fn ds)) ρ1) : Mf K O F0 (tDc wi g tYes tk tv vs) ρ QF := by
  refine mf_dc js hjs h0 fun F H σ R s R0 c => k F H σ R s R0 fun J H2 F2 ds ρ2 s2 R2 wd ⟨hds, hm, hb, q⟩ => c J H2 F2 ds ρ2 s2 R2 wd ⟨hds, fun i acc ρ3 => ρ3 = ρ2 ∧ acc = dcD Kn Fn (ds.take i), ⟨rfl, rfl⟩, fun i d acc ρ3 hd hacc ⟨e1, e2⟩ => ?_, fun acc ρ3 ⟨e1, e2⟩ => ?_⟩
  · subst e1
    refine ⟨hm, fun oo ww => ?_⟩
    intro F H σ v Qs sa Ra ra ca
    refine hb d (List.mem_of_getElem? hd) oo ww F H σ v Qs sa Ra ra fun F2 H2 σ2 ρ4 sb Rb wb ⟨l1, l2, me⟩ => ca F2 H2 σ2 ρ4 sb Rb wb ⟨l1, ?_⟩
    intro F H σ Qh sc Rc cc
    refine cc true H F ρ4 (Same.refl _) Rc ?_
    show Me K ⟨oo, ww, O.T⟩ F0 tk ρ4 _
    intro F H σ Qh se Re ce
    refine me F H σ Qh se Re fun v H4 F4 y ρ6 sf Rf rf ⟨e5, ⟨dy, e6, e7⟩, mv⟩ => ce v H4 F4 y ρ6 sf Rf rf ⟨dy, _, e6, e7, ?_⟩
    intro F H σ Qh sg Rg cg
    refine mv F H σ Qh sg Rg fun v2 H5 F5 z ρ7 sh Rh rh ⟨e8, e9⟩ => cg v2 H5 F5 z ρ7 sh Rh rh ?_
    subst e8 e9
    have ht : ds.take (i + 1) = ds.take i ++ [d] := by
      rw [List.take_add_one, hd]; rfl
    refine ⟨l1, l2, ?_⟩
    unfold dcD at e2 ⊢
    rw [ht, List.foldl_append, e2]
    rfl
  · subst e1 e2
    rw [List.take_length]
    exact q
theorem mg_pair {i j : Nat} {a b : D} {Pn : Ro → Prop} (k : Pn ((ρ.set i (.val a)).set j (.val b))) (hi : i ≠ 0 := by decide) (hj : j ≠ 0 := by decide) : Mg K O F0 (gTup K 2 (gCons (gName i) (gCons (gName j) gNil))) [i, j] (.tup [a, b]) ρ Pn := fun F H σ v Qs s R r c => by
  obtain ⟨p, xs, rfl, h1, h2⟩ := r.tupP
  cases h2 with
  | cons ra rb =>
    cases rb with
    | cons rb z =>
      cases z
      refine ⟨p, _, rfl, sqt_same R.fh h1, rfl, _, _, rfl, _, _, rfl, rfl, ?_⟩
      refine c F H _ _ (Same.refl _) ((R.put hi ra).put hj rb) (fun vs h => ?_) k
      rw [wipe_set (h j (by simp)), wipe_set (h i (by simp))]
end
end SJ
namespace SJ
open PySem PySem.Spec PyProof.Rows L2 He LamX
section
variable {K : PySem.W.Frag} {F F2 : Hp} {q : Addr}
/-- heaps that differ at q alone, which holds a dict, locked or not -/
def OffD (F F2 : Hp) (q : Addr) : Prop := (∀ a o, a ≠ q → F a = some o → F2 a = some o) ∧ ((∃ kvs, F q = some (.dK kvs)) ∨ ∃ od kvs, F q = some (.frz od (.dK kvs)))
theorem OffD.ne {o : HO} {a : Addr} (h : OffD F F2 q) (e : F a = some o) (h1 : ∀ kvs, o ≠ .dK kvs) (h2 : ∀ od kvs, o ≠ .frz od (.dK kvs)) : F2 a = some o := h.1 a o (fun z => by
  subst z
  rcases h.2 with ⟨kvs, g⟩ | ⟨od, kvs, g⟩
  · rw [g] at e; exact h1 kvs (Option.some.inj e).symm
  · rw [g] at e; exact h2 od kvs (Option.some.inj e).symm) e
end
end SJ
namespace SJ
open PySem PySem.Spec PyProof.Rows L2 He LamX
section
variable {K : PySem.W.Frag} {O : Oc} {F0 F F2 F3 H H2 H3 : Hp} {σ σ2 : L2.St} {ρ ρ2 : Ro} {Q : X → Ro → Prop} {QT : Bool → Ro → Prop} {QA : List X → Ro → Prop} {QF : D → Ro → Prop} {QL : List D → Ro → Prop} {ta tb te to tc tk tv : TE} {t u tt : TT} {tA tK : TA} {ts tz : TS} {r r2 : R2} {N : Hn} {n : Nat} {x y : X} {d e : D} {g : TG} {wi : TI} {p : Addr} {o o2 : HO} {ds es : List D} {kds : List (Key × D)} {fds : List (Str × D)} {W : WX} {Xp : XP} {b c : Bool} {s z : Str} {cn : Str} {v : V} {gf : Addr} {P : PD} {vs : List V}
theorem body_pin {T : List (Addr × Str)} {P : PI1} {Nm : List Str} {ts : TS} {Qh : VK} {E : XK} (h : spS K T (pin P) vs H Qh E)
    (k : ∀ (o : Hp) (w : Option V) (F0 : Hp) (c : Str) (ds : List D) (Qd : List (Str × D) → Prop) (Ed : Str → List (Str × D) → Prop), P c ds Qd Ed → Wr K ⟨o, w, T⟩ F0 (WO E) (fun c2 fs ρ => sl ρ 0 = .own (.obj c []) ∧ Ed c2 fs) →
      Ms K ⟨o, w, T⟩ F0 ts ((Sl.own (.obj c []) :: ds.map Sl.val) ++ List.replicate (Nm.length - (ds.length + 1)) .none) { nx := fun ρ => ∃ fs, sl ρ 0 = .own (.obj c fs) ∧ Qd fs, rt := fun d ρ => d = .non ∧ ∃ fs, sl ρ 0 = .own (.obj c fs) ∧ Qd fs }) : ts { nx := fun _ H2 => Qh .non H2, rt := Qh } (start Nm vs) H := by
  obtain ⟨O, F, ρ, rfl, R, c, ds, Qd, Ed, rfl, hp, q1, q2⟩ := h
  have R1 := R.start (Nm := Nm)
  rw [List.length_cons, List.length_map] at R1
  refine k O.o vs.head? F c ds Qd Ed hp (fun F2 H2 σ2 ρ2 c2 fs dd fvs s2 hd C hn rp ⟨h0, e⟩ => ?_) F H _ _ (Same.refl _) R1 ⟨fun F2 H2 σ2 ρ2 s2 C ⟨fs, h0, q⟩ => ?_, fun F2 H2 σ2 ρ2 v d s2 C r ⟨hdn, fs, h0, q⟩ => ?_, fun _ _ _ _ _ _ z => z, fun _ _ _ _ _ _ z => z, fun _ _ _ _ _ _ _ _ _ z => z.elim⟩
  · refine q2 c2 fs e dd H2 F2 fvs s2 hd ?_ hn rp
    have R3 := R.stopM C s2 (Same.upd (Same.refl _) hn) rfl rfl
    rw [h0] at R3
    refine R3.out hd nx_xd (C.dj dd _ upd_same) fun i m e2 => ?_
    obtain ⟨b, b1, b2, b3, b4⟩ := R3.owned m
    cases i with
    | zero =>
      obtain ⟨b', c1, c2', c3, c4⟩ := C.owned (i := 0) (by rw [h0]; rfl)
      have : sv σ2 0 = sv (vs.map some) 0 := by
        have hv : vs ≠ [] := fun z => by have := R.len; rw [z] at this; cases this
        obtain ⟨v, us, rfl⟩ := List.exists_cons_of_ne_nil hv
        exact C.w0 v rfl
      rw [this, e2] at c1
      cases c1
      cases upd_same.symm.trans c3
    | succ i => rw [show sl (Sl.own (.obj c []) :: ds.map Sl.val) (i + 1) = sl (ds.map Sl.val) i from rfl, vals_mut] at m; cases m
  · have R3 := R.stopM C s2 (Same.refl _) rfl rfl
    rw [h0] at R3
    exact q1 fs q .non H2 F2 s2 R3 .non
  · have R3 := R.stopM C s2 (Same.refl _) rfl rfl
    rw [h0] at R3
    subst hdn
    exact q1 fs q v H2 F2 s2 R3 r
theorem len_pin {T : List (Addr × Str)} {P : PI1} {Qh : VK} {E : XK} {n : Nat} (hn : ∀ c ds Q E, P c ds Q E → ds.length + 1 = n) (h : spS K T (pin P) vs H Qh E) : vs.length = n := by
  obtain ⟨O, F, ρ, rfl, R, c, ds, Qd, Ed, rfl, hp, q1, q2⟩ := h
  have := R.len
  rw [List.length_map, List.length_cons, List.length_map] at this
  rw [this, hn c ds Qd Ed hp]
abbrev PP1 := Nat → List D → (D → Nat → Prop) → Prop
theorem body_pp {T : List (Addr × Str)} {P : PP1} {Nm : List Str} {ts : TS} {Qh : VK} {E : XK} (h : spS K T (pp P) vs H Qh E)
    (k : ∀ (o : Hp) (w : Option V) (F0 : Hp) (m : Nat) (ds : List D) (Qd : D → Nat → Prop), P m ds Qd →
      Ms K ⟨o, w, T⟩ F0 ts ((Sl.pen m :: ds.map Sl.val) ++ List.replicate (Nm.length - (ds.length + 1)) .none) { nx := fun ρ => ∃ j, sl ρ 0 = .pen j ∧ Qd .non j, rt := fun d ρ => ∃ j, sl ρ 0 = .pen j ∧ Qd d j }) : ts { nx := fun _ H2 => Qh .non H2, rt := Qh } (start Nm vs) H := by
  obtain ⟨O, F, ρ, rfl, R, m, ds, Qd, rfl, hp, q1⟩ := h
  have R1 := R.start (Nm := Nm)
  rw [List.length_cons, List.length_map] at R1
  refine k O.o vs.head? F m ds Qd hp F H _ _ (Same.refl _) R1 ⟨fun F2 H2 σ2 ρ2 s2 C ⟨j, h0, q⟩ => ?_, fun F2 H2 σ2 ρ2 v d s2 C r ⟨j, h0, q⟩ => ?_, fun _ _ _ _ _ _ z => z, fun _ _ _ _ _ _ z => z, fun _ _ _ _ _ _ _ _ _ z => z.elim⟩
  · have R3 := R.stopM C s2 (Same.refl _) rfl rfl
    rw [h0] at R3
    exact q1 .non j q .non H2 F2 s2 R3 .non
  · have R3 := R.stopM C s2 (Same.refl _) rfl rfl
    rw [h0] at R3
    exact q1 d j q v H2 F2 s2 R3 r
theorem len_pp {T : List (Addr × Str)} {P : PP1} {Qh : VK} {E : XK} {n : Nat} (hn : ∀ m ds Q, P m ds Q → ds.length + 1 = n) (h : spS K T (pp P) vs H Qh E) : vs.length = n := by
  obtain ⟨O, F, ρ, rfl, R, m, ds, Qd, rfl, hp, q1⟩ := h
  have := R.len
  rw [List.length_map, List.length_cons, List.length_map] at this
  rw [this, hn m ds Qd hp]
theorem RS.penned {ds : List D} {m m2 : Nat} {Pn : Pen} {us : List V} (R : RS K O F H ((V.ref Pn.p :: us).map some) (.pen m :: ds.map Sl.val)) (s : Same (L2.del H Pn.p) (L2.del H2 Pn.p)) (h : PenAt H2 Pn m2) (hc : F Pn.c = some (.lst (Pn.ns.map V.int))) : RS K O F H2 ((V.ref Pn.p :: us).map some) (.pen m2 :: ds.map Sl.val) := by
  obtain ⟨p2, h1, h2, h3, h4⟩ := R.owned (i := 0) rfl
  cases h1
  obtain ⟨o, e1, e2⟩ := h4.nx
  have kp : ∀ a u, a ≠ Pn.p → H a = some u → H2 a = some u := fun a u n e => del_sub (s a u (by rw [del_ne n]; exact e))
  have tl : ∀ i, sl (Sl.pen m2 :: ds.map Sl.val) (i + 1) = sl (ds.map Sl.val) i := fun i => rfl
  refine ⟨fun a u e => kp a u (fun z => by rw [z, h2] at e; cases e) (R.fh _ _ e), fun a u e => kp a u (fun z => by rw [z, h3] at e; cases e) (R.oh _ _ e), R.dj, fun q hq => ?_, R.ot, R.ft, R.w0, R.len, fun i => ?_, fun i j a ij mi mj => ?_⟩
  · obtain ⟨ps, a1, a2, a3⟩ := R.tb q hq
    have n1 : q.1 ≠ Pn.p := fun z => by rw [z, e1] at a1; exact e2.1 ps (Option.some.inj a1)
    refine ⟨ps, kp _ _ n1 a1, a2, fun pos cv hcv => ?_⟩
    obtain ⟨c, b1, b2⟩ := a3 pos cv hcv
    exact ⟨c, b1, kp _ _ (fun z => by rw [z, e1] at b2; exact e2.2 _ (Option.some.inj b2)) b2⟩
  · cases i with
    | zero =>
      obtain ⟨a, r, g1, g2, g3, g4, g5, g6⟩ := h
      exact ⟨Pn.p, rfl, h2, h3, Pn, rfl, hc, a, r, g1, g3, g4, g5, g6⟩
    | succ i =>
      have q := R.at_ (i + 1)
      rw [show sl (Sl.pen m :: ds.map Sl.val) (i + 1) = sl (ds.map Sl.val) i from rfl] at q
      rw [tl]
      exact q.mono vals_mut (Same.refl _)
  · cases i with
    | zero =>
      cases j with
      | zero => exact absurd rfl ij
      | succ j => rw [tl, vals_mut] at mj; cases mj
    | succ i => rw [tl, vals_mut] at mi; cases mi
theorem RS.penAt {ds : List D} {m : Nat} (R : RS K O F H (vs.map some) (.pen m :: ds.map Sl.val)) : ∃ (Pn : Pen) (us : List V), vs = .ref Pn.p :: us ∧ PenAt H Pn m ∧ F Pn.c = some (.lst (Pn.ns.map V.int)) ∧ F Pn.p = none ∧ RepL K F us ds := by
  obtain ⟨p2, h1, h2, h3, h4⟩ := R.owned (i := 0) rfl
  obtain ⟨Pn, rfl, hc, a, r, g1, g3, g4, g5, g6⟩ := h4
  have hl := R.len
  match vs, h1, hl with
  | v :: us, h1, hl =>
  cases (show some v = some (.ref Pn.p) from h1)
  have hne : Pn.c ≠ Pn.p := fun z => by rw [z, h2] at hc; cases hc
  refine ⟨Pn, us, rfl, ⟨a, r, g1, by rw [del_ne hne]; exact R.fh _ _ hc, g3, g4, g5, g6⟩, hc, h2, ?_⟩
  have key : ∀ (us : List V) (ds : List D), us.length = ds.length → (∀ i, SlOk K O.o F H (sv (us.map some) i) (sl (ds.map Sl.val) i)) → RepL K F us ds := by
    intro us ds
    induction ds generalizing us with
    | nil => intro l _; rw [List.eq_nil_of_length_eq_zero l]; exact .nil
    | cons d ds ih =>
      intro l q
      match us, l with
      | u :: us, l =>
      obtain ⟨w, w1, w2⟩ := (show SlOk K O.o F H (some u) (.val d) from q 0)
      cases w1
      exact .cons w2 (ih us (Nat.succ.inj l) fun i => q (i + 1))
  refine key us ds ?_ fun i => R.at_ (i + 1)
  rw [List.map_cons, List.length_cons, List.length_cons, List.length_map, List.length_map] at hl
  exact Nat.succ.inj hl
/-- what a draw promises -/
def PDraw : PP1 := fun n ds Q => ∃ m : Int, ds = [.int m] ∧ n < 100000 ∧ 0 < m ∧ m < 1073741824 ∧ ∀ r : Int, 0 ≤ r → r < m → Q (.int r) (n + 1)
theorem draw_of {T : List (Addr × Str)} {Qh : VK} {E : XK} (h : spS K T (pp PDraw) vs H Qh E) : spDraw vs H Qh E := by
  obtain ⟨O, F, ρ, rfl, R, n, ds, Qd, rfl, ⟨m, rfl, h1, h2, h3, h4⟩, q1⟩ := h
  obtain ⟨Pn, us, rfl, hp, hc, hF, rl⟩ := R.penAt
  cases rl with
  | cons a b =>
    cases a
    cases b
    exact ⟨Pn, m, n, rfl, hp, h1, h2, h3, fun H2 r r1 r2 p2 sd => q1 _ _ (h4 r r1 r2) _ H2 F (Same.refl _) (R.penned sd p2 hc) (.int r)⟩
/-- what a pick promises -/
def PPick : PP1 := fun n ds Q => ∃ es : List D, (ds = [.lst es] ∨ ds = [.tup es]) ∧ n < 100000 ∧ es ≠ [] ∧ es.length ≤ 1000 ∧ ∀ e ∈ es, Q e (n + 1)
end
end SJ
namespace SJ
open PySem PySem.Spec PyProof.Rows L2 He LamX
def dSeq (K : PySem.W.Frag) (g : Addr) (sp : Sp) : EqB := fun Rl x y H b => dSame Rl x y H b ∨ dOwn K g sp Rl x y H b
/-- all stays but sets and tables; F and the tables stay good -/
def Sm (T : List (Addr × Str)) (F : Hp) : Hp → Hp → Prop := fun H G => (∀ a o, H a = some o → NX o → G a = some o) ∧ (Same F H ∧ Tabs T H → Same F G ∧ Tabs T G)
theorem sm_grow {T : List (Addr × Str)} {F : Hp} : Grow (Sm T F) where
  refl := fun H => ⟨fun _ _ e _ => e, fun q => q⟩
  trans := fun a b => ⟨fun x o e n => b.1 x o (a.1 x o e n) n, fun q => b.2 (a.2 q)⟩
  ins := fun a e => a.1 _ _ e nx_ins
  lst := fun a e => a.1 _ _ e nx_lst
def scal : D → Bool
  | .non => true
  | .bl _ => true
  | .int _ => true
  | .str _ => true
  | _ => false
def seqEq (eqf : D → D → Bool) : List D → List D → Bool
  | x :: xs, y :: ys => eqf x y && seqEq eqf xs ys
  | [], [] => true
  | _, _ => false
section
variable {K : PySem.W.Frag} {O : Oc} {F0 F F2 F3 H H2 H3 : Hp} {σ σ2 : L2.St} {ρ ρ2 : Ro} {Q : X → Ro → Prop} {QF : D → Ro → Prop} {ta tb te : TE} {N : Hn} {n : Nat} {x y : X} {d e : D} {p : Addr} {o o2 : HO} {ds es : List D} {fds : List (Str × D)} {b c : Bool} {s z : Str} {cn : Str} {v : V} {gf : Addr} {P : PD} {vs : List V} {T : List (Addr × Str)}
theorem scal_inj (h1 : Rep K F v d) (h2 : Rep K F v e) (s1 : scal d = true) (s2 : scal e = true) : d = e := by
  cases h1 <;> first | (cases s1; done) | (cases h2 <;> first | rfl | (cases s2; done))
theorem scalF_inj {fs : List (Str × V)} {f1 f2 : List (Str × D)} (h1 : RepP K F fs f1) (h2 : RepP K F fs f2) (s1 : f1.all (fun q => scal q.2) = true) (s2 : f2.all (fun q => scal q.2) = true) : f1 = f2 := by
  induction f1 generalizing fs f2 with
  | nil =>
    rw [h1.inv0] at h2
    cases f2 with
    | nil => rfl
    | cons q f2 => cases h2.1
  | cons q f1 ih =>
    obtain ⟨k, d⟩ := q
    obtain ⟨v, r, rfl, a, b⟩ := h1.inv
    cases f2 with
    | nil => cases h2.1
    | cons q2 f2 =>
      obtain ⟨k2, d2⟩ := q2
      obtain ⟨v2, r2, e, a2, b2⟩ := h2.inv
      cases e
      obtain ⟨x1, x2⟩ := Bool.and_eq_true_iff.mp (show (scal d && f1.all fun q => scal q.2) = true from s1)
      obtain ⟨y1, y2⟩ := Bool.and_eq_true_iff.mp (show (scal d2 && f2.all fun q => scal q.2) = true from s2)
      rw [scal_inj a a2 x1 y1, ih b b2 x2 y2]
/-- two objects of plain fields whose class compares by gf -/
def EqP (K : PySem.W.Frag) (g : Addr) (P : PD) (eqf : D → D → Bool) (d e : D) : Prop := ∃ c fds c2 fds2, d = .obj c fds ∧ e = .obj c2 fds2 ∧ fds.all (fun q => scal q.2) = true ∧ fds2.all (fun q => scal q.2) = true ∧ OwnOp K c "__eq__" g ∧ InT K (ga K c2) ∧ PySem.W.notFirst K (ga K c) (.ref (ga K c2)) = true ∧
  P [d, e] (fun z => z = .bl (eqf d e)) (fun _ _ => False) ∧ (ga K c = ga K c2 → fds = fds2 → eqf d e = true)
theorem promise_sm (sF : Same F H) (t : Tabs T H) (ft : ∀ a o, F a = some o → ∀ ps, o ≠ .tbl ps) {xs : List V} (r : RepL K F xs ds) (h : P ds (fun z => z = .bl b) fun _ _ => False) {G : Hp} (hg : Sm T F H G) {Qh : VK} (hq : ∀ G2, Sm T F G G2 → Qh (.bl b) G2) : spS K T (pu P) xs G Qh E0 := by
  obtain ⟨g1, g2⟩ := hg.2 ⟨sF, t⟩
  have R : RS K ⟨beside F G fun a => tx (G a), none, T⟩ F G (xs.map some) (ds.map Sl.val) :=
    { fh := g1, oh := (fun a o (e : beside F G (fun a => tx (G a)) a = some o) => (beside_some e).2.2), dj := (fun a o (e : beside F G (fun a => tx (G a)) a = some o) => (beside_some e).1), tb := g2, ot := (fun a o (e : beside F G (fun a => tx (G a)) a = some o) => by
        obtain ⟨e1, e2, e3⟩ := beside_some e
        have e2 : tx (G a) = false := e2
        rw [e3] at e2
        exact nx_of e2), ft := ft, w0 := (fun v (e : (none : Option V) = some v) => nomatch e), len := (by rw [List.length_map, List.length_map, r.length]), at_ := (fun i => vals_ok r), ne := (fun i j a ij mi => by rw [vals_mut] at mi; cases mi) }
  refine ⟨⟨beside F G fun a => tx (G a), none, T⟩, F, _, rfl, R, ds, _, _, rfl, h, fun dd qd v H2 F2 s2 C r2 => ?_, fun _ _ z => z.elim⟩
  subst qd
  cases r2
  refine hq H2 ⟨fun a o e n => ?_, fun _ => ⟨Same.trans s2 C.fh, C.tb⟩⟩
  cases z : F a with
  | some o2 => rw [g1 _ _ z] at e; cases e; exact C.fh _ _ (s2 _ _ z)
  | none =>
    refine C.oh a o (show beside F G (fun a => tx (G a)) a = some o from beside_of z ?_ e)
    show tx (G a) = false
    rw [e]
    cases o with
    | tbl ps => exact (n.1 ps rfl).elim
    | ext φ => exact (n.2 φ rfl).elim
    | _ => rfl
theorem seqB_of {eqf : D → D → Bool} (sF : Same F H) (t : Tabs T H) (ft : ∀ a o, F a = some o → ∀ ps, o ≠ .tbl ps) : ∀ {xs ys : List V} {ds es : List D}, RepL K F xs ds → RepL K F ys es → (∀ d ∈ ds, ∀ e ∈ es, EqP K gf P eqf d e) → seqB (dSeq K gf (spS K T (pu P)) (Sm T F)) H xs ys (seqEq eqf ds es)
  | _, _, [], [], .nil, .nil, _ => rfl
  | _, _, [], _ :: _, .nil, .cons _ _, _ => rfl
  | _, _, _ :: _, [], .cons _ _, .nil, _ => rfl
  | x :: xs, y :: ys, d :: ds, e :: es, .cons a1 b1, .cons a2 b2, hP => by
    have one : dSeq K gf (spS K T (pu P)) (Sm T F) x y H (eqf d e) := by
      obtain ⟨c, fds, c2, fds2, rfl, rfl, f1, f2, ho, hi, hn, hp, hs⟩ := hP d (List.mem_cons_self ..) e (List.mem_cons_self ..)
      obtain ⟨a, dx, fs, rfl, h1, h2⟩ := a1.objP
      obtain ⟨a', dx', fs', rfl, h3, h4⟩ := a2.objP
      by_cases z : a = a'
      · subst z
        rw [h1] at h3
        injection h3 with h3
        injection h3 with q1 q2 q3
        subst q3
        exact .inl ⟨a, rfl, rfl, hs q1 (scalF_inj h2 h4 f1 f2)⟩
      · exact .inr ⟨a, a', _, dx, fs, _, dx', fs', rfl, rfl, z, sF _ _ h1, sF _ _ h3, ho, hi, hn, fun G hg Qh hq => promise_sm sF t ft (.cons a1 (.cons a2 .nil)) hp hg hq⟩
    have tail := seqB_of sF t ft b1 b2 fun d hd e he => hP d (List.mem_cons_of_mem _ hd) e (List.mem_cons_of_mem _ he)
    show (_ ∧ _) ∨ (_ ∧ _)
    rw [show seqEq eqf (d :: ds) (e :: es) = (eqf d e && seqEq eqf ds es) from rfl]
    cases q : eqf d e with
    | true => rw [q] at one; exact .inr ⟨one, by rw [Bool.true_and]; exact tail⟩
    | false => rw [q] at one; exact .inl ⟨one, rfl⟩
theorem seqEq_len {eqf : D → D → Bool} : ∀ {ds es : List D}, ds.length ≠ es.length → seqEq eqf ds es = false
  | [], [], h => (h rfl).elim
  | [], _ :: _, _ => rfl
  | _ :: _, [], _ => rfl
  | d :: ds, e :: es, h => by
    show (eqf d e && seqEq eqf ds es) = false
    rw [seqEq_len (fun z => h (by rw [List.length_cons, List.length_cons, z])), Bool.and_false]
theorem RS.sm (R : RS K O F H σ ρ) (h : Sm O.T F H H2) : RS K O F H2 σ ρ := by
  obtain ⟨g1, g2⟩ := h.2 ⟨R.fh, R.tb⟩
  refine ⟨g1, fun a o e => h.1 a o (R.oh a o e) (R.ot a o e), R.dj, g2, R.ot, R.ft, R.w0, R.len, fun i => ?_, R.ne⟩
  by_cases m : (sl ρ i).mut = true
  · obtain ⟨a, h1, h2, h3, h4⟩ := R.owned m
    obtain ⟨o, q1, q2⟩ := h4.nx
    exact SlOk.of_mut m h1 h2 h3 (h4.mono (by rw [q1, h.1 a o q1 q2]) (Same.refl _))
  · exact (R.at_ i).mono (by cases q : (sl ρ i).mut with | true => exact absurd q m | false => rfl) (Same.refl _)
theorem r_seq {nm : Bool} (eqf : D → D → Bool) (hx : (seeD x ρ = some (.tup ds) ∧ seeD y ρ = some (.tup es)) ∨ (seeD x ρ = some (.lst ds) ∧ seeD y ρ = some (.lst es))) (hP : ∀ d ∈ ds, ∀ e ∈ es, EqP K gf P eqf d e) (k : Q (.val (.bl (if nm then seqEq eqf ds es else !seqEq eqf ds es))) ρ) : Mr K O F0 (rSeqC K (dSeq K gf (spS K O.T (pu P))) nm) x y ρ Q := fun F H σ u v Qh _ R hu hv q => by
  have fin : ∀ H2, Sm O.T F H H2 → Qh (.bl (if nm then seqEq eqf ds es else !seqEq eqf ds es)) H2 := fun H2 hs => q _ H2 F (.val (.bl _)) ρ (Same.refl _) (R.sm hs) (Rep.bl _) k
  rcases hx with ⟨e1, e2⟩ | ⟨e1, e2⟩
  · obtain ⟨a, xs, rfl, h1, h2⟩ := look_tup R hu e1
    obtain ⟨c, ys, rfl, h3, h4⟩ := look_tup R hv e2
    exact ⟨Sm O.T F, a, c, xs, ys, _, sm_grow, rfl, rfl, .inl ⟨h1, h3⟩, seqB_of R.fh R.tb R.ft h2 h4 hP, fin⟩
  · obtain ⟨a, xs, rfl, h1, h2⟩ := look_raw R hu e1
    obtain ⟨c, ys, rfl, h3, h4⟩ := look_raw R hv e2
    exact ⟨Sm O.T F, a, c, xs, ys, _, sm_grow, rfl, rfl, .inr ⟨h1, h3, fun z => seqEq_len (by rw [← h2.length, ← h4.length]; exact z)⟩, seqB_of R.fh R.tb R.ft h2 h4 hP, fin⟩
def setS (zs : List Str) : Key → Bool := zs.foldl (fun S z => addS S (.inr z)) fun _ => false
def setN : List Str → Nat := fun zs => (zs.foldl (fun (q : (Key → Bool) × Nat) z => (addS q.1 (.inr z), addN q.1 (.inr z) q.2)) ((fun _ => false), 0)).2
theorem setS_eq (zs : List Str) : ((zs.foldl (fun (q : (Key → Bool) × Nat) z => (addS q.1 (.inr z), addN q.1 (.inr z) q.2)) ((fun _ => false), 0)).1) = setS zs := by
  have : ∀ (zs : List Str) (q : (Key → Bool) × Nat), (zs.foldl (fun (q : (Key → Bool) × Nat) z => (addS q.1 (.inr z), addN q.1 (.inr z) q.2)) q).1 = zs.foldl (fun S z => addS S (.inr z)) q.1 := by
    intro zs
    induction zs with
    | nil => intro q; rfl
    | cons z zs ih => intro q; rw [List.foldl_cons, List.foldl_cons, ih]
  exact this zs _
theorem setS_app {zs : List Str} {z : Str} : setS (zs ++ [z]) = addS (setS zs) (.inr z) := by unfold setS; rw [List.foldl_append]; rfl
theorem setN_app {zs : List Str} {z : Str} : setN (zs ++ [z]) = addN (setS zs) (.inr z) (setN zs) := by
  rw [← setS_eq]
  unfold setN
  rw [List.foldl_append]
  rfl
theorem setN_le {zs : List Str} : setN zs ≤ zs.length := by
  have : ∀ (zs : List Str) (q : (Key → Bool) × Nat), (zs.foldl (fun (q : (Key → Bool) × Nat) z => (addS q.1 (.inr z), addN q.1 (.inr z) q.2)) q).2 ≤ q.2 + zs.length := by
    intro zs
    induction zs with
    | nil => intro q; exact Nat.le_refl _
    | cons z zs ih =>
      intro q
      rw [List.foldl_cons, List.length_cons]
      refine Nat.le_trans (ih _) ?_
      show addN q.1 (.inr z) q.2 + zs.length ≤ _
      unfold addN
      split <;> omega
  have := this zs ((fun _ => false), 0)
  rw [Nat.zero_add] at this
  exact this
theorem paired_at {α β : Type} {R : α → β → Prop} {xs : List α} {ys : List β} (h : Paired R xs ys) : ∀ {i : Nat} {x : α}, xs[i]? = some x → ∃ y, ys[i]? = some y ∧ R x y := by
  induction h with
  | nil => intro i x e; cases e
  | cons a b ih =>
    intro i x e
    cases i with
    | zero => cases e; exact ⟨_, rfl, a⟩
    | succ i => exact ih e
theorem paired_len {α β : Type} {R : α → β → Prop} : ∀ {xs : List α} {ys : List β}, Paired R xs ys → xs.length = ys.length
  | _, _, .nil => rfl
  | _, _, .cons a b => congrArg (· + 1) (paired_len b)
theorem m_lenSc {Pr : Program} {w : World} {f : Str} {j : Nat} (hj : j ≠ 0) (k : Me K O F0 te ρ fun x ρ1 => Frz x ρ1 fun d ρ2 => ∃ ds zs, d = .tup ds ∧ ds.length ≤ 1000 ∧ j < ρ2.length ∧ Paired (HasD K f) ds zs ∧ Q (.val (.int (setN zs : Int))) ρ2) : Me K O F0 (tCB (rLenSet Pr w) (tCons (tScK Pr w (iTup K te) (gName j) tYes (tFld K (tVar j) f) [j]) tNil)) ρ Q := fun F H σ Qh s R c =>
  k F H σ _ s R fun v H1 F1 x ρ1 s1 R1 r1 k1 => by
    obtain ⟨d, ρ2, F2, s2, R2, r2, ds, zs, rfl, hl, hjl, hp, q⟩ := frz_of R1 r1 k1
    obtain ⟨a, xs, rfl, ha, rx⟩ := r2.tupP
    have hz := paired_len hp
    refine ⟨a, rfl, ⟨xs, sqt_same R2.fh ha⟩, fun D hD => ?_⟩
    have RG : ∀ S m, RS K O F2 (upd H1 D (SetK Pr w D S m)) σ ρ2 := fun S m => R2.allocN hD
    have sq : ∀ S m, SqT K (upd H1 D (SetK Pr w D S m)) a xs := fun S m => sqt_same (RG S m).fh ha
    refine ⟨fun i m G => m = ds.length - i ∧ i ≤ ds.length ∧ G = upd H1 D (SetK Pr w D (setS (zs.take i)) (setN (zs.take i))), ⟨ds.length, rfl, Nat.zero_le _, rfl⟩, ?_⟩
    rintro i m G ⟨rfl, hi, rfl⟩
    by_cases hlt : i < ds.length
    · have hxl : i < xs.length := by rw [rx.length]; exact hlt
      refine .inr ⟨⟨xs, xs[i], sq _ _, List.getElem?_eq_getElem hxl⟩, fun G => G = upd H1 D (SetK Pr w D (setS (zs.take (i + 1))) (setN (zs.take (i + 1)))), fun G1 e => ⟨ds.length - (i + 1), by omega, rfl, hlt, e⟩, fun x G1 y => ?_⟩
      obtain ⟨rfl, y⟩ := y
      have hx := y xs (sq _ _)
      obtain ⟨dd, hd, rd⟩ := rx.at' hx
      obtain ⟨z, hz1, cn, fds, rfl, hf, hlk⟩ := paired_at hp hd
      obtain ⟨p, dx, fs, rfl, h1, h2⟩ := rd.objP
      obtain ⟨w2, e1, e2⟩ := h2.lookup hlk
      cases e2
      have jl : j < (L2.wipe σ [j]).length := by rw [wipe_length, R2.len]; exact hjl
      have ht : zs.take (i + 1) = zs.take i ++ [z] := by rw [List.take_add_one, hz1]; rfl
      refine ⟨?_, ?_⟩
      · rw [wipe_set (List.mem_singleton.mpr rfl), wipe_wipe]
      · refine ⟨.ref p, List.getElem?_set_self jl, p, _, dx, fs, .str z, rfl, (RG _ _).fh _ _ h1, hf.1, hf.2, e1, .inr z, _, _, rfl, upd_same, ?_, ?_⟩
        · have := setN_le (zs := zs.take i)
          rw [List.length_take] at this
          exact Nat.lt_of_le_of_lt (Nat.succ_le_succ (Nat.le_trans this (Nat.le_trans (Nat.min_le_right _ _) (by rw [← hz]; exact hl)))) (by decide)
        · rw [ht, setS_app, setN_app]
          exact L2.upd_upd
    · have e : i = ds.length := by omega
      subst e
      refine .inl ⟨⟨xs, sq _ _, by rw [rx.length]; exact Nat.le_refl _⟩, ?_⟩
      rw [show zs.take ds.length = zs by rw [hz, List.take_length]]
      exact ⟨D, _, _, rfl, upd_same, c _ _ F2 (.val (.int _)) ρ2 (Same.trans s1 s2) (RG _ _) (Rep.int _) q⟩
end
end SJ
namespace SJ
open PySem PySem.Spec PyProof.Rows L2 He
theorem pyOf_strs : ∀ zs : List Str, pyOfL (zs.map D.str) = some (zs.map PyData.str)
  | [] => by simp only [List.map_nil, pyOfL]
  | z :: zs => by simp only [List.map_cons, pyOfL, pyOf, pyOf_strs zs]
theorem eqv_strs : ∀ zs ys : List Str, PyData.eqvAll (zs.map PyData.str) (ys.map PyData.str) = decide (zs = ys)
  | [], [] => by simp only [List.map_nil, PyData.eqvAll, decide_true]
  | [], y :: ys => by simp only [List.map_nil, List.map_cons, PyData.eqvAll]; rfl
  | z :: zs, [] => by simp only [List.map_nil, List.map_cons, PyData.eqvAll]; rfl
  | z :: zs, y :: ys => by
    simp only [List.map_cons, PyData.eqvAll, PyData.eqv, eqv_strs zs ys]
    by_cases h1 : z = y
    · by_cases h2 : zs = ys
      · rw [decide_eq_true h2, Bool.and_true, h1, beq_self_eq_true, h2, decide_eq_true rfl]
      · rw [decide_eq_false h2, Bool.and_false, decide_eq_false (fun e => h2 (List.cons.inj e).2)]
    · rw [beq_false_of_ne h1, Bool.false_and, decide_eq_false (fun e => h1 (List.cons.inj e).1)]
def TxtOk (zs : List Str) : Prop := ∀ z ∈ zs, PyData.strOk z = true
theorem sh_strsT {zs : List Str} (h : TxtOk zs) : SeqAt.shaped (.tuple (zs.map PyData.str)) = true := (Lay.tup (n := 0) fun d m => by obtain ⟨c, hc, rfl⟩ := List.mem_map.mp m; exact .str (h c hc)).sh (by omega)
theorem sh_strsL {zs : List Str} (h : TxtOk zs) : SeqAt.shaped (.list (zs.map PyData.str)) = true := (Lay.lst (n := 0) fun d m => by obtain ⟨c, hc, rfl⟩ := List.mem_map.mp m; exact .str (h c hc)).sh (by omega)
section
variable {K : PySem.W.Frag} {O : Oc} {F0 : Hp} {ρ : Ro} {Q : X → Ro → Prop} {x y : X} {zs ys : List Str} {bs cs : List Bool}
theorem r_neStrsT (hx : seeD x ρ = some (.tup (zs.map D.str))) (hy : seeD y ρ = some (.tup (ys.map D.str))) (h1 : TxtOk zs) (h2 : TxtOk ys) (k : Q (.val (.bl (!decide (zs = ys)))) ρ) : Mr K O F0 (rNeU K) x y ρ Q := by
  refine r_neD hx hy (by simp only [pyOf, pyOf_strs, Option.map_some]) (by simp only [pyOf, pyOf_strs, Option.map_some]) (sh_strsT h1) (sh_strsT h2) ?_
  have e : PyData.eqv (.tuple (zs.map PyData.str)) (.tuple (ys.map PyData.str)) = decide (zs = ys) := by simp only [PyData.eqv]; exact eqv_strs zs ys
  rw [e]; exact k
theorem r_neStrsL (hx : seeD x ρ = some (.lst (zs.map D.str))) (hy : seeD y ρ = some (.lst (ys.map D.str))) (h1 : TxtOk zs) (h2 : TxtOk ys) (k : Q (.val (.bl (!decide (zs = ys)))) ρ) : Mr K O F0 (rNeU K) x y ρ Q := by
  refine r_neD hx hy (by simp only [pyOf, pyOf_strs, Option.map_some]) (by simp only [pyOf, pyOf_strs, Option.map_some]) (sh_strsL h1) (sh_strsL h2) ?_
  have e : PyData.eqv (.list (zs.map PyData.str)) (.list (ys.map PyData.str)) = decide (zs = ys) := by simp only [PyData.eqv]; exact eqv_strs zs ys
  rw [e]; exact k
end
end SJ
namespace SJ
open PySem PySem.Spec PyProof.Rows L2 He LamX
section
variable {K : PySem.W.Frag} {O : Oc} {F0 F F1 F2 F3 H H1 H2 H3 : Hp} {σ σ2 : L2.St} {ρ ρ2 : Ro} {Q : X → Ro → Prop} {QT : Bool → Ro → Prop} {QA : List X → Ro → Prop} {QF : D → Ro → Prop} {ta tb te to : TE} {t u tt : TT} {tA tK : TA} {ts tz : TS} {r : R2} {N : Hn} {n : Nat} {x y : X} {d e : D} {g : TG} {wi : TI} {p q : Addr} {o o2 : HO} {vs : List V} {ds es : List D} {kds : List (Key × D)} {fds : List (Str × D)} {W : WX} {Xp : XP} {b c : Bool} {s z : Str} {cn : Str} {v : V}
theorem q_v {P : D → Ro → Prop} (k : P d ρ) : Frz (.val d) ρ P := k
theorem q_own {P : D → Ro → Prop} (e : sl ρ n = .own d) (k : P d (ρ.set n (.val d))) : Frz (.slot n) ρ P := by
  unfold Frz; simp only [e]; exact k
theorem q_n {PL : List D → Ro → Prop} (k : PL [] ρ) : FrzL [] ρ PL := k
theorem q_c {PL : List D → Ro → Prop} {xs : List X} (k : Frz x ρ fun d ρ2 => FrzL xs ρ2 fun ds ρ3 => PL (d :: ds) ρ3) : FrzL (x :: xs) ρ PL := k
theorem q_t {A B : Prop} (k : A) : if (true = true) then A else B := k
theorem q_f {A B : Prop} (k : B) : if (false = true) then A else B := k
theorem q_bl {Pb : Bool → Prop} (k : Pb b) : ∃ c, X.val (.bl b) = X.val (.bl c) ∧ Pb c := ⟨b, rfl, k⟩
theorem q_lst {Pb : List D → Prop} (k : Pb ds) : ∃ c, D.lst ds = .lst c ∧ Pb c := ⟨ds, rfl, k⟩
theorem q_tup {Pb : List D → Prop} (k : Pb ds) : ∃ c, D.tup ds = .tup c ∧ Pb c := ⟨ds, rfl, k⟩
theorem m_yes (k : QT true ρ) : Mt K O F0 tYes ρ QT := fun F H σ Qh s R c => c true H F ρ (Same.refl _) R k
theorem Shl.mono (h : Shl K F H p d) (e : H2 p = H p) (g : Same F F2) : Shl K F2 H2 p d := MutOk.mono (s := .own d) h e g
def OffL (F F2 : Hp) (q : Addr) : Prop := (∀ a o, a ≠ q → F a = some o → F2 a = some o) ∧ ∃ xs, F q = some (.lst xs)
theorem OffL.ne {o : HO} {a : Addr} (h : OffL F F2 q) (e : F a = some o) (h1 : ∀ xs, o ≠ .lst xs) : F2 a = some o := h.1 a o (fun z => by
  subst z
  obtain ⟨xs, g⟩ := h.2
  rw [g] at e; exact h1 xs (Option.some.inj e).symm) e
def spLaw (K : PySem.W.Frag) (T : List (Addr × Str)) : Sp := fun vs H Q _ => ∃ (a : Addr) (ns : List Int), vs = [.ref a] ∧ SqL K H a (ns.map V.int) ∧ ns.length ≤ 63 ∧ Tabs T H ∧ ∀ H2, Q (.bl true) H2
theorem len_law {T : List (Addr × Str)} {Q : VK} {E : XK} (h : spLaw K T vs H Q E) : vs.length = 1 := by obtain ⟨a, ns, rfl, _⟩ := h; rfl
theorem body_law {T : List (Addr × Str)} {Nm : List Str} {Qh : VK} {E : XK} (h : spLaw K T vs H Qh E) (hN : 2 ≤ Nm.length)
    (k : ∀ (o : Hp) (w : Option V) (F0 : Hp), Ms K ⟨o, w, T⟩ F0 ts (.none :: .pen 0 :: List.replicate (Nm.length - 2) .none) { nx := fun _ => False, rt := fun d _ => d = .bl true }) :
    tSeq (tAsg (tFn (spPen K) [] W0 (tCons (tVar 0) tNil)) (gName 1)) ts { nx := fun _ H2 => Qh .non H2, rt := Qh } (start Nm vs) H := by
  obtain ⟨a, ns, rfl, hS, hl, hT, hQ⟩ := h
  refine ⟨.ref a, rfl, a, ns, rfl, hS, hl, fun P H2 hP sH pen => ?_⟩
  have hc := pen.cell
  have hcp : P.c ≠ P.p := del_ne_of hc
  have hc2 : H2 P.c = some (.lst (P.ns.map V.int)) := del_sub hc
  let F : Hp := fun b => if b = P.c then some (.lst (P.ns.map V.int)) else none
  have Fc : F P.c = some (.lst (P.ns.map V.int)) := if_pos rfl
  have Fs : ∀ b o, F b = some o → b = P.c ∧ o = .lst (P.ns.map V.int) := fun b o e => by
    by_cases z : b = P.c
    · subst z; rw [Fc] at e; exact ⟨rfl, (Option.some.inj e).symm⟩
    · have : F b = none := if_neg z
      rw [this] at e; cases e
  have es : ∀ i, sv ((start Nm [V.ref a]).set 1 (some (V.ref P.p))) i = if i = 1 then some (.ref P.p) else if i = 0 then some (.ref a) else none := fun i => by
    rw [sv_set (by unfold L2.start; rw [List.length_append, List.length_map, List.length_replicate]; simp only [List.length_cons, List.length_nil]; omega)]
    by_cases h1 : i = 1
    · rw [if_pos h1, if_pos h1]
    · rw [if_neg h1, if_neg h1]
      unfold sv L2.start
      cases i with
      | zero => rfl
      | succ i =>
        rw [if_neg (by omega)]
        show ((List.replicate _ none)[i]?).getD none = none
        rw [List.getElem?_replicate]
        split <;> rfl
  have el : ∀ i, sl (Sl.none :: Sl.pen 0 :: List.replicate (Nm.length - 2) Sl.none) i = if i = 1 then .pen 0 else .none := fun i => by
    match i with
    | 0 => rfl
    | 1 => rfl
    | i + 2 =>
      rw [if_neg (by omega)]
      show ((List.replicate _ Sl.none)[i]?).getD .none = .none
      rw [List.getElem?_replicate]
      split <;> rfl
  refine k (fun _ => none) none F F H2 _ _ (Same.refl _) ?_ ⟨(fun _ _ _ _ _ _ z => z.elim), (fun F3 H3 σ3 ρ3 v d s3 R3 r3 z => ?_), (fun _ _ _ _ _ _ z => z.elim), (fun _ _ _ _ _ _ z => z.elim), (fun _ _ _ _ _ _ _ _ _ z => z.elim)⟩
  · refine ⟨fun b o e => ?_, (fun b o e => nomatch (show (none : Option HO) = some o from e)), (fun b o e => nomatch (show (none : Option HO) = some o from e)), Tabs.ext hT sH, (fun b o e => nomatch (show (none : Option HO) = some o from e)), fun b o e ps => ?_, (fun v e => nomatch (show (none : Option V) = some v from e)), ?_, fun i => ?_, fun i j p ij mi mj => ?_⟩
    · obtain ⟨rfl, rfl⟩ := Fs b o e; exact hc2
    · obtain ⟨_, rfl⟩ := Fs b o e; exact fun z => nomatch z
    · rw [List.length_set]; unfold L2.start; rw [List.length_append, List.length_map, List.length_replicate]; simp only [List.length_cons, List.length_nil, List.length_replicate]; omega
    · rw [es, el]
      by_cases h1 : i = 1
      · rw [if_pos h1, if_pos h1]
        obtain ⟨x, y, z1, z2, z3, z4, z5, z6⟩ := pen
        exact ⟨P.p, rfl, if_neg (Ne.symm hcp), rfl, P, rfl, Fc, x, y, z1, z3, z4, z5, z6⟩
      · rw [if_neg h1]
        rw [if_neg h1]
        trivial
    · rw [el] at mi mj
      by_cases h1 : i = 1
      · by_cases h2 : j = 1
        · exact absurd (h1.trans h2.symm) ij
        · rw [if_neg h2] at mj; cases mj
      · rw [if_neg h1] at mi; cases mi
  · subst z
    cases r3
    exact hQ H3
end
end SJ
namespace SJ
open PySem PySem.Spec PyProof.Rows L2 He LamX
theorem ltCps_lt : ∀ x y : List Nat, ltCps x y = decide (x < y)
  | [], [] => by simp [ltCps]
  | [], _ :: _ => by simp [ltCps]
  | _ :: _, [] => by simp [ltCps]
  | a :: r, b :: t => by
    by_cases h1 : a < b <;> by_cases h2 : a = b <;> by_cases h3 : r < t <;> simp [ltCps, ltCps_lt r t, List.cons_lt_cons_iff, h1, h2, h3]
def leS (a b : Str) : Prop := a.cps.toList ≤ b.cps.toList
theorem leS_trans {a b c : Str} (h : leS a b) (g : leS b c) : leS a c := List.le_trans h g
theorem str_eq {x y : Str} (h : x.cps.toList = y.cps.toList) : x = y := by
  have hc : x.cps = y.cps := Array.toList_inj.mp h
  cases x
  cases y
  simp only [Str.mk.injEq]
  exact hc
theorem leS_anti {a b : Str} (h : leS a b) (g : leS b a) : a = b := str_eq (List.le_antisymm h g)
theorem rising_pw : ∀ (p : Str) (l : List Str), risingS p l = true → (p :: l).Pairwise leS
  | p, [], _ => List.pairwise_cons.mpr ⟨(fun _ h => nomatch h), List.Pairwise.nil⟩
  | p, x :: r, h => by
    obtain ⟨h1, h2⟩ := Bool.and_eq_true_iff.mp (show (!ltCps x.cps.toList p.cps.toList && risingS x r) = true from h)
    have px : leS p x := by
      rw [ltCps_lt] at h1
      unfold leS
      have h3 : ¬ x.cps.toList < p.cps.toList := fun q => by rw [decide_eq_true q] at h1; cases h1
      exact List.not_lt.mp h3
    have ih := rising_pw x r h2
    refine List.pairwise_cons.mpr ⟨fun y hy => ?_, ih⟩
    rcases List.mem_cons.mp hy with rfl | hy
    · exact px
    · exact leS_trans px ((List.pairwise_cons.mp ih).1 y hy)
theorem sorted_pw : ∀ {l : List Str}, sortedS l = true → l.Pairwise leS
  | [], _ => List.Pairwise.nil
  | x :: r, h => rising_pw x r h
theorem pw_unique {xs ys : List Str} (h : xs.Perm ys) (h1 : xs.Pairwise leS) (h2 : ys.Pairwise leS) : xs = ys := List.Perm.eq_of_pairwise (fun a b _ _ p q => leS_anti p q) h1 h2 h
theorem pw_msort {α : Type} (k : α → Str) (l : List α) : (l.mergeSort (PySem.W.dataLe false fun q => PyData.str (k q))).Pairwise fun a b => leS (k a) (k b) := by
  rw [PySem.W.dataLe_str]
  have h := List.pairwise_mergeSort (le := fun a b : α => decide ((k a).cps.toList ≤ (k b).cps.toList)) (fun a b c p q => decide_eq_true (List.le_trans (of_decide_eq_true p) (of_decide_eq_true q))) (fun a b => by
    rcases List.le_total (k a).cps.toList (k b).cps.toList with q | q
    · rw [decide_eq_true q, Bool.true_or]
    · rw [decide_eq_true q, Bool.or_true]) l
  exact h.imp fun q => of_decide_eq_true q
section
variable {K : PySem.W.Frag} {O : Oc} {F0 F F1 F2 F3 H H1 H2 H3 : Hp} {σ σ2 : L2.St} {ρ ρ2 : Ro} {Q : X → Ro → Prop} {QT : Bool → Ro → Prop} {QA : List X → Ro → Prop} {QF : D → Ro → Prop} {ta tb te to : TE} {t u tt : TT} {tA tK : TA} {ts tz : TS} {r : R2} {N : Hn} {n : Nat} {x y : X} {d e : D} {g : TG} {wi : TI} {p q : Addr} {o o2 : HO} {vs : List V} {ds es : List D} {kds : List (Key × D)} {fds : List (Str × D)} {W : WX} {Xp : XP} {b c : Bool} {s z : Str} {cn : Str} {v : V}
theorem s_asg (k : Me K O F0 te ρ fun x ρ1 => Frz x ρ1 fun d ρ2 => N.nx (ρ2.set (n + 1) (.val d))) : Ms K O F0 (tAsg te (gName (n + 1))) ρ N := ms_asg k (Nat.succ_ne_zero n)
theorem s_asgF (k : Mf K O F0 te ρ fun d ρ1 => n + 1 < ρ1.length ∧ N.nx (ρ1.set (n + 1) (.own d))) : Ms K O F0 (tAsg te (gName (n + 1))) ρ N := ms_asgF k (Nat.succ_ne_zero n)
theorem g_var (k : Me K O F0 (tVar n) ρ Q) : Me K O F0 (tVar n) ρ Q := k
theorem g_fn {sp : Sp} {dv : List V} (k : Me K O F0 (tFn sp dv W tA) ρ Q) : Me K O F0 (tFn sp dv W tA) ρ Q := k
theorem g_nw {sp : Sp} {a : Addr} {dv : List V} (k : Me K O F0 (tNw a sp dv W tA) ρ Q) : Me K O F0 (tNw a sp dv W tA) ρ Q := k
theorem g_slot {P : D → Ro → Prop} (k : Frz (.slot n) ρ P) : Frz (.slot n) ρ P := k
theorem RS.nobody (R : RS K O F H σ ρ) (h : O.o p = some o) : ∀ i, (sl ρ i).mut = true → sv σ i ≠ some (.ref p) := fun i m e => by
  obtain ⟨a, h1, h2, h3, h4⟩ := R.owned m
  rw [h1] at e
  cases e
  rw [h] at h3; cases h3
theorem set_held {j : Nat} (h : sv σ j = some v) : σ.set j (some v) = σ := by
  have e := sv_some h
  apply List.ext_getElem?
  intro i
  by_cases z : i = j
  · subst z
    have hl : i < σ.length := (List.getElem?_eq_some_iff.mp e).1
    rw [List.getElem?_set_self hl, e]
  · rw [List.getElem?_set_ne (Ne.symm z)]
def MpK (K : PySem.W.Frag) (O : Oc) (F0 : Hp) : List (Str × TE) → Ro → (List (Key × D) → Ro → Prop) → Prop
  | [], ρ, Q => Q [] ρ
  | (k, te) :: r, ρ, Q => Me K O F0 te ρ fun x ρ1 => Frz x ρ1 fun d ρ2 => MpK K O F0 r ρ2 fun kds ρ3 => Q ((.inr k, d) :: kds) ρ3
theorem pairs_of {trs : List (Str × TE)} {QP : List (Key × D) → Ro → Prop} (k : MpK K O F0 trs ρ QP) (s : Same F0 F) (R : RS K O F H σ ρ) {Qh : List (V × V) → Hp → Prop}
    (c : ∀ kvs H2 F2 kds ρ2, Same F F2 → RS K O F2 H2 σ ρ2 → RepP K F2 kvs kds → QP kds ρ2 → Qh (kvs.map fun kv => (kV kv.1, kv.2)) H2) : tPairs (trs.map fun q => (tC (.str q.1), q.2)) σ H Qh := by
  induction trs generalizing F H ρ QP Qh with
  | nil => exact c [] H F [] ρ (Same.refl _) R RepP.nil k
  | cons q trs ih =>
    obtain ⟨kk, te⟩ := q
    show tC (.str kk) σ H fun x H1 => te σ H1 fun y H2 => tPairs (trs.map fun q => (tC (.str q.1), q.2)) σ H2 fun ps H3 => Qh ((x, y) :: ps) H3
    show te σ H fun y H2 => tPairs (trs.map fun q => (tC (.str q.1), q.2)) σ H2 fun ps H3 => Qh ((.str kk, y) :: ps) H3
    refine k F H σ _ s R fun v H1 F1 x ρ1 s1 R1 r1 k1 => ?_
    obtain ⟨d, ρ2, F2, s2, R2, r2, q⟩ := frz_of R1 r1 k1
    refine ih q (Same.trans s (Same.trans s1 s2)) R2 fun kvs H3 F3 kds ρ3 s3 R3 r3 qq => ?_
    exact c ((.inr kk, v) :: kvs) H3 F3 ((.inr kk, d) :: kds) ρ3 (Same.trans s1 (Same.trans s2 s3)) R3 (RepP.cons (r2.mono s3) r3) qq
theorem mergeK_new : ∀ {more kvs : List (Key × V)}, ((kvs ++ more).map (·.1)).Nodup → mergeK kvs more = kvs ++ more
  | [], kvs, _ => by rw [List.append_nil]; rfl
  | m :: more, kvs, h => by
    have e : putK kvs m.1 m.2 = kvs ++ [m] := by
      have hn : ∀ kv ∈ kvs, kv.1 ≠ m.1 := fun kv hk z => by
        rw [List.map_append, List.nodup_append] at h
        exact h.2.2 kv.1 (List.mem_map.mpr ⟨kv, hk, rfl⟩) m.1 (by rw [List.map_cons]; exact List.mem_cons_self ..) z
      unfold putK
      rw [if_neg]
      intro z
      obtain ⟨kv, hk, e⟩ := List.any_eq_true.mp z
      exact hn kv hk (by simpa using e)
    show mergeK (putK kvs m.1 m.2) more = _
    rw [e, mergeK_new (by rw [List.append_assoc]; exact h), List.append_assoc]
    rfl
theorem mf_disp {trs : List (Str × TE)} (k : ∀ oo ww, MpK K ⟨oo, ww, O.T⟩ F0 trs ρ fun kds ρ1 => kds.length ≤ 15 ∧ (kds.map (·.1)).Nodup ∧ QF (.dct kds) ρ1) : Mf K O F0 (tDisp (trs.map fun q => (tC (.str q.1), q.2))) ρ QF := fun F H σ Qh s R c p hp => by
  have R0 : RS K { O with o := upd O.o p (.dK []) } F (upd H p (.dK [])) σ ρ := (R.allocN hp).out upd_same nx_dK (R.free hp).1 (R.no_new hp)
  refine pairs_of (k (upd O.o p (.dK [])) O.w) s R0 fun kvs H2 F2 kds ρ2 s2 R2 r2 ⟨h1, h2, q⟩ => ?_
  have hOp := (R.free hp).2
  refine ⟨R2.oh p _ upd_same, kvs, rfl, by rw [r2.length]; exact h1, ?_⟩
  have em : mergeK [] kvs = kvs := mergeK_new (kvs := []) (by rw [List.nil_append, r2.1]; exact h2)
  rw [em]
  have R3 := (R2.turn (o2 := .dK kvs) nx_dK).back hOp
  exact c p _ F2 (.dct kds) ρ2 s2 R3.1 ⟨R3.2.1, hOp, R3.2.2.2, kvs, upd_same, r2⟩ q
theorem ms_dput {j : Nat} {kk : Str} (k : Me K O F0 te ρ fun x ρ1 => Frz x ρ1 fun d ρ2 => ∃ kds, sl ρ2 j = .own (.dct kds) ∧ kds.length ≤ 10000 ∧ N.nx (ρ2.set j (.own (.dct (putKD kds (.inr kk) d))))) : Ms K O F0 (sDPut (tVar j) (tC (.str kk)) te) ρ N := fun F H σ E s R c =>
  k F H σ _ s R fun v H1 F1 x ρ1 s1 R1 r1 k1 => by
    obtain ⟨d, ρ2, F2, s2, R2, r2, kds, hj, hl, q⟩ := frz_of R1 r1 k1
    have m : (sl ρ2 j).mut = true := by rw [hj]; rfl
    obtain ⟨p, a1, a2, a3, a4⟩ := R2.owned m
    rw [hj] at a4
    obtain ⟨kvs, a4, a5⟩ := a4
    refine ⟨_, sv_some a1, p, _, rfl, DPut.k (k := .inr kk) (v := v) a4 (by rw [a5.length]; exact Nat.lt_of_le_of_lt hl (by decide)), ?_⟩
    exact c.nx F2 _ σ _ (Same.trans s1 s2) (R2.mutO (s := .own (.dct (putKD kds (.inr kk) d))) m a1 rfl ⟨_, upd_same, a5.putK r2⟩) q
end
end SJ
namespace SJ
open PySem PySem.Spec PyProof.Rows L2 He LamX
def dk3 (v0 : V) (a b : Addr) : List (Key × V) := [(.inr "top", v0), (.inr "drivers", .ref a), (.inr "listeners", .ref b)]
structure TwoL (K : PySem.W.Frag) (O : Oc) (F H : Hp) (σ : L2.St) (ρ : Ro) (j : Nat) (p a b : Addr) (v0 : V) (us ws : List V) : Prop where
  ex : ∃ O2 : Oc, RS K O2 F H σ ρ ∧ O2.w = O.w ∧ O2.T = O.T ∧ Same O.o O2.o ∧ O2.o p = some (.dK (dk3 v0 a b)) ∧ O2.o a = some (.lst us) ∧ O2.o b = some (.lst ws)
  ab : a ≠ b
  np : O.o p = none
  na : O.o a = none
  nb : O.o b = none
  sj : sl ρ j = .val (.adr p)
def Tw (K : PySem.W.Frag) (O : Oc) (j : Nat) (p a b : Addr) (v0 : V) (F H : Hp) (σ : L2.St) (ρ : Ro) (dl ll : List D) : Prop := ∃ us ws, TwoL K O F H σ ρ j p a b v0 us ws ∧ RepL K F us dl ∧ RepL K F ws ll
section
variable {K : PySem.W.Frag} {O : Oc} {F0 F F1 F2 F3 H H1 H2 H3 : Hp} {σ σ2 : L2.St} {ρ ρ2 : Ro} {Q : X → Ro → Prop} {ta tb te to e0 : TE} {ts tz : TS} {N : Hn} {x y : X} {d e : D} {wi : TI} {p a b : Addr} {o o2 : HO} {vs us ws : List V} {ds es dl ll : List D} {v v0 : V} {j n : Nat} {QT : List D → List D → Ro → Prop}
theorem TwoL.ne (h : TwoL K O F H σ ρ j p a b v0 us ws) : p ≠ a ∧ p ≠ b := by
  obtain ⟨O2, R, e1, e2, s, hp, ha, hb⟩ := h.ex
  exact ⟨(fun z => by rw [z, ha] at hp; cases hp), (fun z => by rw [z, hb] at hp; cases hp)⟩
/-- the end: all frozen but the dict, which slot j owns -/
theorem Tw.done (h : Tw K O j p a b v0 F H σ ρ dl ll) (hj : j ≠ 0) {d0 : D} (r0 : Rep K F v0 d0) : ∃ F2, Same F F2 ∧ RS K O F2 H σ (ρ.set j (.own (.dct [(.inr "top", d0), (.inr "drivers", .lst dl), (.inr "listeners", .lst ll)]))) := by
  obtain ⟨us, ws, h, r1, r2⟩ := h
  obtain ⟨O2, R, e1, e2, sO, hp, ha, hb⟩ := h.ex
  have hO : RS K O F H σ ρ := R.drop sO (.inl e1.symm) e2.symm
  obtain ⟨RA, sA⟩ := hO.thaw (p := a) (R.oh _ _ ha) nx_lst (R.dj _ _ ha) h.na (R.nobody ha)
  have hFb : upd F a (.lst us) b = none := by rw [upd_ne (Ne.symm h.ab)]; exact R.dj _ _ hb
  obtain ⟨RB, sB⟩ := RA.thaw (p := b) (R.oh _ _ hb) nx_lst hFb h.nb (R.nobody hb)
  have s2 := Same.trans sA sB
  refine ⟨_, s2, ?_⟩
  have aj := R.at_ j
  rw [h.sj] at aj
  obtain ⟨vj, aj1, aj2⟩ := aj
  cases aj2
  have hl : j < ρ.length := by
    by_cases q : j < ρ.length
    · exact q
    · have := h.sj
      rw [sl_none (by omega)] at this; cases this
  have hFp : upd (upd F a (.lst us)) b (.lst ws) p = none := by rw [upd_ne h.ne.2, upd_ne h.ne.1]; exact R.dj _ _ hp
  have R5 := RB.putO (n := j) (p := p) (s := .own (.dct [(.inr "top", d0), (.inr "drivers", .lst dl), (.inr "listeners", .lst ll)])) hj hl rfl hFp h.np ⟨dk3 v0 a b, R.oh _ _ hp, RepP.cons (r0.mono s2) (RepP.cons (.lst (sB _ _ upd_same) (r1.mono s2)) (RepP.cons (.lst upd_same (r2.mono s2)) RepP.nil))⟩ (fun i _ m => R.nobody hp i m)
  rwa [set_held aj1] at R5
end
end SJ
namespace SJ
open PySem PySem.Spec PyProof.Rows L2 He LamX
section
variable {K : PySem.W.Frag} {O : Oc} {F0 F F1 F2 F3 H H1 H2 H3 : Hp} {σ σ2 : L2.St} {ρ ρ2 : Ro} {Q : X → Ro → Prop} {QT : Bool → Ro → Prop} {QA : List X → Ro → Prop} {QF : D → Ro → Prop} {QL : List D → Ro → Prop} {ta tb te to : TE} {t u tt : TT} {tA tK : TA} {ts tz : TS} {r : R2} {N : Hn} {n : Nat} {x y : X} {d e : D} {g : TG} {wi : TI} {p q : Addr} {o o2 : HO} {vs : List V} {ds es : List D} {kds : List (Key × D)} {fds : List (Str × D)} {W : WX} {Xp : XP} {b c : Bool} {s z : Str} {cn : Str} {v : V} {tl th : TO} {wv : List Nat}
theorem r_catL (hx : seeD x ρ = some (.lst ds)) (hy : seeD y ρ = some (.lst es)) (hl : ds.length + es.length ≤ 10000) (k : Q (.val (.lst (ds ++ es))) ρ) : Mr K O F0 (rAdd K) x y ρ Q := fun F H σ u v Qh _ R hu hv q => by
  obtain ⟨a, xs, rfl, h1, h2⟩ := look_raw R hu hx
  obtain ⟨b, ys, rfl, h3, h4⟩ := look_raw R hv hy
  refine .inr (.inr (.inl ⟨a, b, xs, ys, rfl, rfl, h1, h3, by rw [h2.length, h4.length]; exact Nat.le_trans hl (by decide), fun p hp => ?_⟩))
  obtain ⟨R3, s3⟩ := R.alloc (o := .lst (xs ++ ys)) hp nx_lst
  exact q _ _ _ (.val (.lst (ds ++ es))) ρ s3 R3 (Rep.lst upd_same ((h2.append h4).mono s3)) k
theorem c_listv (hx : seeD x ρ = some (.lst ds) ∨ seeD x ρ = some (.tup ds)) (k : Q (.val (.lst ds)) ρ) : Mc K O F0 (rListU K) [x] ρ Q := fun F H σ vs Qh _ R hu q => by
  obtain ⟨v, rfl, hv⟩ := one_arg hu
  have fin : ∀ xs, RepL K F xs ds → ∀ l, H l = none → Qh (.ref l) (upd H l (.lst xs)) := fun xs h2 l hl => by
    obtain ⟨R3, s3⟩ := R.alloc (o := .lst xs) hl nx_lst
    exact q _ _ _ (.val (.lst ds)) ρ s3 R3 (Rep.lst upd_same (h2.mono s3)) k
  rcases hx with hx | hx
  · obtain ⟨a, xs, rfl, h1, h2⟩ := look_lst R hv hx
    exact x_listL h1 (fin xs h2)
  · obtain ⟨a, xs, rfl, h1, h2⟩ := look_tup R hv hx
    exact x_listT h1 (fin xs h2)
theorem c_tupleL (hx : seeD x ρ = some (.lst ds)) (k : Q (.val (.tup ds)) ρ) : Mc K O F0 (rTupU K) [x] ρ Q := fun F H σ vs Qh _ R hu q => by
  obtain ⟨v, rfl, hv⟩ := one_arg hu
  obtain ⟨a, xs, rfl, h1, h2⟩ := look_lst R hv hx
  refine ⟨a, xs, rfl, .inl ⟨h1, fun l hl => ?_⟩⟩
  obtain ⟨R3, s3⟩ := R.alloc (o := .tup xs) hl nx_tup
  exact q _ _ _ (.val (.tup ds)) ρ s3 R3 (Rep.tup (SqT.of upd_same) (h2.mono s3)) k
theorem c_tupleT (k : Q (.val (.tup ds)) ρ) : Mc K O F0 (rTupU K) [.val (.tup ds)] ρ Q := fun F H σ vs Qh _ R hu q => by
  obtain ⟨v, rfl, hv⟩ := one_arg hu
  have hv0 := hv
  obtain ⟨a, xs, rfl, h1, h2⟩ := look_tup R hv (ds := ds) rfl
  exact ⟨a, xs, rfl, .inr ⟨h1, q _ H F (.val (.tup ds)) ρ (Same.refl _) R hv0 k⟩⟩
theorem c_sortS {zs : List Str} (hx : seeD x ρ = some (.lst (zs.map D.str))) (hl : zs.length < 64) (k : ∀ ys : List Str, ys.Perm zs → sortedS ys = true → Q (.val (.lst (ys.map D.str))) ρ) : Mc K O F0 (rSortedS K) [x] ρ Q := fun F H σ vs Qh _ R hu q => by
  obtain ⟨v, rfl, hv⟩ := one_arg hu
  obtain ⟨a, xs, rfl, h1, h2⟩ := look_lst R hv hx
  rw [h2.strs'] at h1
  refine ⟨a, zs, rfl, h1, hl, fun ys p hp hs hn => ?_⟩
  obtain ⟨R3, s3⟩ := R.alloc (o := .lst (ys.map V.str)) hn nx_lst
  exact q _ _ _ (.val (.lst (ys.map D.str))) ρ s3 R3 (Rep.lst upd_same RepL.strs) (k ys hp hs)
theorem g_le {P : Prop} (k : ds.length ≤ 1000 ∧ P) : ds.length ≤ 1000 ∧ P := k
theorem g_dget (k : Me K O F0 (tDGet ta tb) ρ Q) : Me K O F0 (tDGet ta tb) ρ Q := k
theorem v_lst (k : Ma K O F0 tA ρ fun xs ρ1 => FrzL xs ρ1 fun ds ρ2 => ds.length ≤ 1000 ∧ Q (.val (.lst ds)) ρ2) : Me K O F0 (tLst tA) ρ Q := m_f (mf_lst k)
theorem v_sl (k : Me K O F0 te ρ fun x ρ1 => Mo K O F0 tl ρ1 fun lo ρ2 => Mo K O F0 th ρ2 fun hi ρ3 => ∃ ds, seeD x ρ3 = some (.lst ds) ∧ Q (.val (.lst (cutD ds lo hi))) ρ3) : Me K O F0 (tSl (rSlU K) te tl th) ρ Q := m_f (mf_sl k)
theorem v_dnew (k : Q (.val (.dct [])) ρ) : Me K O F0 tDNewK ρ Q := m_f (m_dnew k)
theorem v_lcM (js : List Nat) (P : D → Bool) (Fn : D → D) (hjs : ∀ j ∈ js, j ∈ wv := by decide) (h0 : 0 ∉ wv := by decide) (k : Mi K O F0 wi ρ fun ds ρ1 => ds.length ≤ 10000 ∧ (∀ v ∈ wv, (sl ρ1 v).mut = false) ∧
    (∀ d ∈ ds, ∀ (oo : Hp) (ww : Option V), Mg K ⟨oo, ww, O.T⟩ F0 g js d (wipeR ρ1 wv) fun ρ3 => ρ3.length = ρ1.length ∧ rst ρ3 ρ1 wv = ρ1 ∧ Mt K ⟨oo, ww, O.T⟩ F0 tt ρ3 fun b ρ4 => ρ4 = ρ3 ∧ b = P d ∧ (b = true → Me K ⟨oo, ww, O.T⟩ F0 tb ρ4 fun y ρ5 => y = .val (Fn d) ∧ ρ5 = ρ3)) ∧
    Q (.val (.lst ((ds.filter P).map Fn))) ρ1) : Me K O F0 (tLc wi g tt tb wv) ρ Q := m_f (mf_lcM js P Fn hjs h0 k)
theorem get_str {P : D → Prop} {kk : Str} (hx : seeD x ρ = some (.dct kds)) (hv : valD kds (.inr kk) = some e) (k : P e) : ∃ kds kd e, seeD x ρ = some (.dct kds) ∧ (∃ d, X.val (.str kk) = .val d ∧ keyD d = some kd) ∧ valD kds kd = some e ∧ P e := ⟨kds, .inr kk, e, hx, ⟨_, rfl, rfl⟩, hv, k⟩
theorem all_tt {ds : List D} : ds.filter (fun _ => true) = ds := List.filter_eq_self.mpr fun _ _ => rfl
theorem one_free {ρ : Ro} {n : Nat} (h : (sl ρ n).mut = false) : ∀ v ∈ [n], (sl ρ v).mut = false := fun v hv => by
  rcases List.mem_cons.mp hv with rfl | hv
  · exact h
  · cases hv
end
end SJ
namespace SJ
open PySem PySem.Spec PyProof.Rows L2 He LamX
end SJ
namespace SJ
open PySem PySem.Spec PyProof.Rows L2 He LamX
mutual
def pyQ : D → Option PyData
  | .non => some .none
  | .bl b => some (.bool b)
  | .int i => some (.int i)
  | .str s => some (.str s)
  | .lst ds => (pyQL ds).map .list
  | .tup ds => (pyQL ds).map .tuple
  | .dct kds => (pyQF kds).map .dict
  | _ => none
def pyQL : List D → Option (List PyData)
  | [] => some []
  | d :: ds => match pyQ d, pyQL ds with
    | some p, some ps => some (p :: ps)
    | _, _ => none
def pyQF : List (Key × D) → Option (List (PyData × PyData))
  | [] => some []
  | (k, d) :: ds => match pyQ d, pyQF ds with
    | some p, some ps => some ((keyP k, p) :: ps)
    | _, _ => none
end
theorem pyQF_of : ∀ {kds : List (Key × D)} {ps : List (PyData × PyData)}, pyQF kds = some ps → pyQL (kds.map (·.2)) = some (ps.map (·.2)) ∧ ps.map (·.1) = kds.map fun q => keyP q.1
  | [], _, h => by simp only [pyQF] at h; cases h; exact ⟨by simp only [List.map_nil, pyQL], rfl⟩
  | (k, d) :: kds, _, h => by
    simp only [pyQF] at h
    cases e1 : pyQ d with
    | none => rw [e1] at h; cases h
    | some p =>
      cases e2 : pyQF kds with
      | none => rw [e1, e2] at h; cases h
      | some ps =>
        rw [e1, e2] at h
        cases h
        obtain ⟨h1, h2⟩ := pyQF_of e2
        refine ⟨by simp only [List.map_cons, pyQL, e1, h1], ?_⟩
        rw [List.map_cons, List.map_cons, h2]
section
variable {K : PySem.W.Frag} {H F : Hp}
mutual
theorem dq_of : ∀ {v : V} {d : D} {pd : PyData}, Rep K H v d → pyQ d = some pd → Dq K H v pd
  | _, .non, _, .non, e => by simp only [pyQ] at e; cases e; exact .non
  | _, .bl _, _, .bl b, e => by simp only [pyQ] at e; cases e; exact .bl b
  | _, .int _, _, .int b, e => by simp only [pyQ] at e; cases e; exact .int b
  | _, .str _, _, .str b, e => by simp only [pyQ] at e; cases e; exact .str b
  | _, .cls _, _, .cls c, e => by simp only [pyQ] at e; cases e
  | _, .ty _, _, .ty c, e => by simp only [pyQ] at e; cases e
  | _, .adr _, _, .adr c, e => by simp only [pyQ] at e; cases e
  | _, .lst ds, _, .lst h a, e => by
    simp only [pyQ] at e
    obtain ⟨ps, e1, rfl⟩ := Option.map_eq_some_iff.mp e
    exact .lst h (dql_of a e1)
  | _, .tup ds, _, .tup h a, e => by
    simp only [pyQ] at e
    obtain ⟨ps, e1, rfl⟩ := Option.map_eq_some_iff.mp e
    exact .tup h (dql_of a e1)
  | _, .dct kds, _, .dct h1 h2 h3, e => by
    simp only [pyQ] at e
    obtain ⟨ps, e1, rfl⟩ := Option.map_eq_some_iff.mp e
    obtain ⟨q1, q2⟩ := pyQF_of e1
    refine .dic h1 ?_ (dql_of h3 q1)
    rw [q2]
    have := congrArg (List.map keyP) h2
    rw [List.map_map, List.map_map] at this
    exact this.symm
  | _, .obj _ _, _, .obj _ _ _, e => by simp only [pyQ] at e; cases e
  | _, .exc _ _, _, .exc _ _ _ _, e => by simp only [pyQ] at e; cases e
theorem dql_of : ∀ {vs : List V} {ds : List D} {ps : List PyData}, RepL K H vs ds → pyQL ds = some ps → DqAll K H vs ps
  | _, [], _, .nil, e => by simp only [pyQL] at e; cases e; exact .nil
  | _, d :: ds, _, .cons a b, e => by
    simp only [pyQL] at e
    cases e1 : pyQ d with
    | none => rw [e1] at e; cases e
    | some p =>
      cases e2 : pyQL ds with
      | none => rw [e1, e2] at e; cases e
      | some ps => rw [e1, e2] at e; cases e; exact .cons (dq_of a e1) (dql_of b e2)
end
end
/-- data that may be shown -/
def ReprQ (d : D) (pd : PyData) : Prop := pyQ d = some pd ∧ ∃ n w, Sh n w pd ∧ n ≤ 100 ∧ w ≤ 100000
section
variable {K : PySem.W.Frag} {O : Oc} {F0 : Hp} {ρ : Ro} {Q : X → Ro → Prop} {x y : X} {d : D} {pd : PyData} {s : Str}
theorem c_reprQD (hx : seeD x ρ = some d) (hp : ReprQ d pd) (k : Q (.val (.str pd.shown)) ρ) : Mc K O F0 (rReprU K) [x] ρ Q := fun F H σ vs Qh _ R hu q => by
  obtain ⟨v, rfl, hv⟩ := one_arg hu
  obtain ⟨p1, n, w, sh, hn, hw⟩ := hp
  exact x_reprS (dq_of (look_rep R hv hx) p1) sh hn hw (q _ H _ (.val (.str _)) ρ (Same.refl _) R (Rep.str _) k)
theorem g_len (k : Mc K O F0 (rLenU K) [x] ρ Q) : Mc K O F0 (rLenU K) [x] ρ Q := k
theorem g_list (k : Mc K O F0 (rListU K) [x] ρ Q) : Mc K O F0 (rListU K) [x] ρ Q := k
theorem g_tupU (k : Mc K O F0 (rTupU K) [x] ρ Q) : Mc K O F0 (rTupU K) [x] ρ Q := k
theorem g_inS {neg : Bool} (k : Mr K O F0 (rInU K neg) (.val (.str s)) y ρ Q) : Mr K O F0 (rInU K neg) (.val (.str s)) y ρ Q := k
end
end SJ
namespace SJ
open PySem PySem.Spec PyProof.Rows L2 He LamX
section
variable {K : PySem.W.Frag} {O : Oc} {F0 : Hp} {ρ : Ro} {Q : X → Ro → Prop} {QF : D → Ro → Prop} {ta tb te : TE} {x y : X} {d : D} {s : Str} {gf : Addr} {sp : Sp} {f : Str} {W : WX} {N : Hn} {neg : Bool}
theorem g_pr (k : Me K O F0 (tPr K f gf sp te) ρ Q) : Me K O F0 (tPr K f gf sp te) ρ Q := k
theorem g_ownIn (k : Mr K O F0 (rOwnIn K gf sp neg) x y ρ Q) : Mr K O F0 (rOwnIn K gf sp neg) x y ρ Q := k
theorem g_ownGet (k : Me K O F0 (tOwnGet K gf sp W ta tb) ρ Q) : Me K O F0 (tOwnGet K gf sp W ta tb) ρ Q := k
theorem m_cvalE {C f : Str} {w : V} (hc : ∃ mc u, ClX.CRead K (ga K C) mc ∧ ClX.CVal K (ga K C) mc f w u) (hd : ∀ F, Rep K F w d) (k : Me K O F0 te ρ fun x ρ1 => x = .val (.cls C) ∧ Q (.val d) ρ1) : Me K O F0 (ClX.tCVal K te f) ρ Q := fun F H σ Qh s R c =>
  k F H σ _ s R fun v0 H0 F1 x ρ0 s0 R0 r0 ⟨ex, q⟩ => by
    subst ex
    obtain ⟨mc, u, h1, h2⟩ := hc
    exact ⟨_, _, _, u, rep_cls r0, h1, h2, c _ H0 F1 (.val d) ρ0 s0 R0 (hd _) q⟩
end
end SJ
namespace SJ
open PySem PySem.Spec PyProof.Rows L2 He LamX
section
variable (K : PySem.W.Frag) (O : Oc) (F0 : Hp)
/-- what is raised, and what is told, at one row of names -/
def WrA (W : WX) (σ : L2.St) (Xp : XP) : Prop := ∀ (F H : Hp) (ρ : Ro) (c : Str) (fs : List (Str × D)) (dd : Addr) (fvs : List (Str × V)), Same F0 F → H dd = some (.xd fvs) → RS K { O with o := upd O.o dd (.xd fvs) } F H σ ρ → O.o dd = none → RepP K F fvs fs → Xp c fs ρ → W (.ref (ga K c)) (some dd) σ H
def MeA (σ : L2.St) (t : TE) (ρ : Ro) (Q : X → Ro → Prop) : Prop := ∀ (F H : Hp) (Qh : VK), Same F0 F → RS K O F H σ ρ → (∀ v H2 F2 x ρ2, Same F F2 → RS K O F2 H2 σ ρ2 → XvR K F2 σ v x → Q x ρ2 → Qh v H2) → t σ H Qh
end
section
variable {K : PySem.W.Frag} {O : Oc} {F0 F F2 F3 H H2 H3 : Hp} {σ σ2 : L2.St} {ρ ρ2 : Ro} {Q : X → Ro → Prop} {QA : List X → Ro → Prop} {ta tb te : TE} {tA : TA} {ts tz : TS} {N : Hn} {n : Nat} {x y : X} {d e : D} {p : Addr} {o o2 : HO} {ds es : List D} {W : WX} {Xp : XP} {s z : Str} {cn : Str} {v : V} {gf : Addr} {P : PD} {nm : String} {vs : List V}
theorem MeA.of (h : Me K O F0 te ρ Q) : MeA K O F0 σ te ρ Q := fun F H Qh s R c => h F H σ Qh s R c
theorem WrA.of (h : Wr K O F0 W Xp) : WrA K O F0 W σ Xp := fun F H ρ c fs dd fvs a b d e f g => h F H σ ρ c fs dd fvs a b d e f g
theorem call_puA {P : PD} {Qh : VK} {Qd : D → Prop} {Ed : Str → List (Str × D) → Prop} (R : RS K O F H σ ρ) (s : Same F0 F) (hW : WrA K O F0 W σ Xp) (rv : RepL K F vs ds) (h : P ds Qd Ed) (hq : ∀ d, Qd d → ∀ v H2 F2, Same F F2 → RS K O F2 H2 σ ρ → Rep K F2 v d → Qh v H2) (he : ∀ c fs, Ed c fs → Xp c fs ρ) : spS K O.T (pu P) vs H Qh (WE W σ) := by
  refine ⟨⟨beside F H fun a => tx (H a), none, O.T⟩, F, _, rfl, R.enter rv, ds, Qd, Ed, rfl, h, fun d q v H2 F2 s2 C r => hq d q v H2 F2 s2 (R.after C s2) r, fun c fs q dd H2 F2 fvs s2 hd C hn rp => ?_⟩
  obtain ⟨R2, z⟩ := R.afterX C s2 hn (Same.refl _) (fun a e => .inr ⟨(tx_no R e).1, (tx_no R e).2.2⟩) (fun e => ⟨(tx_no R e).1, (tx_no R e).2.2⟩)
  exact hW F2 H2 ρ c fs dd fvs (Same.trans s s2) hd R2 z rp (he c fs q)
/-- names that hold plain values alone -/
theorem RS.names (R : RS K O F H [] []) (hw : O.w = none) (hl : σ.length = ρ.length) (h : ∀ i, (sl ρ i).mut = false ∧ SlOk K O.o F H (sv σ i) (sl ρ i)) : RS K O F H σ ρ :=
  ⟨R.fh, R.oh, R.dj, R.tb, R.ot, R.ft, (fun v e => by rw [hw] at e; cases e), hl, fun i => (h i).2, fun i j a _ m => by rw [(h i).1] at m; cases m⟩
end
end SJ
namespace SJ
open PySem PySem.Spec PyProof.Rows L2 He
section
variable {K : PySem.W.Frag} {O : Oc} {F0 F F2 F3 H H2 H3 : Hp} {σ σ2 : L2.St} {ρ ρ2 : Ro} {Q : X → Ro → Prop} {QF : D → Ro → Prop} {te : TE} {N : Hn} {x y : X} {d e : D} {g : TG} {js : List Nat} {kds : List (Key × D)} {b : Bool} {c cn : Str} {fs : List (Str × D)}
theorem ms_dputV {j : Nat} {tk : TE} (k : Me K O F0 te ρ fun x ρ1 => Frz x ρ1 fun d ρ2 => ∃ kds kk, sl ρ2 j = .own (.dct kds) ∧ kds.length ≤ 10000 ∧ (∀ O2 F2, Me K O2 F2 tk ρ2 fun y ρ3 => y = .val (.str kk) ∧ ρ3 = ρ2) ∧ N.nx (ρ2.set j (.own (.dct (putKD kds (.inr kk) d))))) : Ms K O F0 (sDPut (tVar j) tk te) ρ N := fun F H σ E s R c =>
  k F H σ _ s R fun v H1 F1 x ρ1 s1 R1 r1 k1 => by
    obtain ⟨d, ρ2, F2, s2, R2, r2, kds, kk, hj, hl, hk, q⟩ := frz_of R1 r1 k1
    have m : (sl ρ2 j).mut = true := by rw [hj]; rfl
    obtain ⟨p, a1, _, _, _⟩ := R2.owned m
    refine ⟨_, sv_some a1, ?_⟩
    refine hk O F2 F2 H1 σ _ (Same.refl _) R2 fun w H3 F3 y ρ3 s3 R3 r3 ⟨e1, e2⟩ => ?_
    subst e1 e2
    rw [look_str r3]
    obtain ⟨p2, b1, b2, b3, b4⟩ := R3.owned m
    rw [a1] at b1
    cases b1
    rw [hj] at b4
    obtain ⟨kvs, a4, a5⟩ := b4
    refine ⟨p, _, rfl, DPut.k (k := .inr kk) (v := v) a4 (by rw [a5.length]; exact Nat.lt_of_le_of_lt hl (by decide)), ?_⟩
    exact c.nx F3 _ σ _ (Same.trans s1 (Same.trans s2 s3)) (R3.mutO (s := .own (.dct (putKD kds (.inr kk) d))) m a1 rfl ⟨_, upd_same, a5.putK (r2.mono s3)⟩) q
end
end SJ
namespace SJ
open PySem PySem.Spec PyProof.Rows L2 He
section
variable {K : PySem.W.Frag} {O : Oc} {F0 F F2 F3 H H2 H3 : Hp} {σ σ2 : L2.St} {ρ ρ2 : Ro} {Q : X → Ro → Prop} {QF : D → Ro → Prop} {QL : List D → Ro → Prop} {te ti ta tb : TE} {tA : TA} {N : Hn} {x y : X} {d e : D} {ds es : List D} {n : Nat}
theorem RepL.take {vs : List V} (h : RepL K F vs ds) (k : Nat) : RepL K F (vs.take k) (ds.take k) := by
  have := h.sub 0 k
  rwa [List.drop_zero, List.drop_zero] at this
theorem RepL.drop {vs : List V} (h : RepL K F vs ds) (k : Nat) : RepL K F (vs.drop k) (ds.drop k) := by
  have := h.sub k (ds.length)
  rw [List.take_of_length_le (by rw [List.length_drop, h.length]; omega), List.take_of_length_le (by rw [List.length_drop]; omega)] at this
  exact this
/-- xs * k, a new list -/
theorem v_repL (k : Me K O F0 ta ρ fun x ρ1 => Me K O F0 tb ρ1 fun y ρ2 => ∃ (ds : List D) (i : Int), seeD x ρ2 = some (.lst ds) ∧ y = .val (.int i) ∧ 0 ≤ i ∧ i ≤ 1000 ∧ ds.length ≤ 1000 ∧ Frz x ρ2 fun d ρ3 => d = .lst ds ∧ Q (.val (.lst (List.replicate i.toNat ds).flatten)) ρ3) : Me K O F0 (tOp (rMul K) ta tb) ρ Q := fun F H σ Qh s R c =>
  k F H σ _ s R fun v1 H1 F1 x ρ1 s1 R1 r1 k1 => k1 F1 H1 σ _ (Same.trans s s1) R1 fun v2 H2 F2 y ρ2 s2 R2 r2 ⟨ds, i, hx, ey, i0, i1, hl, q⟩ => by
    subst ey
    rw [look_int r2]
    obtain ⟨d, ρ3, F3, s3, R3, r3, rfl, q2⟩ := frz_of R2 (r1.mono s2) q
    obtain ⟨a, xs, rfl, ha, rx⟩ := r3.lstP
    refine .inr (.inr (.inl ⟨a, i, xs, rfl, rfl, R3.fh _ _ ha, by omega, by omega, ?_, fun p hp => ?_⟩))
    · rw [rx.length]
      exact Nat.le_trans (Nat.mul_le_mul hl (show i.toNat ≤ 1000 by omega)) (by decide)
    · have rr : ∀ m : Nat, RepL K F3 (List.replicate m xs).flatten (List.replicate m ds).flatten := by
        intro m
        induction m with
        | zero => exact .nil
        | succ m ih => rw [List.replicate_succ, List.replicate_succ, List.flatten_cons, List.flatten_cons]; exact rx.append ih
      obtain ⟨R4, s4⟩ := R3.alloc (o := .lst (List.replicate i.toNat xs).flatten) hp nx_lst
      exact c _ _ _ (.val (.lst _)) ρ3 (Same.trans s1 (Same.trans s2 (Same.trans s3 s4))) R4 (Rep.lst upd_same ((rr _).mono s4)) q2
end
end SJ
namespace SJ
open PySem PySem.Spec PyProof.Rows L2 He
end SJ
namespace SJ
open PySem PySem.Spec PyProof.Rows L2 He
def kwD (kws : List (Str × D)) : List (Key × D) := kws.map fun q => (.inr q.1, q.2)
section
variable {K : PySem.W.Frag} {O : Oc} {F0 F F2 F3 H H2 H3 : Hp} {σ σ2 : L2.St} {ρ ρ2 : Ro} {Q : X → Ro → Prop} {QT : Bool → Ro → Prop} {QA : List X → Ro → Prop} {QF : D → Ro → Prop} {QL : List D → Ro → Prop} {ta tb te to tc : TE} {t u tt : TT} {tA tK : TA} {ts tz : TS} {r r2 : R2} {N : Hn} {n : Nat} {x y : X} {d e : D} {g : TG} {wi : TI} {p : Addr} {o o2 : HO} {vs : List V} {ds es : List D} {kds lds : List (Key × D)} {fds : List (Str × D)} {W : WX} {Xp : XP} {i j : Int} {b c : Bool} {s z : Str} {cn : Str} {v : V} {gf : Addr} {P : PD}
theorem RepP.kws {nm : List Str} : ∀ {zs : List V} {ks : List D}, RepL K F zs ks → RepP K F ((nm.map Sum.inr).zip zs : List (Key × V)) (kwD (nm.zip ks)) := by
  induction nm with
  | nil => intro zs ks _; exact ⟨rfl, .nil⟩
  | cons m nm ih =>
    intro zs ks h
    cases h with
    | nil => exact ⟨rfl, .nil⟩
    | cons a b => exact RepP.cons a (ih b)
def mergeKD (acc more : List (Key × D)) : List (Key × D) := more.foldl (fun acc q => putKD acc q.1 q.2) acc
theorem RepP.merge : ∀ {lds : List (Key × D)} {kvs2 kvs : List (Key × V)} {kds : List (Key × D)}, RepP K F kvs2 lds → RepP K F kvs kds → RepP K F (mergeK kvs kvs2) (mergeKD kds lds)
  | [], _, _, _, h, g => by rw [h.inv0]; exact g
  | (k, d) :: lds, _, _, _, h, g => by
    obtain ⟨v, r, rfl, a, b⟩ := h.inv
    have z := RepP.merge (lds := lds) b (g.putK (k := k) a)
    exact z
theorem mergeKD_nodup : ∀ {more acc : List (Key × D)}, ((acc ++ more).map (·.1)).Nodup → mergeKD acc more = acc ++ more
  | [], acc, _ => by rw [List.append_nil]; rfl
  | q :: more, acc, h => by
    have hf : ¬ (acc.any fun kv => decide (kv.1 = q.1)) = true := fun z => by
      obtain ⟨kv, hkv, he⟩ := List.any_eq_true.mp z
      rw [List.map_append, List.map_cons, List.nodup_append] at h
      exact h.2.2 kv.1 (List.mem_map.mpr ⟨kv, hkv, rfl⟩) q.1 List.mem_cons_self (of_decide_eq_true he)
    show mergeKD (putKD acc q.1 q.2) more = _
    have e : putKD acc q.1 q.2 = acc ++ [q] := by unfold putKD; rw [if_neg hf]
    rw [e, mergeKD_nodup (by rw [List.append_assoc]; exact h), List.append_assoc]
    rfl
theorem RepL.pairs : ∀ {xs : List V} {kds : List (Key × D)}, RepL K F xs (kds.map fun q => D.tup [keyOf q.1, q.2]) → ∃ (ps : List Addr) (kvs : List (Key × V)), xs = ps.map V.ref ∧ Paired (fun p kv => SqT K F p [kV kv.1, kv.2]) ps kvs ∧ RepP K F kvs kds
  | _, [], h => by
    rw [List.map_nil] at h
    cases h
    exact ⟨[], [], rfl, .nil, RepP.nil⟩
  | _, (k, d) :: kds, h => by
    rw [List.map_cons] at h
    cases h with
    | cons a b =>
      obtain ⟨ps, kvs, rfl, hp, hr⟩ := RepL.pairs b
      obtain ⟨t, ws, rfl, h1, h2⟩ := a.tupP
      have h2 : RepL K F ws [keyOf k, d] := h2
      cases h2 with
      | cons c1 c2 =>
        cases c2 with
        | cons c2 c3 =>
          cases c3
          have e1 := rep_key c1 (show keyD (keyOf k) = some k by cases k <;> rfl)
          subst e1
          exact ⟨t :: ps, (k, _) :: kvs, rfl, .cons h1 hp, RepP.cons c2 hr⟩
theorem Paired.imp {α β : Type} {F G : α → β → Prop} (h : ∀ a b, F a b → G a b) : ∀ {xs : List α} {ys : List β}, Paired F xs ys → Paired G xs ys
  | _, _, .nil => .nil
  | _, _, .cons a b => .cons (h _ _ a) (Paired.imp h b)
def rJoin (K : PySem.W.Frag) : V → List V → Hp → VK → Prop := fun x xs H Q => ∃ a p, ∃ ys : List Str, x = .str a ∧ xs = [.ref p] ∧ (SqL K H p (ys.map V.str) ∨ SqT K H p (ys.map V.str)) ∧ (ys.map (·.length)).sum + ys.length * a.length ≤ 16777216 ∧ Q (.str (Txt.join a ys)) H
theorem m_join {zs : List Str} (k : Me K O F0 to ρ fun x ρ1 => ∃ a, x = .val (.str a) ∧ Me K O F0 te ρ1 fun y ρ2 => ∃ zs : List Str, (seeD y ρ2 = some (.lst (zs.map D.str)) ∨ seeD y ρ2 = some (.tup (zs.map D.str))) ∧ (zs.map (·.length)).sum + zs.length * a.length ≤ 16777216 ∧ Q (.val (.str (Txt.join a zs))) ρ2) : Me K O F0 (tM1 (rJoin K) to te) ρ Q := fun F H σ Qh s R c =>
  k F H σ _ s R fun v1 H1 F1 x ρ1 s1 R1 r1 ⟨a, ex, k1⟩ => by
    subst ex
    rw [look_str r1]
    refine ⟨⟨a, rfl⟩, k1 F1 H1 σ _ (Same.trans s s1) R1 fun v2 H2 F2 y ρ2 s2 R2 r2 ⟨zs, hy, hl, q⟩ => ?_⟩
    have fin := c _ H2 F2 (.val (.str (Txt.join a zs))) ρ2 (Same.trans s1 s2) R2 (Rep.str _) q
    rcases hy with hy | hy
    · obtain ⟨p, xs, rfl, h1, h2⟩ := look_lst R2 r2 hy
      rw [h2.strs'] at h1
      exact ⟨a, p, zs, rfl, rfl, .inl h1, hl, fin⟩
    · obtain ⟨p, xs, rfl, h1, h2⟩ := look_tup R2 r2 hy
      rw [h2.strs'] at h1
      exact ⟨a, p, zs, rfl, rfl, .inr h1, hl, fin⟩
end
end SJ
namespace SJ
open PySem PySem.Spec PyProof.Rows L2 He LamX
section
variable {K : PySem.W.Frag} {O : Oc} {F0 F F2 F3 H H2 H3 : Hp} {σ σ2 : L2.St} {ρ ρ2 : Ro} {Q : X → Ro → Prop} {QT : Bool → Ro → Prop} {QA : List X → Ro → Prop} {QF : D → Ro → Prop} {QL : List D → Ro → Prop} {ta tb te to tc tk tv : TE} {t u tt : TT} {tA tK : TA} {ts tz : TS} {r r2 : R2} {N : Hn} {n : Nat} {x y : X} {d e : D} {g : TG} {wi : TI} {p : Addr} {o o2 : HO} {ds es : List D} {kds : List (Key × D)} {fds : List (Str × D)} {W : WX} {Xp : XP} {i j : Int} {b c : Bool} {s z : Str} {cn : Str} {v : V} {gf : Addr} {P : PD}
theorem mf_listDk (k : Me K O F0 te ρ fun x ρ1 => ∃ kds, seeD x ρ1 = some (.dct kds) ∧ QF (.lst (kds.map fun q => keyOf q.1)) ρ1) : Mf K O F0 (tCB rListD (tCons te tNil)) ρ QF := fun F H σ Qh s R c =>
  k F H σ _ s R fun v H1 F1 x ρ1 s1 R1 r1 ⟨kds, hx, q⟩ => by
    obtain ⟨a, kvs, rfl, h1, h2⟩ := look_dct R1 r1 hx
    refine ⟨a, kvs, rfl, h1, fun p hp => ?_⟩
    exact mf_new (ρ2 := ρ1) (F2 := F1) R1 hp (RepL.keys h2) fun H3 R3 nw => c p H3 F1 _ ρ1 s1 R3 nw q
end
end SJ
namespace SJ
open PySem PySem.Spec PyProof.Rows L2 He
end SJ
namespace SJ
open PySem PySem.Spec PyProof.Rows L2 He
section
variable {K : PySem.W.Frag} {O : Oc} {F0 F F2 H H2 : Hp} {σ σ2 : L2.St} {ρ ρ2 : Ro} {Q : X → Ro → Prop} {QF : D → Ro → Prop} {te ta tb to : TE} {tA tK : TA} {ts tm : TS} {x y : X} {d e : D} {N : Hn} {W : WX} {Xp : XP} {gf : Addr} {P : PD} {ds : List D} {kds : List (Key × D)} {vs : List V}
theorem r_ninStrsL {z : Str} {zs : List Str} (hy : seeD y ρ = some (.lst (zs.map D.str))) (k : Q (.val (.bl (!decide (z ∈ zs)))) ρ) : Mr K O F0 (rInU K true) (.val (.str z)) y ρ Q := fun F H σ u v Qh _ R hu hv q => by
  rw [look_str hu]
  obtain ⟨a, xs, rfl, h1, h2⟩ := look_lst R hv hy
  rw [h2.strs'] at h1
  refine x_ninL h1 rfl flat_strs ?_
  rw [inV_strs]
  exact q _ H F (.val (.bl _)) ρ (Same.refl _) R (Rep.bl _) k
/-- dict(xs) -/
theorem mf_dictL (k : Me K O F0 te ρ fun x ρ1 => ∃ kds, seeD x ρ1 = some (.lst (kds.map fun q => D.tup [SJ.keyOf q.1, q.2])) ∧ QF (.dct (mergeKD [] kds)) ρ1) : Mf K O F0 (tCB (rDictL K) (tCons te tNil)) ρ QF := fun F H σ Qh s R c =>
  k F H σ _ s R fun v H1 F1 x ρ1 s1 R1 r1 ⟨kds, hx, q⟩ => by
    obtain ⟨a, xs, rfl, h1, h2⟩ := look_lst R1 r1 hx
    obtain ⟨ps, kvs, rfl, h3, h4⟩ := RepL.pairs h2
    refine ⟨a, ps, kvs, rfl, h1, Paired.imp (fun a b z => sqt_same R1.fh z) h3, fun p hp => ?_⟩
    exact c p _ F1 (.dct (mergeKD [] kds)) ρ1 s1 (R1.allocN hp) ⟨(R1.free hp).1, (R1.free hp).2, R1.no_new hp, _, upd_same, RepP.merge h4 RepP.nil⟩ q
theorem m_strI {i : Int} (h : i.natAbs.log2 < 1920) (k : Q (.val (.str (toString i))) ρ) : Mc K O F0 rStrI [.val (.int i)] ρ Q := fun F H σ vs Qh _ R hu q => by
  obtain ⟨v, rfl, hv⟩ := one_arg hu
  rw [look_int hv]
  exact ⟨i, rfl, h, q _ H F (.val (.str (toString i))) ρ (Same.refl _) R (Rep.str _) k⟩
end
end SJ
namespace SJ
open PySem PySem.Spec PyProof.Rows L2 He
end SJ
namespace SJ
open PySem PySem.Spec PyProof.Rows L2 He LamX
end SJ
namespace SJ
open PySem PySem.Spec PyProof.Rows L2 He LamX
/-- two objects whose class compares by g; one object is equal to itself -/
def EqX (K : PySem.W.Frag) (g : Addr) (P : PD) (eqf : D → D → Bool) (d e : D) : Prop := ∃ c fds c2 fds2, d = .obj c fds ∧ e = .obj c2 fds2 ∧ OwnOp K c "__eq__" g ∧ InT K (ga K c2) ∧ PySem.W.notFirst K (ga K c) (.ref (ga K c2)) = true ∧
  P [d, e] (fun z => z = .bl (eqf d e)) (fun _ _ => False) ∧ ∀ F v, Rep K F v d → Rep K F v e → eqf d e = true
section
variable {K : PySem.W.Frag} {O : Oc} {F0 F H : Hp} {ρ : Ro} {Q : X → Ro → Prop} {x y : X} {ds es : List D} {gf : Addr} {P : PD} {T : List (Addr × Str)}
theorem seqB_ofX {eqf : D → D → Bool} (sF : Same F H) (t : Tabs T H) (ft : ∀ a o, F a = some o → ∀ ps, o ≠ .tbl ps) : ∀ {xs ys : List V} {ds es : List D}, RepL K F xs ds → RepL K F ys es → (∀ d ∈ ds, ∀ e ∈ es, EqX K gf P eqf d e) → seqB (dSeq K gf (spS K T (pu P)) (Sm T F)) H xs ys (seqEq eqf ds es)
  | _, _, [], [], .nil, .nil, _ => rfl
  | _, _, [], _ :: _, .nil, .cons _ _, _ => rfl
  | _, _, _ :: _, [], .cons _ _, .nil, _ => rfl
  | x :: xs, y :: ys, d :: ds, e :: es, .cons a1 b1, .cons a2 b2, hP => by
    have one : dSeq K gf (spS K T (pu P)) (Sm T F) x y H (eqf d e) := by
      obtain ⟨c, fds, c2, fds2, rfl, rfl, ho, hi, hn, hp, hs⟩ := hP d (List.mem_cons_self ..) e (List.mem_cons_self ..)
      obtain ⟨a, dx, fs, rfl, h1, h2⟩ := a1.objP
      obtain ⟨a', dx', fs', rfl, h3, h4⟩ := a2.objP
      by_cases z : a = a'
      · subst z
        exact .inl ⟨a, rfl, rfl, hs F _ a1 a2⟩
      · exact .inr ⟨a, a', _, dx, fs, _, dx', fs', rfl, rfl, z, sF _ _ h1, sF _ _ h3, ho, hi, hn, fun G hg Qh hq => promise_sm sF t ft (.cons a1 (.cons a2 .nil)) hp hg hq⟩
    have tail := seqB_ofX sF t ft b1 b2 fun d hd e he => hP d (List.mem_cons_of_mem _ hd) e (List.mem_cons_of_mem _ he)
    show (_ ∧ _) ∨ (_ ∧ _)
    rw [show seqEq eqf (d :: ds) (e :: es) = (eqf d e && seqEq eqf ds es) from rfl]
    cases q : eqf d e with
    | true => rw [q] at one; exact .inr ⟨one, by rw [Bool.true_and]; exact tail⟩
    | false => rw [q] at one; exact .inl ⟨one, rfl⟩
theorem r_seqX {nm : Bool} (eqf : D → D → Bool) (hx : (seeD x ρ = some (.tup ds) ∧ seeD y ρ = some (.tup es)) ∨ (seeD x ρ = some (.lst ds) ∧ seeD y ρ = some (.lst es))) (hP : ∀ d ∈ ds, ∀ e ∈ es, EqX K gf P eqf d e) (k : Q (.val (.bl (if nm then seqEq eqf ds es else !seqEq eqf ds es))) ρ) : Mr K O F0 (rSeqC K (dSeq K gf (spS K O.T (pu P))) nm) x y ρ Q := fun F H σ u v Qh _ R hu hv q => by
  have fin : ∀ H2, Sm O.T F H H2 → Qh (.bl (if nm then seqEq eqf ds es else !seqEq eqf ds es)) H2 := fun H2 hs => q _ H2 F (.val (.bl _)) ρ (Same.refl _) (R.sm hs) (Rep.bl _) k
  rcases hx with ⟨e1, e2⟩ | ⟨e1, e2⟩
  · obtain ⟨a, xs, rfl, h1, h2⟩ := look_tup R hu e1
    obtain ⟨c, ys, rfl, h3, h4⟩ := look_tup R hv e2
    exact ⟨Sm O.T F, a, c, xs, ys, _, sm_grow, rfl, rfl, .inl ⟨h1, h3⟩, seqB_ofX R.fh R.tb R.ft h2 h4 hP, fin⟩
  · obtain ⟨a, xs, rfl, h1, h2⟩ := look_raw R hu e1
    obtain ⟨c, ys, rfl, h3, h4⟩ := look_raw R hv e2
    exact ⟨Sm O.T F, a, c, xs, ys, _, sm_grow, rfl, rfl, .inr ⟨h1, h3, fun z => seqEq_len (by rw [← h2.length, ← h4.length]; exact z)⟩, seqB_ofX R.fh R.tb R.ft h2 h4 hP, fin⟩
end
end SJ
namespace SJ
open PySem PySem.Spec PyProof.Rows L2 He LamX
end SJ
namespace SJ
open PySem PySem.Spec PyProof.Rows L2 He LamX
/-- outside there are, besides, the lists qs with these texts -/
structure Nst (O O2 : Oc) (qs : List Addr) (zss : List (List Str)) : Prop where
  w : O2.w = O.w
  T : O2.T = O.T
  s : Same O.o O2.o
  nd : qs.Nodup
  nq : ∀ q ∈ qs, O.o q = none
  len : qs.length = zss.length
  at_ : ∀ (i : Nat) (q : Addr) (zs : List Str), qs[i]? = some q → zss[i]? = some zs → O2.o q = some (.lst (zs.map V.str))
section
variable {K : PySem.W.Frag} {O O2 : Oc} {F0 F F1 F2 F3 H H1 H2 H3 : Hp} {σ σ2 : L2.St} {ρ ρ2 : Ro} {tx tp tz : TE} {tt : TT} {rest : TS} {N : Hn} {wi : TI} {l j i : Nat} {qs : List Addr} {zss : List (List Str)}
theorem adrs_of : ∀ {qs : List Addr} {vs : List V}, RepL K F vs (qs.map D.adr) → vs = qs.map V.ref
  | [], _, h => by cases h; rfl
  | q :: qs, _, h => by
    cases h with
    | cons a b => cases a; rw [adrs_of b]; rfl
theorem nd_at {α : Type} {q : α} : ∀ {qs : List α} {i a : Nat}, qs.Nodup → qs[i]? = some q → qs[a]? = some q → i = a
  | [], _, _, _, e, _ => (nomatch e)
  | b :: qs, i, a, nd, e1, e2 => by
    obtain ⟨n1, n2⟩ := List.nodup_cons.mp nd
    cases i with
    | zero =>
      cases a with
      | zero => rfl
      | succ a =>
        cases e1
        exact absurd (List.mem_of_getElem? (show qs[a]? = some _ from e2)) n1
    | succ i =>
      cases a with
      | zero =>
        cases e2
        exact absurd (List.mem_of_getElem? (show qs[i]? = some _ from e1)) n1
      | succ a => exact congrArg Nat.succ (nd_at n2 (show qs[i]? = some q from e1) (show qs[a]? = some q from e2))
/-- one of the lists grows -/
theorem Nst.turn (h : Nst O O2 qs zss) {a : Nat} {q : Addr} {zs ys : List Str} (hq : qs[a]? = some q) (hz : zss[a]? = some zs) : Nst O { O2 with o := upd O2.o q (.lst (ys.map V.str)) } qs (zss.set a ys) := by
  refine ⟨h.w, h.T, fun b u e => ?_, h.nd, h.nq, by rw [List.length_set]; exact h.len, fun i q2 zs2 e1 e2 => ?_⟩
  · have hn : b ≠ q := fun z => by
      rw [z, h.nq q (List.mem_of_getElem? hq)] at e; cases e
    show upd O2.o q _ b = _
    rw [upd_ne hn]; exact h.s b u e
  · show upd O2.o q _ q2 = _
    by_cases z : i = a
    · subst z
      rw [hq] at e1
      cases e1
      have hlt : i < zss.length := (List.getElem?_eq_some_iff.mp hz).1
      rw [List.getElem?_set_self hlt] at e2
      cases e2
      exact upd_same
    · rw [List.getElem?_set_ne (Ne.symm z)] at e2
      have hn : q2 ≠ q := fun y => by
        subst y
        exact z (nd_at h.nd e1 hq)
      rw [upd_ne hn]; exact h.at_ i q2 zs2 e1 e2
/-- all lists frozen -/
theorem thawQ : ∀ (qs : List Addr) (zss : List (List Str)) (F : Hp), qs.Nodup → qs.length = zss.length → RS K O F H σ ρ → (∀ q ∈ qs, F q = none ∧ O.o q = none ∧ ∀ i, (sl ρ i).mut = true → sv σ i ≠ some (.ref q)) → (∀ (i : Nat) (q : Addr) (zs : List Str), qs[i]? = some q → zss[i]? = some zs → H q = some (.lst (zs.map V.str))) →
    ∃ F2, Same F F2 ∧ RS K O F2 H σ ρ ∧ RepL K F2 (qs.map V.ref) (zss.map fun zs => D.lst (zs.map D.str))
  | [], [], F, _, _, R, _, _ => ⟨F, Same.refl _, R, .nil⟩
  | [], _ :: _, _, _, e, _, _, _ => nomatch e
  | _ :: _, [], _, _, e, _, _, _ => nomatch e
  | q :: qs, zs :: zss, F, nd, e, R, hq, hz => by
    obtain ⟨n1, n2⟩ := List.nodup_cons.mp nd
    obtain ⟨a1, a2, a3⟩ := hq q (List.mem_cons_self ..)
    have hh := hz 0 q zs rfl rfl
    obtain ⟨R1, s1⟩ := R.thaw hh nx_lst a1 a2 a3
    obtain ⟨F2, s2, R2, r2⟩ := thawQ qs zss _ n2 (by simpa using e) R1 (fun q2 m => by
      obtain ⟨b1, b2, b3⟩ := hq q2 (List.mem_cons_of_mem _ m)
      exact ⟨by rw [upd_ne (fun z => n1 (by rw [← z]; exact m))]; exact b1, b2, b3⟩) fun i q2 zs2 e1 e2 => hz (i + 1) q2 zs2 e1 e2
    exact ⟨F2, Same.trans s1 s2, R2, .cons (.lst (s2 _ _ upd_same) RepL.strs) r2⟩
/-- the end of the loop: the lists are frozen, slot j holds them as a tree -/
theorem Nst.done (h : Nst O O2 qs zss) (R : RS K O2 F H σ ρ) (hj : j ≠ 0) (hs : sl ρ j = .val (.lst (qs.map D.adr))) : ∃ F2, Same F F2 ∧ RS K O F2 H σ (ρ.set j (.val (.lst (zss.map fun zs => D.lst (zs.map D.str))))) := by
  have hO2 : ∀ q ∈ qs, ∃ o, O2.o q = some o := fun q m => by
    obtain ⟨i, hi⟩ := List.getElem?_of_mem m
    have hlt := (List.getElem?_eq_some_iff.mp hi).1
    exact ⟨_, h.at_ i q _ hi (List.getElem?_eq_getElem (by rw [← h.len]; exact hlt))⟩
  have RO : RS K O F H σ ρ := R.drop h.s (.inl h.w.symm) h.T.symm
  obtain ⟨F2, s2, R2, r2⟩ := thawQ qs zss F h.nd h.len RO (fun q m => by
    obtain ⟨o, ho⟩ := hO2 q m
    exact ⟨R.dj _ _ ho, h.nq q m, R.nobody ho⟩) fun i q zs e1 e2 => R.oh _ _ (h.at_ i q zs e1 e2)
  have aj := R.at_ j
  rw [hs] at aj
  obtain ⟨vj, aj1, aj2⟩ := aj
  obtain ⟨p, xs, rfl, p1, p2⟩ := aj2.lstP
  rw [adrs_of p2] at p1
  have R3 := R2.put hj (Rep.lst (s2 _ _ p1) r2)
  rw [set_held aj1] at R3
  exact ⟨F2, s2, R3⟩
end
end SJ
namespace SJ
open PySem PySem.Spec PyProof.Rows L2 He LamX
/-- frozen, and what is lent -/
def ov (F G : Hp) : Hp := fun a => match F a with
  | some o => some o
  | none => G a
def OffG (F F2 G : Hp) : Prop := (∀ a o, G a = none → F a = some o → F2 a = some o) ∧ ∀ a o, G a = some o → ∃ xs, F a = some (.lst xs)
section
variable {K : PySem.W.Frag} {O : Oc} {F0 F F1 F2 G H H2 : Hp} {σ σ2 : L2.St} {ρ ρ2 : Ro} {Q : X → Ro → Prop} {te to : TE} {tA tK : TA} {x y : X} {d e : D} {W : WX} {Xp : XP} {ds es : List D} {vs : List V} {N : Hn} {P : PD}
theorem OffG.ne {o : HO} {a : Addr} (h : OffG F F2 G) (e : F a = some o) (h1 : ∀ xs, o ≠ .lst xs) : F2 a = some o := by
  cases g : G a with
  | none => exact h.1 a o g e
  | some u =>
    obtain ⟨xs, z⟩ := h.2 a u g
    rw [e] at z
    exact absurd (Option.some.inj z) (h1 xs)
/-- which trees the lent ones are -/
inductive Lnt (o : Hp) : List D → List D → Prop
  | nil : Lnt o [] []
  | keep {d : D} {ds es : List D} : Lnt o ds es → Lnt o (d :: ds) (d :: es)
  | lend {q : Addr} {zs : List Str} {ds es : List D} : o q = some (.lst (zs.map V.str)) → Lnt o ds es → Lnt o (.adr q :: ds) (.lst (zs.map D.str) :: es)
theorem Lnt.length {o : Hp} (h : Lnt o ds es) : ds.length = es.length := by
  induction h with
  | nil => rfl
  | keep _ ih => rw [List.length_cons, List.length_cons, ih]
  | lend _ _ ih => rw [List.length_cons, List.length_cons, ih]
theorem Lnt.mono {o o2 : Hp} (s : Same o o2) (h : Lnt o ds es) : Lnt o2 ds es := by
  induction h with
  | nil => exact .nil
  | keep _ ih => exact .keep ih
  | lend e _ ih => exact .lend (s _ _ e) ih
theorem Lnt.at_ {o : Hp} (h : Lnt o ds es) : ∀ {i : Nat} {d : D}, ds[i]? = some d → ∃ e, es[i]? = some e ∧ (d = e ∨ ∃ (q : Addr) (zs : List Str), d = .adr q ∧ e = .lst (zs.map D.str) ∧ o q = some (.lst (zs.map V.str))) := by
  induction h with
  | nil => intro i d e; cases e
  | keep _ ih =>
    intro i d e
    cases i with
    | zero => cases e; exact ⟨_, rfl, .inl rfl⟩
    | succ i => exact ih e
  | lend e0 _ ih =>
    intro i d e
    cases i with
    | zero => cases e; exact ⟨_, rfl, .inr ⟨_, _, rfl, rfl, e0⟩⟩
    | succ i => exact ih e
end
end SJ
namespace SJ
open PySem PySem.Spec PyProof.Rows L2 He LamX
structure Ext (O O2 : Oc) : Prop where
  w : O2.w = O.w
  T : O2.T = O.T
  s : Same O.o O2.o
theorem Ext.trans {O O2 O3 : Oc} (a : Ext O O2) (b : Ext O2 O3) : Ext O O3 := ⟨b.w.trans a.w, b.T.trans a.T, Same.trans a.s b.s⟩
end SJ
namespace SJ
open PySem PySem.Spec PyProof.Rows L2 He
section
variable {K : PySem.W.Frag} {O : Oc} {F0 F H : Hp} {σ : L2.St} {ρ : Ro} {Q : X → Ro → Prop} {te : TE} {tA tK : TA} {i j : Int} {x : X} {QL : List D → Ro → Prop}
theorem RS.bare (R : RS K O F H σ ρ) {a : Addr} : RS K { O with w := none } (L2.del F a) H [] [] :=
  ⟨fun b o e => R.fh b o (by rwa [L2.del_ne (del_ne_of e)] at e), R.oh, fun b o e => by
    by_cases z : b = a
    · rw [z]; exact L2.del_same
    · rw [L2.del_ne z]; exact R.dj b o e, R.tb, R.ot, fun b o e => R.ft b o (by rwa [L2.del_ne (del_ne_of e)] at e), (fun v (e : (none : Option V) = some v) => nomatch e), rfl, fun i => by
      have : sl ([] : Ro) i = .none := by unfold sl; rw [List.getElem?_nil]; rfl
      rw [this]; trivial, fun i j b ij mi => by
      have : sl ([] : Ro) i = .none := by unfold sl; rw [List.getElem?_nil]; rfl
      rw [this] at mi; cases mi⟩
end
end SJ
namespace SJ
open PySem PySem.Spec PyProof.Rows L2 He LamX
section
variable {K : PySem.W.Frag} {O O2 : Oc} {F0 F F1 F2 H H1 H2 : Hp} {σ σ2 : L2.St} {ρ ρ2 : Ro} {Q : X → Ro → Prop} {td tb te tx tp tzz : TE} {tt : TT} {wi : TI} {ts tz rest : TS} {N : Hn} {i j l : Nat} {ds es : List D} {zs : List Str} {xs : List V}
theorem at0 {d : D} : atI (d :: ds) 0 = some d := by
  obtain ⟨v, h1, h2⟩ := atI_in (xs := d :: ds) (i := 0) (by decide) (by rw [List.length_cons]; omega)
  cases h1
  exact h2
end
end SJ
namespace SJ
open PySem PySem.Spec PyProof.Rows L2 He LamX
end SJ
namespace SJ
open PySem PySem.Spec PyProof.Rows L2 He LamX
def strsD (zs : List Str) : D := .lst (zs.map D.str)
end SJ
namespace SJ
open PySem PySem.Spec PyProof.Rows L2 He LamX
def tupD (zs : List Str) : D := .tup (zs.map D.str)
section
variable {K : PySem.W.Frag} {O O2 : Oc} {F0 F F1 F2 F3 H H1 H2 H3 : Hp} {σ σ2 : L2.St} {ρ ρ2 : Ro} {N : Hn} {wi : TI} {g : TG} {tt : TT} {te to : TE} {tA : TA} {Q : X → Ro → Prop} {QF : D → Ro → Prop} {x y : X} {W : WX} {Xp : XP} {P : Program} {w : World}
/-- list(d.values()) -/
theorem mf_listV (k : Me K O F0 te ρ fun x ρ1 => ∃ kds, seeD x ρ1 = some (.dct kds) ∧ QF (.lst (kds.map (·.2))) ρ1) : Mf K O F0 (tCB rListV (tCons (tBM0 K "dict" rVals te) tNil)) ρ QF := fun F H σ Qh s R c =>
  k F H σ _ s R fun v H1 F1 x ρ1 s1 R1 r1 ⟨kds, hx, q⟩ => by
    obtain ⟨a, kvs, rfl, h1, h2⟩ := look_dct R1 r1 hx
    refine ⟨.inr (.inr (.inl ⟨rfl, .inl ⟨kvs, h1⟩⟩)), a, kvs, rfl, rfl, h1, fun w hw => ?_⟩
    have R2 : RS K O F1 (upd H1 w (valsO w a)) σ ρ1 := R1.allocN hw
    refine ⟨w, a, kvs, rfl, upd_same, by rw [upd_ne (ne_of_none h1 hw)]; exact h1, fun l hl => ?_⟩
    exact mf_new (ρ2 := ρ1) (F2 := F1) R2 hl h2.2 fun H3 R3 nw => c l H3 F1 _ ρ1 s1 R3 nw q
end
end SJ
namespace SJ
open PySem PySem.Spec PyProof.Rows L2 He LamX
section
variable {K : PySem.W.Frag} {O O2 O3 : Oc} {F0 F F1 F2 F3 H H1 H2 H3 : Hp} {σ σ2 : L2.St} {ρ ρ2 : Ro} {N : Hn} {wi : TI} {tt : TT} {te : TE} {qs : List Addr} {zss : List (List Str)} {Q : X → Ro → Prop} {i j n : Nat} {q : Addr} {zs : List Str}
theorem er_perm {α : Type} {z : α} : ∀ {xs : List α} {k : Nat}, xs[k]? = some z → (z :: xs.eraseIdx k).Perm xs
  | [], _, e => nomatch e
  | x :: xs, 0, e => by cases e; exact List.Perm.refl _
  | x :: xs, k + 1, e => (List.Perm.swap x z _).trans ((er_perm (xs := xs) (k := k) e).cons x)
theorem er_nd {α : Type} {z : α} {xs : List α} {k : Nat} (h : xs[k]? = some z) (nd : xs.Nodup) : (xs.eraseIdx k).Nodup ∧ z ∉ xs.eraseIdx k := by
  obtain ⟨a, b⟩ := List.nodup_cons.mp ((er_perm h).nodup_iff.mpr nd)
  exact ⟨b, a⟩
/-- one list of them is taken away, and emptied -/
theorem Nst.take {k : Nat} (h : Nst O O2 qs zss) (hq : qs[k]? = some q) : Nst O { O2 with o := upd O2.o q (.lst []) } (qs.eraseIdx k) (zss.eraseIdx k) := by
  have kl := (List.getElem?_eq_some_iff.mp hq).1
  obtain ⟨nd, out⟩ := er_nd hq h.nd
  refine ⟨h.w, h.T, fun a u e => ?_, nd, fun a m => h.nq a ((List.eraseIdx_sublist ..).mem m), by rw [List.length_eraseIdx_of_lt kl, List.length_eraseIdx_of_lt (by rw [← h.len]; exact kl), h.len], fun a q2 zs2 e1 e2 => ?_⟩
  · show upd O2.o q _ a = _
    rw [upd_ne (ne_of_none e (h.nq q (List.mem_of_getElem? hq)))]
    exact h.s a u e
  · show upd O2.o q _ q2 = _
    rw [upd_ne fun e => out (by rw [← e]; exact List.mem_of_getElem? e1)]
    rw [List.getElem?_eraseIdx] at e1 e2
    split at e1
    · rename_i lt
      rw [if_pos lt] at e2
      exact h.at_ a q2 zs2 e1 e2
    · rename_i lt
      rw [if_neg lt] at e2
      exact h.at_ _ q2 zs2 e1 e2
/-- a row of lists or tuples of these texts, each in any order -/
inductive Rows : List D → List (List Str) → Prop
  | nil : Rows [] []
  | snoc {es : List D} {zss : List (List Str)} {ys zs : List Str} {e : D} : Rows es zss → ys.Perm zs → (e = strsD ys ∨ e = tupD ys) → Rows (es ++ [e]) (zss ++ [zs])
theorem Rows.len {es : List D} (h : Rows es zss) : es.length = zss.length := by
  induction h with
  | nil => rfl
  | snoc _ _ _ ih => rw [List.length_append, List.length_append, ih]; rfl
end
def DataD (d : D) : Prop := ∃ pd, pyOf d = some pd ∧ SeqAt.shaped pd = true
def eqvD (e d : D) : Bool := match pyOf e, pyOf d with
  | some a, some b => PyData.eqv a b
  | _, _ => false
section
variable {K : PySem.W.Frag} {O : Oc} {F0 F H : Hp} {σ : L2.St} {ρ : Ro} {x y : X} {ds : List D} {d : D} {Q : X → Ro → Prop}
theorem cmp_data {v : V} {d : D} (r : Rep K H v d) (h : DataD d) : ∀ {xs : List V} {ds : List D}, RepL K H xs ds → (∀ e ∈ ds, DataD e) → Paired (fun w b => CmpV K H w v b) xs (ds.map (eqvD · d))
  | _, [], .nil, _ => .nil
  | _, e :: ds, .cons a b, hc => by
    refine .cons ?_ (cmp_data r h b fun y hy => hc y (List.mem_cons_of_mem _ hy))
    obtain ⟨pe, h1, h2⟩ := hc e (List.mem_cons_self ..)
    obtain ⟨pd, h3, h4⟩ := h
    have : eqvD e d = PyData.eqv pe pd := by unfold eqvD; rw [h1, h3]
    show CmpV K H _ v (eqvD e d)
    rw [this]
    exact .data (dp_of a h1) (dp_of r h3) h2 h4
theorem r_inGd {neg : Bool} (hx : seeD x ρ = some d) (hd : DataD d) (hy : seeD y ρ = some (.lst ds) ∨ seeD y ρ = some (.tup ds)) (hc : ∀ e ∈ ds, DataD e) (k : Q (.val (.bl (if neg then !ds.any (eqvD · d) else ds.any (eqvD · d)))) ρ) : Mr K O F0 (rInH K neg) x y ρ Q := fun F H σ u v Qh s R hu hv c => by
  have key : ∃ a xs, v = .ref a ∧ (SqL K H a xs ∨ SqT K H a xs) ∧ RepL K F xs ds := by
    rcases hy with hy | hy
    · obtain ⟨a, xs, e, h1, h2⟩ := look_lst R hv hy
      exact ⟨a, xs, e, .inl h1, h2⟩
    · obtain ⟨a, xs, e, h1, h2⟩ := look_tup R hv hy
      exact ⟨a, xs, e, .inr h1, h2⟩
  obtain ⟨a, xs, rfl, h1, h2⟩ := key
  refine .inr ⟨a, xs, _, rfl, h1, cmp_data (look_rep R hu hx) hd (h2.mono R.fh) hc, ?_⟩
  rw [List.any_map]
  exact c _ H F (.val (.bl _)) ρ (Same.refl _) R (Rep.bl _) k
end
end SJ
namespace SJ
open PySem PySem.Spec PyProof.Rows L2 He
end SJ
namespace SJ
open PySem PySem.Spec PyProof.Rows L2 He
end SJ
namespace SJ
open PySem PySem.Spec PyProof.Rows L2 He
end SJ
namespace SJ
open PySem PySem.Spec PyProof.Rows L2 He
section
variable {K : PySem.W.Frag} {O : Oc} {F0 : Hp} {ρ : Ro} {Q : X → Ro → Prop} {tA : TA} {QL : List D → Ro → Prop}
theorem r_notSign {c0 : Nat} {z : Str} (k : Q (.val (.bl (!decide (c0 ∈ z.cps.toList)))) ρ) : Mr K O F0 rNotInS (.val (.str ⟨#[c0]⟩)) (.val (.str z)) ρ Q := fun F H σ u v Qh _ R hu hv q => by
  have hu : Rep K F u (.str ⟨#[c0]⟩) := hu
  have hv : Rep K F v (.str z) := hv
  cases hu
  cases hv
  exact ⟨c0, z, rfl, rfl, q _ H F (.val (.bl _)) ρ (Same.refl _) R (Rep.bl _) k⟩
end
end SJ
namespace SJ
open PySem PySem.Spec PyProof.Rows L2 He LamX
section
variable {K : PySem.W.Frag} {O : Oc} {F0 F H : Hp} {σ : L2.St} {ρ : Ro} {Q : X → Ro → Prop} {QF : D → Ro → Prop} {QL : List D → Ro → Prop} {te to : TE} {tA : TA} {N : Hn} {Qh0 : VK}
theorem mf_split (k : Me K O F0 to ρ fun x ρ1 => ∃ a, x = .val (.str a) ∧ Me K O F0 te ρ1 fun y ρ2 => ∃ b, y = .val (.str b) ∧ (b.length == 0) = false ∧ a.length ≤ 1000000 ∧ QF (.lst ((Txt.split a b).map D.str)) ρ2) : Mf K O F0 (tM1 rSplit to te) ρ QF := fun F H σ Qh s R c =>
  k F H σ _ s R fun v1 H1 F1 x ρ1 s1 R1 r1 ⟨a, ex, k1⟩ => by
    subst ex
    rw [look_str r1]
    refine ⟨⟨a, rfl⟩, k1 F1 H1 σ _ (Same.trans s s1) R1 fun v2 H2 F2 y ρ2 s2 R2 r2 ⟨b, ey, hb, hl, q⟩ => ?_⟩
    subst ey
    rw [look_str r2]
    refine ⟨a, b, rfl, rfl, hb, Nat.le_trans (show a.length + 2 ≤ 1000002 by omega) (by decide), fun p hp => ?_⟩
    exact mf_new (ρ2 := ρ2) (F2 := F2) R2 hp RepL.strs fun H3 R3 nw => c p H3 F2 _ ρ2 (Same.trans s1 s2) R3 nw q
theorem ms_dupd {j : Nat} (h0 : ∃ kds, sl ρ j = .own (.dct kds)) (k : Mf K O F0 te ρ fun d ρ2 => ∃ lds kds, d = .dct lds ∧ sl ρ2 j = .own (.dct kds) ∧ kds.length ≤ 10000 ∧ lds.length ≤ 10000 ∧ N.nx (ρ2.set j (.own (.dct (mergeKD kds lds))))) : Ms K O F0 (tDrop (tBM K "dict" rDUpd (tVar j) (tCons te tNil))) ρ N := fun F H σ E s R c => by
  obtain ⟨kds0, h0⟩ := h0
  have m0 : (sl ρ j).mut = true := by rw [h0]; rfl
  obtain ⟨p, a1, a2, a3, a4⟩ := R.owned m0
  rw [h0] at a4
  obtain ⟨vs0, a4, _⟩ := a4
  refine ⟨_, sv_some a1, .inr (.inr (.inl ⟨rfl, .inl ⟨vs0, a4⟩⟩)), ?_⟩
  refine k F H σ _ s R fun q H2 F2 d ρ2 s2 R2 nw ⟨lds, kds, ed, hj, l1, l2, qn⟩ => ?_
  subst ed
  obtain ⟨n1, n2, n3, kvs2, n4, n5⟩ := nw
  have m : (sl ρ2 j).mut = true := by rw [hj]; rfl
  obtain ⟨p2, b1, b2, b3, b4⟩ := R2.owned m
  rw [a1] at b1
  cases b1
  rw [hj] at b4
  obtain ⟨kvs, b4, b5⟩ := b4
  have hne : p ≠ q := fun e => n3 j m (by rw [a1, e])
  refine ⟨p, q, kvs, kvs2, rfl, rfl, hne, b4, n4, ?_, ?_⟩
  · rw [b5.length, n5.length]
    exact Nat.le_trans (show kds.length + lds.length ≤ 20000 by omega) (by decide)
  · exact c.nx F2 _ σ _ s2 (R2.mutO (s := .own (.dct (mergeKD kds lds))) m a1 rfl ⟨_, upd_same, RepP.merge n5 b5⟩) qn
theorem c_intT {z : Str} {n : Int} (hn : PySem.intText? z = some n) (hl : z.length ≤ 640) (k : Q (.val (.int n)) ρ) : Mc K O F0 rIntS [.val (.str z)] ρ Q := fun F H σ vs Qh _ R hu q => by
  obtain ⟨v, rfl, hv⟩ := one_arg hu
  rw [look_str hv]
  exact ⟨z, n, rfl, hn, hl, q _ H F (.val (.int n)) ρ (Same.refl _) R (Rep.int _) k⟩
theorem m_cTup {n : Str} {xs : List Str} (t : TupG K n xs) (k : Q (.val (.tup (xs.map D.str))) ρ) : Me K O F0 (tC (.ref (ga K n))) ρ Q := fun F H σ Qh s R c =>
  c _ H F (.val (.tup (xs.map D.str))) ρ (Same.refl _) R (Rep.tup (.inr t) RepL.strs) k
def enKD (k : Int) (ds : List D) : List D := ds.zipIdx.map fun q => .tup [.int (k + (q.2 : Nat)), q.1]
theorem enKD_get {k : Int} {ds : List D} {d : D} {i : Nat} (h : (enKD k ds)[i]? = some d) : ∃ e, ds[i]? = some e ∧ d = .tup [.int (k + (i : Nat)), e] := by
  unfold enKD at h
  rw [List.getElem?_map, List.getElem?_zipIdx] at h
  obtain ⟨q, hq, rfl⟩ := Option.map_eq_some_iff.mp h
  obtain ⟨e, he, rfl⟩ := Option.map_eq_some_iff.mp hq
  exact ⟨e, he, by simp⟩
theorem mi_enK (k : Ma K O F0 tA ρ fun xs ρ1 => FrzL xs ρ1 fun zs ρ2 => ∃ ds, ∃ i : Int, zs = [.lst ds, .int i] ∧ -1000 ≤ i ∧ i ≤ 1000 ∧ QL (enKD i ds) ρ2) : Mi K O F0 (iEnK K tA) ρ QL := fun F H σ R s R0 c =>
  k F H σ _ s R0 fun vs H1 F1 xs ρ1 s1 R1 r1 k1 => by
    obtain ⟨zs, ρ2, F2, s2, R2, r2, ds, j, rfl, j1, j2, q⟩ := frzL_of R1 r1 k1
    cases r2 with
    | cons ra r2 =>
      cases r2 with
      | cons rb r2 =>
        cases r2
        obtain ⟨a, as, rfl, ha, rx⟩ := ra.lstP
        cases rb
        have ha : SqL K F2 a as := SqL.of ha
        refine ⟨a, as, j, rfl, sql_same R2.fh ha, by omega, by omega, c _ H1 F2 (enKD j ds) ρ2 (Same.trans s1 s2) R2 (fun O2 i F3 H3 σ3 ρ3 s3 R3 => ?_) q⟩
        have hs : SqL K H3 a as := sql_same R3.fh (sql_same s3 ha)
        refine ⟨fun hi => ⟨as, hs, by rw [rx.length]; unfold enKD at hi; rwa [List.length_map, List.length_zipIdx] at hi⟩, fun d hd => ?_⟩
        obtain ⟨e, he, rfl⟩ := enKD_get hd
        obtain ⟨w, hw, rw_⟩ := rx.at he
        refine ⟨⟨as, w, hs, hw⟩, fun x H4 y => ?_⟩
        obtain ⟨T, y0, rfl, hT, rfl, hy⟩ := y
        have e2 := hy as hs
        rw [hw] at e2
        cases e2
        obtain ⟨R4, s4⟩ := R3.alloc (o := .tup [.int (j + (i : Nat)), w]) hT nx_tup
        exact ⟨_, s4, R4, Rep.tup (SqT.of upd_same) (.cons (.int _) (.cons (rw_.mono (Same.trans s3 s4)) .nil))⟩
theorem m_dnin {td ty : TE} (k : Me K O F0 ty ρ fun y ρ1 => Me K O F0 td ρ1 fun x ρ2 => ∃ kds kd, seeD x ρ2 = some (.dct kds) ∧ (∃ d, y = .val d ∧ keyD d = some kd) ∧ Q (.val (.bl (!(valD kds kd).isSome))) ρ2) : Me K O F0 (tDNotIn ty td) ρ Q := fun F H σ Qh s R c =>
  k F H σ _ s R fun v1 H1 F1 y ρ1 s1 R1 r1 k1 => k1 F1 H1 σ _ (Same.trans s s1) R1 fun v2 H2 F2 x ρ2 s2 R2 r2 ⟨kds, kd, hx, ⟨d, ey, hd⟩, q⟩ => by
    subst ey
    obtain ⟨a, kvs, rfl, h1, h2⟩ := look_dct R2 r2 hx
    rw [rep_key (show Rep K F2 v1 d from (r1.mono s2)) hd]
    refine ⟨a, valV kvs kd, rfl, DGet.k h1, ?_⟩
    have e : (valV kvs kd).isSome = (valD kds kd).isSome := by
      cases z : valD kds kd with
      | none => rw [(valV_rep h2).2 z]; rfl
      | some d2 => obtain ⟨w, w1, _⟩ := (valV_rep h2).1 d2 z; rw [w1]; rfl
    rw [e]
    exact c _ H2 F2 (.val (.bl _)) ρ2 (Same.trans s1 s2) R2 (Rep.bl _) q
theorem r_eqStrsL {x y : X} {zs ys : List Str} (hx : seeD x ρ = some (.lst (zs.map D.str))) (hy : seeD y ρ = some (.lst (ys.map D.str))) (h1 : TxtOk zs) (h2 : TxtOk ys) (k : Q (.val (.bl (decide (zs = ys)))) ρ) : Mr K O F0 (rEqU K) x y ρ Q := by
  refine r_eqD hx hy (by simp only [pyOf, pyOf_strs, Option.map_some]) (by simp only [pyOf, pyOf_strs, Option.map_some]) (sh_strsL h1) (sh_strsL h2) ?_
  have e : PyData.eqv (.list (zs.map PyData.str)) (.list (ys.map PyData.str)) = decide (zs = ys) := by simp only [PyData.eqv]; exact eqv_strs zs ys
  rw [e]; exact k
theorem cut_ab (ds : List D) (a b : Nat) : cutD ds (some (a : Int)) (some (b : Int)) = (ds.drop a).take (b - a) := by
  unfold cutD
  rw [HT.sIx_nat, HT.sIx_nat]
  by_cases h : a ≤ ds.length
  · rw [Nat.min_eq_left h]
    by_cases g : b ≤ ds.length
    · rw [Nat.min_eq_left g]
    · rw [Nat.min_eq_right (by omega), List.take_of_length_le (by rw [List.length_drop]; omega), List.take_of_length_le (by rw [List.length_drop]; omega)]
  · rw [Nat.min_eq_right (show ds.length ≤ a by omega), List.drop_length, List.take_nil, List.drop_of_length_le (show ds.length ≤ a by omega), List.take_nil]
theorem cut_a (ds : List D) (a : Nat) : cutD ds (some (a : Int)) none = ds.drop a := by
  unfold cutD
  rw [HT.sIx_nat, HT.sIx_none]
  by_cases h : a ≤ ds.length
  · rw [Nat.min_eq_left h, List.take_of_length_le (by rw [List.length_drop]; omega)]
  · rw [Nat.min_eq_right (by omega), List.drop_length, List.take_nil, List.drop_of_length_le (by omega)]
theorem cut_b (ds : List D) (b : Nat) : cutD ds none (some (b : Int)) = ds.take b := by
  unfold cutD
  rw [HT.sIx_nat, HT.sIx_none, List.drop_zero, Nat.sub_zero]
  by_cases h : b ≤ ds.length
  · rw [Nat.min_eq_left h]
  · rw [Nat.min_eq_right (by omega), List.take_of_length_le (Nat.le_refl _), List.take_of_length_le (by omega)]
theorem mi_rng2 (k : Ma K O F0 tA ρ fun xs ρ1 => ∃ i j : Int, xs = [.val (.int i), .val (.int j)] ∧ (-1000000 ≤ i ∧ i ≤ 1000000) ∧ (-1000000 ≤ j ∧ j ≤ 1000000) ∧ QL (rngD i (j - i).toNat) ρ1) : Mi K O F0 (iRng2 tA) ρ QL := fun F H σ R s R0 c =>
  k F H σ _ s R0 fun vs H1 F1 xs ρ1 s1 R1 r1 ⟨lo, j, e, hi1, hj, q⟩ => by
    subst e
    obtain ⟨v, u, rfl, ha, hb⟩ := two_args r1
    rw [look_int ha, look_int hb]
    refine ⟨lo, j, rfl, ⟨by omega, by omega, by omega, by omega⟩, c _ H1 F1 _ ρ1 s1 R1 (fun O2 i F3 H3 σ3 ρ3 s3 R3 => ?_) q⟩
    have hl : (rngD lo (j - lo).toNat).length = (j - lo).toNat := by unfold rngD; rw [List.length_map, List.length_range]
    refine ⟨fun hi => by rw [hl] at hi; exact hi, fun d hd => ?_⟩
    have hi : i < (j - lo).toNat := by rw [← hl]; exact (List.getElem?_eq_some_iff.mp hd).1
    refine ⟨hi, fun x H4 y => ?_⟩
    obtain ⟨rfl, rfl⟩ := y
    refine ⟨F3, Same.refl _, R3, ?_⟩
    unfold rngD at hd
    rw [List.getElem?_map, List.getElem?_range hi] at hd
    cases hd
    exact Rep.int _
theorem v_slB {i : Nat} {zs : List Str} (h : sl ρ i = .val (.lst (zs.map D.str))) (k : Me K O F0 te ρ fun x ρ1 => ∃ b : Nat, x = .val (.int (b : Nat)) ∧ Q (.val (.lst ((zs.take b).map D.str))) ρ1) : Me K O F0 (tSl (rSlU K) (tVar i) tNoPart (tPart te)) ρ Q :=
  v_sl (m_var h (mo_no (mo_part fun F H σ Qh s R c => k F H σ Qh s R fun v H2 F2 x ρ2 s2 R2 r2 ⟨b, e, q⟩ => c v H2 F2 x ρ2 s2 R2 r2 ⟨_, e, zs.map D.str, rfl, by rw [cut_b, ← List.map_take]; exact q⟩)))
theorem v_slA1 {i : Nat} {zs : List Str} (h : sl ρ i = .val (.lst (zs.map D.str))) (k : Me K O F0 te ρ fun x ρ1 => ∃ a : Nat, x = .val (.int (a : Nat)) ∧ Q (.val (.lst ((zs.drop a).map D.str))) ρ1) : Me K O F0 (tSl (rSlU K) (tVar i) (tPart te) tNoPart) ρ Q :=
  v_sl (m_var h (mo_part fun F H σ Qh s R c => k F H σ Qh s R fun v H2 F2 x ρ2 s2 R2 r2 ⟨a, e, q⟩ => c v H2 F2 x ρ2 s2 R2 r2 ⟨_, e, mo_no ⟨zs.map D.str, rfl, by rw [cut_a, ← List.map_drop]; exact q⟩⟩))
theorem v_slAB {i : Nat} {zs : List Str} {tu : TE} (h : sl ρ i = .val (.lst (zs.map D.str))) (k : Me K O F0 te ρ fun x ρ1 => ∃ a : Nat, x = .val (.int (a : Nat)) ∧ Me K O F0 tu ρ1 fun y ρ2 => ∃ b : Nat, y = .val (.int (b : Nat)) ∧ Q (.val (.lst (((zs.drop a).take (b - a)).map D.str))) ρ2) : Me K O F0 (tSl (rSlU K) (tVar i) (tPart te) (tPart tu)) ρ Q :=
  v_sl (m_var h (mo_part fun F H σ Qh s R c => k F H σ Qh s R fun v H2 F2 x ρ2 s2 R2 r2 ⟨a, e, k2⟩ => c v H2 F2 x ρ2 s2 R2 r2 ⟨_, e, mo_part fun F H σ Qh s R c => k2 F H σ Qh s R fun v H2 F2 x ρ2 s2 R2 r2 ⟨b, e, q⟩ => c v H2 F2 x ρ2 s2 R2 r2 ⟨_, e, zs.map D.str, rfl, by rw [cut_ab, ← List.map_drop, ← List.map_take]; exact q⟩⟩))
theorem ma_fn {P : PD} {W : WX} {Xp : XP} (hW : WrA K O F0 W σ Xp) (k : Ma K O F0 tA ρ fun xs ρ1 => FrzL xs ρ1 fun ds ρ2 => P ds (fun d => Q (.val d) ρ2) fun c fs => Xp c fs ρ2) : MeA K O F0 σ (tFn (spS K O.T (pu P)) [] W tA) ρ Q := fun F H Qh s R c =>
  k F H σ _ s R fun vs H1 F1 xs ρ1 s1 R1 r1 k1 => by
    obtain ⟨ds, ρ2, F2, s2, R2, r2, q⟩ := frzL_of R1 r1 k1
    rw [List.append_nil]
    exact call_puA R2 (Same.trans s (Same.trans s1 s2)) hW r2 q (fun d qd v H3 F3 s3 R3 r3 => c v H3 F3 (.val d) ρ2 (Same.trans s1 (Same.trans s2 s3)) R3 r3 qd) fun _ _ z => z
theorem ma_fnK {P : PD} {W : WX} {Xp : XP} {tK : TA} {gV : List V → List V → List V} (hg : ∀ z, gV [] [z] = [z]) (hW : WrA K O F0 W σ Xp) (k : Ma K O F0 tK ρ fun xs ρ1 => FrzL xs ρ1 fun ds ρ2 => ds.length = 1 ∧ P ds (fun d => Q (.val d) ρ2) fun c fs => Xp c fs ρ2) : MeA K O F0 σ (tFnK 0 1 (spS K O.T (pu P)) gV W tNil tK) ρ Q := fun F H Qh s R c =>
  k F H σ _ s R fun vs H1 F1 xs ρ1 s1 R1 r1 k1 => by
    obtain ⟨ds, ρ2, F2, s2, R2, r2, l1, q⟩ := frzL_of R1 r1 k1
    have e1 : vs.length = 1 := by rw [r2.length, l1]
    obtain ⟨z, rfl⟩ : ∃ z, vs = [z] := by
      match vs, e1 with
      | [z], _ => exact ⟨z, rfl⟩
    refine ⟨rfl, rfl, ?_⟩
    rw [hg]
    exact call_puA R2 (Same.trans s (Same.trans s1 s2)) hW r2 q (fun d qd v H3 F3 s3 R3 r3 => c v H3 F3 (.val d) ρ2 (Same.trans s1 (Same.trans s2 s3)) R3 r3 qd) fun _ _ z => z
theorem RS.put00 {o : Hp} {T : List (Addr × Str)} (R : RS K ⟨o, none, T⟩ F H σ ρ) {n : Nat} {v : V} {d : D} (r : Rep K F v d) : RS K ⟨o, none, T⟩ F H (σ.set n (some v)) (ρ.set n (.val d)) := by
  by_cases hn : n < σ.length
  · have hm : n < ρ.length := by rw [← R.len]; exact hn
    refine ⟨R.fh, R.oh, R.dj, R.tb, R.ot, R.ft, (fun v e => nomatch e), by rw [List.length_set, List.length_set, R.len], fun i => ?_, fun i j a ij mi mj vi vj => ?_⟩
    · rw [sv_set hn, sl_set hm]
      by_cases e : i = n
      · rw [if_pos e, if_pos e]; exact ⟨v, rfl, r⟩
      · rw [if_neg e, if_neg e]; exact R.at_ i
    · rw [sl_set hm] at mi mj
      rw [sv_set hn] at vi vj
      by_cases e : i = n
      · rw [if_pos e] at mi; cases mi
      · by_cases f : j = n
        · rw [if_pos f] at mj; cases mj
        · rw [if_neg e] at mi vi; rw [if_neg f] at mj vj; exact R.ne i j a ij mi mj vi vj
  · rw [List.set_eq_of_length_le (by omega), List.set_eq_of_length_le (by rw [← R.len]; omega)]; exact R
theorem ms_asg00 {o : Hp} {T : List (Addr × Str)} {n : Nat} (k : Me K ⟨o, none, T⟩ F0 te ρ fun x ρ1 => Frz x ρ1 fun d ρ2 => N.nx (ρ2.set n (.val d))) : Ms K ⟨o, none, T⟩ F0 (tAsg te (gName n)) ρ N := fun F H σ E s R c =>
  k F H σ _ s R fun v H1 F1 x ρ1 s1 R1 r1 k1 => by
    obtain ⟨d, ρ2, F2, s2, R2, r2, q⟩ := frz_of R1 r1 k1
    exact c.nx F2 H1 _ _ (Same.trans s1 s2) (R2.put00 r2) q
theorem body_pu0 {T : List (Addr × Str)} {P : PD} {Nm : List Str} {ts : TS} {Qh : VK} {E : XK} (h : spS K T (pu P) [] H Qh E)
    (k : ∀ (o : Hp) (F0 : Hp) (Qd : D → Prop) (Ed : Str → List (Str × D) → Prop), P [] Qd Ed → Ms K ⟨o, none, T⟩ F0 ts (List.replicate Nm.length .none) { nx := fun _ => Qd .non, rt := fun d _ => Qd d }) : ts { nx := fun _ H2 => Qh .non H2, rt := Qh } (start Nm []) H := by
  obtain ⟨O, F, ρ, rfl, R, ds, Qd, Ed, rfl, hp, q1, q2⟩ := h
  obtain rfl : ds = [] := by
    have := R.len
    rw [List.length_map, List.length_map] at this
    exact List.eq_nil_of_length_eq_zero this.symm
  have R1 := R.start (Nm := Nm)
  refine k O.o F Qd Ed hp F H _ _ (Same.refl _) R1 ⟨fun F2 H2 σ2 ρ2 s2 C q => ?_, fun F2 H2 σ2 ρ2 v d s2 C r q => ?_, fun _ _ _ _ _ _ z => z, fun _ _ _ _ _ _ z => z, fun _ _ _ _ _ _ _ _ _ z => z.elim⟩
  · exact q1 .non q .non H2 F2 s2 (R.stopV C s2 (Same.refl _) rfl fun i => vals_mut) .non
  · exact q1 d q v H2 F2 s2 (R.stopV C s2 (Same.refl _) rfl fun i => vals_mut) r
abbrev OutV := Sum D (Str × List (Str × D))
def TTv (K : PySem.W.Frag) (T : List (Addr × Str)) (CR : OutV → (D → Prop) → Prop) : (XK → Hp → VK → Prop) → Hp → VK → Prop := fun tl H Q => ∀ (E : XK) (Kq : VK),
  (∀ cls d H2, (∃ c fs o2 F2 fvs dd Qd, cls = .ref (ga K c) ∧ d = some dd ∧ H2 dd = some (.xd fvs) ∧ RS K ⟨upd o2 dd (.xd fvs), none, T⟩ F2 H2 [] [] ∧ o2 dd = none ∧ RepP K F2 fvs fs ∧ CR (.inr (c, fs)) Qd ∧
      ∀ e v H3 F3, Qd e → Same F2 F3 → RS K ⟨o2, none, T⟩ F3 H3 [] [] → Rep K F3 v e → Q v H3) → E cls d H2) →
  (∀ v H2, (∃ o2 F2 d Qd, RS K ⟨o2, none, T⟩ F2 H2 [] [] ∧ Rep K F2 v d ∧ CR (.inl d) Qd ∧ ∀ e v H3 F3, Qd e → Same F2 F3 → RS K ⟨o2, none, T⟩ F3 H3 [] [] → Rep K F3 v e → Q v H3) → Kq v H2) → tl E H Kq
theorem m_lamV {CR : OutV → (D → Prop) → Prop} {t : WX → TE}
    (k : ∀ (W : WX) (σ : L2.St) (F1 : Hp), Same F0 F1 → WrA K O F1 W σ (fun c fs ρ2 => CR (.inr (c, fs)) fun e => Q (.val e) ρ2) → MeA K O F1 σ (t W) ρ fun x ρ2 => ∃ d, x = .val d ∧ CR (.inl d) fun e => Q (.val e) ρ2) : Me K O F0 (tLam O.T (TTv K O.T CR) (tS t)) ρ Q := fun F H σ Qh s R c => by
  refine ⟨R.tb, fun H1 hE hT E Kq hE2 hK2 => ?_⟩
  have R1 := R.extN hE hT
  refine k _ σ F s (fun F2 H2 ρ2 c2 fs dd fvs s2 hd R2 hn rp q => ⟨rfl, hE2 _ _ _ ?_⟩) F H1 _ (Same.refl _) R1 fun v H2 F2 x ρ2 s2 R2 r2 ⟨d, ex, q⟩ => hK2 _ _ ?_
  · subst ex
    exact ⟨beside F2 H2 fun a => tx (H2 a), F2, d, _, R2.enter (vs := []) (ds := []) .nil, r2, q, fun e v3 H3 F3 qe s3 C r3 => c v3 H3 F3 (.val e) ρ2 (Same.trans s2 s3) (R2.after C s3) r3 qe⟩
  · obtain ⟨B1, B2, B3, B4⟩ := R2.back hn
    have C0 := R2.enter (vs := []) (ds := []) .nil
    refine ⟨c2, fs, beside F2 H2 fun a => tx (H2 a) || decide (a = dd), F2, fvs, dd, _, rfl, rfl, hd, ?_, ?_, rp, q, fun e v H3 F3 qe s3 C r3 => ?_⟩
    · have ot : ∀ a o, beside F2 H2 (fun a => tx (H2 a) || decide (a = dd)) a = some o → NX o := fun a o z => by
        obtain ⟨e1, e2, e3⟩ := beside_some z
        have e4 : (tx (H2 a) || decide (a = dd)) = false := e2
        rw [e3] at e4
        exact nx_of (Bool.or_eq_false_iff.mp e4).1
      have C1 : RS K ⟨beside F2 H2 fun a => tx (H2 a) || decide (a = dd), none, O.T⟩ F2 H2 [] [] := ⟨C0.fh, (fun a o z => (beside_some (q := fun a => tx (H2 a) || decide (a = dd)) z).2.2), (fun a o z => (beside_some (q := fun a => tx (H2 a) || decide (a = dd)) z).1), C0.tb, ot, C0.ft, (fun v e => nomatch e), rfl, fun i => trivial, fun i j a _ m => nomatch m⟩
      exact C1.out hd nx_xd B2 fun i m => nomatch m
    · show beside F2 H2 (fun a => tx (H2 a) || decide (a = dd)) dd = none
      unfold beside
      rw [B2]
      simp
    · refine c v H3 F3 (.val e) ρ2 (Same.trans s2 s3) (B1.after_ C s3 (Same.refl _) rfl fun a ha => .inr ?_) r3 qe
      rcases Bool.or_eq_true_iff.mp ha with z | z
      · exact ⟨(tx_no B1 z).1, (tx_no B1 z).2.2⟩
      · obtain rfl := of_decide_eq_true z
        exact ⟨hn, B4⟩
/-- try: return [a()] except X as e: if isinstance(e, C) and isinstance(e, ValueError): return (e.f, e.g) -/
theorem gives_tryV {T : List (Addr × Str)} {CR : OutV → (D → Prop) → Prop} {tl : XK → Hp → VK → Prop} {cx : Addr} {C f1 f2 : Str} {rest : TS} {f c : Addr} {q : Str} {Qh : VK} {n1 n2 : Str} (h : TTv K T CR tl H Qh) (hc : H c = some (CodeO c q))
    (hx : PySem.W.exmOne K (.ref (ga K C)) (.ref cx) = some true) (xc : L2.ExcC K (ga K C)) (kx : PySem.W.kitOne K (.ref (ga K C)) (.ref (ga K C)) = some true) (kv : PySem.W.kitOne K (.ref (ga K C)) (.type "ValueError") = some true)
    (hm : ∀ cn fs Qd, CR (.inr (cn, fs)) Qd → cn = C ∧ ∃ l m : Int, fs.lookup f1 = some (.int l) ∧ fs.lookup f2 = some (.int m) ∧ Qd (.tup [.int l, .int m]))
    (hv : ∀ d Qd, CR (.inl d) Qd → Qd (.lst [d])) :
    tSeq (tTryK K cx 1 (fun W => tRet (tLst (tCons (tAct f c q W tl) tNil))) (fun a cls d => tRtN a (tIfS (tAnd (tB (tCB (rIsiP K a cls d) (tCons (tVar 1) (tCons (tC (.ref (ga K C))) tNil)))) (tB (tCB (rIsiP K a cls d) (tCons (tVar 1) (tCons (tC (.ty "ValueError")) tNil)))))
      (tRet (tTup (tCons (tXf a cls d (ga K C) f1 (tVar 1)) (tCons (tXf a cls d (ga K C) f2 (tVar 1)) tNil)))) tNext)) W0) rest { nx := fun _ H2 => Qh .non H2, rt := Qh } (start [n1, n2] [.ref f]) H := by
  refine ⟨fun cls d H2 => wKeep K (.ref cx) 1 (fun a cls d => tRtN a (tIfS (tAnd (tB (tCB (rIsiP K a cls d) (tCons (tVar 1) (tCons (tC (.ref (ga K C))) tNil)))) (tB (tCB (rIsiP K a cls d) (tCons (tVar 1) (tCons (tC (.ty "ValueError")) tNil)))))
      (tRet (tTup (tCons (tXf a cls d (ga K C) f1 (tVar 1)) (tCons (tXf a cls d (ga K C) f2 (tVar 1)) tNil)))) tNext)) W0 { nx := rest { nx := fun _ H2 => Qh .non H2, rt := Qh }, rt := Qh } cls d (start [n1, n2] [.ref f]) H2, fun cls d H2 z => z, rfl, hc, h _ _ (fun cls d H2 hx2 => ?_) fun v H2 hx2 => ?_⟩
  · obtain ⟨cn, fs, o2, F2, fvs, dd, Qd, rfl, rfl, hd, R2, hn, rp, hcr, hq⟩ := hx2
    obtain ⟨rfl, l, m, e1, e2, qd⟩ := hm _ _ _ hcr
    obtain ⟨w1, g1, i1⟩ := rp.lookup e1
    obtain ⟨w2, g2, i2⟩ := rp.lookup e2
    cases i1
    cases i2
    refine ⟨true, hx, fun _ a ha => ?_, fun z => nomatch z⟩
    have dat : ∀ d2, some dd = some d2 → ∃ fs, DAt H2 d2 fs := fun d2 z => by cases z; exact ⟨fvs, .inr hd⟩
    refine ⟨V.ref a, rfl, ga K cn, .ref (ga K cn), .ref (ga K cn), true, rfl, rfl, .own _, xc, dat, kx, true, rfl, ?_⟩
    refine ⟨V.ref a, rfl, ga K cn, .ty "ValueError", .type "ValueError", true, rfl, rfl, .ty _, xc, dat, kv, true, rfl, ?_⟩
    refine ⟨V.ref a, rfl, rfl, rfl, dd, fvs, _, rfl, hd, g1, ⟨V.ref a, rfl, rfl, rfl, dd, fvs, _, rfl, hd, g2, (show 2 ≤ sizeLine by decide), fun p hp => ?_⟩⟩
    intro hpa
    have nap : p ≠ a := fun z => by
      have hpa : upd H2 p (.tup [V.int l, V.int m]) a = none := hpa
      rw [z, upd_same] at hpa
      cases hpa
    obtain ⟨B1, B2, B3, B4⟩ := R2.back (O := ⟨o2, none, T⟩) hn
    obtain ⟨R3, s3⟩ := B1.alloc (o := .tup [V.int l, V.int m]) hp nx_tup
    have R4 := R3.allocN (o := XW a (.ref (ga K cn)) (some dd)) (show upd H2 p (.tup [V.int l, V.int m]) a = none from hpa)
    exact hq _ _ _ _ qd s3 R4 (Rep.tup (SqT.of upd_same) (.cons (.int _) (.cons (.int _) .nil)))
  · obtain ⟨o2, F2, d, Qd, R2, rd, hcr, hq⟩ := hx2
    refine ⟨show 1 ≤ sizeLine by decide, fun p hp => ?_⟩
    obtain ⟨R3, s3⟩ := R2.alloc (o := .lst [v]) hp nx_lst
    exact hq _ _ _ _ (hv _ _ hcr) s3 R3 (Rep.lst upd_same (.cons (rd.mono s3) .nil))
end
end SJ
namespace SJ
open PySem PySem.Spec PyProof.Rows L2 He
local macro_rules | `(tactic| walk_at "go") => `(tactic| (repeat (first
  | with_reducible apply x_seq | with_reducible apply x_asg | with_reducible apply x_ret | with_reducible apply x_if | with_reducible apply x_test | with_reducible apply x_B | with_reducible apply x_op | (with_reducible apply x_var rfl) | with_reducible apply x_c
  | with_reducible apply x_cb | with_reducible apply x_cons | with_reducible apply x_nil | with_reducible apply x_bl2 | with_reducible apply x_st2 | with_reducible apply ite_t | with_reducible apply ite_f | with_reducible apply ite_n | with_reducible apply x_and | with_reducible apply x_or | with_reducible apply x_not | with_reducible apply x_andV | with_reducible apply x_orV | with_reducible apply x_notV
  | with_reducible apply x_addI | with_reducible apply x_sub' | with_reducible apply x_eqI | with_reducible apply x_neI | with_reducible apply x_eqT | with_reducible apply x_neT | with_reducible apply x_ltI | with_reducible apply x_leI | with_reducible apply x_gtI | with_reducible apply x_geI
  | with_reducible apply x_intI | with_reducible apply x_intBl | with_reducible apply x_absI | with_reducible apply x_asgG | with_reducible apply x_sub | with_reducible apply x_lst | with_reducible apply x_tup | with_reducible apply x_next | with_reducible apply x_drop
  | with_reducible apply x_ife | with_reducible apply x_chain | with_reducible apply x_inSg | with_reducible apply x_yes | with_reducible apply x_fs | with_reducible apply x_js | with_reducible apply x_js0 | with_reducible apply x_fmtE | with_reducible apply x_m0 | with_reducible apply x_fld0 | with_reducible apply x_con0 | with_reducible apply x_pr0 | with_reducible apply x_sfld
  | (with_reducible refine x_new ?_ ?_; · exact Nat.le_of_ble_eq_true rfl)
  | with_reducible apply x_fn | with_reducible apply x_nw | with_reducible apply x_bm | with_reducible apply x_par | with_reducible apply x_rz | with_reducible apply x_retN | with_reducible apply x_un | with_reducible apply x_U)))
def drawTailB (K : PySem.W.Frag) (m1 c3 c4 m2 c5 c6 c7 m3 : Int) : TS := (tSeq (tIfS (tAnd (tTest (tOp rLtU (tVar 3) (tCB (rLenU K) (tCons (tOp (rIx K) (tVar 0) (tC (.int 0))) tNil)))) (tTest (tOp rGeU (tCB rAbs (tCons (tVar 4) tNil)) (tOp rPow (tC (.int 10)) (tC (.int 18)))))) (tSeq (tAsg (tOp (rAdd K) (tOp (rMul K) (tC (.int 2)) (tCB rAbs (tCons (tVar 4) tNil))) (tCB rInt (tCons (tOp rLtU (tVar 4) (tC (.int 0))) tNil))) (gName 5)) (tSeq (tAsg (tOp rFdv (tVar 5) (tVar 1)) (gSub (tVar 0) (tC (.int 2)) L2.rSetL)) (tRet (tOp rMod (tCB rInt (tCons (tVar 5) tNil)) (tVar 1))))) tNext) (tSeq (tAsg (tOp rMod (tCB rInt (tCons (tOp rPow (tOp (rAdd K) (tOp (rAdd K) (tOp rMod (tCB rInt (tCons (tVar 4) tNil)) (tC (.int m1))) (tOp (rMul K) (tC (.int c3)) (tVar 3))) (tC (.int c4))) (tC (.int 5))) tNil)) (tC (.int m2))) (gName 6)) (tSeq (tAsg (tOp rMod (tCB rInt (tCons (tOp rPow (tOp (rAdd K) (tOp (rAdd K) (tOp (rMul K) (tVar 6) (tOp (rAdd K) (tOp (rMul K) (tC (.int 2)) (tVar 3)) (tC (.int c5)))) (tOp (rMul K) (tOp (rMul K) (tC (.int c6)) (tVar 3)) (tVar 3))) (tC (.int c7))) (tC (.int 3))) tNil)) (tC (.int m3))) (gName 6)) (tRet (tOp rMod (tCB rInt (tCons (tOp rFdv (tVar 6) (tC (.int 16))) tNil)) (tVar 1))))))
def tDrawB (K : PySem.W.Frag) (c1 c2 m1 c3 c4 m2 c5 c6 c7 m3 : Int) : TS := (tSeq (tIfS (tTest (tOp rGtU (tOp (rIx K) (tVar 0) (tC (.int 2))) (tC (.int 0)))) (tSeq (tAsg (tOp rMod (tCB rInt (tCons (tOp (rIx K) (tVar 0) (tC (.int 2))) tNil)) (tVar 1)) (gName 2)) (tSeq (tAsg (tOp rFdv (tCB rInt (tCons (tOp (rIx K) (tVar 0) (tC (.int 2))) tNil)) (tVar 1)) (gSub (tVar 0) (tC (.int 2)) L2.rSetL)) (tRet (tVar 2)))) tNext) (tSeq (tAsg (tOp (rIx K) (tVar 0) (tC (.int 1))) (gName 3)) (tSeq (tAsg (tOp (rAdd K) (tVar 3) (tC (.int 1))) (gSub (tVar 0) (tC (.int 1)) L2.rSetL)) (tSeq (tAsg (tOp (rAdd K) (tOp (rMul K) (tC (.int c1)) (tVar 3)) (tC (.int c2))) (gName 4)) (tSeq (tIfS (tTest (tOp (rNeU K) (tOp (rIx K) (tVar 0) (tC (.int 0))) (tLst tNil))) (tAsg (tOp (rIx K) (tOp (rIx K) (tVar 0) (tC (.int 0))) (tOp rMod (tCB rInt (tCons (tVar 3) tNil)) (tCB (rLenU K) (tCons (tOp (rIx K) (tVar 0) (tC (.int 0))) tNil)))) (gName 4)) tNext) (drawTailB K m1 c3 c4 m2 c5 c6 c7 m3))))))
section
variable {K : PySem.W.Frag} {vs : List V} {H : Hp} {Q : VK} {E : XK} {n0 n1 n2 n3 n4 n5 n6 : Str} {D : Ends}
theorem draw_tailB {p c : Addr} {m a x r : Int} {ns : List Int} {n : Nat} {m1 c3 c4 m2 c5 c6 c7 m3 : Int} {H0 : Hp} {v2 v5 v6 : Option V} (hp : H p = some (.lst [.ref c, .int (a + 1), .int r])) (hc : L2.del H p c = some (.lst (ns.map V.int))) (ha : 0 ≤ a) (han : a ≤ n) (hr : 0 ≤ r) (hn : n < 100000) (hns : ns.length ≤ 1000)
    (hm : 0 < m) (hm2 : m < 1073741824) (b1 : 0 < m1 ∧ m1 < 2147483648) (b2 : 0 < m2 ∧ m2 < 2147483648) (b3 : 0 < m3 ∧ m3 < 2147483648) (d3 : 0 ≤ c3 ∧ c3 ≤ 100000) (d4 : 0 ≤ c4 ∧ c4 ≤ 100000) (d5 : 0 ≤ c5 ∧ c5 ≤ 100000) (d6 : 0 ≤ c6 ∧ c6 ≤ 100000) (d7 : 0 ≤ c7 ∧ c7 ≤ 100000)
    (s : Same (L2.del H0 p) (L2.del H p)) (k : ∀ (H2 : Hp) (r : Int), 0 ≤ r → r < m → PenAt H2 ⟨p, c, ns⟩ (n + 1) → Same (L2.del H0 p) (L2.del H2 p) → D.rt (.int r) H2) :
    drawTailB K m1 c3 c4 m2 c5 c6 c7 m3 D [some (.ref p), some (.int m), v2, some (.int a), some (.int x), v5, v6] H := by
  unfold drawTailB
  have hc2 := del_sub hc
  have fin : ∀ i : Int, D.rt (.int (i % m)) H := fun i => k H _ (Int.emod_nonneg _ (by omega)) (Int.emod_lt_of_pos _ hm) ⟨a + 1, r, hp, hc, by omega, by omega, hr, hns⟩ s
  have rest : (tSeq (tAsg (tOp rMod (tCB rInt (tCons (tOp rPow (tOp (rAdd K) (tOp (rAdd K) (tOp rMod (tCB rInt (tCons (tVar 4) tNil)) (tC (.int m1))) (tOp (rMul K) (tC (.int c3)) (tVar 3))) (tC (.int c4))) (tC (.int 5))) tNil)) (tC (.int m2))) (gName 6)) (tSeq (tAsg (tOp rMod (tCB rInt (tCons (tOp rPow (tOp (rAdd K) (tOp (rAdd K) (tOp (rMul K) (tVar 6) (tOp (rAdd K) (tOp (rMul K) (tC (.int 2)) (tVar 3)) (tC (.int c5)))) (tOp (rMul K) (tOp (rMul K) (tC (.int c6)) (tVar 3)) (tVar 3))) (tC (.int c7))) (tC (.int 3))) tNil)) (tC (.int m3))) (gName 6)) (tRet (tOp rMod (tCB rInt (tCons (tOp rFdv (tVar 6) (tC (.int 16))) tNil)) (tVar 1))))) D [some (.ref p), some (.int m), v2, some (.int a), some (.int x), v5, v6] H := by
    have h0 := Int.emod_nonneg x (by omega : m1 ≠ 0)
    have h1 := Int.emod_lt_of_pos x b1.1
    have h2 := mul_bd d3.1 d3.2 ha (by omega : a ≤ 100000)
    have h3 := mul_bd d6.1 d6.2 ha (by omega : a ≤ 100000)
    have h4 := mul_bd h3.1 h3.2 ha (by omega : a ≤ 100000)
    walk_at "go"
    refine x_mod b1.1 ?_
    walk_at "go"
    refine x_mulI (.inl ⟨by omega, by omega⟩) ?_
    walk_at "go"
    refine x_pow ⟨by omega, by omega, by omega⟩ ?_
    walk_at "go"
    refine x_mod b2.1 ?_
    walk_at "go"
    have h5 := Int.emod_nonneg ((x % m1 + c3 * a + c4) ^ (5 : Int).toNat) (by omega : m2 ≠ 0)
    have h6 := Int.emod_lt_of_pos ((x % m1 + c3 * a + c4) ^ (5 : Int).toNat) b2.1
    generalize (x % m1 + c3 * a + c4) ^ (5 : Int).toNat % m2 = y at h5 h6
    have h7 := mul_bd h5 (by omega : y ≤ 2147483648) (by omega : 0 ≤ 2 * a + c5) (by omega : 2 * a + c5 ≤ 300000)
    refine x_mulI (.inl ⟨by omega, by omega⟩) ?_
    walk_at "go"
    refine x_mulI (.inl ⟨by omega, by omega⟩) ?_
    walk_at "go"
    refine x_mulI (.inl ⟨by omega, by omega⟩) ?_
    walk_at "go"
    refine x_mulI (.inr ⟨by omega, by omega⟩) ?_
    walk_at "go"
    refine x_pow ⟨by omega, by omega, by omega⟩ ?_
    walk_at "go"
    refine x_mod b3.1 ?_
    walk_at "go"
    refine x_fdv (by omega) (by omega) ?_
    walk_at "go"
    refine x_mod hm ?_
    exact fin _
  walk_at "go"
  refine x_ixL (SqL.of hp) rfl ?_
  walk_at "go"
  refine x_lenL (SqL.of hc2) ?_
  walk_at "go"
  cases decide (a < ((ns.map V.int).length : Int)) with
  | false => exact ite_f (ite_f rest)
  | true =>
    walk_at "go"
    refine x_pow ⟨by omega, by omega, by omega⟩ ?_
    walk_at "go"
    cases decide ((10 : Int) ^ (18 : Int).toNat ≤ if x < 0 then -x else x) with
    | false => exact ite_f rest
    | true =>
      walk_at "go"
      refine x_mulI (.inl ⟨by omega, by omega⟩) ?_
      walk_at "go"
      refine x_fdv hm hm2 ?_
      walk_at "go"
      refine x_setL hp rfl ?_
      walk_at "go"
      refine x_mod hm ?_
      have hg : 0 ≤ (2 * (if x < 0 then -x else x) + if decide (x < 0) = true then 1 else 0) := by
        by_cases e : x < 0
        · rw [if_pos e]; split <;> omega
        · rw [if_neg e]; split <;> omega
      refine k _ _ (Int.emod_nonneg _ (by omega)) (Int.emod_lt_of_pos _ hm) ⟨a + 1, _, upd_same, by rw [del_upd]; exact hc, by omega, by omega, Int.ediv_nonneg hg (by omega), hns⟩ ?_
      rw [del_upd]
      exact s
theorem draw_okB {c1 c2 m1 c3 c4 m2 c5 c6 c7 m3 : Int} (h : spDraw vs H Q E) (d1 : 0 ≤ c1 ∧ c1 ≤ 100000) (b1 : 0 < m1 ∧ m1 < 2147483648) (b2 : 0 < m2 ∧ m2 < 2147483648) (b3 : 0 < m3 ∧ m3 < 2147483648) (d3 : 0 ≤ c3 ∧ c3 ≤ 100000) (d4 : 0 ≤ c4 ∧ c4 ≤ 100000) (d5 : 0 ≤ c5 ∧ c5 ≤ 100000) (d6 : 0 ≤ c6 ∧ c6 ≤ 100000) (d7 : 0 ≤ c7 ∧ c7 ≤ 100000) :
    tDrawB K c1 c2 m1 c3 c4 m2 c5 c6 c7 m3 { nx := fun _ H2 => Q .non H2, rt := Q } (start [n0, n1, n2, n3, n4, n5, n6] vs) H := by
  obtain ⟨⟨p, c, ns⟩, m, n, rfl, ⟨a, r, hp, hc, ha, han, hr, hns⟩, hn, hm, hm2, k⟩ := h
  have hc2 := del_sub hc
  have hcp := del_some hc
  unfold tDrawB
  walk_at "go"
  refine x_ixL (SqL.of hp) rfl ?_
  walk_at "go"
  cases decide ((0 : Int) < r) with
  | true =>
    walk_at "go"
    refine x_ixL (SqL.of hp) rfl ?_
    walk_at "go"
    refine x_mod hm ?_
    walk_at "go"
    refine x_ixL (SqL.of hp) rfl ?_
    walk_at "go"
    refine x_fdv hm hm2 ?_
    walk_at "go"
    refine x_setL hp rfl ?_
    walk_at "go"
    refine k _ _ (Int.emod_nonneg _ (by omega)) (Int.emod_lt_of_pos _ hm) ⟨a, _, upd_same, by rw [del_upd]; exact hc, by omega, by omega, Int.ediv_nonneg hr (by omega), hns⟩ ?_
    rw [del_upd]
    exact Same.refl _
  | false =>
    walk_at "go"
    refine x_ixL (SqL.of hp) rfl ?_
    walk_at "go"
    refine x_setL hp rfl ?_
    walk_at "go"
    refine x_mulI (.inl ⟨by omega, by omega⟩) ?_
    walk_at "go"
    refine x_ixL (SqL.of upd_same) rfl ?_
    walk_at "go"
    intro q hq
    have hqp : q ≠ p := fun e => by rw [e, upd_same] at hq; cases hq
    have hqc : c ≠ q := fun e => by rw [← e, upd_ne hcp, hc2] at hq; cases hq
    refine x_neNil (xs := ns.map V.int) (SqL.of (by rw [upd_ne hqc, upd_ne hcp]; exact hc2)) (dp_ints ns) (lay_ints (n := 63)) upd_same ?_
    walk_at "go"
    have hp2 : (upd (upd H p (.lst [.ref c, .int (a + 1), .int r])) q (.lst [])) p = some (.lst [.ref c, .int (a + 1), .int r]) := by rw [upd_ne (Ne.symm hqp), upd_same]
    have hc3 : L2.del (upd (upd H p (.lst [.ref c, .int (a + 1), .int r])) q (.lst [])) p c = some (.lst (ns.map V.int)) := by rw [del_ne hcp, upd_ne hqc, upd_ne hcp]; exact hc2
    have s : Same (L2.del H p) (L2.del (upd (upd H p (.lst [.ref c, .int (a + 1), .int r])) q (.lst [])) p) := by
      rw [del_upd_ne hqp, del_upd]
      exact Same.upd (Same.refl _) (del_none (by rw [upd_ne hqp] at hq; exact hq))
    cases e : decide (ns.map PyData.int = []) with
    | true =>
      walk_at "go"
      exact draw_tailB hp2 hc3 ha han hr hn hns hm hm2 b1 b2 b3 d3 d4 d5 d6 d7 s k
    | false =>
      have hne : 0 < ns.length := by
        cases ns with
        | nil => exact nomatch (of_decide_eq_false e)  rfl
        | cons i ns => exact Nat.succ_pos _
      walk_at "go"
      refine x_ixL (SqL.of hp2) rfl ?_
      walk_at "go"
      refine x_ixL (SqL.of hp2) rfl ?_
      walk_at "go"
      refine x_lenL (SqL.of (del_sub hc3)) ?_
      have hl : ((ns.map V.int).length : Int) = ns.length := by rw [List.length_map]
      refine x_mod (by omega) ?_
      obtain ⟨v, hv, hv2⟩ := atI_in (xs := ns.map V.int) (i := a % ((ns.map V.int).length : Int)) (Int.emod_nonneg _ (by omega)) (Int.emod_lt_of_pos _ (by omega))
      rw [List.getElem?_map] at hv
      obtain ⟨i, _, rfl⟩ := Option.map_eq_some_iff.mp hv
      refine x_ixL (SqL.of (del_sub hc3)) hv2 ?_
      exact draw_tailB hp2 hc3 ha han hr hn hns hm hm2 b1 b2 b3 d3 d4 d5 d6 d7 s k
end
end SJ
namespace K86
open PySem PySem.Spec PyProof.Rows L2 He SJ
open LamX (CodeO lamS_by Tabs tLam)
structure Lg where
  drv : Bool
  nm : Str
def lc (b : Bool) : Str := if b then "Driver" else "Listener"
def legD (l : Lg) : D := .obj (lc l.drv) [("name", .str l.nm)]
def letters : List Nat := ("abcdefghijklmnopqrstuvwxyz" : Str).cps.toList
/-- is the text a name -/
def nameB (z : Str) : Bool := decide (1 ≤ z.length) && (decide (z.length ≤ 8) && ((z.cps.toList.all fun c => decide (c ∈ letters)) && !decide (z ∈ (["ground", "power", "nothing"] : List Str))))
def railsL (g p : Bool) : List Str := (if g = true then [("ground" : Str)] else []) ++ (if p = true then [("power" : Str)] else [])
def frameD (top : Int) (g p : Bool) (ls : List Lg) : D := .obj "Frame" [("top", .int top), ("ground", .bl g), ("power", .bl p), ("own_legs", .dct (ls.map fun l => (.inr l.nm, legD l)))]
def bareD (top : Int) (ds ls rs : List Str) : D := .dct [(.inr "top", .int top), (.inr "drivers", .lst (ds.map D.str)), (.inr "listeners", .lst (ls.map D.str)), (.inr "rails", .lst (rs.map D.str))]
def sortL (ls : List Lg) : List Lg := ((ls.zip (ls.map (·.nm))).mergeSort (PySem.W.dataLe false fun q => PyData.str q.2)).map (·.1)
/-- legs that a frame takes -/
def LegsOk (ls : List Lg) : Prop := ls.length ≤ 40 ∧ (ls.map (·.nm)).Nodup ∧ ∀ l ∈ ls, l.nm.length ≤ 1000
def P_is_integer : PD := fun ds Q _ => ∃ i, ds = [.int i] ∧ Q (.bl true)
def P_is_between : PD := fun ds Q _ => ∃ v lo hi : Int, ds = [.int v, .int lo, .int hi] ∧ Q (.bl (decide (lo ≤ v) && decide (v ≤ hi)))
def P_is_name : PD := fun ds Q _ => ∃ z : Str, ds = [.str z] ∧ z.length ≤ 1000 ∧ Q (.bl (nameB z))
def P_Leg_init : PI1 := fun c ds Q _ => ∃ b z, c = lc b ∧ ds = [.str z] ∧ z.length ≤ 1000 ∧ nameB z = true ∧ Q [("name", .str z)]
def P_Leg_eq : PD := fun ds Q _ => ∃ l m, ds = [legD l, legD m] ∧ Q (.bl (decide (l.drv = m.drv) && decide (l.nm = m.nm)))
def P_fault_of : PD := fun ds Q _ => ∃ (ls : List Lg) (top : Int) (g p : Bool), ds = [.tup (ls.map legD), .int 40, .int top, .tup [.bl g, .bl p]] ∧ LegsOk ls ∧ 1 ≤ top ∧ top ≤ 3 ∧ Q .non
def P_Frame_init : PI1 := fun c ds Q _ => ∃ (ls : List Lg) (top : Int) (g p : Bool), c = "Frame" ∧ ds = [.int top, .bl g, .bl p, .tup (ls.map legD)] ∧ LegsOk ls ∧ 1 ≤ top ∧ top ≤ 3 ∧ Q [("top", .int top), ("ground", .bl g), ("power", .bl p), ("own_legs", .dct ((sortL ls).map fun l => (.inr l.nm, legD l)))]
def P_Frame_of : PD := fun ds Q _ => ∃ (ls : List Lg) (top : Int) (g p : Bool) (x : D), ds = [.cls "Frame", x, .int top, .bl g, .bl p] ∧ (x = .lst (ls.map legD) ∨ x = .tup (ls.map legD)) ∧ LegsOk ls ∧ 1 ≤ top ∧ top ≤ 3 ∧ Q (frameD top g p (sortL ls))
def P_Frame_legs : PD := fun ds Q _ => ∃ top g p ls, ds = [frameD top g p ls] ∧ Q (.tup (ls.map legD))
def P_Frame_rails : PD := fun ds Q _ => ∃ top g p ls, ds = [frameD top g p ls] ∧ Q (.tup ((railsL g p).map D.str))
def legE (l m : Lg) : Bool := decide (l.drv = m.drv) && decide (l.nm = m.nm)
def legsE : List Lg → List Lg → Bool
  | l :: ls, m :: ms => legE l m && legsE ls ms
  | [], [] => true
  | _, _ => false
def P_Frame_eq : PD := fun ds Q _ => (∃ top g p ls top2 g2 p2 ls2, ds = [frameD top g p ls, frameD top2 g2 p2 ls2] ∧ Q (.bl (decide (top = top2) && (decide (railsL g p = railsL g2 p2) && legsE ls ls2)))) ∨ (∃ top g p ls d, ds = [frameD top g p ls, d] ∧ (d = .non ∨ ∃ es, d = .tup es) ∧ Q (.bl false))
/-- texts in their order -/
def sortS (zs : List Str) : List Str := zs.mergeSort (PySem.W.dataLe false fun z => PyData.str z)
def rowsD (rs : List (List Str)) : D := .lst (rs.map strsD)
def okT (z : Str) : Prop := ∀ c ∈ z.cps.toList, c < 0x110000
/-- what the texts weigh, joined -/
def wt (zs : List Str) : Nat := (zs.map fun z => z.length + 1).sum
def rowsOf (z : Str) : List (List Str) := (Txt.split z "\n").map fun l => Txt.split l " "
structure RowsOk (rs : List (List Str)) : Prop where
  ne : rs ≠ []
  le : rs.length ≤ 1001
  row : ∀ r ∈ rs, r ≠ [] ∧ wt r ≤ 1001 ∧ ∀ z ∈ r, okT z
/-- the number of one digit that a text writes, within bounds -/
def numF (z : Str) (lo hi : Int) : Option Int := match z.cps.toList with
  | [c] => if 48 ≤ c ∧ c ≤ 57 ∧ lo ≤ (c : Int) - 48 ∧ (c : Int) - 48 ≤ hi then some ((c : Int) - 48) else none
  | _ => none
def outI : Option Int → D
  | none => .non
  | some i => .int i
def topOf (w : List Str) : Option Int := if w = [("1" : Str)] then some 1 else if w = [("2" : Str)] then some 2 else if w = [("3" : Str)] then some 3 else none
def grB (h : List Str) : Bool := decide ((h.drop 2).take 1 = [("ground" : Str)])
def poB (h : List Str) : Bool := decide ((h.drop (2 + (if grB h = true then 1 else 0))).take 1 = [("power" : Str)])
def nR (h : List Str) : Nat := (railsL (grB h) (poB h)).length
def kdB (r : List Str) : Bool := decide (r.headD "" ∈ (["driver", "listener"] : List Str))
def nmB (acc : List Lg) (r : List Str) : Bool := decide (1 < r.length) && (nameB (r.getD 1 "") && !decide (r.getD 1 "" ∈ acc.map (·.nm)))
def lgOf (r : List Str) : Lg := ⟨decide (r.headD "" = "driver"), r.getD 1 ""⟩
/-- the legs that lines write, or the line and the word that do not fit -/
def legsF : Nat → List Lg → List (List Str) → Sum (List Lg) (Nat × Nat)
  | _, acc, [] => .inl acc
  | k, acc, r :: rs => if (kdB r && decide (k ≤ 40)) = true then (if nmB acc r = true then (if r.length = 2 then legsF (k + 1) (acc ++ [lgOf r]) rs else .inr (k, 2)) else .inr (k, 1)) else .inr (k, 0)
def readL (t : Int) (h : List Str) (rs : List (List Str)) : Sum (Int × Bool × Bool × List Lg) (Nat × Nat) := match legsF 1 [] rs with
  | .inl ls => .inl (t, grB h, poB h, ls)
  | .inr e => .inr e
def readT (h : List Str) (rs : List (List Str)) : Option Int → Sum (Int × Bool × Bool × List Lg) (Nat × Nat)
  | none => .inr (0, 1)
  | some t => if h.length = 2 + nR h then readL t h rs else .inr (0, 2 + nR h)
def readH (h : List Str) (rs : List (List Str)) : Sum (Int × Bool × Bool × List Lg) (Nat × Nat) := if h.headD "" = "frame" then readT h rs (topOf ((h.drop 1).take 1)) else .inr (0, 0)
def readF : List (List Str) → Sum (Int × Bool × Bool × List Lg) (Nat × Nat)
  | [] => .inr (0, 0)
  | h :: rs => readH h rs
/-- the fields of what is raised -/
def xtF (a b : Nat) : List (Str × D) := [("word", .int (b : Nat)), ("line", .int (a : Nat))]
/-- values that are no text -/
def oddT : D → Bool
  | .non => true
  | .bl _ => true
  | .int _ => true
  | .lst _ => true
  | .tup _ => true
  | .dct _ => true
  | _ => false
def P_number_in : PD := fun ds Q _ => ∃ (z : Str) (lo hi : Int), ds = [.str z, .int lo, .int hi] ∧ z.length ≤ 1001 ∧ 0 ≤ lo ∧ hi ≤ 9 ∧ Q (outI (numF z lo hi))
def P_leg_of : PD := fun ds Q _ => ∃ k z : Str, ds = [.str k, .str z] ∧ k.length ≤ 1001 ∧ okT k ∧ z.length ≤ 1000 ∧ nameB z = true ∧ Q (legD ⟨decide (k = "driver"), z⟩)
def P_need : PD := fun ds Q E => ∃ (b : Bool) (l w : Nat), ds = [.bl b, .int (l : Nat), .int (w : Nat)] ∧ (b = true → Q .non) ∧ (b = false → E "InvalidText" (xtF l w))
def P_lines_in : PD := fun ds Q E => ∃ d, ds = [d] ∧ ((∃ z, d = .str z ∧ z.length ≤ 1000 ∧ Q (rowsD (rowsOf z))) ∨ (oddT d = true ∧ E "InvalidText" (xtF 0 0)))
def FrameQ (rs : List (List Str)) (Q : D → Prop) (E : Str → List (Str × D) → Prop) : Prop := (∀ t g p ls, readF rs = .inl (t, g, p, ls) → Q (frameD t g p (sortL ls))) ∧ ∀ a b, readF rs = .inr (a, b) → E "InvalidText" (xtF a b)
def P_frame_in : PD := fun ds Q E => ∃ rs, ds = [rowsD rs] ∧ RowsOk rs ∧ FrameQ rs Q E
def P_read_frame : PD := fun ds Q E => ∃ d, ds = [d] ∧ ((∃ z, d = .str z ∧ z.length ≤ 1000 ∧ okT z ∧ FrameQ (rowsOf z) Q E) ∨ (oddT d = true ∧ E "InvalidText" (xtF 0 0)))
def pool : List Str := ["a", "frame", "b", "rest", "self", "c", "zzzzzzzz", "word", "d", "e", "reads", "leg", "x", "i", "q", "h"]
def mkL (dl ll : List Str) : List Lg := dl.map (fun z => ⟨true, z⟩) ++ ll.map fun z => ⟨false, z⟩
structure BareOk (top : Int) (dl ll : List Str) : Prop where
  t1 : 1 ≤ top
  t3 : top ≤ 3
  nd : (dl ++ ll).Nodup
  pl : ∀ z ∈ dl ++ ll, z ∈ pool
  le : (dl ++ ll).length ≤ 8
def P_Lpick : PP1 := PPick
def P_Ldraw : PP1 := PDraw
def P_Lbare : PP1 := fun n ds Q => ∃ m : Nat, ds = [.int m] ∧ 2 ≤ m ∧ m ≤ 8 ∧ n + 100 < 100000 ∧ ∀ top dl ll g p n2, BareOk top dl ll → (dl ++ ll).length + (railsL g p).length ≤ m → n2 ≤ n + 40 → Q (bareD top dl ll (railsL g p)) n2
def P_Lframe : PD := fun ds Q _ => ∃ top dl ll g p, ds = [bareD top dl ll (railsL g p)] ∧ LegsOk (mkL dl ll) ∧ (∀ z ∈ dl ++ ll, nameB z = true) ∧ 1 ≤ top ∧ top ≤ 3 ∧ Q (frameD top g p (sortL (mkL dl ll)))
def P_Lframe_lines : PD := fun ds Q _ => ∃ top dl ll g p, ds = [bareD top dl ll (railsL g p)] ∧ BareOk top dl ll ∧ ∀ zs, wt zs ≤ 200 → (∀ z ∈ zs, okT z) → Q (.lst (zs.map D.str))
def numL (w : List Str) : Option Int := if w = [("0" : Str)] then some 0 else topOf w
def P_Lnumber : PD := fun ds Q _ => ∃ w, ds = [strsD w, .int 3] ∧ w.length ≤ 1 ∧ (∀ z ∈ w, okT z) ∧ Q (outI (numL w))
def P_Lis_name : PD := fun ds Q _ => ∃ z : Str, ds = [.str z] ∧ z.length ≤ 1000 ∧ okT z ∧ Q (.bl (nameB z))
def drvs (ls : List Lg) : List Str := (ls.filter fun l => l.drv).map (·.nm)
def lsts (ls : List Lg) : List Str := (ls.filter fun l => !l.drv).map (·.nm)
def P_Lframe_in : PD := fun ds Q _ => ∃ rs, ds = [rowsD rs] ∧ RowsOk rs ∧ (∀ t g p ls, readF rs = .inl (t, g, p, ls) → Q (bareD t (sortS (drvs ls)) (sortS (lsts ls)) (railsL g p))) ∧ ∀ a b, readF rs = .inr (a, b) → Q (.tup [.int (a : Nat), .int (b : Nat)])
def P_Lspoilt : PP1 := fun n ds Q => ∃ zs, ds = [.lst (zs.map D.str)] ∧ zs ≠ [] ∧ wt zs ≤ 440 ∧ (∀ z ∈ zs, okT z) ∧ n + 10 < 100000 ∧ ∀ ys n2, wt ys ≤ 2 * wt zs + 40 → (∀ z ∈ ys, okT z) → n2 ≤ n + 10 → Q (.lst (ys.map D.str)) n2
def CR_heard : OutV → (D → Prop) → Prop
  | .inl d, Qd => Qd (.lst [d])
  | .inr (c, fs), Qd => c = "InvalidText" ∧ ∃ a b : Nat, fs = xtF a b ∧ Qd (.tup [.int (a : Nat), .int (b : Nat)])
def P_Lright : PD := fun ds Q _ => ∃ z, ds = [.str z] ∧ z.length ≤ 1000 ∧ okT z ∧ Q (.bl true)
def P_Lmany_right : PD := fun ds Q _ => ds = [] ∧ Q (.bl true)
def sp_is_integer (K : PySem.W.Frag) : Sp := spS K (TB K) (pu P_is_integer)
def sp_is_between (K : PySem.W.Frag) : Sp := spS K (TB K) (pu P_is_between)
def sp_is_name (K : PySem.W.Frag) : Sp := spS K (TB K) (pu P_is_name)
def sp_Leg_init (K : PySem.W.Frag) : Sp := spS K (TB K) (pin P_Leg_init)
def sp_Leg_eq (K : PySem.W.Frag) : Sp := spS K (TB K) (pu P_Leg_eq)
def sp_fault_of (K : PySem.W.Frag) : Sp := spS K (TB K) (pu P_fault_of)
def sp_Frame_init (K : PySem.W.Frag) : Sp := spS K (TB K) (pin P_Frame_init)
def sp_Frame_of (K : PySem.W.Frag) : Sp := spS K (TB K) (pu P_Frame_of)
def sp_Frame_legs (K : PySem.W.Frag) : Sp := spS K (TB K) (pu P_Frame_legs)
def sp_Frame_rails (K : PySem.W.Frag) : Sp := spS K (TB K) (pu P_Frame_rails)
def sp_Frame_eq (K : PySem.W.Frag) : Sp := spS K (TB K) (pu P_Frame_eq)
def sp_number_in (K : PySem.W.Frag) : Sp := spS K (TB K) (pu P_number_in)
def sp_leg_of (K : PySem.W.Frag) : Sp := spS K (TB K) (pu P_leg_of)
def sp_lines_in (K : PySem.W.Frag) : Sp := spS K (TB K) (pu P_lines_in)
def sp_need (K : PySem.W.Frag) : Sp := spS K (TB K) (pu P_need)
def sp_frame_in (K : PySem.W.Frag) : Sp := spS K (TB K) (pu P_frame_in)
def sp_read_frame (K : PySem.W.Frag) : Sp := spS K (TB K) (pu P_read_frame)
def sp_Lpen (K : PySem.W.Frag) : Sp := spPen K
def sp_Ldraw (K : PySem.W.Frag) : Sp := spS K (TB K) (pp P_Ldraw)
def sp_Lpick (K : PySem.W.Frag) : Sp := spS K (TB K) (pp P_Lpick)
def sp_Lbare (K : PySem.W.Frag) : Sp := spS K (TB K) (pp P_Lbare)
def sp_Lframe (K : PySem.W.Frag) : Sp := spS K (TB K) (pu P_Lframe)
def sp_Lframe_lines (K : PySem.W.Frag) : Sp := spS K (TB K) (pu P_Lframe_lines)
def sp_Lnumber (K : PySem.W.Frag) : Sp := spS K (TB K) (pu P_Lnumber)
def sp_Lis_name (K : PySem.W.Frag) : Sp := spS K (TB K) (pu P_Lis_name)
def sp_Lframe_in (K : PySem.W.Frag) : Sp := spS K (TB K) (pu P_Lframe_in)
def sp_Lspoilt (K : PySem.W.Frag) : Sp := spS K (TB K) (pp P_Lspoilt)
def TT_Lheard (K : PySem.W.Frag) : (XK → Hp → VK → Prop) → Hp → VK → Prop := TTv K (TB K) CR_heard
def sp_Lright (K : PySem.W.Frag) : Sp := spS K (TB K) (pu P_Lright)
def sp_Lmany_right (K : PySem.W.Frag) : Sp := spS K (TB K) (pu P_Lmany_right)
def sp_law (K : PySem.W.Frag) : Sp := spLaw K (TB K)
abbrev gkb_read_frame_0_text : List V → List V → List V := kwV [0]
theorem kb_read_frame_0_text {K : PySem.W.Frag} {fd : FuncData} (F : Fn_read_frame K fd) : KBn K fd ["text"] 0 ["text"] (kwW [0]) (kwV [0]) := kw_of F (fun _ _ _ _ _ _ us ws h1 h2 => match us, ws, h1, h2 with | [], [_], _, _ => rfl) kw_rel
abbrev gks_Frame_init_top_ground_power : List V → List V → List V := fun vs zs => pickL [0, 1, 2, 3] vs [] zs
theorem gks_Frame_init_top_ground_power_len : ∀ (a : V) (zs : List V), zs.length = 3 → (gks_Frame_init_top_ground_power [a] zs).length = 4 := fun a zs h => match zs, h with | [_, _, _], _ => rfl
theorem tks_Frame_init_top_ground_power {K : PySem.W.Frag} {fd : FuncData} (F : Fn_Frame_init K fd) : ∃ mv : List Value, KSn K fd ["self", "top", "ground", "power"] "legs" 1 ["top", "ground", "power"] (fun us ws => pickL [0, 1, 2, 3] us mv ws) gks_Frame_init_top_ground_power := by
  refine ksn_of F 1 ["top", "ground", "power"] [] (pickL [0, 1, 2, 3]) (fun e => nomatch e) (by simp) pick_rel (fun D doc pm an cdv ct us mv ws rest l1 l2 l3 => ?_)
  match us, mv, ws, l1, l2, l3 with
  | [a0], [], [c0, c1, c2], _, _, _ =>
    cases rest with
    | nil => exact rfl
    | cons r rs => exact rfl
abbrev gkbm_Frame_of_2_top_ground_power : List V → List V → List V := fun vs zs => pickL [0, 1, 2, 3, 4] vs [] zs
theorem tkbm_Frame_of_2_top_ground_power {K : PySem.W.Frag} {fd : FuncData} (F : Fn_Frame_of K fd) : ∃ mv : List Value, KBn K fd ["cls", "legs", "top", "ground", "power"] 2 ["top", "ground", "power"] (fun us ws => pickL [0, 1, 2, 3, 4] us mv ws) gkbm_Frame_of_2_top_ground_power := by
  refine FunD.kbinds0 F 2 ["top", "ground", "power"] [] (pickL [0, 1, 2, 3, 4]) (fun e => nomatch e) (by simp) pick_rel (fun D doc pm an cdv ct us mv ws l1 l2 l3 => ?_)
  match us, mv, ws, l1, l2, l3 with
  | [a0, a1], [], [c0, c1, c2], _, _, _ => exact rfl
def t_is_integer (K : PySem.W.Frag) : TS := (tRet (tAndV (tCB (rIsi K) (tCons (tVar 0) (tCons (tC (.ty "int")) tNil))) (tNotV (tCB (rIsi K) (tCons (tVar 0) (tCons (tC (.ty "bool")) tNil))))))
def t_is_between (K : PySem.W.Frag) : TS := (tRet (tAndV (tFn (sp_is_integer K) [] W0 (tCons (tVar 0) tNil)) (tChain rLeU rLeU (tVar 1) (tVar 0) (tVar 2))))
def t_is_name (K : PySem.W.Frag) : TS := (tSeq (tIfS (tOr (tNot (tB (tCB (rIsi K) (tCons (tVar 0) (tCons (tC (.ty "str")) tNil))))) (tNot (tTest (tChain rLeU rLeU (tC (.int 1)) (tCB (rLenU K) (tCons (tVar 0) tNil)) (tC (.int 8)))))) (tRet (tC (.bl false))) tNext) (tRet (tAndV (tCB (rAll K) (tCons (tLc (iStr (tVar 0)) (gName 1) tYes (tOp rInS (tVar 1) (tC (.str "abcdefghijklmnopqrstuvwxyz"))) [1]) tNil)) (tOp (rInU K true) (tVar 0) (tTup (tCons (tC (.str "ground")) (tCons (tC (.str "power")) (tCons (tC (.str "nothing")) tNil))))))))
def t_Leg_init (K : PySem.W.Frag) (E : XK) : TS := (tSeq (tIfS (tNot (tB (tFn (sp_is_name K) [] (WO E) (tCons (tVar 1) tNil)))) (tRz (ga K "InvalidFrame") ["reason"] (WO E) (tCons (tC (.str "name")) tNil)) tNext) (sFld K (tVar 0) (tVar 1) "name"))
def t_Leg_eq (K : PySem.W.Frag) : TS := (tRet (tAndV (tCB (rIsi K) (tCons (tVar 1) (tCons (tC (.ref (ga K "Leg"))) tNil))) (tAndV (tOp (rEqU K) (tCon K (tVar 0) "KIND") (tCon K (tVar 1) "KIND")) (tOp (rEqU K) (tFld K (tVar 0) "name") (tFld K (tVar 1) "name")))))
def t_fault_of (K : PySem.W.Frag) (P : Program) (w : World) : TS := (tSeq (tIfS (tNot (tB (tCB (rAll K) (tCons (tLc (iTup K (tVar 0)) (gName 4) tYes (tCB (rIsiS K) (tCons (tVar 4) (tCons (tTup (tCons (tC (.ref (ga K "Driver"))) (tCons (tC (.ref (ga K "Listener"))) tNil))) tNil))) [4]) tNil)))) (tRet (tC (.str "legs"))) tNext) (tSeq (tIfS (tTest (tOp rGtU (tCB (rLenU K) (tCons (tVar 0) tNil)) (tVar 1))) (tRet (tC (.str "many"))) tNext) (tSeq (tIfS (tTest (tOp rLtU (tCB (rLenSet P w) (tCons (tScK P w (iTup K (tVar 0)) (gName 4) tYes (tFld K (tVar 4) "name") [4]) tNil)) (tCB (rLenU K) (tCons (tVar 0) tNil)))) (tRet (tC (.str "name"))) tNext) (tSeq (tIfS (tNot (tB (tFn (sp_is_between K) [] W0 (tCons (tVar 2) (tCons (tC (.int 1)) (tCons (tC (.int 3)) tNil)))))) (tRet (tC (.str "top"))) tNext) (tRet (tIf (tB (tCB (rAll K) (tCons (tLc (iTup K (tVar 3)) (gName 5) tYes (tCB (rIsi K) (tCons (tVar 5) (tCons (tC (.ty "bool")) tNil))) [5]) tNil))) (tC .non) (tC (.str "rails"))))))))
def t_Frame_init (K : PySem.W.Frag) (E : XK) : TS := (tSeq (tAsg (tFn (sp_fault_of K) [] (WO E) (tCons (tVar 4) (tCons (tCon K (tVar 0) "MOST") (tCons (tVar 1) (tCons (tTup (tCons (tVar 2) (tCons (tVar 3) tNil))) tNil))))) (gName 5)) (tSeq (tIfS (tTest (tOp (rIsU true) (tVar 5) (tC .non))) (tRz (ga K "InvalidFrame") ["reason"] (WO E) (tCons (tVar 5) tNil)) tNext) (tSeq (sFld K (tVar 0) (tVar 1) "top") (tSeq (sFld K (tVar 0) (tVar 2) "ground") (tSeq (sFld K (tVar 0) (tVar 3) "power") (sFld K (tVar 0) (tDc (iList K (tSortA K (TB K) "name" (tCons (tVar 4) tNil))) (gName 6) tYes (tFld K (tVar 6) "name") (tVar 6) [6]) "own_legs"))))))
def t_Frame_of (K : PySem.W.Frag) (E : XK) : TS := (tSeq (tIfS (tNot (tB (tCB (rIsiS K) (tCons (tVar 1) (tCons (tTup (tCons (tC (.ty "list")) (tCons (tC (.ty "tuple")) tNil))) tNil))))) (tRz (ga K "InvalidFrame") ["reason"] (WO E) (tCons (tC (.str "legs")) tNil)) tNext) (tRet (tAt 0 (ga K "Frame") (tNwSs K (ga K "Frame") 3 (sp_Frame_init K) gks_Frame_init_top_ground_power (WO E) (tVar 1) (tCons (tVar 2) (tCons (tVar 3) (tCons (tVar 4) tNil)))))))
def t_Frame_legs (K : PySem.W.Frag) : TS := (tRet (tCB rTupD (tCons (tBM0 K "dict" rVals (tFld K (tVar 0) "own_legs")) tNil)))
def t_Frame_rails (K : PySem.W.Frag) : TS := (tRet (tOp (rAdd K) (tOp (rRep01 K) (tTup (tCons (tC (.str "ground")) tNil)) (tCB rInt (tCons (tFld K (tVar 0) "ground") tNil))) (tOp (rRep01 K) (tTup (tCons (tC (.str "power")) tNil)) (tCB rInt (tCons (tFld K (tVar 0) "power") tNil)))))
def t_Frame_eq (K : PySem.W.Frag) : TS := (tSeq (tIfS (tOr (tNot (tB (tCB (rIsi K) (tCons (tVar 1) (tCons (tC (.ref (ga K "Frame"))) tNil))))) (tOr (tTest (tOp (rNeU K) (tFld K (tVar 0) "top") (tFld K (tVar 1) "top"))) (tTest (tOp (rNeU K) (tPr K "rails" (a_Frame_rails K) (sp_Frame_rails K) (tVar 0)) (tPr K "rails" (a_Frame_rails K) (sp_Frame_rails K) (tVar 1)))))) (tRet (tC (.bl false))) tNext) (tRet (tOp (rSeqC K (dSeq K (a_Leg_eq K) (sp_Leg_eq K)) true) (tPr K "legs" (a_Frame_legs K) (sp_Frame_legs K) (tVar 0)) (tPr K "legs" (a_Frame_legs K) (sp_Frame_legs K) (tVar 1)))))
def t_number_in (K : PySem.W.Frag) : TS := (tSeq (tIfS (tOr (tNot (tTest (tChain rLeU rLeU (tC (.int 1)) (tCB (rLenU K) (tCons (tVar 0) tNil)) (tC (.int 2))))) (tOr (tNot (tB (tCB (rAll K) (tCons (tLc (iStr (tVar 0)) (gName 3) tYes (tOp rInS (tVar 3) (tC (.str "0123456789"))) [3]) tNil)))) (tAnd (tTest (tOp (rEqU K) (tCB (rLenU K) (tCons (tVar 0) tNil)) (tC (.int 2)))) (tTest (tOp (rEqU K) (tOp (rIx K) (tVar 0) (tC (.int 0))) (tC (.str "0"))))))) (tRet (tC .non)) tNext) (tRet (tIf (tTest (tChain rLeU rLeU (tVar 1) (tCB rIntS (tCons (tVar 0) tNil)) (tVar 2))) (tCB rIntS (tCons (tVar 0) tNil)) (tC .non))))
def t_leg_of (K : PySem.W.Frag) (E : XK) : TS := (tRet (tIf (tTest (tOp (rEqU K) (tVar 0) (tC (.str "driver")))) (tNw (ga K "Driver") (sp_Leg_init K) [] (WO E) (tCons (tVar 1) tNil)) (tNw (ga K "Listener") (sp_Leg_init K) [] (WO E) (tCons (tVar 1) tNil))))
def t_lines_in (K : PySem.W.Frag) (E : XK) : TS := (tSeq (tIfS (tNot (tB (tCB (rIsi K) (tCons (tVar 0) (tCons (tC (.ty "str")) tNil))))) (tRz (ga K "InvalidText") ["line", "word"] (WO E) (tCons (tC (.int 0)) (tCons (tC (.int 0)) tNil))) tNext) (tRet (tLc (iList K (tM1 rSplit (tVar 0) (tC (.str "\n")))) (gName 1) tYes (tM1 rSplit (tVar 1) (tC (.str " "))) [1])))
def t_need (K : PySem.W.Frag) (E : XK) : TS := (tIfS (tNot (tB (tVar 0))) (tRz (ga K "InvalidText") ["line", "word"] (WO E) (tCons (tVar 1) (tCons (tVar 2) tNil))) tNext)
def t_frame_in (K : PySem.W.Frag) (E : XK) : TS := (tSeq (tDrop (tFn (sp_need K) [] (WO E) (tCons (tAndV (tOp (rSeqC K (dSeq K (a_Leg_eq K) (sp_Leg_eq K)) false) (tVar 0) (tLst tNil)) (tOp (rEqU K) (tOp (rIx K) (tOp (rIx K) (tVar 0) (tC (.int 0))) (tC (.int 0))) (tC (.str "frame")))) (tCons (tC (.int 0)) (tCons (tC (.int 0)) tNil))))) (tSeq (tAsg (tOp (rIx K) (tVar 0) (tC (.int 0))) (gName 1)) (tSeq (tAsg (tFn (sp_number_in K) [] (WO E) (tCons (tM1 (rJoin K) (tC (.str "")) (tSl (rSlU K) (tVar 1) (tPart (tC (.int 1))) (tPart (tC (.int 2))))) (tCons (tC (.int 1)) (tCons (tC (.int 3)) tNil)))) (gName 2)) (tSeq (tDrop (tFn (sp_need K) [] (WO E) (tCons (tOp (rIsU true) (tVar 2) (tC .non)) (tCons (tC (.int 0)) (tCons (tC (.int 1)) tNil))))) (tSeq (tAsg (tLst tNil) (gName 3)) (tSeq (tFor (iTup K (tTup (tCons (tC (.str "ground")) (tCons (tC (.str "power")) tNil)))) (gName 4) (tIfS (tTest (tOp (rEqU K) (tSl (rSlU K) (tVar 1) (tPart (tOp (rAdd K) (tC (.int 2)) (tCB (rLenU K) (tCons (tVar 3) tNil)))) (tPart (tOp (rAdd K) (tC (.int 3)) (tCB (rLenU K) (tCons (tVar 3) tNil))))) (tLst (tCons (tVar 4) tNil)))) (tDrop (tBM K "list" rAppend (tVar 3) (tCons (tVar 4) tNil))) tNext)) (tSeq (tDrop (tFn (sp_need K) [] (WO E) (tCons (tOp (rEqU K) (tCB (rLenU K) (tCons (tVar 1) tNil)) (tOp (rAdd K) (tC (.int 2)) (tCB (rLenU K) (tCons (tVar 3) tNil)))) (tCons (tC (.int 0)) (tCons (tOp (rAdd K) (tC (.int 2)) (tCB (rLenU K) (tCons (tVar 3) tNil))) tNil))))) (tSeq (tAsg tDNewK (gName 5)) (tSeq (tFor (iEnK K (tCons (tSl (rSlU K) (tVar 0) (tPart (tC (.int 1))) tNoPart) (tCons (tC (.int 1)) tNil))) (gTup K 2 (gCons (gName 6) (gCons (gName 7) gNil))) (tSeq (tDrop (tFn (sp_need K) [] (WO E) (tCons (tAndV (tOp (rInU K false) (tOp (rIx K) (tVar 7) (tC (.int 0))) (tC (.ref (ga K "KINDS")))) (tOp rLeU (tVar 6) (ClX.tCVal K (tC (.ref (ga K "Frame"))) "MOST"))) (tCons (tVar 6) (tCons (tC (.int 0)) tNil))))) (tSeq (tDrop (tFn (sp_need K) [] (WO E) (tCons (tAndV (tOp rGtU (tCB (rLenU K) (tCons (tVar 7) tNil)) (tC (.int 1))) (tAndV (tFn (sp_is_name K) [] (WO E) (tCons (tOp (rIx K) (tVar 7) (tC (.int 1))) tNil)) (tDNotIn (tOp (rIx K) (tVar 7) (tC (.int 1))) (tVar 5)))) (tCons (tVar 6) (tCons (tC (.int 1)) tNil))))) (tSeq (tDrop (tFn (sp_need K) [] (WO E) (tCons (tOp (rEqU K) (tCB (rLenU K) (tCons (tVar 7) tNil)) (tC (.int 2))) (tCons (tVar 6) (tCons (tC (.int 2)) tNil))))) (sDPut (tVar 5) (tOp (rIx K) (tVar 7) (tC (.int 1))) (tFn (sp_leg_of K) [] (WO E) (tCons (tOp (rIx K) (tVar 7) (tC (.int 0))) (tCons (tOp (rIx K) (tVar 7) (tC (.int 1))) tNil)))))))) (tRet (tCmK (ga K "Frame") 1 3 (sp_Frame_of K) gkbm_Frame_of_2_top_ground_power (WO E) (tC (.ref (ga K "Frame"))) (tCons (tCB rListV (tCons (tBM0 K "dict" rVals (tVar 5)) tNil)) tNil) (tCons (tVar 2) (tCons (tOp (rInU K false) (tC (.str "ground")) (tVar 3)) (tCons (tOp (rInU K false) (tC (.str "power")) (tVar 3)) tNil))))))))))))))
def t_read_frame (K : PySem.W.Frag) (E : XK) : TS := (tRet (tFn (sp_frame_in K) [] (WO E) (tCons (tFn (sp_lines_in K) [] (WO E) (tCons (tVar 0) tNil)) tNil)))
def t_Lpen (K : PySem.W.Frag) : TS := (tRet (tLst (tCons (tCB (rListU K) (tCons (tSl (rSlU K) (tVar 0) tNoPart (tPart (tC (.int 63)))) tNil)) (tCons (tC (.int 0)) (tCons (tC (.int 0)) tNil)))))
def t_Ldraw (K : PySem.W.Frag) : TS := (tSeq (tIfS (tTest (tOp rGtU (tOp (rIx K) (tVar 0) (tC (.int 2))) (tC (.int 0)))) (tSeq (tAsg (tOp rMod (tCB rInt (tCons (tOp (rIx K) (tVar 0) (tC (.int 2))) tNil)) (tVar 1)) (gName 2)) (tSeq (tAsg (tOp rFdv (tCB rInt (tCons (tOp (rIx K) (tVar 0) (tC (.int 2))) tNil)) (tVar 1)) (gSub (tVar 0) (tC (.int 2)) rSetL)) (tRet (tVar 2)))) tNext) (tSeq (tAsg (tOp (rIx K) (tVar 0) (tC (.int 1))) (gName 3)) (tSeq (tAsg (tOp (rAdd K) (tVar 3) (tC (.int 1))) (gSub (tVar 0) (tC (.int 1)) rSetL)) (tSeq (tAsg (tOp (rAdd K) (tOp (rMul K) (tC (.int 90073)) (tVar 3)) (tC (.int 149))) (gName 4)) (tSeq (tIfS (tTest (tOp (rNeU K) (tOp (rIx K) (tVar 0) (tC (.int 0))) (tLst tNil))) (tAsg (tOp (rIx K) (tOp (rIx K) (tVar 0) (tC (.int 0))) (tOp rMod (tCB rInt (tCons (tVar 3) tNil)) (tCB (rLenU K) (tCons (tOp (rIx K) (tVar 0) (tC (.int 0))) tNil)))) (gName 4)) tNext) (tSeq (tIfS (tAnd (tTest (tOp rLtU (tVar 3) (tCB (rLenU K) (tCons (tOp (rIx K) (tVar 0) (tC (.int 0))) tNil)))) (tTest (tOp rGeU (tCB rAbs (tCons (tVar 4) tNil)) (tOp rPow (tC (.int 10)) (tC (.int 18)))))) (tSeq (tAsg (tOp (rAdd K) (tOp (rMul K) (tC (.int 2)) (tCB rAbs (tCons (tVar 4) tNil))) (tCB rInt (tCons (tOp rLtU (tVar 4) (tC (.int 0))) tNil))) (gName 5)) (tSeq (tAsg (tOp rFdv (tVar 5) (tVar 1)) (gSub (tVar 0) (tC (.int 2)) rSetL)) (tRet (tOp rMod (tCB rInt (tCons (tVar 5) tNil)) (tVar 1))))) tNext) (tSeq (tAsg (tOp rMod (tCB rInt (tCons (tOp rPow (tOp (rAdd K) (tOp (rAdd K) (tOp rMod (tCB rInt (tCons (tVar 4) tNil)) (tC (.int 2147483563))) (tOp (rMul K) (tC (.int 50093)) (tVar 3))) (tC (.int 43))) (tC (.int 5))) tNil)) (tC (.int 2147483587))) (gName 6)) (tSeq (tAsg (tOp rMod (tCB rInt (tCons (tOp rPow (tOp (rAdd K) (tOp (rAdd K) (tOp (rMul K) (tVar 6) (tOp (rAdd K) (tOp (rMul K) (tC (.int 2)) (tVar 3)) (tC (.int 71)))) (tOp (rMul K) (tOp (rMul K) (tC (.int 60101)) (tVar 3)) (tVar 3))) (tC (.int 41))) (tC (.int 3))) tNil)) (tC (.int 2147483629))) (gName 6)) (tRet (tOp rMod (tCB rInt (tCons (tOp rFdv (tVar 6) (tC (.int 16))) tNil)) (tVar 1)))))))))))
def t_Lpick (K : PySem.W.Frag) : TS := (tRet (tOp (rIx K) (tVar 1) (tFn (sp_Ldraw K) [] W0 (tCons (tVar 0) (tCons (tCB (rLenU K) (tCons (tVar 1) tNil)) tNil)))))
def t_Lbare (K : PySem.W.Frag) : TS := (tSeq (tAsg (tDisp [((tC (.str "top")), (tOp (rAdd K) (tC (.int 1)) (tFn (sp_Ldraw K) [] W0 (tCons (tVar 0) (tCons (tC (.int 3)) tNil))))), ((tC (.str "drivers")), (tLst tNil)), ((tC (.str "listeners")), (tLst tNil))]) (gName 2)) (tSeq (sDPut (tVar 2) (tC (.str "rails")) (tOp (rIx K) (tLst (tCons (tLst tNil) (tCons (tLst tNil) (tCons (tLst (tCons (tC (.str "ground")) tNil)) (tCons (tLst (tCons (tC (.str "power")) tNil)) (tCons (tLst (tCons (tC (.str "ground")) (tCons (tC (.str "power")) tNil))) tNil)))))) (tFn (sp_Ldraw K) [] W0 (tCons (tVar 0) (tCons (tC (.int 5)) tNil))))) (tSeq (tAsg (tLst (tCons (tC (.str "a")) (tCons (tC (.str "frame")) (tCons (tC (.str "b")) (tCons (tC (.str "rest")) (tCons (tC (.str "self")) (tCons (tC (.str "c")) (tCons (tC (.str "zzzzzzzz")) (tCons (tC (.str "word")) tNil))))))))) (gName 3)) (tSeq (tAsg (tOp (rAdd K) (tVar 3) (tLst (tCons (tC (.str "d")) (tCons (tC (.str "e")) (tCons (tC (.str "reads")) (tCons (tC (.str "leg")) (tCons (tC (.str "x")) (tCons (tC (.str "i")) (tCons (tC (.str "q")) (tCons (tC (.str "h")) tNil)))))))))) (gName 3)) (tSeq (tFor (iRng1 (tCons (tFn (sp_Ldraw K) [] W0 (tCons (tVar 0) (tCons (tOp SJ.rSub (tOp (rAdd K) (tVar 1) (tC (.int 1))) (tCB (rLenU K) (tCons (tDGet (tVar 2) (tC (.str "rails"))) tNil))) tNil))) tNil)) (gName 4) (tSeq (tAsg (tOp (rIx K) (tLst (tCons (tC (.str "drivers")) (tCons (tC (.str "drivers")) (tCons (tC (.str "drivers")) (tCons (tC (.str "drivers")) (tCons (tC (.str "listeners")) tNil)))))) (tFn (sp_Ldraw K) [] W0 (tCons (tVar 0) (tCons (tC (.int 5)) tNil)))) (gName 5)) (sDPut (tVar 2) (tVar 5) (tCB (rSortedS K) (tCons (tOp (rAdd K) (tDGet (tVar 2) (tVar 5)) (tLst (tCons (tBM K "list" rPopAt (tVar 3) (tCons (tFn (sp_Ldraw K) [] W0 (tCons (tVar 0) (tCons (tCB (rLenU K) (tCons (tVar 3) tNil)) tNil))) tNil)) tNil))) tNil))))) (tRet (tVar 2)))))))
def t_Lframe (K : PySem.W.Frag) : TS := (tSeq (tAsg (tOp (rAdd K) (tLc (iList K (tDGet (tVar 0) (tC (.str "drivers")))) (gName 2) tYes (tNw (ga K "Driver") (sp_Leg_init K) [] W0 (tCons (tVar 2) tNil)) [2]) (tLc (iList K (tDGet (tVar 0) (tC (.str "listeners")))) (gName 2) tYes (tNw (ga K "Listener") (sp_Leg_init K) [] W0 (tCons (tVar 2) tNil)) [2])) (gName 1)) (tSeq (tAsg (tDGet (tVar 0) (tC (.str "rails"))) (gName 3)) (tRet (tCmK (ga K "Frame") 1 3 (sp_Frame_of K) gkbm_Frame_of_2_top_ground_power W0 (tC (.ref (ga K "Frame"))) (tCons (tVar 1) tNil) (tCons (tDGet (tVar 0) (tC (.str "top"))) (tCons (tOp (rInU K false) (tC (.str "ground")) (tVar 3)) (tCons (tOp (rInU K false) (tC (.str "power")) (tVar 3)) tNil)))))))
def t_Lframe_lines (K : PySem.W.Frag) : TS := (tSeq (tAsg (tCB (rDictL K) (tCons (tLc (iList K (tDGet (tVar 0) (tC (.str "drivers")))) (gName 2) tYes (tTup (tCons (tVar 2) (tCons (tC (.str "driver")) tNil))) [2]) tNil)) (gName 1)) (tSeq (tDrop (tBM K "dict" rDUpd (tVar 1) (tCons (tCB (rDictL K) (tCons (tLc (iList K (tDGet (tVar 0) (tC (.str "listeners")))) (gName 2) tYes (tTup (tCons (tVar 2) (tCons (tC (.str "listener")) tNil))) [2]) tNil)) tNil))) (tSeq (tAsg (tLst (tCons (tM1 (rJoin K) (tC (.str " ")) (tOp (rAdd K) (tLst (tCons (tC (.str "frame")) (tCons (tCB rStrI (tCons (tDGet (tVar 0) (tC (.str "top"))) tNil)) tNil))) (tDGet (tVar 0) (tC (.str "rails"))))) tNil)) (gName 3)) (tRet (tOp (rAdd K) (tVar 3) (tLc (iList K (tCB (rSortedS K) (tCons (tCB rListD (tCons (tVar 1) tNil)) tNil))) (gName 2) tYes (tOp (rAdd K) (tOp (rAdd K) (tDGet (tVar 1) (tVar 2)) (tC (.str " "))) (tVar 2)) [2]))))))
def t_Lnumber (K : PySem.W.Frag) : TS := (tSeq (tIfS (tOr (tTest (tOp (rNeU K) (tCB (rLenU K) (tCons (tVar 0) tNil)) (tC (.int 1)))) (tTest (tOp (rInU K true) (tOp (rIx K) (tVar 0) (tC (.int 0))) (tLc (iRng1 (tCons (tOp (rAdd K) (tVar 1) (tC (.int 1))) tNil)) (gName 2) tYes (tCB rStrI (tCons (tVar 2) tNil)) [2])))) (tRet (tC .non)) tNext) (tRet (tCB rIntS (tCons (tOp (rIx K) (tVar 0) (tC (.int 0))) tNil))))
def t_Lis_name (K : PySem.W.Frag) : TS := (tSeq (tIfS (tOr (tNot (tTest (tChain rLtU rLtU (tC (.int 0)) (tCB (rLenU K) (tCons (tVar 0) tNil)) (tC (.int 9))))) (tTest (tOp (rInU K false) (tVar 0) (tTup (tCons (tC (.str "ground")) (tCons (tC (.str "power")) (tCons (tC (.str "nothing")) tNil))))))) (tRet (tC (.bl false))) tNext) (tRet (tOp (rEqU K) (tLc (iStr (tVar 0)) (gName 1) (tTest (tOp rNotInS (tVar 1) (tC (.str "abcdefghijklmnopqrstuvwxyz")))) (tVar 1) [1]) (tLst tNil))))
def t_Lframe_in (K : PySem.W.Frag) : TS := (tSeq (tIfS (tOr (tTest (tOp (rSeqC K (dSeq K (a_Leg_eq K) (sp_Leg_eq K)) true) (tVar 0) (tLst tNil))) (tTest (tOp (rNeU K) (tOp (rIx K) (tOp (rIx K) (tVar 0) (tC (.int 0))) (tC (.int 0))) (tC (.str "frame"))))) (tRet (tTup (tCons (tC (.int 0)) (tCons (tC (.int 0)) tNil)))) tNext) (tSeq (tPar 1 2 (tCons (tOp (rIx K) (tVar 0) (tC (.int 0))) (tCons (tLst tNil) tNil))) (tSeq (tIfS (tTest (tOp (rInH K false) (tFn (sp_Lnumber K) [] W0 (tCons (tSl (rSlU K) (tVar 1) (tPart (tC (.int 1))) (tPart (tC (.int 2)))) (tCons (tC (.int 3)) tNil))) (tTup (tCons (tC .non) (tCons (tC (.int 0)) tNil))))) (tRet (tTup (tCons (tC (.int 0)) (tCons (tC (.int 1)) tNil)))) tNext) (tSeq (tFor (iTup K (tTup (tCons (tC (.str "ground")) (tCons (tC (.str "power")) tNil)))) (gName 3) (tSeq (tAsg (tOp (rAdd K) (tC (.int 2)) (tCB (rLenU K) (tCons (tVar 2) tNil))) (gName 4)) (tAsg (tOp (rAdd K) (tVar 2) (tOp (rMul K) (tLst (tCons (tVar 3) tNil)) (tCB rInt (tCons (tOp (rEqU K) (tSl (rSlU K) (tVar 1) (tPart (tVar 4)) (tPart (tOp (rAdd K) (tVar 4) (tC (.int 1))))) (tLst (tCons (tVar 3) tNil))) tNil)))) (gName 2)))) (tSeq (tIfS (tTest (tOp rGtU (tCB (rLenU K) (tCons (tVar 1) tNil)) (tOp (rAdd K) (tC (.int 2)) (tCB (rLenU K) (tCons (tVar 2) tNil))))) (tRet (tTup (tCons (tC (.int 0)) (tCons (tOp (rAdd K) (tC (.int 2)) (tCB (rLenU K) (tCons (tVar 2) tNil))) tNil)))) tNext) (tSeq (tAsg (tDisp [((tC (.str "top")), (tCB rIntS (tCons (tOp (rIx K) (tVar 1) (tC (.int 1))) tNil))), ((tC (.str "drivers")), (tLst tNil)), ((tC (.str "listeners")), (tLst tNil)), ((tC (.str "rails")), (tVar 2))]) (gName 5)) (tSeq (tFor (iRng2 (tCons (tC (.int 1)) (tCons (tCB (rLenU K) (tCons (tVar 0) tNil)) tNil))) (gName 4) (tSeq (tAsg (tOp (rIx K) (tVar 0) (tVar 4)) (gName 6)) (tSeq (tIfS (tOr (tTest (tOp (rInU K true) (tOp (rIx K) (tVar 6) (tC (.int 0))) (tTup (tCons (tC (.str "driver")) (tCons (tC (.str "listener")) tNil))))) (tTest (tOp rGtU (tVar 4) (tC (.int 40))))) (tRet (tTup (tCons (tVar 4) (tCons (tC (.int 0)) tNil)))) tNext) (tSeq (tAsg (tOp (rAdd K) (tDGet (tVar 5) (tC (.str "drivers"))) (tDGet (tVar 5) (tC (.str "listeners")))) (gName 7)) (tSeq (tIfS (tOr (tTest (tOp rLtU (tCB (rLenU K) (tCons (tVar 6) tNil)) (tC (.int 2)))) (tOr (tNot (tB (tFn (sp_Lis_name K) [] W0 (tCons (tOp (rIx K) (tVar 6) (tC (.int 1))) tNil)))) (tTest (tOp (rInU K false) (tOp (rIx K) (tVar 6) (tC (.int 1))) (tVar 7))))) (tRet (tTup (tCons (tVar 4) (tCons (tC (.int 1)) tNil)))) tNext) (tSeq (tIfS (tTest (tOp rGtU (tCB (rLenU K) (tCons (tVar 6) tNil)) (tC (.int 2)))) (tRet (tTup (tCons (tVar 4) (tCons (tC (.int 2)) tNil)))) tNext) (sDPut (tVar 5) (tOp (rAdd K) (tOp (rIx K) (tVar 6) (tC (.int 0))) (tC (.str "s"))) (tCB (rSortedS K) (tCons (tOp (rAdd K) (tDGet (tVar 5) (tOp (rAdd K) (tOp (rIx K) (tVar 6) (tC (.int 0))) (tC (.str "s")))) (tLst (tCons (tOp (rIx K) (tVar 6) (tC (.int 1))) tNil))) tNil))))))))) (tRet (tVar 5)))))))))
def t_Lspoilt (K : PySem.W.Frag) : TS := (tSeq (tAsg (tLst (tCons (tC (.str "")) (tCons (tC (.str "frame")) (tCons (tC (.str "driver")) (tCons (tC (.str "listener")) (tCons (tC (.str "ground")) (tCons (tC (.str "power")) (tCons (tC (.str "rest")) (tCons (tC (.str "word")) (tCons (tC (.str "reads")) (tCons (tC (.str "block")) (tCons (tC (.str "nothing")) (tCons (tC (.str "A")) (tCons (tC (.str "a")) tNil)))))))))))))) (gName 2)) (tSeq (tAsg (tOp (rAdd K) (tVar 2) (tLst (tCons (tC (.str "b")) (tCons (tC (.str "0")) (tCons (tC (.str "1")) (tCons (tC (.str "2")) (tCons (tC (.str "3")) (tCons (tC (.str "4")) (tCons (tC (.str "00")) (tCons (tC (.str "01")) (tCons (tC (.str "10")) (tCons (tC (.str "-1")) (tCons (tC (.str "100")) (tCons (tC (.str "a=0")) (tCons (tC (.str "a=00")) (tCons (tC (.str "=0")) (tCons (tC (.str "a=")) (tCons (tC (.str "a=0=0")) (tCons (tC (.str "b=1")) tNil))))))))))))))))))) (gName 2)) (tSeq (tAsg (tOp (rAdd K) (tVar 2) (tLst (tCons (tC (.str "+1")) (tCons (tC (.str "-0")) (tCons (tC (.str "+0")) (tCons (tC (.str "a=+1")) (tCons (tC (.str "a=-0")) tNil))))))) (gName 2)) (tSeq (tAsg (tLc (iList K (tVar 1)) (gName 4) tYes (tM1 rSplit (tVar 4) (tC (.str " "))) [4]) (gName 3)) (tSeq (tPar 5 6 (tCons (tFn (sp_Ldraw K) [] W0 (tCons (tVar 0) (tCons (tCB (rLenU K) (tCons (tVar 3) tNil)) tNil))) (tCons (tFn (sp_Ldraw K) [] W0 (tCons (tVar 0) (tCons (tC (.int 10)) tNil))) tNil))) (tSeq (tAsg (tOp (rIx K) (tVar 3) (tVar 5)) (gName 7)) (tSeq (tAsg (tFn (sp_Ldraw K) [] W0 (tCons (tVar 0) (tCons (tCB (rLenU K) (tCons (tVar 7) tNil)) tNil))) (gName 8)) (tSeq (tIfS (tTest (tOp rLtU (tVar 6) (tC (.int 3)))) (tAsg (tOp (rAdd K) (tOp (rAdd K) (tSl (rSlU K) (tVar 7) tNoPart (tPart (tVar 8))) (tLst (tCons (tFn (sp_Lpick K) [] W0 (tCons (tVar 0) (tCons (tVar 2) tNil))) tNil))) (tSl (rSlU K) (tVar 7) (tPart (tOp (rAdd K) (tVar 8) (tC (.int 1)))) tNoPart)) (gName 7)) tNext) (tSeq (tIfS (tTest (tOp (rEqU K) (tVar 6) (tC (.int 3)))) (tAsg (tOp (rAdd K) (tSl (rSlU K) (tVar 7) tNoPart (tPart (tVar 8))) (tSl (rSlU K) (tVar 7) (tPart (tOp (rAdd K) (tVar 8) (tC (.int 1)))) tNoPart)) (gName 7)) tNext) (tSeq (tIfS (tTest (tOp (rEqU K) (tVar 6) (tC (.int 4)))) (tAsg (tOp (rAdd K) (tOp (rAdd K) (tSl (rSlU K) (tVar 7) tNoPart (tPart (tOp (rAdd K) (tVar 8) (tC (.int 1))))) (tLst (tCons (tFn (sp_Lpick K) [] W0 (tCons (tVar 0) (tCons (tVar 2) tNil))) tNil))) (tSl (rSlU K) (tVar 7) (tPart (tOp (rAdd K) (tVar 8) (tC (.int 1)))) tNoPart)) (gName 7)) tNext) (tSeq (tIfS (tTest (tOp (rEqU K) (tVar 6) (tC (.int 5)))) (tAsg (tOp (rAdd K) (tVar 7) (tLst (tCons (tFn (sp_Lpick K) [] W0 (tCons (tVar 0) (tCons (tVar 7) tNil))) tNil))) (gName 7)) tNext) (tSeq (tAsg (tOp (rAdd K) (tOp (rAdd K) (tSl (rSlU K) (tVar 1) tNoPart (tPart (tVar 5))) (tLst (tCons (tM1 (rJoin K) (tC (.str " ")) (tVar 7)) tNil))) (tSl (rSlU K) (tVar 1) (tPart (tOp (rAdd K) (tVar 5) (tC (.int 1)))) tNoPart)) (gName 9)) (tSeq (tIfS (tTest (tOp (rEqU K) (tVar 6) (tC (.int 6)))) (tAsg (tOp (rAdd K) (tOp (rAdd K) (tSl (rSlU K) (tVar 1) tNoPart (tPart (tVar 5))) (tSl (rSlU K) (tVar 1) (tPart (tVar 5)) (tPart (tOp (rAdd K) (tVar 5) (tC (.int 1)))))) (tSl (rSlU K) (tVar 1) (tPart (tVar 5)) tNoPart)) (gName 9)) tNext) (tSeq (tIfS (tTest (tOp (rEqU K) (tVar 6) (tC (.int 7)))) (tAsg (tOp (rAdd K) (tSl (rSlU K) (tVar 1) tNoPart (tPart (tVar 5))) (tSl (rSlU K) (tVar 1) (tPart (tOp (rAdd K) (tVar 5) (tC (.int 1)))) tNoPart)) (gName 9)) tNext) (tSeq (tIfS (tTest (tOp (rEqU K) (tVar 6) (tC (.int 8)))) (tSeq (tAsg (tSl (rSlU K) (tLst (tCons (tFn (sp_Lpick K) [] W0 (tCons (tVar 0) (tCons (tVar 2) tNil))) (tCons (tFn (sp_Lpick K) [] W0 (tCons (tVar 0) (tCons (tVar 2) tNil))) tNil))) tNoPart (tPart (tOp (rAdd K) (tC (.int 1)) (tFn (sp_Ldraw K) [] W0 (tCons (tVar 0) (tCons (tC (.int 2)) tNil)))))) (gName 10)) (tAsg (tOp (rAdd K) (tOp (rAdd K) (tSl (rSlU K) (tVar 1) tNoPart (tPart (tVar 5))) (tLst (tCons (tM1 (rJoin K) (tC (.str " ")) (tVar 10)) tNil))) (tSl (rSlU K) (tVar 1) (tPart (tVar 5)) tNoPart)) (gName 9))) tNext) (tRet (tIf (tTest (tOp rLtU (tVar 6) (tC (.int 9)))) (tVar 9) (tOp (rAdd K) (tVar 1) (tLst (tCons (tC (.str "")) tNil))))))))))))))))))))
def t_Lheard (K : PySem.W.Frag) (f c : Addr) (q : Str) (tl : XK → Hp → VK → Prop) : TS := (tSeq (tTryK K (ga K "JoinError") 1 (fun W => (tRet (tLst (tCons (tAct f c q W tl) tNil)))) (fun a cls d => (tRtN a (tIfS (tAnd (tB (tCB (rIsiP K a cls d) (tCons (tVar 1) (tCons (tC (.ref (ga K "InvalidText"))) tNil)))) (tB (tCB (rIsiP K a cls d) (tCons (tVar 1) (tCons (tC (.ty "ValueError")) tNil))))) (tRet (tTup (tCons (tXf a cls d (ga K "InvalidText") "line" (tVar 1)) (tCons (tXf a cls d (ga K "InvalidText") "word" (tVar 1)) tNil)))) tNext))) W0) (tRet (tC (.str "other"))))
def t_Lright (K : PySem.W.Frag) : TS := (tSeq (tAsg (tFn (sp_Lframe_in K) [] W0 (tCons (tLc (iList K (tM1 rSplit (tVar 0) (tC (.str "\n")))) (gName 2) tYes (tM1 rSplit (tVar 2) (tC (.str " "))) [2]) tNil)) (gName 1)) (tSeq (tAsg (tLam (TB K) (TT_Lheard K) (tS fun W => (tFn (sp_read_frame K) [] W (tCons (tVar 0) tNil)))) (gName 3)) (tSeq (tIfS (tB (tCB (rIsi K) (tCons (tVar 1) (tCons (tC (.ty "tuple")) tNil)))) (tRet (tAndV (tOp (rEqU K) (tCB (rReprU K) (tCons (tVar 3) tNil)) (tCB (rReprU K) (tCons (tVar 1) tNil))) (tOp (rEqU K) (tLam (TB K) (TT_Lheard K) (tS fun W => (tFnK 0 1 (sp_read_frame K) gkb_read_frame_0_text W tNil (tCons (tVar 0) tNil)))) (tVar 1)))) tNext) (tRet (tOp (rSeqC K (dSeq K (a_Frame_eq K) (sp_Frame_eq K)) true) (tVar 3) (tLst (tCons (tFn (sp_Lframe K) [] W0 (tCons (tVar 1) tNil)) tNil)))))))
def t_Lmany_right (K : PySem.W.Frag) : TS := (tSeq (tAsg (tLc (iRng1 (tCons (tC (.int 40)) tNil)) (gName 1) tYes (tOp (rAdd K) (tOp (rIx K) (tC (.str "abcdefg")) (tOp rFdv (tVar 1) (tC (.int 6)))) (tOp (rIx K) (tC (.str "hijklm")) (tOp rMod (tCB rInt (tCons (tVar 1) tNil)) (tC (.int 6))))) [1]) (gName 0)) (tSeq (tAsg (tOp (rAdd K) (tLst (tCons (tC (.str "frame 1")) tNil)) (tLc (iList K (tVar 0)) (gName 3) tYes (tOp (rAdd K) (tC (.str "driver ")) (tVar 3)) [3])) (gName 2)) (tRet (tAndV (tFn (sp_Lright K) [] W0 (tCons (tM1 (rJoin K) (tC (.str "\n")) (tVar 2)) tNil)) (tOp (rEqU K) (tLam (TB K) (TT_Lheard K) (tS fun W => (tFn (sp_read_frame K) [] W (tCons (tM1 (rJoin K) (tC (.str "\n")) (tOp (rAdd K) (tVar 2) (tLst (tCons (tC (.str "driver a")) tNil)))) tNil)))) (tTup (tCons (tC (.int 41)) (tCons (tC (.int 0)) tNil))))))))
def t_law (K : PySem.W.Frag) : TS := (tSeq (tAsg (tFn (sp_Lpen K) [] W0 (tCons (tVar 0) tNil)) (gName 1)) (tSeq (tFor (iRng1 (tCons (tC (.int 10)) tNil)) (gName 2) (tSeq (tAsg (tFn (sp_Lframe_lines K) [] W0 (tCons (tFn (sp_Lbare K) [] W0 (tCons (tVar 1) (tCons (tC (.int 8)) tNil))) tNil)) (gName 3)) (tSeq (tFor (iRng1 (tCons (tOp (rAdd K) (tC (.int 1)) (tFn (sp_Ldraw K) [] W0 (tCons (tVar 1) (tCons (tC (.int 2)) tNil)))) tNil)) (gName 4) (tAsg (tIf (tTest (tOp (rNeU K) (tVar 3) (tLst tNil))) (tFn (sp_Lspoilt K) [] W0 (tCons (tVar 1) (tCons (tVar 3) tNil))) (tVar 3)) (gName 3))) (tIfS (tNot (tB (tFn (sp_Lright K) [] W0 (tCons (tM1 (rJoin K) (tC (.str "\n")) (tVar 3)) tNil)))) (tRet (tC (.bl false))) tNext)))) (tSeq (tFor (iTup K (tTup (tCons (tC .non) (tCons (tC (.int 5)) (tCons (tC (.bl true)) (tCons (tTup tNil) (tCons (tLst tNil) (tCons tDNewK (tCons (tLst (tCons (tC (.str "frame 1")) tNil)) tNil))))))))) (gName 5) (tIfS (tTest (tOp (rNeU K) (tLam (TB K) (TT_Lheard K) (tS fun W => (tFn (sp_read_frame K) [] W (tCons (tVar 5) tNil)))) (tTup (tCons (tC (.int 0)) (tCons (tC (.int 0)) tNil))))) (tRet (tC (.bl false))) tNext)) (tSeq (tAsg (tLst (tCons (tC (.str "")) (tCons (tC (.str "frame")) (tCons (tC (.str "frame 0")) (tCons (tC (.str "frame 1 power ground")) (tCons (tC (.str "frame 1 ground ground")) (tCons (tC (.str "frame 2\n")) (tCons (tC (.str "frame 01")) tNil)))))))) (gName 6)) (tSeq (tAsg (tOp (rAdd K) (tVar 6) (tLst (tCons (tC (.str "frame +1")) (tCons (tC (.str "frame -1")) tNil)))) (gName 6)) (tSeq (tAsg (tOp (rAdd K) (tVar 6) (tLst (tCons (tC (.str "frame 1\ndriver a{")) (tCons (tC (.str "frame 1\ndriver `")) (tCons (tC (.str "frame 1\nlistener {")) (tCons (tC (.str "frame 1\ndriver a`b")) tNil)))))) (gName 6)) (tRet (tAndV (tOp (rEqU K) (tLc (iList K (tVar 6)) (gName 7) (tNot (tB (tFn (sp_Lright K) [] W0 (tCons (tVar 7) tNil)))) (tVar 7) [7]) (tLst tNil)) (tFn (sp_Lmany_right K) [] W0 tNil)))))))))
end K86
namespace K86
open PySem PySem.Spec PyProof.Rows L2 He SJ
open LamX (CodeO lamS_by Tabs tLam)
section
variable {ρ : Ro} {d : D} {P : D → Ro → Prop} {PL : List D → Ro → Prop} {x : X} {xs : List X} {n : Nat}
theorem frz_v (k : P d ρ) : Frz (.val d) ρ P := k
theorem ite_t {A B : Prop} (k : A) : if (true = true) then A else B := k
theorem ite_f {A B : Prop} (k : B) : if (false = true) then A else B := k
theorem bl_v {b : Bool} {Pb : Bool → Prop} (k : Pb b) : ∃ c, X.val (.bl b) = X.val (.bl c) ∧ Pb c := ⟨b, rfl, k⟩
end
section
variable {K : PySem.W.Frag} {mg : Str → Option Value} {vs : List V} {H : Hp} {Q : VK} {E : XK}
def kdS (b : Bool) : Str := if b then "driver" else "listener"
theorem leg_con (T : Tx K mg) (b : Bool) : CnOk K (lc b) "KIND" (.str (kdS b)) := by
  cases b with
  | true => exact ⟨T.in_Driver.cl, T.k_Driver.elim fun t h => ⟨_, h⟩⟩
  | false => exact ⟨T.in_Listener.cl, T.k_Listener.elim fun t h => ⟨_, h⟩⟩
theorem leg_fld (T : Tx K mg) (b : Bool) : FdOk K (lc b) "name" := by
  cases b with
  | true => exact ⟨T.in_Driver.cl, T.n_Driver⟩
  | false => exact ⟨T.in_Listener.cl, T.n_Listener⟩
theorem leg_ty (T : Tx K mg) (l : Lg) : TyOk K (legD l) := by
  obtain ⟨b, z⟩ := l
  cases b with
  | true => exact T.in_Driver
  | false => exact T.in_Listener
theorem pure_is_integer (T : Tx K mg) (h : sp_is_integer K vs H Q E) : t_is_integer K { nx := fun _ H2 => Q .non H2, rt := Q } (start ["value"] vs) H := by
  refine body_pu h fun o w F0 ds Qd Ed ⟨i, e, q⟩ hW => ?_
  subst e
  refine ms_ret (m_andV (m_cb (m_cons (m_var rfl (m_cons (m_cT (m_nil (c_isiY rfl trivial T.ki_int (bl_v ?_)))))))))
  refine m_notV (m_cb (m_cons (m_var rfl (m_cons (m_cT (m_nil (c_isiY rfl trivial T.kb_int (bl_v ?_))))))))
  exact q
theorem pure_Leg_eq (T : Tx K mg) (h : sp_Leg_eq K vs H Q E) : t_Leg_eq K { nx := fun _ H2 => Q .non H2, rt := Q } (start ["self", "other"] vs) H := by
  refine body_pu h fun o w F0 ds Qd Ed ⟨l, m, e, q⟩ hW => ?_
  subst e
  have hk : PySem.W.kitOne K (tyD K (legD m)) (.ref (ga K "Leg")) = some true := by
    obtain ⟨b, z⟩ := m
    cases b with
    | true => exact T.kit_Driver_Leg
    | false => exact T.kit_Listener_Leg
  refine ms_ret (m_andV (m_cb (m_cons (m_var rfl (m_cons (m_cC (m_nil (c_isiC rfl (leg_ty T m) hk (bl_v ?_)))))))))
  refine m_andV (m_op (m_con (m_var rfl ⟨lc l.drv, _, _, _, rfl, leg_con T l.drv, rfl, fun F => .str _, m_con (m_var rfl ⟨lc m.drv, _, _, _, rfl, leg_con T m.drv, rfl, fun F => .str _, r_eqS (bl_v ?_)⟩)⟩)))
  have e : decide (kdS l.drv = kdS m.drv) = decide (l.drv = m.drv) := by cases l.drv <;> cases m.drv <;> rfl
  rw [e]
  by_cases hb : l.drv = m.drv
  · rw [if_pos (decide_eq_true hb)]
    refine m_op (m_fld (m_var rfl ⟨lc l.drv, _, _, rfl, leg_fld T l.drv, rfl, m_fld (m_var rfl ⟨lc m.drv, _, _, rfl, leg_fld T m.drv, rfl, r_eqS (frz_v ?_)⟩)⟩))
    rw [decide_eq_true hb, Bool.true_and] at q
    exact q
  · rw [if_neg (by rw [decide_eq_false hb]; exact Bool.false_ne_true)]
    rw [decide_eq_false hb, Bool.false_and] at q
    exact q
theorem pure_is_between (T : Tx K mg) (h : sp_is_between K vs H Q E) : t_is_between K { nx := fun _ H2 => Q .non H2, rt := Q } (start ["value", "least", "most"] vs) H := by
  refine body_pu h fun o w F0 ds Qd Ed ⟨v, lo, hi, e, q⟩ hW => ?_
  subst e
  refine ms_ret (m_andV (m_fn wr0 (m_cons (m_var rfl (m_nil ⟨v, rfl, bl_v ?_⟩)))))
  refine m_chain (m_var rfl (m_var rfl (r_leI (bl_v ?_))))
  by_cases h1 : lo ≤ v
  · rw [if_pos (decide_eq_true h1)]
    refine m_var rfl (r_leI (frz_v ?_))
    rw [decide_eq_true h1, Bool.true_and] at q
    exact q
  · rw [if_neg (by rw [decide_eq_false h1]; exact Bool.false_ne_true)]
    rw [decide_eq_false h1, Bool.false_and] at q
    exact q
end
section
variable {K : PySem.W.Frag} {mg : Str → Option Value} {vs : List V} {H : Hp} {Q : VK} {E : XK}
theorem m_yes {O : Oc} {F0 : Hp} {ρ : Ro} {QT : Bool → Ro → Prop} (k : QT true ρ) : Mt K O F0 tYes ρ QT := fun F H σ Qh s R c => c true H F ρ (Same.refl _) R k
def letF : D → D
  | .str s => .bl (s.cps.toList.all fun c => decide (c ∈ letters))
  | _ => .non
theorem letF_map (z : Str) : ((signsD z).filter fun _ => true).map letF = (z.cps.toList.map fun c => decide (c ∈ letters)).map D.bl := by
  rw [List.filter_eq_self.mpr (fun _ _ => rfl)]
  unfold signsD
  rw [List.map_map, List.map_map]
  refine List.map_congr_left fun c _ => ?_
  show D.bl (([c] : List Nat).all fun c => decide (c ∈ letters)) = D.bl _
  rw [List.all_cons, List.all_nil, Bool.and_true]
theorem pure_is_name (T : Tx K mg) (h : sp_is_name K vs H Q E) : t_is_name K { nx := fun _ H2 => Q .non H2, rt := Q } (start ["value", "letter"] vs) H := by
  refine body_pu h fun o w F0 ds Qd Ed ⟨z, e, hz, q⟩ hW => ?_
  subst e
  refine ms_seq (ms_if (m_or (m_not (m_B (m_cb (m_cons (m_var rfl (m_cons (m_cT (m_nil (c_isiY rfl trivial T.ks_str (bl_v ?_))))))))))))
  refine m_not (m_test (m_chain (m_cI (m_cb (m_cons (m_var rfl (m_nil (c_lenS (by omega) (r_leI (bl_v ?_))))))))))
  have go : ∀ b : Bool, (decide (1 ≤ z.length) && decide (z.length ≤ 8)) = b → (b = false → Qd (.bl false)) := fun b hb e => by
    subst e
    unfold nameB at q
    rw [← Bool.and_assoc, hb, Bool.false_and] at q
    exact q
  have fin : decide (1 ≤ z.length) = true → decide (z.length ≤ 8) = true → Ms K ⟨o, w, TB K⟩ F0 (tRet (tAndV (tCB (rAll K) (tCons (tLc (iStr (tVar 0)) (gName 1) tYes (tOp rInS (tVar 1) (tC (.str "abcdefghijklmnopqrstuvwxyz"))) [1]) tNil)) (tOp (rInU K true) (tVar 0) (tTup (tCons (tC (.str "ground")) (tCons (tC (.str "power")) (tCons (tC (.str "nothing")) tNil))))))) [.val (.str z), .none] { nx := fun _ => Qd .non, rt := fun d _ => Qd d } := fun h1 h2 => by
    refine ms_ret (m_andV (m_cb (m_cons (m_f (mf_lcM [1] (fun _ => true) letF (by decide) (by decide) (mi_str (m_var rfl ⟨z, rfl, ?_, ?_, fun d hd oo ww => ?_, m_nil ?_⟩)))))))
    · unfold signsD; rw [List.length_map, Array.length_toList]; exact Nat.le_trans hz (by decide)
    · intro v hv
      rcases List.mem_cons.mp hv with rfl | hv
      · rfl
      · cases hv
    · obtain ⟨c, hc, rfl⟩ := List.mem_map.mp hd
      refine mg_name ⟨rfl, rfl, m_yes ⟨rfl, rfl, fun _ => m_op (m_var rfl (m_cS (r_inSign ⟨?_, rfl⟩)))⟩⟩
      show X.val (.bl _) = X.val (.bl (([c] : List Nat).all fun c => decide (c ∈ letters)))
      rw [List.all_cons, List.all_nil, Bool.and_true]
      rfl
    · refine c_allB (bs := z.cps.toList.map fun c => decide (c ∈ letters)) (by rw [letF_map]; rfl) (bl_v ?_)
      have ea : (z.cps.toList.map fun c => decide (c ∈ letters)).all id = z.cps.toList.all fun c => decide (c ∈ letters) := by rw [List.all_map]; rfl
      rw [ea]
      unfold nameB at q
      rw [h1, h2, Bool.true_and, Bool.true_and] at q
      cases hb : z.cps.toList.all fun c => decide (c ∈ letters) with
      | false =>
        rw [hb, Bool.false_and] at q
        exact q
      | true =>
        rw [hb, Bool.true_and] at q
        refine m_op (m_var rfl (m_tup (m_cons (m_cS (m_cons (m_cS (m_cons (m_cS (m_nil ⟨by decide, r_ninStrsT (zs := ["ground", "power", "nothing"]) rfl (frz_v ?_)⟩)))))))))
        exact q
  cases h1 : decide (1 ≤ z.length) with
  | false =>
    have e1 : decide ((1 : Int) ≤ (z.length : Int)) = false := by
      have := of_decide_eq_false h1
      exact decide_eq_false (by omega)
    rw [e1]
    refine ite_f (bl_v (ite_t (ms_ret (m_cB (frz_v ?_)))))
    exact go false (by rw [h1]; rfl) rfl
  | true =>
    have e1 : decide ((1 : Int) ≤ (z.length : Int)) = true := by
      have := of_decide_eq_true h1
      exact decide_eq_true (by omega)
    rw [e1]
    refine ite_t (m_cI (r_leI (bl_v ?_)))
    cases h2 : decide (z.length ≤ 8) with
    | false =>
      have e2 : decide ((z.length : Int) ≤ 8) = false := by
        have := of_decide_eq_false h2
        exact decide_eq_false (by omega)
      rw [e2]
      refine ite_t (ms_ret (m_cB (frz_v ?_)))
      exact go false (by rw [h1, h2]; rfl) rfl
    | true =>
      have e2 : decide ((z.length : Int) ≤ 8) = true := by
        have := of_decide_eq_true h2
        exact decide_eq_true (by omega)
      rw [e2]
      exact ite_f (ms_next (fin h1 h2))
end
end K86
namespace K86
open PySem PySem.Spec PyProof.Rows L2 He SJ
open LamX (CodeO lamS_by Tabs tLam)
section
variable {K : PySem.W.Frag} {mg : Str → Option Value} {vs : List V} {H : Hp} {Q : VK} {E : XK}
theorem pure_Leg_init (T : Tx K mg) (h : sp_Leg_init K vs H Q E) : t_Leg_init K E { nx := fun _ H2 => Q .non H2, rt := Q } (start ["self", "name"] vs) H := by
  refine body_pin h fun o w F0 c ds Qd Ed ⟨b, z, ec, e, hz, hn, q⟩ hW => ?_
  subst e ec
  refine ms_seq (ms_if (m_not (m_B (m_fn hW (m_cons (m_var rfl (m_nil ⟨z, rfl, hz, bl_v ?_⟩)))))))
  rw [hn]
  refine ite_f (ms_next (ms_fld rfl (m_var rfl (frz_v ⟨lc b, [], rfl, leg_fld T b, by decide, _, rfl, q⟩))))
theorem setN_nodup {zs : List Str} (h : zs.Nodup) : setN zs = zs.length := by
  have : ∀ (zs : List Str) (q : (Key → Bool) × Nat), zs.Nodup → (∀ z ∈ zs, q.1 (.inr z) = false) → (zs.foldl (fun (q : (Key → Bool) × Nat) z => (addS q.1 (.inr z), addN q.1 (.inr z) q.2)) q).2 = q.2 + zs.length := by
    intro zs
    induction zs with
    | nil => intro q _ _; rfl
    | cons z zs ih =>
      intro q hn hq
      obtain ⟨h1, h2⟩ := List.nodup_cons.mp hn
      rw [List.foldl_cons, ih _ h2 (fun y hy => ?_), List.length_cons]
      · show addN q.1 (.inr z) q.2 + zs.length = _
        unfold addN
        rw [if_neg (by rw [hq z (List.mem_cons_self ..)]; exact Bool.false_ne_true)]
        omega
      · show (q.1 (.inr y) || decide ((.inr y : Key) = .inr z)) = false
        rw [hq y (List.mem_cons_of_mem _ hy), Bool.false_or]
        exact decide_eq_false (fun e => h1 (by injection e with e; rw [← e]; exact hy))
  have := this zs ((fun _ => false), 0) h (fun _ _ => rfl)
  rw [Nat.zero_add] at this
  exact this
theorem has_legs (T : Tx K mg) : ∀ ls : List Lg, Paired (HasD K "name") (ls.map legD) (ls.map (·.nm))
  | [] => .nil
  | l :: ls => .cons ⟨lc l.drv, _, rfl, leg_fld T l.drv, rfl⟩ (has_legs T ls)
theorem leg_any (T : Tx K mg) (l : Lg) : PySem.W.kitAny K (tyD K (legD l)) ([D.cls "Driver", D.cls "Listener"].map (clsV K)) = some true := by
  obtain ⟨b, z⟩ := l
  cases b with
  | true => exact T.ka_Driver
  | false => exact T.ka_Listener
theorem all_true {α : Type} (xs : List α) : (xs.map fun _ => true).all id = true := by rw [List.all_map]; exact List.all_eq_true.mpr fun _ _ => rfl
theorem map_true (ds : List D) : (ds.filter fun _ => true).map (fun _ => D.bl true) = (ds.map fun _ => true).map D.bl := by
  rw [List.filter_eq_self.mpr (fun _ _ => rfl), List.map_map]; rfl
theorem one_free {ρ : Ro} {n : Nat} (h : (sl ρ n).mut = false) : ∀ v ∈ [n], (sl ρ v).mut = false := fun v hv => by
  rcases List.mem_cons.mp hv with rfl | hv
  · exact h
  · cases hv
theorem pure_fault_of {P : Program} {w : World} (T : Tx K mg) (h : sp_fault_of K vs H Q E) : t_fault_of K P w { nx := fun _ H2 => Q .non H2, rt := Q } (start ["legs", "most", "top", "rails", "leg", "rail"] vs) H := by
  refine body_pu h fun o w F0 ds Qd Ed ⟨ls, top, g, p, e, hL, t1, t2, q⟩ hW => ?_
  subst e
  have hl : (ls.map legD).length = ls.length := List.length_map ..
  refine ms_seq (ms_if (m_not (m_B (m_cb (m_cons (m_f (mf_lcM [4] (fun _ => true) (fun _ => .bl true) (by decide) (by decide) (mi_tup (m_var rfl (frz_v ⟨_, rfl, ?_, one_free rfl, fun d hd oo ww => ?_, m_nil ?_⟩))))))))))
  · rw [hl]; exact Nat.le_trans hL.1 (by decide)
  · obtain ⟨l, hl, rfl⟩ := List.mem_map.mp hd
    exact mg_name ⟨rfl, rfl, m_yes ⟨rfl, rfl, fun _ => m_cb (m_cons (m_var rfl (m_cons (m_tup (m_cons (m_cC (m_cons (m_cC (m_nil ⟨by decide, m_nil (c_isiM rfl (leg_ty T l) rfl (leg_any T l) ⟨rfl, rfl⟩)⟩)))))))))⟩⟩
  · rw [map_true]
    refine c_allB rfl (bl_v ?_)
    rw [all_true]
    refine ite_f (ms_next ?_)
    refine ms_seq (ms_if (m_test (m_op (m_cb (m_cons (m_var rfl (m_nil (c_lenT rfl (m_var rfl (r_gtI (bl_v ?_)))))))))))
    rw [decide_eq_false (show ¬ ((40 : Int) < ((ls.map legD).length : Int)) by rw [hl]; have := hL.1; omega)]
    refine ite_f (ms_next ?_)
    refine ms_seq (ms_if (m_test (m_op (m_lenSc (j := 4) (by decide) (m_var rfl (frz_v ⟨_, _, rfl, by rw [hl]; exact Nat.le_trans hL.1 (by decide), show 4 < 6 by decide, has_legs T ls, m_cb (m_cons (m_var rfl (m_nil (c_lenT rfl (r_ltI (bl_v ?_))))))⟩))))))
    rw [setN_nodup hL.2.1, List.length_map, hl, decide_eq_false (Int.lt_irrefl _)]
    refine ite_f (ms_next ?_)
    refine ms_seq (ms_if (m_not (m_B (m_fn wr0 (m_cons (m_var rfl (m_cons (m_cI (m_cons (m_cI (m_nil ⟨top, 1, 3, rfl, bl_v ?_⟩)))))))))))
    rw [decide_eq_true t1, decide_eq_true t2]
    refine ite_f (ms_next ?_)
    refine ms_ret (m_ife (m_B (m_cb (m_cons (m_f (mf_lcM [5] (fun _ => true) (fun _ => .bl true) (by decide) (by decide) (mi_tup (m_var rfl (frz_v ⟨_, rfl, show 2 ≤ 10000 by decide, one_free rfl, fun d hd oo ww => ?_, m_nil ?_⟩)))))))))
    · have hb : ∃ b, d = .bl b := by
        rcases List.mem_cons.mp hd with rfl | hd
        · exact ⟨_, rfl⟩
        · rcases List.mem_cons.mp hd with rfl | hd
          · exact ⟨_, rfl⟩
          · cases hd
      obtain ⟨b, rfl⟩ := hb
      exact mg_name ⟨rfl, rfl, m_yes ⟨rfl, rfl, fun _ => m_cb (m_cons (m_var rfl (m_cons (m_cT (m_nil (c_isiY rfl trivial T.kb_bool ⟨rfl, rfl⟩))))))⟩⟩
    · rw [map_true]
      refine c_allB rfl (bl_v ?_)
      rw [all_true]
      exact ite_t (m_cN q)
end
end K86
namespace K86
open PySem PySem.Spec PyProof.Rows L2 He SJ
open LamX (CodeO lamS_by Tabs tLam)
section
variable {K : PySem.W.Frag} {mg : Str → Option Value} {vs : List V} {H : Hp} {Q : VK} {E : XK}
theorem zip_self {α β : Type} (f : α → β) : ∀ ls : List α, (ls.zip (ls.map f)).map (·.1) = ls
  | [] => rfl
  | l :: ls => by rw [List.map_cons, List.zip_cons_cons, List.map_cons, zip_self f ls]
theorem sortL_perm (ls : List Lg) : (sortL ls).Perm ls := by
  have h := (List.mergeSort_perm (ls.zip (ls.map (·.nm))) (PySem.W.dataLe false fun q => PyData.str q.2)).map (·.1)
  rw [zip_self] at h
  exact h
theorem zip_leg : ∀ (ls : List Lg) (zs : List Str), (ls.map legD).zip zs = (ls.zip zs).map fun q => (legD q.1, q.2)
  | [], _ => rfl
  | l :: ls, [] => rfl
  | l :: ls, z :: zs => by rw [List.map_cons, List.zip_cons_cons, List.zip_cons_cons, List.map_cons, zip_leg ls zs]
theorem sortD_legs (ls : List Lg) : sortD (ls.map legD) (ls.map (·.nm)) = (sortL ls).map legD := by
  unfold sortD sortL
  have m1 := List.map_mergeSort (r := PySem.W.dataLe false fun q : Lg × Str => PyData.str q.2) (s := PySem.W.dataLe false fun q : D × Str => PyData.str q.2) (f := fun q => (legD q.1, q.2)) (l := ls.zip (ls.map (·.nm))) (fun a _ b _ => rfl)
  rw [zip_leg, ← m1, List.map_map, List.map_map]
  rfl
def nmK : D → Key
  | .obj _ ((_, .str z) :: _) => .inr z
  | _ => .inl 0
theorem dc_legs (ms : List Lg) (h : (ms.map (·.nm)).Nodup) : dcD nmK id (ms.map legD) = ms.map fun l => ((.inr l.nm : Key), legD l) := by
  have key : ∀ (ms : List Lg) (acc : List (Key × D)), (ms.map (·.nm)).Nodup → (∀ m ∈ ms, (acc.any fun kv => decide (kv.1 = (.inr m.nm : Key))) = false) → (ms.map legD).foldl (fun acc d => putKD acc (nmK d) (id d)) acc = acc ++ ms.map fun l => ((.inr l.nm : Key), legD l) := by
    intro ms
    induction ms with
    | nil => intro acc _ _; rw [List.map_nil, List.foldl_nil, List.map_nil, List.append_nil]
    | cons m ms ih =>
      intro acc hn ha
      rw [List.map_cons] at hn
      obtain ⟨h1, h2⟩ := List.nodup_cons.mp hn
      have e : putKD acc (nmK (legD m)) (id (legD m)) = acc ++ [((.inr m.nm : Key), legD m)] := by
        show putKD acc (.inr m.nm) (legD m) = _
        unfold putKD
        rw [if_neg (by rw [ha m (List.mem_cons_self ..)]; exact Bool.false_ne_true)]
      rw [List.map_cons, List.foldl_cons, e, ih _ h2 (fun y hy => ?_), List.map_cons, List.append_assoc]
      · rfl
      · rw [List.any_append, ha y (List.mem_cons_of_mem _ hy), Bool.false_or, List.any_cons, List.any_nil, Bool.or_false]
        exact decide_eq_false (fun z => h1 (by injection z with z; rw [z]; exact List.mem_map.mpr ⟨y, hy, rfl⟩))
  exact key ms [] h (fun _ _ => rfl)
theorem fr_fld (T : Tx K mg) : FdOk K "Frame" "top" ∧ FdOk K "Frame" "ground" ∧ FdOk K "Frame" "power" ∧ FdOk K "Frame" "own_legs" := ⟨⟨T.in_Frame.cl, T.n_Ftop⟩, ⟨T.in_Frame.cl, T.n_Fground⟩, ⟨T.in_Frame.cl, T.n_Fpower⟩, ⟨T.in_Frame.cl, T.n_Fown_legs⟩⟩
theorem pure_Frame_init (T : Tx K mg) (h : sp_Frame_init K vs H Q E) : t_Frame_init K E { nx := fun _ H2 => Q .non H2, rt := Q } (start ["self", "top", "ground", "power", "legs", "fault", "leg"] vs) H := by
  refine body_pin h fun o w F0 c ds Qd Ed ⟨ls, top, g, p, ec, e, hL, t1, t2, q⟩ hW => ?_
  subst e ec
  have hl : (ls.map legD).length = ls.length := List.length_map ..
  have hs : ((sortL ls).map legD).length = ls.length := by rw [List.length_map, (sortL_perm ls).length_eq]
  refine ms_seq (ms_asg (m_fn hW (m_cons (m_var rfl (m_cons (m_con (m_varS rfl ⟨"Frame", [], .int 40, .int 40, rfl, ⟨T.in_Frame.cl, T.m_Frame.elim fun t h => ⟨_, h⟩⟩, rfl, fun F => .int _, m_cons (m_var rfl (m_cons (m_tup (m_cons (m_var rfl (m_cons (m_var rfl (m_nil ⟨show 2 ≤ 1000 by decide, m_nil ⟨ls, top, g, p, rfl, hL, t1, t2, frz_v ?_⟩⟩))))))))⟩)))))))
  refine ms_seq (ms_if (m_test (m_op (m_var rfl (m_cN (r_isnN (bl_v (ite_f (ms_next ?_)))))))))
  refine ms_seq (ms_fld rfl (m_var rfl (frz_v ⟨"Frame", [], rfl, (fr_fld T).1, by decide, ?_⟩)))
  refine ms_seq (ms_fld rfl (m_var rfl (frz_v ⟨"Frame", _, rfl, (fr_fld T).2.1, show 1 < 1000 by decide, ?_⟩)))
  refine ms_seq (ms_fld rfl (m_var rfl (frz_v ⟨"Frame", _, rfl, (fr_fld T).2.2.1, show 2 < 1000 by decide, ?_⟩)))
  refine ms_fld rfl (m_f (mf_dcM [6] nmK id (by decide) (by decide) (mi_list (m_f (mf_sortA (m_var rfl ⟨_, _, .inl rfl, by rw [hl]; exact Nat.le_trans hL.1 (by decide), has_legs T ls, frz_v ⟨_, rfl, ?_, one_free rfl, fun d hd oo ww => ?_, ?_⟩⟩))))))
  · rw [sortD_legs, hs]; exact Nat.le_trans hL.1 (by decide)
  · rw [sortD_legs] at hd
    obtain ⟨l, hl, rfl⟩ := List.mem_map.mp hd
    exact mg_name ⟨rfl, rfl, m_fld (m_var rfl ⟨lc l.drv, _, _, rfl, leg_fld T l.drv, rfl, rfl, ⟨_, rfl, rfl⟩, m_var rfl ⟨rfl, rfl⟩⟩)⟩
  · refine frz_v ⟨"Frame", _, rfl, (fr_fld T).2.2.2, show 3 < 1000 by decide, _, rfl, ?_⟩
    rw [sortD_legs, dc_legs _ (((sortL_perm ls).map _).nodup_iff.mpr hL.2.1)]
    exact q
end
end K86
namespace K86
open PySem PySem.Spec PyProof.Rows L2 He SJ
open LamX (CodeO lamS_by Tabs tLam)
local macro_rules | `(tactic| walk_at "mr") => `(tactic| repeat' (first
  | with_reducible apply ms_seq | with_reducible apply ms_if | with_reducible apply ms_ret | with_reducible apply ms_next | with_reducible apply s_asg
  | ((with_reducible apply g_var); first | refine m_var rfl ?_ | refine m_varS rfl ?_)
  | with_reducible apply m_cI | with_reducible apply m_cS | with_reducible apply m_cB | with_reducible apply m_cN | with_reducible apply m_cC | with_reducible apply m_cT
  | with_reducible apply m_op | with_reducible apply m_cb | with_reducible apply m_nil | with_reducible apply m_cons | with_reducible apply m_test | with_reducible apply m_B | with_reducible apply q_bl
  | with_reducible apply m_and | with_reducible apply m_or | with_reducible apply m_not | with_reducible apply m_andV | with_reducible apply m_orV | with_reducible apply m_notV | with_reducible apply m_ife | with_reducible apply m_chain
  | with_reducible apply q_v | ((with_reducible apply g_slot); refine q_own rfl ?_) | with_reducible apply q_n | with_reducible apply q_c | with_reducible apply q_t | with_reducible apply q_f | with_reducible apply m_yes
  | with_reducible apply r_addI | with_reducible apply r_subI | with_reducible apply r_eqI | with_reducible apply r_neI | with_reducible apply r_eqS | with_reducible apply r_neS | with_reducible apply r_ltI | with_reducible apply r_leI | with_reducible apply r_gtI | with_reducible apply r_geI
  | with_reducible apply r_isN | with_reducible apply r_isnN | with_reducible apply c_intI | with_reducible apply c_intB | with_reducible apply v_lst | with_reducible apply m_tup | ((with_reducible apply g_le); refine ⟨Nat.le_of_ble_eq_true rfl, ?_⟩) | with_reducible apply v_sl | with_reducible apply v_dnew
  | ((with_reducible apply g_dget); refine m_dget ?_) | refine get_str rfl rfl ?_
  | with_reducible apply m_fld | with_reducible apply m_con | refine ⟨_, _, _, rfl, by walk_at "fd", rfl, ?_⟩
  | ((with_reducible apply g_fn); first | refine m_fn wr0 ?_ | refine m_fn (by assumption) ?_ | refine m_fnP ?_ rfl)
  | ((with_reducible apply g_nw); refine m_nw wr0 ?_) | ((with_reducible apply g_ownGet); refine m_ownGet wr0 ?_) | ((with_reducible apply g_ownIn); refine r_ownIn ?_)
  | ((with_reducible apply g_inS); first | refine r_inStrs rfl ?_ | refine r_inStrsT rfl ?_ | refine r_ninStrsT rfl ?_) | ((with_reducible apply g_len); first | refine c_lenL rfl ?_ | refine c_lenT rfl ?_ | refine c_lenD rfl ?_)
  | ((with_reducible apply g_list); first | refine c_listv (.inl rfl) ?_ | refine c_listv (.inr rfl) ?_) | ((with_reducible apply g_tupU); first | refine c_tupleL rfl ?_ | refine c_tupleT ?_) | ((with_reducible apply g_pr); refine m_pr ?_) | refine ⟨_, _, _, rfl, by walk_at "cl", by walk_at "pr", ?_⟩ | refine ⟨_, rfl, ?_⟩ | fail))
local macro_rules | `(tactic| walk_at "me") => `(tactic| repeat' (first
  | ((with_reducible apply g_var); first | refine m_var rfl ?_ | refine m_varS rfl ?_)
  | with_reducible apply m_cI | with_reducible apply m_cS | with_reducible apply m_cB | with_reducible apply m_cN | with_reducible apply m_cC | with_reducible apply m_cT
  | with_reducible apply m_op | with_reducible apply m_cb | with_reducible apply m_nil | with_reducible apply m_cons | with_reducible apply m_test | with_reducible apply m_B | with_reducible apply q_bl
  | with_reducible apply m_and | with_reducible apply m_or | with_reducible apply m_not | with_reducible apply m_andV | with_reducible apply m_orV | with_reducible apply m_notV | with_reducible apply m_ife | with_reducible apply m_chain
  | with_reducible apply q_v | ((with_reducible apply g_slot); refine q_own rfl ?_) | with_reducible apply q_n | with_reducible apply q_c | with_reducible apply q_t | with_reducible apply q_f | with_reducible apply m_yes
  | with_reducible apply r_addI | with_reducible apply r_subI | with_reducible apply r_eqI | with_reducible apply r_neI | with_reducible apply r_eqS | with_reducible apply r_neS | with_reducible apply r_ltI | with_reducible apply r_leI | with_reducible apply r_gtI | with_reducible apply r_geI
  | with_reducible apply r_isN | with_reducible apply r_isnN | with_reducible apply c_intI | with_reducible apply c_intB | with_reducible apply v_lst | with_reducible apply m_tup | ((with_reducible apply g_le); refine ⟨Nat.le_of_ble_eq_true rfl, ?_⟩) | with_reducible apply v_sl | with_reducible apply v_dnew
  | ((with_reducible apply g_dget); refine m_dget ?_) | refine get_str rfl rfl ?_
  | with_reducible apply m_fld | with_reducible apply m_con | refine ⟨_, _, _, rfl, by walk_at "fd", rfl, ?_⟩
  | ((with_reducible apply g_fn); first | refine m_fn wr0 ?_ | refine m_fn (by assumption) ?_ | refine m_fnP ?_ rfl)
  | ((with_reducible apply g_nw); refine m_nw wr0 ?_) | ((with_reducible apply g_ownGet); refine m_ownGet wr0 ?_) | ((with_reducible apply g_ownIn); refine r_ownIn ?_)
  | ((with_reducible apply g_inS); first | refine r_inStrs rfl ?_ | refine r_inStrsT rfl ?_ | refine r_ninStrsT rfl ?_) | ((with_reducible apply g_len); first | refine c_lenL rfl ?_ | refine c_lenT rfl ?_ | refine c_lenD rfl ?_)
  | ((with_reducible apply g_list); first | refine c_listv (.inl rfl) ?_ | refine c_listv (.inr rfl) ?_) | ((with_reducible apply g_tupU); first | refine c_tupleL rfl ?_ | refine c_tupleT ?_) | ((with_reducible apply g_pr); refine m_pr ?_) | refine ⟨_, _, _, rfl, by walk_at "cl", by walk_at "pr", ?_⟩ | refine ⟨_, rfl, ?_⟩ | fail))
local macro_rules | `(tactic| walk_at "fd") => `(tactic| first | exact (fr_fld (by assumption)).1 | exact (fr_fld (by assumption)).2.1 | exact (fr_fld (by assumption)).2.2.1 | exact (fr_fld (by assumption)).2.2.2 | exact leg_fld (by assumption) _ | fail)
local macro_rules | `(tactic| walk_at "cl") => `(tactic| first | exact fr_cls (by assumption) | exact leg_cls (by assumption) _ | fail)
local macro_rules | `(tactic| walk_at "pr") => `(tactic| first | exact Tx.pr_Flegs (by assumption) | exact Tx.pr_Fnames (by assumption) | exact Tx.pr_Fdrivers (by assumption) | exact Tx.pr_Flisteners (by assumption) | exact Tx.pr_Frails (by assumption) | exact Tx.pr_Fmembers (by assumption) | exact leg_prB (by assumption) _ | fail)
section
variable {K : PySem.W.Frag} {mg : Str → Option Value} {vs : List V} {H : Hp} {Q : VK} {E : XK}
theorem pure_Frame_of (T : Tx K mg) (h : sp_Frame_of K vs H Q E) : t_Frame_of K E { nx := fun _ H2 => Q .non H2, rt := Q } (start ["cls", "legs", "top", "ground", "power"] vs) H := by
  refine body_pu h fun o w F0 ds Qd Ed ⟨ls, top, g, p, x, e, hx, hL, t1, t2, q⟩ hW => ?_
  subst e
  have hl : (ls.map legD).length ≤ 1000 := by rw [List.length_map]; exact Nat.le_trans hL.1 (by decide)
  have hk : PySem.W.kitAny K (tyD K x) ([D.ty "list", D.ty "tuple"].map (clsV K)) = some true := by
    rcases hx with rfl | rfl
    · exact T.kl_list
    · exact T.kl_tuple
  have ht : TyOk K x := by rcases hx with rfl | rfl <;> trivial
  refine ms_seq (ms_if (m_not (m_B (m_cb (m_cons (m_var rfl (m_cons (m_tup (m_cons (m_cT (m_cons (m_cT (m_nil ⟨by decide, m_nil (c_isiM rfl ht rfl hk (bl_v (ite_f (ms_next ?_))))⟩)))))))))))))
  refine ms_ret (m_at rfl (m_nwSs [] (fun F => .nil) hW (m_var rfl (m_cons (m_var rfl (m_cons (m_var rfl (m_cons (m_var rfl (m_nil ⟨rfl, ls.map legD, ?_, hl, ls, top, g, p, rfl, rfl, hL, t1, t2, q⟩))))))))))
  rcases hx with rfl | rfl
  · exact .inl rfl
  · exact .inr rfl
theorem pure_Frame_legs (T : Tx K mg) (h : sp_Frame_legs K vs H Q E) : t_Frame_legs K { nx := fun _ H2 => Q .non H2, rt := Q } (start ["self"] vs) H := by
  refine body_pu h fun o w F0 ds Qd Ed ⟨top, g, p, ls, e, q⟩ hW => ?_
  subst e
  refine ms_ret (m_tupV (m_fld (m_var rfl ⟨"Frame", _, _, rfl, (fr_fld T).2.2.2, rfl, _, rfl, frz_v ?_⟩)))
  rw [List.map_map]
  exact q
theorem pure_Frame_rails (T : Tx K mg) (h : sp_Frame_rails K vs H Q E) : t_Frame_rails K { nx := fun _ H2 => Q .non H2, rt := Q } (start ["self"] vs) H := by
  refine body_pu h fun o w F0 ds Qd Ed ⟨top, g, p, ls, e, q⟩ hW => ?_
  subst e
  refine ms_ret (m_op (m_op (m_tup (m_cons (m_cS (m_nil ⟨by decide, m_cb (m_cons (m_fld (m_var rfl ⟨"Frame", _, _, rfl, (fr_fld T).2.1, rfl, m_nil (c_intB (r_rep01 (by simp) ?_))⟩)))⟩))))))
  refine m_op (m_tup (m_cons (m_cS (m_nil ⟨by decide, m_cb (m_cons (m_fld (m_var rfl ⟨"Frame", _, _, rfl, (fr_fld T).2.2.1, rfl, m_nil (c_intB (r_rep01 (by simp) ?_))⟩)))⟩))))
  refine r_catT (by cases g <;> cases p <;> decide) (frz_v ?_)
  cases g <;> cases p <;> exact q
end
end K86
namespace K86
open PySem PySem.Spec PyProof.Rows L2 He SJ
open LamX (CodeO lamS_by Tabs tLam)
local macro_rules | `(tactic| walk_at "mr") => `(tactic| repeat' (first
  | with_reducible apply ms_seq | with_reducible apply ms_if | with_reducible apply ms_ret | with_reducible apply ms_next | with_reducible apply s_asg
  | ((with_reducible apply g_var); first | refine m_var rfl ?_ | refine m_varS rfl ?_)
  | with_reducible apply m_cI | with_reducible apply m_cS | with_reducible apply m_cB | with_reducible apply m_cN | with_reducible apply m_cC | with_reducible apply m_cT
  | with_reducible apply m_op | with_reducible apply m_cb | with_reducible apply m_nil | with_reducible apply m_cons | with_reducible apply m_test | with_reducible apply m_B | with_reducible apply q_bl
  | with_reducible apply m_and | with_reducible apply m_or | with_reducible apply m_not | with_reducible apply m_andV | with_reducible apply m_orV | with_reducible apply m_notV | with_reducible apply m_ife | with_reducible apply m_chain
  | with_reducible apply q_v | ((with_reducible apply g_slot); refine q_own rfl ?_) | with_reducible apply q_n | with_reducible apply q_c | with_reducible apply q_t | with_reducible apply q_f | with_reducible apply m_yes
  | with_reducible apply r_addI | with_reducible apply r_subI | with_reducible apply r_eqI | with_reducible apply r_neI | with_reducible apply r_eqS | with_reducible apply r_neS | with_reducible apply r_ltI | with_reducible apply r_leI | with_reducible apply r_gtI | with_reducible apply r_geI
  | with_reducible apply r_isN | with_reducible apply r_isnN | with_reducible apply c_intI | with_reducible apply c_intB | with_reducible apply v_lst | with_reducible apply m_tup | ((with_reducible apply g_le); refine ⟨Nat.le_of_ble_eq_true rfl, ?_⟩) | with_reducible apply v_sl | with_reducible apply v_dnew
  | ((with_reducible apply g_dget); refine m_dget ?_) | refine get_str rfl rfl ?_
  | with_reducible apply m_fld | with_reducible apply m_con | refine ⟨_, _, _, rfl, by walk_at "fd", rfl, ?_⟩
  | ((with_reducible apply g_fn); first | refine m_fn wr0 ?_ | refine m_fn (by assumption) ?_ | refine m_fnP ?_ rfl)
  | ((with_reducible apply g_nw); refine m_nw wr0 ?_) | ((with_reducible apply g_ownGet); refine m_ownGet wr0 ?_) | ((with_reducible apply g_ownIn); refine r_ownIn ?_)
  | ((with_reducible apply g_inS); first | refine r_inStrs rfl ?_ | refine r_inStrsT rfl ?_ | refine r_ninStrsT rfl ?_) | ((with_reducible apply g_len); first | refine c_lenL rfl ?_ | refine c_lenT rfl ?_ | refine c_lenD rfl ?_)
  | ((with_reducible apply g_list); first | refine c_listv (.inl rfl) ?_ | refine c_listv (.inr rfl) ?_) | ((with_reducible apply g_tupU); first | refine c_tupleL rfl ?_ | refine c_tupleT ?_) | ((with_reducible apply g_pr); refine m_pr ?_) | refine ⟨_, _, _, rfl, by walk_at "cl", by walk_at "pr", ?_⟩ | refine ⟨_, rfl, ?_⟩ | fail))
local macro_rules | `(tactic| walk_at "me") => `(tactic| repeat' (first
  | ((with_reducible apply g_var); first | refine m_var rfl ?_ | refine m_varS rfl ?_)
  | with_reducible apply m_cI | with_reducible apply m_cS | with_reducible apply m_cB | with_reducible apply m_cN | with_reducible apply m_cC | with_reducible apply m_cT
  | with_reducible apply m_op | with_reducible apply m_cb | with_reducible apply m_nil | with_reducible apply m_cons | with_reducible apply m_test | with_reducible apply m_B | with_reducible apply q_bl
  | with_reducible apply m_and | with_reducible apply m_or | with_reducible apply m_not | with_reducible apply m_andV | with_reducible apply m_orV | with_reducible apply m_notV | with_reducible apply m_ife | with_reducible apply m_chain
  | with_reducible apply q_v | ((with_reducible apply g_slot); refine q_own rfl ?_) | with_reducible apply q_n | with_reducible apply q_c | with_reducible apply q_t | with_reducible apply q_f | with_reducible apply m_yes
  | with_reducible apply r_addI | with_reducible apply r_subI | with_reducible apply r_eqI | with_reducible apply r_neI | with_reducible apply r_eqS | with_reducible apply r_neS | with_reducible apply r_ltI | with_reducible apply r_leI | with_reducible apply r_gtI | with_reducible apply r_geI
  | with_reducible apply r_isN | with_reducible apply r_isnN | with_reducible apply c_intI | with_reducible apply c_intB | with_reducible apply v_lst | with_reducible apply m_tup | ((with_reducible apply g_le); refine ⟨Nat.le_of_ble_eq_true rfl, ?_⟩) | with_reducible apply v_sl | with_reducible apply v_dnew
  | ((with_reducible apply g_dget); refine m_dget ?_) | refine get_str rfl rfl ?_
  | with_reducible apply m_fld | with_reducible apply m_con | refine ⟨_, _, _, rfl, by walk_at "fd", rfl, ?_⟩
  | ((with_reducible apply g_fn); first | refine m_fn wr0 ?_ | refine m_fn (by assumption) ?_ | refine m_fnP ?_ rfl)
  | ((with_reducible apply g_nw); refine m_nw wr0 ?_) | ((with_reducible apply g_ownGet); refine m_ownGet wr0 ?_) | ((with_reducible apply g_ownIn); refine r_ownIn ?_)
  | ((with_reducible apply g_inS); first | refine r_inStrs rfl ?_ | refine r_inStrsT rfl ?_ | refine r_ninStrsT rfl ?_) | ((with_reducible apply g_len); first | refine c_lenL rfl ?_ | refine c_lenT rfl ?_ | refine c_lenD rfl ?_)
  | ((with_reducible apply g_list); first | refine c_listv (.inl rfl) ?_ | refine c_listv (.inr rfl) ?_) | ((with_reducible apply g_tupU); first | refine c_tupleL rfl ?_ | refine c_tupleT ?_) | ((with_reducible apply g_pr); refine m_pr ?_) | refine ⟨_, _, _, rfl, by walk_at "cl", by walk_at "pr", ?_⟩ | refine ⟨_, rfl, ?_⟩ | fail))
local macro_rules | `(tactic| walk_at "fd") => `(tactic| first | exact (fr_fld (by assumption)).1 | exact (fr_fld (by assumption)).2.1 | exact (fr_fld (by assumption)).2.2.1 | exact (fr_fld (by assumption)).2.2.2 | exact leg_fld (by assumption) _ | fail)
local macro_rules | `(tactic| walk_at "cl") => `(tactic| first | exact fr_cls (by assumption) | exact leg_cls (by assumption) _ | fail)
local macro_rules | `(tactic| walk_at "pr") => `(tactic| first | exact Tx.pr_Flegs (by assumption) | exact Tx.pr_Fnames (by assumption) | exact Tx.pr_Fdrivers (by assumption) | exact Tx.pr_Flisteners (by assumption) | exact Tx.pr_Frails (by assumption) | exact Tx.pr_Fmembers (by assumption) | exact leg_prB (by assumption) _ | fail)
section
variable {K : PySem.W.Frag} {mg : Str → Option Value} {vs : List V} {H : Hp} {Q : VK} {E : XK}
def eqO2 : D → D → Bool
  | .obj c [(_, .str z)], .obj c2 [(_, .str z2)] => decide (c = c2) && decide (z = z2)
  | _, _ => false
theorem eqO_leg (l m : Lg) : eqO2 (legD l) (legD m) = legE l m := by
  obtain ⟨b, z⟩ := l
  obtain ⟨b2, z2⟩ := m
  show (decide (lc b = lc b2) && decide (z = z2)) = (decide (b = b2) && decide (z = z2))
  cases b <;> cases b2 <;> rfl
theorem seqE_legs : ∀ ls ms : List Lg, seqEq eqO2 (ls.map legD) (ms.map legD) = legsE ls ms
  | [], [] => rfl
  | [], _ :: _ => rfl
  | _ :: _, [] => rfl
  | l :: ls, m :: ms => by
    show (eqO2 (legD l) (legD m) && seqEq eqO2 (ls.map legD) (ms.map legD)) = (legE l m && legsE ls ms)
    rw [eqO_leg, seqE_legs ls ms]
theorem eqP_leg (T : Tx K mg) (l m : Lg) : EqP K (a_Leg_eq K) P_Leg_eq eqO2 (legD l) (legD m) := by
  have ho : OwnOp K (lc l.drv) "__eq__" (a_Leg_eq K) := by
    obtain ⟨b, z⟩ := l
    cases b with
    | true => exact T.eq_Driver
    | false => exact T.eq_Listener
  have hi : InT K (ga K (lc m.drv)) := by
    obtain ⟨b, z⟩ := m
    cases b with
    | true => exact T.in_Driver
    | false => exact T.in_Listener
  have hn : PySem.W.notFirst K (ga K (lc l.drv)) (.ref (ga K (lc m.drv))) = true := by
    obtain ⟨b, z⟩ := l
    obtain ⟨b2, z2⟩ := m
    cases b with
    | true => cases b2 with
      | true => exact T.nf_Driver_Driver
      | false => exact T.nf_Driver_Listener
    | false => cases b2 with
      | true => exact T.nf_Listener_Driver
      | false => exact T.nf_Listener_Listener
  refine ⟨lc l.drv, _, lc m.drv, _, rfl, rfl, rfl, rfl, ho, hi, hn, ⟨l, m, rfl, by rw [eqO_leg]; rfl⟩, fun h1 h2 => ?_⟩
  rw [eqO_leg]
  injection h2 with h2
  injection h2 with _ h2
  injection h2 with h2
  unfold legE
  rw [decide_eq_true h2, Bool.and_true]
  refine decide_eq_true ?_
  obtain ⟨b, z⟩ := l
  obtain ⟨b2, z2⟩ := m
  cases b <;> cases b2 <;> first | rfl | exact (T.dif h1).elim | exact (T.dif h1.symm).elim
end
end K86
namespace K86
open PySem PySem.Spec PyProof.Rows L2 He SJ
open LamX (CodeO lamS_by Tabs tLam)
local macro_rules | `(tactic| walk_at "mr") => `(tactic| repeat' (first
  | with_reducible apply ms_seq | with_reducible apply ms_if | with_reducible apply ms_ret | with_reducible apply ms_next | with_reducible apply s_asg
  | ((with_reducible apply g_var); first | refine m_var rfl ?_ | refine m_varS rfl ?_)
  | with_reducible apply m_cI | with_reducible apply m_cS | with_reducible apply m_cB | with_reducible apply m_cN | with_reducible apply m_cC | with_reducible apply m_cT
  | with_reducible apply m_op | with_reducible apply m_cb | with_reducible apply m_nil | with_reducible apply m_cons | with_reducible apply m_test | with_reducible apply m_B | with_reducible apply q_bl
  | with_reducible apply m_and | with_reducible apply m_or | with_reducible apply m_not | with_reducible apply m_andV | with_reducible apply m_orV | with_reducible apply m_notV | with_reducible apply m_ife | with_reducible apply m_chain
  | with_reducible apply q_v | ((with_reducible apply g_slot); refine q_own rfl ?_) | with_reducible apply q_n | with_reducible apply q_c | with_reducible apply q_t | with_reducible apply q_f | with_reducible apply m_yes
  | with_reducible apply r_addI | with_reducible apply r_subI | with_reducible apply r_eqI | with_reducible apply r_neI | with_reducible apply r_eqS | with_reducible apply r_neS | with_reducible apply r_ltI | with_reducible apply r_leI | with_reducible apply r_gtI | with_reducible apply r_geI
  | with_reducible apply r_isN | with_reducible apply r_isnN | with_reducible apply c_intI | with_reducible apply c_intB | with_reducible apply v_lst | with_reducible apply m_tup | ((with_reducible apply g_le); refine ⟨Nat.le_of_ble_eq_true rfl, ?_⟩) | with_reducible apply v_sl | with_reducible apply v_dnew
  | ((with_reducible apply g_dget); refine m_dget ?_) | refine get_str rfl rfl ?_
  | with_reducible apply m_fld | with_reducible apply m_con | refine ⟨_, _, _, rfl, by walk_at "fd", rfl, ?_⟩
  | ((with_reducible apply g_fn); first | refine m_fn wr0 ?_ | refine m_fn (by assumption) ?_ | refine m_fnP ?_ rfl)
  | ((with_reducible apply g_nw); refine m_nw wr0 ?_) | ((with_reducible apply g_ownGet); refine m_ownGet wr0 ?_) | ((with_reducible apply g_ownIn); refine r_ownIn ?_)
  | ((with_reducible apply g_inS); first | refine r_inStrs rfl ?_ | refine r_inStrsT rfl ?_ | refine r_ninStrsT rfl ?_) | ((with_reducible apply g_len); first | refine c_lenL rfl ?_ | refine c_lenT rfl ?_ | refine c_lenD rfl ?_)
  | ((with_reducible apply g_list); first | refine c_listv (.inl rfl) ?_ | refine c_listv (.inr rfl) ?_) | ((with_reducible apply g_tupU); first | refine c_tupleL rfl ?_ | refine c_tupleT ?_) | ((with_reducible apply g_pr); refine m_pr ?_) | refine ⟨_, _, _, rfl, by walk_at "cl", by walk_at "pr", ?_⟩ | refine ⟨_, rfl, ?_⟩ | fail))
local macro_rules | `(tactic| walk_at "me") => `(tactic| repeat' (first
  | ((with_reducible apply g_var); first | refine m_var rfl ?_ | refine m_varS rfl ?_)
  | with_reducible apply m_cI | with_reducible apply m_cS | with_reducible apply m_cB | with_reducible apply m_cN | with_reducible apply m_cC | with_reducible apply m_cT
  | with_reducible apply m_op | with_reducible apply m_cb | with_reducible apply m_nil | with_reducible apply m_cons | with_reducible apply m_test | with_reducible apply m_B | with_reducible apply q_bl
  | with_reducible apply m_and | with_reducible apply m_or | with_reducible apply m_not | with_reducible apply m_andV | with_reducible apply m_orV | with_reducible apply m_notV | with_reducible apply m_ife | with_reducible apply m_chain
  | with_reducible apply q_v | ((with_reducible apply g_slot); refine q_own rfl ?_) | with_reducible apply q_n | with_reducible apply q_c | with_reducible apply q_t | with_reducible apply q_f | with_reducible apply m_yes
  | with_reducible apply r_addI | with_reducible apply r_subI | with_reducible apply r_eqI | with_reducible apply r_neI | with_reducible apply r_eqS | with_reducible apply r_neS | with_reducible apply r_ltI | with_reducible apply r_leI | with_reducible apply r_gtI | with_reducible apply r_geI
  | with_reducible apply r_isN | with_reducible apply r_isnN | with_reducible apply c_intI | with_reducible apply c_intB | with_reducible apply v_lst | with_reducible apply m_tup | ((with_reducible apply g_le); refine ⟨Nat.le_of_ble_eq_true rfl, ?_⟩) | with_reducible apply v_sl | with_reducible apply v_dnew
  | ((with_reducible apply g_dget); refine m_dget ?_) | refine get_str rfl rfl ?_
  | with_reducible apply m_fld | with_reducible apply m_con | refine ⟨_, _, _, rfl, by walk_at "fd", rfl, ?_⟩
  | ((with_reducible apply g_fn); first | refine m_fn wr0 ?_ | refine m_fn (by assumption) ?_ | refine m_fnP ?_ rfl)
  | ((with_reducible apply g_nw); refine m_nw wr0 ?_) | ((with_reducible apply g_ownGet); refine m_ownGet wr0 ?_) | ((with_reducible apply g_ownIn); refine r_ownIn ?_)
  | ((with_reducible apply g_inS); first | refine r_inStrs rfl ?_ | refine r_inStrsT rfl ?_ | refine r_ninStrsT rfl ?_) | ((with_reducible apply g_len); first | refine c_lenL rfl ?_ | refine c_lenT rfl ?_ | refine c_lenD rfl ?_)
  | ((with_reducible apply g_list); first | refine c_listv (.inl rfl) ?_ | refine c_listv (.inr rfl) ?_) | ((with_reducible apply g_tupU); first | refine c_tupleL rfl ?_ | refine c_tupleT ?_) | ((with_reducible apply g_pr); refine m_pr ?_) | refine ⟨_, _, _, rfl, by walk_at "cl", by walk_at "pr", ?_⟩ | refine ⟨_, rfl, ?_⟩ | fail))
local macro_rules | `(tactic| walk_at "fd") => `(tactic| first | exact (fr_fld (by assumption)).1 | exact (fr_fld (by assumption)).2.1 | exact (fr_fld (by assumption)).2.2.1 | exact (fr_fld (by assumption)).2.2.2 | exact leg_fld (by assumption) _ | fail)
local macro_rules | `(tactic| walk_at "cl") => `(tactic| first | exact fr_cls (by assumption) | exact leg_cls (by assumption) _ | fail)
local macro_rules | `(tactic| walk_at "pr") => `(tactic| first | exact Tx.pr_Flegs (by assumption) | exact Tx.pr_Fnames (by assumption) | exact Tx.pr_Fdrivers (by assumption) | exact Tx.pr_Flisteners (by assumption) | exact Tx.pr_Frails (by assumption) | exact Tx.pr_Fmembers (by assumption) | exact leg_prB (by assumption) _ | fail)
section
variable {K : PySem.W.Frag} {mg : Str → Option Value} {vs : List V} {H : Hp} {Q : VK} {E : XK}
theorem rails_txt (g p : Bool) : TxtOk (railsL g p) := by
  intro z hz
  have : z = "ground" ∨ z = "power" := by
    cases g <;> cases p <;> simp [railsL] at hz <;> simp [hz] <;> rcases hz with h | h <;> simp [h]
  rcases this with rfl | rfl <;> (unfold PyData.strOk; rw [← Array.all_toList]; decide)
theorem pure_Frame_eq (T : Tx K mg) (h : sp_Frame_eq K vs H Q E) : t_Frame_eq K { nx := fun _ H2 => Q .non H2, rt := Q } (start ["self", "other"] vs) H := by
  refine body_pu h fun o w F0 ds Qd Ed hp hW => ?_
  rcases hp with ⟨top, g, p, ls, top2, g2, p2, ls2, e, q⟩ | ⟨top, g, p, ls, d, e, hd, q⟩
  · subst e
    refine ms_seq (ms_if (m_or (m_not (m_B (m_cb (m_cons (m_var rfl (m_cons (m_cC (m_nil (c_isiC rfl T.in_Frame T.kit_Frame (bl_v (ite_f ?_)))))))))))))
    refine m_or (m_test (m_op (m_fld (m_var rfl ⟨"Frame", _, _, rfl, (fr_fld T).1, rfl, m_fld (m_var rfl ⟨"Frame", _, _, rfl, (fr_fld T).1, rfl, r_neI (bl_v ?_)⟩)⟩))))
    by_cases ht : top = top2
    · rw [decide_eq_true ht]
      rw [decide_eq_true ht, Bool.true_and] at q
      refine ite_f (m_test (m_op (m_pr (m_var rfl (frz_v ⟨"Frame", _, _, rfl, T.in_Frame.cl, T.pr_Frails, top, g, p, ls, rfl, m_pr (m_var rfl (frz_v ⟨"Frame", _, _, rfl, T.in_Frame.cl, T.pr_Frails, top2, g2, p2, ls2, rfl, r_neStrsT rfl rfl (rails_txt g p) (rails_txt g2 p2) (bl_v ?_)⟩))⟩)))))
      by_cases hr : railsL g p = railsL g2 p2
      · rw [decide_eq_true hr]
        rw [decide_eq_true hr, Bool.true_and] at q
        refine ite_f (ms_next (ms_ret (m_op (m_pr (m_var rfl (frz_v ⟨"Frame", _, _, rfl, T.in_Frame.cl, T.pr_Flegs, top, g, p, ls, rfl, m_pr (m_var rfl (frz_v ⟨"Frame", _, _, rfl, T.in_Frame.cl, T.pr_Flegs, top2, g2, p2, ls2, rfl, r_seq eqO2 (.inl ⟨rfl, rfl⟩) (fun d hd e he => ?_) (frz_v ?_)⟩))⟩))))))
        · obtain ⟨l, _, rfl⟩ := List.mem_map.mp hd
          obtain ⟨m, _, rfl⟩ := List.mem_map.mp he
          exact eqP_leg T l m
        · rw [seqE_legs]
          exact q
      · rw [decide_eq_false hr]
        rw [decide_eq_false hr, Bool.false_and] at q
        exact ite_t (ms_ret (m_cB (frz_v q)))
    · rw [decide_eq_false ht]
      rw [decide_eq_false ht, Bool.false_and] at q
      exact ite_t (ite_t (ms_ret (m_cB (frz_v q))))
  · subst e
    have hk : TyOk K d ∧ PySem.W.kitOne K (tyD K d) (.ref (ga K "Frame")) = some false := by
      rcases hd with rfl | ⟨es, rfl⟩
      · exact ⟨trivial, T.kit_NoneType_Frame⟩
      · exact ⟨trivial, T.kit_tuple_Frame⟩
    exact ms_seq (ms_if (m_or (m_not (m_B (m_cb (m_cons (m_var rfl (m_cons (m_cC (m_nil (c_isiC rfl hk.1 hk.2 (bl_v (ite_t (ite_t (ms_ret (m_cB (frz_v q)))))))))))))))))
end
end K86
namespace K86
open PySem PySem.Spec PyProof.Rows L2 He SJ
open LamX (CodeO lamS_by Tabs tLam)
local macro_rules | `(tactic| walk_at "mr") => `(tactic| repeat' (first
  | with_reducible apply ms_seq | with_reducible apply ms_if | with_reducible apply ms_ret | with_reducible apply ms_next | with_reducible apply s_asg
  | ((with_reducible apply g_var); first | refine m_var rfl ?_ | refine m_varS rfl ?_)
  | with_reducible apply m_cI | with_reducible apply m_cS | with_reducible apply m_cB | with_reducible apply m_cN | with_reducible apply m_cC | with_reducible apply m_cT
  | with_reducible apply m_op | with_reducible apply m_cb | with_reducible apply m_nil | with_reducible apply m_cons | with_reducible apply m_test | with_reducible apply m_B | with_reducible apply q_bl
  | with_reducible apply m_and | with_reducible apply m_or | with_reducible apply m_not | with_reducible apply m_andV | with_reducible apply m_orV | with_reducible apply m_notV | with_reducible apply m_ife | with_reducible apply m_chain
  | with_reducible apply q_v | ((with_reducible apply g_slot); refine q_own rfl ?_) | with_reducible apply q_n | with_reducible apply q_c | with_reducible apply q_t | with_reducible apply q_f | with_reducible apply m_yes
  | with_reducible apply r_addI | with_reducible apply r_subI | with_reducible apply r_eqI | with_reducible apply r_neI | with_reducible apply r_eqS | with_reducible apply r_neS | with_reducible apply r_ltI | with_reducible apply r_leI | with_reducible apply r_gtI | with_reducible apply r_geI
  | with_reducible apply r_isN | with_reducible apply r_isnN | with_reducible apply c_intI | with_reducible apply c_intB | with_reducible apply v_lst | with_reducible apply m_tup | ((with_reducible apply g_le); refine ⟨Nat.le_of_ble_eq_true rfl, ?_⟩) | with_reducible apply v_sl | with_reducible apply v_dnew
  | ((with_reducible apply g_dget); refine m_dget ?_) | refine get_str rfl rfl ?_
  | with_reducible apply m_fld | with_reducible apply m_con | refine ⟨_, _, _, rfl, by walk_at "fd", rfl, ?_⟩
  | ((with_reducible apply g_fn); first | refine m_fn wr0 ?_ | refine m_fn (by assumption) ?_ | refine m_fnP ?_ rfl)
  | ((with_reducible apply g_nw); refine m_nw wr0 ?_) | ((with_reducible apply g_ownGet); refine m_ownGet wr0 ?_) | ((with_reducible apply g_ownIn); refine r_ownIn ?_)
  | ((with_reducible apply g_inS); first | refine r_inStrs rfl ?_ | refine r_inStrsT rfl ?_ | refine r_ninStrsT rfl ?_) | ((with_reducible apply g_len); first | refine c_lenL rfl ?_ | refine c_lenT rfl ?_ | refine c_lenD rfl ?_)
  | ((with_reducible apply g_list); first | refine c_listv (.inl rfl) ?_ | refine c_listv (.inr rfl) ?_) | ((with_reducible apply g_tupU); first | refine c_tupleL rfl ?_ | refine c_tupleT ?_) | ((with_reducible apply g_pr); refine m_pr ?_) | refine ⟨_, _, _, rfl, by walk_at "cl", by walk_at "pr", ?_⟩ | refine ⟨_, rfl, ?_⟩ | fail))
local macro_rules | `(tactic| walk_at "me") => `(tactic| repeat' (first
  | ((with_reducible apply g_var); first | refine m_var rfl ?_ | refine m_varS rfl ?_)
  | with_reducible apply m_cI | with_reducible apply m_cS | with_reducible apply m_cB | with_reducible apply m_cN | with_reducible apply m_cC | with_reducible apply m_cT
  | with_reducible apply m_op | with_reducible apply m_cb | with_reducible apply m_nil | with_reducible apply m_cons | with_reducible apply m_test | with_reducible apply m_B | with_reducible apply q_bl
  | with_reducible apply m_and | with_reducible apply m_or | with_reducible apply m_not | with_reducible apply m_andV | with_reducible apply m_orV | with_reducible apply m_notV | with_reducible apply m_ife | with_reducible apply m_chain
  | with_reducible apply q_v | ((with_reducible apply g_slot); refine q_own rfl ?_) | with_reducible apply q_n | with_reducible apply q_c | with_reducible apply q_t | with_reducible apply q_f | with_reducible apply m_yes
  | with_reducible apply r_addI | with_reducible apply r_subI | with_reducible apply r_eqI | with_reducible apply r_neI | with_reducible apply r_eqS | with_reducible apply r_neS | with_reducible apply r_ltI | with_reducible apply r_leI | with_reducible apply r_gtI | with_reducible apply r_geI
  | with_reducible apply r_isN | with_reducible apply r_isnN | with_reducible apply c_intI | with_reducible apply c_intB | with_reducible apply v_lst | with_reducible apply m_tup | ((with_reducible apply g_le); refine ⟨Nat.le_of_ble_eq_true rfl, ?_⟩) | with_reducible apply v_sl | with_reducible apply v_dnew
  | ((with_reducible apply g_dget); refine m_dget ?_) | refine get_str rfl rfl ?_
  | with_reducible apply m_fld | with_reducible apply m_con | refine ⟨_, _, _, rfl, by walk_at "fd", rfl, ?_⟩
  | ((with_reducible apply g_fn); first | refine m_fn wr0 ?_ | refine m_fn (by assumption) ?_ | refine m_fnP ?_ rfl)
  | ((with_reducible apply g_nw); refine m_nw wr0 ?_) | ((with_reducible apply g_ownGet); refine m_ownGet wr0 ?_) | ((with_reducible apply g_ownIn); refine r_ownIn ?_)
  | ((with_reducible apply g_inS); first | refine r_inStrs rfl ?_ | refine r_inStrsT rfl ?_ | refine r_ninStrsT rfl ?_) | ((with_reducible apply g_len); first | refine c_lenL rfl ?_ | refine c_lenT rfl ?_ | refine c_lenD rfl ?_)
  | ((with_reducible apply g_list); first | refine c_listv (.inl rfl) ?_ | refine c_listv (.inr rfl) ?_) | ((with_reducible apply g_tupU); first | refine c_tupleL rfl ?_ | refine c_tupleT ?_) | ((with_reducible apply g_pr); refine m_pr ?_) | refine ⟨_, _, _, rfl, by walk_at "cl", by walk_at "pr", ?_⟩ | refine ⟨_, rfl, ?_⟩ | fail))
local macro_rules | `(tactic| walk_at "fd") => `(tactic| first | exact (fr_fld (by assumption)).1 | exact (fr_fld (by assumption)).2.1 | exact (fr_fld (by assumption)).2.2.1 | exact (fr_fld (by assumption)).2.2.2 | exact leg_fld (by assumption) _ | fail)
local macro_rules | `(tactic| walk_at "cl") => `(tactic| first | exact fr_cls (by assumption) | exact leg_cls (by assumption) _ | fail)
local macro_rules | `(tactic| walk_at "pr") => `(tactic| first | exact Tx.pr_Flegs (by assumption) | exact Tx.pr_Fnames (by assumption) | exact Tx.pr_Fdrivers (by assumption) | exact Tx.pr_Flisteners (by assumption) | exact Tx.pr_Frails (by assumption) | exact Tx.pr_Fmembers (by assumption) | exact leg_prB (by assumption) _ | fail)
theorem spl_wt (s : Nat) : ∀ (l acc : List Nat), ((TL.spl [s] 0 acc l).map fun p => p.length + 1).sum = acc.length + l.length + 1
  | [], acc => by rw [TL.spl_nil]; simp
  | c :: r, acc => by
    cases h : TL.pre [s] (c :: r) with
    | true =>
      rw [TL.spl_hit h, List.map_cons, List.sum_cons]
      have ih := spl_wt s r []
      show acc.length + 1 + ((TL.spl [s] 0 [] r).map fun p => p.length + 1).sum = _
      rw [ih, List.length_cons, List.length_nil]
      omega
    | false =>
      rw [TL.spl_miss h, spl_wt s r (acc ++ [c]), List.length_append, List.length_cons, List.length_cons, List.length_nil]
      omega
theorem spl_mem (s : Nat) : ∀ (l acc : List Nat), ∀ p ∈ TL.spl [s] 0 acc l, ∀ c ∈ p, c ∈ acc ∨ c ∈ l
  | [], acc, p, hp, c, hc => by
    rw [TL.spl_nil] at hp
    rw [List.mem_singleton.mp hp] at hc
    exact .inl hc
  | d :: r, acc, p, hp, c, hc => by
    cases h : TL.pre [s] (d :: r) with
    | true =>
      rw [TL.spl_hit h] at hp
      rcases List.mem_cons.mp hp with rfl | hp
      · exact .inl hc
      · rcases spl_mem s r [] p hp c hc with z | z
        · cases z
        · exact .inr (List.mem_cons_of_mem _ z)
    | false =>
      rw [TL.spl_miss h] at hp
      rcases spl_mem s r (acc ++ [d]) p hp c hc with z | z
      · rcases List.mem_append.mp z with z | z
        · exact .inl z
        · exact .inr (by rw [List.mem_singleton.mp z]; exact List.mem_cons_self ..)
      · exact .inr (List.mem_cons_of_mem _ z)
theorem wt_tl (zs : List Str) : wt zs = ((zs.map TL.tl).map fun p => p.length + 1).sum := by
  unfold wt
  rw [List.map_map]
  exact congrArg List.sum (List.map_congr_left fun z _ => by show z.length + 1 = (TL.tl z).length + 1; rw [TL.len_tl])
theorem wt_nil : wt [] = 0 := rfl
theorem wt_cons (z : Str) (zs : List Str) : wt (z :: zs) = z.length + 1 + wt zs := List.sum_cons
theorem wt_app (ys zs : List Str) : wt (ys ++ zs) = wt ys + wt zs := by
  unfold wt
  rw [List.map_append, List.sum_append]
theorem wt_mem {z : Str} {zs : List Str} (h : z ∈ zs) : z.length + 1 ≤ wt zs := by
  induction zs with
  | nil => cases h
  | cons y zs ih =>
    rw [wt_cons]
    rcases List.mem_cons.mp h with rfl | h
    · omega
    · have := ih h; omega
theorem wt_len (zs : List Str) : zs.length ≤ wt zs := by
  induction zs with
  | nil => exact Nat.zero_le _
  | cons y zs ih => rw [wt_cons, List.length_cons]; omega
theorem wt_take (k : Nat) (zs : List Str) : wt (zs.take k) + wt (zs.drop k) = wt zs := by rw [← wt_app, List.take_append_drop]
theorem wt_sum (zs : List Str) : (zs.map (·.length)).sum + zs.length = wt zs := by
  induction zs with
  | nil => rfl
  | cons y zs ih =>
    rw [wt_cons, List.map_cons, List.sum_cons, List.length_cons]
    omega
structure Sep (y : Str) (s : Nat) : Prop where
  tl : TL.tl y = [s]
  kd : y.cps.all (· < 256) = true
  lt : s < 0x110000
theorem sepN : Sep "\n" 10 := ⟨rfl, by decide +kernel, by decide⟩
theorem sepB : Sep " " 32 := ⟨rfl, by decide +kernel, by decide⟩
theorem split_tl {x y : Str} {s : Nat} (h : Sep y s) : (Txt.split x y).map TL.tl = TL.spl [s] 0 [] (TL.tl x) := by
  have e := TL.split_spl x y (by rw [h.tl]; exact List.cons_ne_nil _ _) (TL.kind_ok h.kd)
  rw [h.tl] at e
  exact e
theorem split_wt {x y : Str} {s : Nat} (h : Sep y s) : wt (Txt.split x y) = x.length + 1 := by
  rw [wt_tl, split_tl h, spl_wt, List.length_nil, TL.len_tl x]
  omega
theorem split_ne {x y : Str} {s : Nat} (h : Sep y s) : Txt.split x y ≠ [] := fun e => by
  have := split_wt (x := x) h
  rw [e, wt_nil] at this
  omega
theorem split_ok {x y : Str} {s : Nat} (h : Sep y s) (hx : okT x) : ∀ z ∈ Txt.split x y, okT z := fun z hz c hc => by
  have e := split_tl (x := x) h
  have m : TL.tl z ∈ TL.spl [s] 0 [] (TL.tl x) := by rw [← e]; exact List.mem_map.mpr ⟨z, hz, rfl⟩
  rcases spl_mem s _ _ _ m c hc with q | q
  · cases q
  · exact hx c q
theorem rowsOf_ok {z : Str} (hl : z.length ≤ 1000) (ho : okT z) : RowsOk (rowsOf z) := by
  have w := split_wt (x := z) sepN
  refine ⟨fun e => split_ne sepN (List.map_eq_nil_iff.mp e), ?_, fun r hr => ?_⟩
  · unfold rowsOf
    rw [List.length_map]
    have := wt_len (Txt.split z "\n")
    omega
  · obtain ⟨l, hm, rfl⟩ := List.mem_map.mp hr
    have h1 := wt_mem hm
    refine ⟨split_ne sepB, ?_, split_ok sepB (split_ok sepN ho l hm)⟩
    rw [split_wt sepB]
    omega
theorem joinL_len (s : Nat) : ∀ ps : List (List Nat), (TL.joinL [s] ps).length ≤ (ps.map fun p => p.length + 1).sum
  | [] => Nat.zero_le _
  | [p] => by
    show p.length ≤ p.length + 1 + 0
    omega
  | p :: q :: r => by
    have ih := joinL_len s (q :: r)
    show (p ++ ([s] ++ TL.joinL [s] (q :: r))).length ≤ _
    rw [List.length_append, List.length_append, List.map_cons, List.sum_cons, List.length_cons, List.length_nil]
    omega
theorem joinL_mem (s : Nat) : ∀ (ps : List (List Nat)) (c : Nat), c ∈ TL.joinL [s] ps → c = s ∨ ∃ p ∈ ps, c ∈ p
  | [], c, h => nomatch h
  | [p], c, h => .inr ⟨p, List.mem_cons_self .., h⟩
  | p :: q :: r, c, h => by
    rcases List.mem_append.mp (show c ∈ p ++ ([s] ++ TL.joinL [s] (q :: r)) from h) with h | h
    · exact .inr ⟨p, List.mem_cons_self .., h⟩
    · rcases List.mem_append.mp h with h | h
      · exact .inl (List.mem_singleton.mp h)
      · rcases joinL_mem s (q :: r) c h with e | ⟨p2, h1, h2⟩
        · exact .inl e
        · exact .inr ⟨p2, List.mem_cons_of_mem _ h1, h2⟩
theorem join_tl {y : Str} {s : Nat} (h : Sep y s) (zs : List Str) : TL.tl (Txt.join y zs) = TL.joinL [s] (zs.map TL.tl) := by rw [TL.join_eq, TL.tl_join, h.tl]
theorem join_len {y : Str} {s : Nat} (h : Sep y s) (zs : List Str) : (Txt.join y zs).length ≤ wt zs := by
  rw [TL.len_tl, join_tl h, wt_tl]
  exact joinL_len s _
theorem join_ok {y : Str} {s : Nat} (h : Sep y s) {zs : List Str} (hz : ∀ z ∈ zs, okT z) : okT (Txt.join y zs) := fun c hc => by
  have hc : c ∈ TL.tl (Txt.join y zs) := hc
  rw [join_tl h] at hc
  rcases joinL_mem s _ c hc with rfl | ⟨p, hp, hcp⟩
  · exact h.lt
  · obtain ⟨z, hm, rfl⟩ := List.mem_map.mp hp
    exact hz z hm c hcp
/-- what one text joined is -/
theorem join_one (y z : Str) : Txt.join y [z] = z := by rw [TL.join_eq]; rfl
theorem join_nil (y : Str) : Txt.join y [] = "" := by rw [TL.join_eq]; rfl
theorem okT_str {z : Str} (h : okT z) : PyData.strOk z = true := ok_str (List.all_eq_true.mpr fun c hc => decide_eq_true (h c hc))
theorem okT_txt {zs : List Str} (h : ∀ z ∈ zs, okT z) : TxtOk zs := fun z hz => okT_str (h z hz)
theorem sortS_perm (zs : List Str) : (sortS zs).Perm zs := List.mergeSort_perm _ _
theorem sortS_pw (zs : List Str) : (sortS zs).Pairwise leS := pw_msort (fun z => z) zs
theorem srt_eq {ys zs : List Str} (h1 : ys.Perm zs) (h2 : sortedS ys = true) : ys = sortS zs := pw_unique (h1.trans (sortS_perm zs).symm) (sorted_pw h2) (sortS_pw zs)
theorem sortS_congr {ys zs : List Str} (h : ys.Perm zs) : sortS ys = sortS zs := pw_unique ((sortS_perm ys).trans (h.trans (sortS_perm zs).symm)) (sortS_pw ys) (sortS_pw zs)
theorem legsE_self : ∀ ls : List Lg, legsE ls ls = true
  | [] => rfl
  | l :: ls => by
    show (legE l l && legsE ls ls) = true
    rw [legsE_self ls, Bool.and_true]
    unfold legE
    rw [decide_eq_true rfl, decide_eq_true rfl]
    rfl
theorem mkL_nm (dl ll : List Str) : (mkL dl ll).map (·.nm) = dl ++ ll := by
  unfold mkL
  rw [List.map_append, List.map_map, List.map_map]
  show dl.map id ++ ll.map id = _
  rw [List.map_id, List.map_id]
theorem mkL_perm (ls : List Lg) : (mkL (sortS (drvs ls)) (sortS (lsts ls))).Perm ls := by
  have h1 : ((sortS (drvs ls)).map fun z => (⟨true, z⟩ : Lg)).Perm (ls.filter fun l => l.drv) := by
    refine ((sortS_perm _).map _).trans ?_
    unfold drvs
    rw [List.map_map]
    refine List.Perm.of_eq ?_
    have : ∀ l ∈ ls.filter fun l => l.drv, ((fun z => (⟨true, z⟩ : Lg)) ∘ fun l : Lg => l.nm) l = l := fun l hl => by
      obtain ⟨b, z⟩ := l
      have : b = true := by simpa using (List.mem_filter.mp hl).2
      subst this
      rfl
    rw [List.map_congr_left this, List.map_id']
  have h2 : ((sortS (lsts ls)).map fun z => (⟨false, z⟩ : Lg)).Perm (ls.filter fun l => !l.drv) := by
    refine ((sortS_perm _).map _).trans ?_
    unfold lsts
    rw [List.map_map]
    refine List.Perm.of_eq ?_
    have : ∀ l ∈ ls.filter fun l => !l.drv, ((fun z => (⟨false, z⟩ : Lg)) ∘ fun l : Lg => l.nm) l = l := fun l hl => by
      obtain ⟨b, z⟩ := l
      have : b = false := by simpa using (List.mem_filter.mp hl).2
      subst this
      rfl
    rw [List.map_congr_left this, List.map_id']
  unfold mkL
  exact (h1.append h2).trans (List.filter_append_perm _ ls)
theorem sortL_pw (ls : List Lg) : ((sortL ls).map (·.nm)).Pairwise leS := by
  unfold sortL
  have h := pw_msort (fun q : Lg × Str => q.2) (ls.zip (ls.map (·.nm)))
  rw [List.map_map, List.pairwise_map]
  refine List.Pairwise.imp_of_mem (fun {a b} ha hb q => ?_) h
  have key : ∀ q ∈ ls.zip (ls.map (·.nm)), q.1.nm = q.2 := by
    intro q hq
    obtain ⟨i, hi⟩ := List.getElem?_of_mem hq
    rw [List.getElem?_zip_eq_some] at hi
    obtain ⟨h1, h2⟩ := hi
    rw [List.getElem?_map, h1] at h2
    exact Option.some.inj h2
  show leS a.1.nm b.1.nm
  rw [key a (List.mem_mergeSort.mp ha), key b (List.mem_mergeSort.mp hb)]
  exact q
theorem sortL_mem {ls : List Lg} {l : Lg} : l ∈ sortL ls ↔ l ∈ ls := (sortL_perm ls).mem_iff
theorem sortL_unique {ls ms : List Lg} (hp : ms.Perm ls) (hw : (ms.map (·.nm)).Pairwise leS) (hn : (ls.map (·.nm)).Nodup) : sortL ls = ms := by
  have h1 : (sortL ls).Pairwise fun a b => leS a.nm b.nm := List.pairwise_map.mp (sortL_pw ls)
  have h2 : ms.Pairwise fun a b => leS a.nm b.nm := List.pairwise_map.mp hw
  refine List.Perm.eq_of_pairwise (fun a b ha hb p q => ?_) h1 h2 ((sortL_perm ls).trans hp.symm)
  have e : a.nm = b.nm := leS_anti p q
  have ha2 := sortL_mem.mp ha
  have hb2 := hp.mem_iff.mp hb
  clear h1 h2 hw hp ha hb p q
  induction ls with
  | nil => cases ha2
  | cons l ls ih =>
    rw [List.map_cons] at hn
    obtain ⟨n1, n2⟩ := List.nodup_cons.mp hn
    rcases List.mem_cons.mp ha2 with rfl | ha3
    · rcases List.mem_cons.mp hb2 with rfl | hb3
      · rfl
      · exact (n1 (by rw [e]; exact List.mem_map.mpr ⟨b, hb3, rfl⟩)).elim
    · rcases List.mem_cons.mp hb2 with rfl | hb3
      · exact (n1 (by rw [← e]; exact List.mem_map.mpr ⟨a, ha3, rfl⟩)).elim
      · exact ih n2 ha3 hb3
theorem sortL_eq {as bs : List Lg} (h : as.Perm bs) (hn : (bs.map (·.nm)).Nodup) : sortL as = sortL bs := (sortL_unique ((sortL_perm as).trans h) (sortL_pw as) hn).symm
theorem at0 {α : Type} {a : α} {t : List α} : atI (a :: t) 0 = some a := atI_nat (j := 0) rfl
theorem at1 {α : Type} {a b : α} {t : List α} : atI (a :: b :: t) 1 = some b := atI_nat (j := 1) rfl
end K86
namespace K86
open PySem PySem.Spec PyProof.Rows L2 He SJ
open LamX (CodeO lamS_by Tabs tLam)
local macro_rules | `(tactic| walk_at "mr") => `(tactic| repeat' (first
  | with_reducible apply ms_seq | with_reducible apply ms_if | with_reducible apply ms_ret | with_reducible apply ms_next | with_reducible apply s_asg
  | ((with_reducible apply g_var); first | refine m_var rfl ?_ | refine m_varS rfl ?_)
  | with_reducible apply m_cI | with_reducible apply m_cS | with_reducible apply m_cB | with_reducible apply m_cN | with_reducible apply m_cC | with_reducible apply m_cT
  | with_reducible apply m_op | with_reducible apply m_cb | with_reducible apply m_nil | with_reducible apply m_cons | with_reducible apply m_test | with_reducible apply m_B | with_reducible apply q_bl
  | with_reducible apply m_and | with_reducible apply m_or | with_reducible apply m_not | with_reducible apply m_andV | with_reducible apply m_orV | with_reducible apply m_notV | with_reducible apply m_ife | with_reducible apply m_chain
  | with_reducible apply q_v | ((with_reducible apply g_slot); refine q_own rfl ?_) | with_reducible apply q_n | with_reducible apply q_c | with_reducible apply q_t | with_reducible apply q_f | with_reducible apply m_yes
  | with_reducible apply r_addI | with_reducible apply r_subI | with_reducible apply r_eqI | with_reducible apply r_neI | with_reducible apply r_eqS | with_reducible apply r_neS | with_reducible apply r_ltI | with_reducible apply r_leI | with_reducible apply r_gtI | with_reducible apply r_geI
  | with_reducible apply r_isN | with_reducible apply r_isnN | with_reducible apply c_intI | with_reducible apply c_intB | with_reducible apply v_lst | with_reducible apply m_tup | ((with_reducible apply g_le); refine ⟨Nat.le_of_ble_eq_true rfl, ?_⟩) | with_reducible apply v_sl | with_reducible apply v_dnew
  | ((with_reducible apply g_dget); refine m_dget ?_) | refine get_str rfl rfl ?_
  | with_reducible apply m_fld | with_reducible apply m_con | refine ⟨_, _, _, rfl, by walk_at "fd", rfl, ?_⟩
  | ((with_reducible apply g_fn); first | refine m_fn wr0 ?_ | refine m_fn (by assumption) ?_ | refine m_fnP ?_ rfl)
  | ((with_reducible apply g_nw); refine m_nw wr0 ?_) | ((with_reducible apply g_ownGet); refine m_ownGet wr0 ?_) | ((with_reducible apply g_ownIn); refine r_ownIn ?_)
  | ((with_reducible apply g_inS); first | refine r_inStrs rfl ?_ | refine r_inStrsT rfl ?_ | refine r_ninStrsT rfl ?_) | ((with_reducible apply g_len); first | refine c_lenL rfl ?_ | refine c_lenT rfl ?_ | refine c_lenD rfl ?_)
  | ((with_reducible apply g_list); first | refine c_listv (.inl rfl) ?_ | refine c_listv (.inr rfl) ?_) | ((with_reducible apply g_tupU); first | refine c_tupleL rfl ?_ | refine c_tupleT ?_) | ((with_reducible apply g_pr); refine m_pr ?_) | refine ⟨_, _, _, rfl, by walk_at "cl", by walk_at "pr", ?_⟩ | refine ⟨_, rfl, ?_⟩ | fail))
local macro_rules | `(tactic| walk_at "me") => `(tactic| repeat' (first
  | ((with_reducible apply g_var); first | refine m_var rfl ?_ | refine m_varS rfl ?_)
  | with_reducible apply m_cI | with_reducible apply m_cS | with_reducible apply m_cB | with_reducible apply m_cN | with_reducible apply m_cC | with_reducible apply m_cT
  | with_reducible apply m_op | with_reducible apply m_cb | with_reducible apply m_nil | with_reducible apply m_cons | with_reducible apply m_test | with_reducible apply m_B | with_reducible apply q_bl
  | with_reducible apply m_and | with_reducible apply m_or | with_reducible apply m_not | with_reducible apply m_andV | with_reducible apply m_orV | with_reducible apply m_notV | with_reducible apply m_ife | with_reducible apply m_chain
  | with_reducible apply q_v | ((with_reducible apply g_slot); refine q_own rfl ?_) | with_reducible apply q_n | with_reducible apply q_c | with_reducible apply q_t | with_reducible apply q_f | with_reducible apply m_yes
  | with_reducible apply r_addI | with_reducible apply r_subI | with_reducible apply r_eqI | with_reducible apply r_neI | with_reducible apply r_eqS | with_reducible apply r_neS | with_reducible apply r_ltI | with_reducible apply r_leI | with_reducible apply r_gtI | with_reducible apply r_geI
  | with_reducible apply r_isN | with_reducible apply r_isnN | with_reducible apply c_intI | with_reducible apply c_intB | with_reducible apply v_lst | with_reducible apply m_tup | ((with_reducible apply g_le); refine ⟨Nat.le_of_ble_eq_true rfl, ?_⟩) | with_reducible apply v_sl | with_reducible apply v_dnew
  | ((with_reducible apply g_dget); refine m_dget ?_) | refine get_str rfl rfl ?_
  | with_reducible apply m_fld | with_reducible apply m_con | refine ⟨_, _, _, rfl, by walk_at "fd", rfl, ?_⟩
  | ((with_reducible apply g_fn); first | refine m_fn wr0 ?_ | refine m_fn (by assumption) ?_ | refine m_fnP ?_ rfl)
  | ((with_reducible apply g_nw); refine m_nw wr0 ?_) | ((with_reducible apply g_ownGet); refine m_ownGet wr0 ?_) | ((with_reducible apply g_ownIn); refine r_ownIn ?_)
  | ((with_reducible apply g_inS); first | refine r_inStrs rfl ?_ | refine r_inStrsT rfl ?_ | refine r_ninStrsT rfl ?_) | ((with_reducible apply g_len); first | refine c_lenL rfl ?_ | refine c_lenT rfl ?_ | refine c_lenD rfl ?_)
  | ((with_reducible apply g_list); first | refine c_listv (.inl rfl) ?_ | refine c_listv (.inr rfl) ?_) | ((with_reducible apply g_tupU); first | refine c_tupleL rfl ?_ | refine c_tupleT ?_) | ((with_reducible apply g_pr); refine m_pr ?_) | refine ⟨_, _, _, rfl, by walk_at "cl", by walk_at "pr", ?_⟩ | refine ⟨_, rfl, ?_⟩ | fail))
local macro_rules | `(tactic| walk_at "fd") => `(tactic| first | exact (fr_fld (by assumption)).1 | exact (fr_fld (by assumption)).2.1 | exact (fr_fld (by assumption)).2.2.1 | exact (fr_fld (by assumption)).2.2.2 | exact leg_fld (by assumption) _ | fail)
local macro_rules | `(tactic| walk_at "cl") => `(tactic| first | exact fr_cls (by assumption) | exact leg_cls (by assumption) _ | fail)
local macro_rules | `(tactic| walk_at "pr") => `(tactic| first | exact Tx.pr_Flegs (by assumption) | exact Tx.pr_Fnames (by assumption) | exact Tx.pr_Fdrivers (by assumption) | exact Tx.pr_Flisteners (by assumption) | exact Tx.pr_Frails (by assumption) | exact Tx.pr_Fmembers (by assumption) | exact leg_prB (by assumption) _ | fail)
section
variable {K : PySem.W.Frag} {mg : Str → Option Value} {vs : List V} {H : Hp} {Q : VK} {E : XK}
def digits : List Nat := ("0123456789" : Str).cps.toList
theorem mem_dig {c : Nat} : c ∈ digits ↔ 48 ≤ c ∧ c ≤ 57 := by
  have e : digits = [48, 49, 50, 51, 52, 53, 54, 55, 56, 57] := by decide +kernel
  rw [e]
  simp only [List.mem_cons, List.not_mem_nil, or_false]
  omega
def digF : D → D
  | .str s => .bl (s.cps.toList.all fun c => decide (c ∈ digits))
  | _ => .non
theorem digF_map (z : Str) : ((signsD z).filter fun _ => true).map digF = (z.cps.toList.map fun c => decide (c ∈ digits)).map D.bl := by
  rw [List.filter_eq_self.mpr (fun _ _ => rfl)]
  unfold signsD
  rw [List.map_map, List.map_map]
  refine List.map_congr_left fun c _ => ?_
  show D.bl (([c] : List Nat).all fun c => decide (c ∈ digits)) = D.bl _
  rw [List.all_cons, List.all_nil, Bool.and_true]
theorem len_list (z : Str) : z.length = z.cps.toList.length := TL.len_tl z
theorem int_one {z : Str} {c : Nat} (h : z.cps.toList = [c]) (h0 : 48 ≤ c) (h9 : c ≤ 57) : PySem.intText? z = some ((c : Int) - 48) := by
  rw [intText_digits (x := z) (fun d hd => by rw [h] at hd; rw [List.mem_singleton.mp hd]; exact ⟨h0, h9⟩) (by rw [h]; exact List.cons_ne_nil _ _) (by rw [len_list, h]; exact Nat.le_of_ble_eq_true rfl), h]
  show some (((0 * 10 + (c - 48) : Nat)) : Int) = _
  congr 1
  omega
theorem int_two {z : Str} {c d : Nat} (h : z.cps.toList = [c, d]) (h0 : 48 ≤ c) (h9 : c ≤ 57) (g0 : 48 ≤ d) (g9 : d ≤ 57) : PySem.intText? z = some (((c : Int) - 48) * 10 + ((d : Int) - 48)) := by
  rw [intText_digits (x := z) (fun e he => by
    rw [h] at he
    rcases List.mem_cons.mp he with rfl | he
    · exact ⟨h0, h9⟩
    · rw [List.mem_singleton.mp he]; exact ⟨g0, g9⟩) (by rw [h]; exact List.cons_ne_nil _ _) (by rw [len_list, h]; exact Nat.le_of_ble_eq_true rfl), h]
  show some ((((0 * 10 + (c - 48)) * 10 + (d - 48) : Nat)) : Int) = _
  congr 1
  omega
theorem m_allDig {o : Hp} {w : Option V} {T0 : List (Addr × Str)} {F0 : Hp} {z : Str} {a b : D} {s3 : Sl} {QT : Bool → Ro → Prop} (hz : z.length ≤ 1001) (hs : s3.mut = false) (k : QT (z.cps.toList.all fun c => decide (c ∈ digits)) [.val (.str z), .val a, .val b, s3]) :
    Mt K ⟨o, w, T0⟩ F0 (tB (tCB (rAll K) (tCons (tLc (iStr (tVar 0)) (gName 3) tYes (tOp rInS (tVar 3) (tC (.str "0123456789"))) [3]) tNil))) [.val (.str z), .val a, .val b, s3] QT := by
  refine m_B (m_cb (m_cons (m_f (mf_lcM [3] (fun _ => true) digF (by decide) (by decide) (mi_str (m_var rfl ⟨z, rfl, ?_, one_free hs, fun d hd oo ww => ?_, m_nil ?_⟩))))))
  · unfold signsD; rw [List.length_map, Array.length_toList]; exact Nat.le_trans hz (by decide)
  · obtain ⟨c, hc, rfl⟩ := List.mem_map.mp hd
    refine mg_name ⟨rfl, rfl, m_yes ⟨rfl, rfl, fun _ => m_op (m_var rfl (m_cS (r_inSign ⟨?_, rfl⟩)))⟩⟩
    show X.val (.bl _) = X.val (.bl (([c] : List Nat).all fun c => decide (c ∈ digits)))
    rw [List.all_cons, List.all_nil, Bool.and_true]
    rfl
  · refine c_allB (bs := z.cps.toList.map fun c => decide (c ∈ digits)) (by rw [digF_map]; rfl) (q_bl ?_)
    have ea : (z.cps.toList.map fun c => decide (c ∈ digits)).all id = z.cps.toList.all fun c => decide (c ∈ digits) := by rw [List.all_map]; rfl
    rw [ea]
    exact k
theorem pure_number_in (T : Tx K mg) (h : sp_number_in K vs H Q E) : t_number_in K { nx := fun _ H2 => Q .non H2, rt := Q } (start ["word", "least", "most", "sign"] vs) H := by
  refine body_pu h fun o w F0 ds Qd Ed ⟨z, lo, hi, e, hz, h0, h9, q⟩ hW => ?_
  subst e
  have hn : (∀ c, z.cps.toList ≠ [c]) → Qd .non := fun hc => by
    have : numF z lo hi = none := by
      unfold numF
      split
      · rename_i c e; exact absurd e (hc c)
      · rfl
    rw [this] at q
    exact q
  refine ms_seq (ms_if (m_or (m_not (m_test (m_chain (m_cI (m_cb (m_cons (m_var rfl (m_nil (c_lenS (by omega) (r_leI (q_bl ?_)))))))))))))
  by_cases l1 : 1 ≤ z.length
  · rw [decide_eq_true (show (1 : Int) ≤ (z.length : Int) by omega)]
    refine q_t (m_cI (r_leI (q_bl ?_)))
    by_cases l2 : z.length ≤ 2
    · rw [decide_eq_true (show (z.length : Int) ≤ 2 by omega)]
      refine q_f (m_or (m_not (m_allDig hz rfl ?_)))
      rw [len_list] at l1 l2
      cases hL : z.cps.toList with
      | nil => rw [hL] at l1; exact absurd l1 (by decide)
      | cons c r =>
        cases r with
        | nil =>
          have hlen : (z.length : Int) = 1 := by rw [len_list, hL]; rfl
          by_cases hc : c ∈ digits
          · obtain ⟨c0, c9⟩ := mem_dig.mp hc
            have hI := int_one hL c0 c9
            rw [show ([c].all fun c => decide (c ∈ digits)) = true by rw [List.all_cons, decide_eq_true hc]; rfl]
            refine q_f (m_and (m_test (m_op (m_cb (m_cons (m_var rfl (m_nil (c_lenS (by omega) (m_cI (r_eqI (q_bl ?_)))))))))))
            rw [decide_eq_false (show ¬ (z.length : Int) = 2 by omega)]
            refine q_f (q_f (ms_next ?_))
            refine ms_ret (m_ife (m_test (m_chain (m_var rfl (m_cb (m_cons (m_var rfl (m_nil (c_intT hI (by omega) (r_leI (q_bl ?_)))))))))))
            by_cases g1 : lo ≤ (c : Int) - 48
            · rw [decide_eq_true g1]
              refine q_t (m_var rfl (r_leI (q_bl ?_)))
              by_cases g2 : (c : Int) - 48 ≤ hi
              · rw [decide_eq_true g2]
                refine q_t (m_cb (m_cons (m_var rfl (m_nil (c_intT hI (by omega) (q_v ?_))))))
                have : numF z lo hi = some ((c : Int) - 48) := by unfold numF; rw [hL]; exact if_pos ⟨c0, c9, g1, g2⟩
                rw [this] at q
                exact q
              · rw [decide_eq_false g2]
                refine q_f (m_cN (q_v ?_))
                have : numF z lo hi = none := by unfold numF; rw [hL]; exact if_neg fun k => g2 k.2.2.2
                rw [this] at q
                exact q
            · rw [decide_eq_false g1]
              refine q_f (q_bl (q_f (m_cN (q_v ?_))))
              have : numF z lo hi = none := by unfold numF; rw [hL]; exact if_neg fun k => g1 k.2.2.1
              rw [this] at q
              exact q
          · rw [show ([c].all fun c => decide (c ∈ digits)) = false by rw [List.all_cons, decide_eq_false hc]; rfl]
            refine q_t (q_t (ms_ret (m_cN (q_v ?_))))
            have : numF z lo hi = none := by unfold numF; rw [hL]; exact if_neg fun k => hc (mem_dig.mpr ⟨k.1, k.2.1⟩)
            rw [this] at q
            exact q
        | cons d r =>
          have hr : r = [] := by
            cases r with
            | nil => rfl
            | cons x y => rw [hL] at l2; exact absurd l2 (by simp only [List.length_cons]; omega)
          subst hr
          have q := hn fun e he => by rw [hL] at he; cases he
          have hlen : (z.length : Int) = 2 := by rw [len_list, hL]; rfl
          cases hd : ([c, d].all fun c => decide (c ∈ digits)) with
          | false =>
            refine q_t (q_t (ms_ret (m_cN (q_v ?_))))
            exact q
          | true =>
            rw [List.all_cons, List.all_cons, List.all_nil, Bool.and_true, Bool.and_eq_true] at hd
            obtain ⟨c0, c9⟩ := mem_dig.mp (of_decide_eq_true hd.1)
            obtain ⟨d0, d9⟩ := mem_dig.mp (of_decide_eq_true hd.2)
            have hI := int_two hL c0 c9 d0 d9
            refine q_f (m_and (m_test (m_op (m_cb (m_cons (m_var rfl (m_nil (c_lenS (by omega) (m_cI (r_eqI (q_bl ?_)))))))))))
            rw [decide_eq_true hlen]
            refine q_t (m_test (m_op (m_op (m_var rfl (m_cI (r_ixS (by omega) (e := c) (by rw [hL]; rfl) (m_cS (r_eqS (q_bl ?_)))))))))
            by_cases hc : c = 48
            · subst hc
              rw [decide_eq_true (show (⟨#[48]⟩ : Str) = "0" by decide +kernel)]
              refine q_t (ms_ret (m_cN (q_v ?_)))
              exact q
            · rw [decide_eq_false (show ¬ (⟨#[c]⟩ : Str) = "0" from fun e => hc (by
                have e2 := congrArg (fun s : Str => s.cps.toList) e
                exact (List.cons.inj (show [c] = [48] from e2)).1))]
              refine q_f (ms_next ?_)
              refine ms_ret (m_ife (m_test (m_chain (m_var rfl (m_cb (m_cons (m_var rfl (m_nil (c_intT hI (by omega) (r_leI (q_bl ?_)))))))))))
              cases decide (lo ≤ ((c : Int) - 48) * 10 + ((d : Int) - 48)) with
              | false => exact q_f (q_bl (q_f (m_cN (q_v q))))
              | true =>
                refine q_t (m_var rfl (r_leI (q_bl ?_)))
                rw [decide_eq_false (show ¬ ((c : Int) - 48) * 10 + ((d : Int) - 48) ≤ hi by omega)]
                exact q_f (m_cN (q_v q))
    · rw [decide_eq_false (show ¬ (z.length : Int) ≤ 2 by omega)]
      refine q_t (ms_ret (m_cN (q_v (hn fun c e => ?_))))
      rw [len_list, e] at l2
      exact l2 (Nat.le_of_ble_eq_true rfl)
  · rw [decide_eq_false (show ¬ (1 : Int) ≤ (z.length : Int) by omega)]
    refine q_f (q_bl (q_t (ms_ret (m_cN (q_v (hn fun c e => ?_))))))
    rw [len_list, e] at l1
    exact l1 (Nat.le_of_ble_eq_true rfl)
theorem pure_leg_of (T : Tx K mg) (h : sp_leg_of K vs H Q E) : t_leg_of K E { nx := fun _ H2 => Q .non H2, rt := Q } (start ["kind", "name"] vs) H := by
  refine body_pu h fun o w F0 ds Qd Ed ⟨k, z, e, hk, ok, hz, hn, q⟩ hW => ?_
  subst e
  refine ms_ret (m_ife (m_test (m_op (m_var rfl (m_cS (r_eqS (q_bl ?_)))))))
  cases hb : decide (k = "driver") with
  | true =>
    rw [hb] at q
    exact q_t (m_nw hW (m_cons (m_var rfl (m_nil (q_c (q_v (q_n ⟨true, z, rfl, rfl, hz, hn, q_v q⟩)))))))
  | false =>
    rw [hb] at q
    exact q_f (m_nw hW (m_cons (m_var rfl (m_nil (q_c (q_v (q_n ⟨false, z, rfl, rfl, hz, hn, q_v q⟩)))))))
theorem pure_need (T : Tx K mg) (h : sp_need K vs H Q E) : t_need K E { nx := fun _ H2 => Q .non H2, rt := Q } (start ["is_right", "line", "word"] vs) H := by
  refine body_pu h fun o w F0 ds Qd Ed ⟨b, l, n, e, q1, q2⟩ hW => ?_
  subst e
  refine ms_if (m_not (m_B (m_var rfl (q_bl ?_))))
  cases b with
  | true => exact q_f (ms_next (q1 rfl))
  | false => exact q_t (ms_rz hW (m_cons (m_var rfl (m_cons (m_var rfl (m_nil (q_c (q_v (q_c (q_v (q_n ⟨rfl, q2 rfl⟩)))))))))))
theorem ty_oddT (T : Tx K mg) {d : D} (h : oddT d = true) : TyOk K d ∧ PySem.W.kitOne K (tyD K d) (.type "str") = some false := by
  cases d with
  | non => exact ⟨trivial, T.ks_NoneType⟩
  | bl b => exact ⟨trivial, T.ks_bool⟩
  | int b => exact ⟨trivial, T.ks_int⟩
  | lst b => exact ⟨trivial, T.ks_list⟩
  | tup b => exact ⟨trivial, T.ks_tuple⟩
  | dct b => exact ⟨trivial, T.ks_dict⟩
  | _ => cases h
def splF : D → D
  | .str z => strsD (Txt.split z " ")
  | d => d
theorem splF_map (zs : List Str) : ((zs.map D.str).filter fun _ => true).map splF = (zs.map fun l => Txt.split l " ").map strsD := by
  rw [all_tt, List.map_map, List.map_map]
  rfl
theorem pure_lines_in (T : Tx K mg) (h : sp_lines_in K vs H Q E) : t_lines_in K E { nx := fun _ H2 => Q .non H2, rt := Q } (start ["text", "line"] vs) H := by
  refine body_pu h fun o w F0 ds Qd Ed ⟨d, e, q⟩ hW => ?_
  subst e
  rcases q with ⟨z, rfl, hz, q⟩ | ⟨hd, q⟩
  · refine ms_seq (ms_if (m_not (m_B (m_cb (m_cons (m_var rfl (m_cons (m_cT (m_nil (c_isiY rfl trivial T.ks_str (q_bl (q_f (ms_next ?_)))))))))))))
    have w := split_wt (x := z) sepN
    have l1 := wt_len (Txt.split z "\n")
    refine ms_ret (v_lcM [1] (fun _ => true) splF (by decide) (by decide) (mi_list (m_f (mf_split (m_var rfl ⟨z, rfl, m_cS ⟨_, rfl, by decide +kernel, by omega, q_v (q_lst ⟨by rw [List.length_map]; omega, one_free rfl, fun d hd oo ww => ?_, ?_⟩)⟩⟩)))))
    · obtain ⟨l, hl, rfl⟩ := List.mem_map.mp hd
      have := wt_mem hl
      exact mg_name ⟨rfl, rfl, m_yes ⟨rfl, rfl, fun _ => m_f (mf_split (m_var rfl ⟨l, rfl, m_cS ⟨_, rfl, by decide +kernel, by omega, rfl, rfl⟩⟩))⟩⟩
    · rw [splF_map]
      exact q_v q
  · obtain ⟨h1, h2⟩ := ty_oddT T hd
    exact ms_seq (ms_if (m_not (m_B (m_cb (m_cons (m_var rfl (m_cons (m_cT (m_nil (c_isiY rfl h1 h2 (q_bl (q_t (ms_rz hW (m_cons (m_cI (m_cons (m_cI (m_nil (q_c (q_v (q_c (q_v (q_n ⟨rfl, q⟩)))))))))))))))))))))))
end
end K86
namespace K86
open PySem PySem.Spec PyProof.Rows L2 He SJ
open LamX (CodeO lamS_by Tabs tLam)
local macro_rules | `(tactic| walk_at "mr") => `(tactic| repeat' (first
  | with_reducible apply ms_seq | with_reducible apply ms_if | with_reducible apply ms_ret | with_reducible apply ms_next | with_reducible apply s_asg
  | ((with_reducible apply g_var); first | refine m_var rfl ?_ | refine m_varS rfl ?_)
  | with_reducible apply m_cI | with_reducible apply m_cS | with_reducible apply m_cB | with_reducible apply m_cN | with_reducible apply m_cC | with_reducible apply m_cT
  | with_reducible apply m_op | with_reducible apply m_cb | with_reducible apply m_nil | with_reducible apply m_cons | with_reducible apply m_test | with_reducible apply m_B | with_reducible apply q_bl
  | with_reducible apply m_and | with_reducible apply m_or | with_reducible apply m_not | with_reducible apply m_andV | with_reducible apply m_orV | with_reducible apply m_notV | with_reducible apply m_ife | with_reducible apply m_chain
  | with_reducible apply q_v | ((with_reducible apply g_slot); refine q_own rfl ?_) | with_reducible apply q_n | with_reducible apply q_c | with_reducible apply q_t | with_reducible apply q_f | with_reducible apply m_yes
  | with_reducible apply r_addI | with_reducible apply r_subI | with_reducible apply r_eqI | with_reducible apply r_neI | with_reducible apply r_eqS | with_reducible apply r_neS | with_reducible apply r_ltI | with_reducible apply r_leI | with_reducible apply r_gtI | with_reducible apply r_geI
  | with_reducible apply r_isN | with_reducible apply r_isnN | with_reducible apply c_intI | with_reducible apply c_intB | with_reducible apply v_lst | with_reducible apply m_tup | ((with_reducible apply g_le); refine ⟨Nat.le_of_ble_eq_true rfl, ?_⟩) | with_reducible apply v_sl | with_reducible apply v_dnew
  | ((with_reducible apply g_dget); refine m_dget ?_) | refine get_str rfl rfl ?_
  | with_reducible apply m_fld | with_reducible apply m_con | refine ⟨_, _, _, rfl, by walk_at "fd", rfl, ?_⟩
  | ((with_reducible apply g_fn); first | refine m_fn wr0 ?_ | refine m_fn (by assumption) ?_ | refine m_fnP ?_ rfl)
  | ((with_reducible apply g_nw); refine m_nw wr0 ?_) | ((with_reducible apply g_ownGet); refine m_ownGet wr0 ?_) | ((with_reducible apply g_ownIn); refine r_ownIn ?_)
  | ((with_reducible apply g_inS); first | refine r_inStrs rfl ?_ | refine r_inStrsT rfl ?_ | refine r_ninStrsT rfl ?_) | ((with_reducible apply g_len); first | refine c_lenL rfl ?_ | refine c_lenT rfl ?_ | refine c_lenD rfl ?_)
  | ((with_reducible apply g_list); first | refine c_listv (.inl rfl) ?_ | refine c_listv (.inr rfl) ?_) | ((with_reducible apply g_tupU); first | refine c_tupleL rfl ?_ | refine c_tupleT ?_) | ((with_reducible apply g_pr); refine m_pr ?_) | refine ⟨_, _, _, rfl, by walk_at "cl", by walk_at "pr", ?_⟩ | refine ⟨_, rfl, ?_⟩ | fail))
local macro_rules | `(tactic| walk_at "me") => `(tactic| repeat' (first
  | ((with_reducible apply g_var); first | refine m_var rfl ?_ | refine m_varS rfl ?_)
  | with_reducible apply m_cI | with_reducible apply m_cS | with_reducible apply m_cB | with_reducible apply m_cN | with_reducible apply m_cC | with_reducible apply m_cT
  | with_reducible apply m_op | with_reducible apply m_cb | with_reducible apply m_nil | with_reducible apply m_cons | with_reducible apply m_test | with_reducible apply m_B | with_reducible apply q_bl
  | with_reducible apply m_and | with_reducible apply m_or | with_reducible apply m_not | with_reducible apply m_andV | with_reducible apply m_orV | with_reducible apply m_notV | with_reducible apply m_ife | with_reducible apply m_chain
  | with_reducible apply q_v | ((with_reducible apply g_slot); refine q_own rfl ?_) | with_reducible apply q_n | with_reducible apply q_c | with_reducible apply q_t | with_reducible apply q_f | with_reducible apply m_yes
  | with_reducible apply r_addI | with_reducible apply r_subI | with_reducible apply r_eqI | with_reducible apply r_neI | with_reducible apply r_eqS | with_reducible apply r_neS | with_reducible apply r_ltI | with_reducible apply r_leI | with_reducible apply r_gtI | with_reducible apply r_geI
  | with_reducible apply r_isN | with_reducible apply r_isnN | with_reducible apply c_intI | with_reducible apply c_intB | with_reducible apply v_lst | with_reducible apply m_tup | ((with_reducible apply g_le); refine ⟨Nat.le_of_ble_eq_true rfl, ?_⟩) | with_reducible apply v_sl | with_reducible apply v_dnew
  | ((with_reducible apply g_dget); refine m_dget ?_) | refine get_str rfl rfl ?_
  | with_reducible apply m_fld | with_reducible apply m_con | refine ⟨_, _, _, rfl, by walk_at "fd", rfl, ?_⟩
  | ((with_reducible apply g_fn); first | refine m_fn wr0 ?_ | refine m_fn (by assumption) ?_ | refine m_fnP ?_ rfl)
  | ((with_reducible apply g_nw); refine m_nw wr0 ?_) | ((with_reducible apply g_ownGet); refine m_ownGet wr0 ?_) | ((with_reducible apply g_ownIn); refine r_ownIn ?_)
  | ((with_reducible apply g_inS); first | refine r_inStrs rfl ?_ | refine r_inStrsT rfl ?_ | refine r_ninStrsT rfl ?_) | ((with_reducible apply g_len); first | refine c_lenL rfl ?_ | refine c_lenT rfl ?_ | refine c_lenD rfl ?_)
  | ((with_reducible apply g_list); first | refine c_listv (.inl rfl) ?_ | refine c_listv (.inr rfl) ?_) | ((with_reducible apply g_tupU); first | refine c_tupleL rfl ?_ | refine c_tupleT ?_) | ((with_reducible apply g_pr); refine m_pr ?_) | refine ⟨_, _, _, rfl, by walk_at "cl", by walk_at "pr", ?_⟩ | refine ⟨_, rfl, ?_⟩ | fail))
local macro_rules | `(tactic| walk_at "fd") => `(tactic| first | exact (fr_fld (by assumption)).1 | exact (fr_fld (by assumption)).2.1 | exact (fr_fld (by assumption)).2.2.1 | exact (fr_fld (by assumption)).2.2.2 | exact leg_fld (by assumption) _ | fail)
local macro_rules | `(tactic| walk_at "cl") => `(tactic| first | exact fr_cls (by assumption) | exact leg_cls (by assumption) _ | fail)
local macro_rules | `(tactic| walk_at "pr") => `(tactic| first | exact Tx.pr_Flegs (by assumption) | exact Tx.pr_Fnames (by assumption) | exact Tx.pr_Fdrivers (by assumption) | exact Tx.pr_Flisteners (by assumption) | exact Tx.pr_Frails (by assumption) | exact Tx.pr_Fmembers (by assumption) | exact leg_prB (by assumption) _ | fail)
section
variable {K : PySem.W.Frag} {mg : Str → Option Value} {vs : List V} {H : Hp} {Q : VK} {E : XK}
theorem map_take1 (h : List Str) (a : Nat) : ((h.map D.str).drop a).take 1 = ((h.drop a).take 1).map D.str := by rw [← List.map_drop, ← List.map_take]
theorem cut_one (h : List Str) (a : Nat) : cutD (h.map D.str) (some (a : Int)) (some ((a + 1 : Nat) : Int)) = ((h.drop a).take 1).map D.str := by
  rw [cut_ab, show a + 1 - a = 1 by omega, map_take1]
theorem txt_sub {zs ys : List Str} (h : TxtOk zs) (s : ∀ z ∈ ys, z ∈ zs) : TxtOk ys := fun z hz => h z (s z hz)
theorem cut_txt {h : List Str} (t : TxtOk h) (a b : Nat) : TxtOk ((h.drop a).take b) := txt_sub t fun z hz => List.mem_of_mem_drop (List.mem_of_mem_take hz)
theorem num_top {w : List Str} (hl : w.length ≤ 1) : numF (Txt.join "" w) 1 3 = topOf w := by
  match w, hl with
  | [], _ => rw [join_nil]; decide +kernel
  | [z], _ =>
    rw [join_one]
    unfold topOf
    have ext : ∀ c : Nat, z.cps.toList = [c] → z = ⟨#[c]⟩ := fun c e => TL.ext_tl e
    by_cases h1 : z = "1"
    · subst h1; decide +kernel
    · by_cases h2 : z = "2"
      · subst h2; decide +kernel
      · by_cases h3 : z = "3"
        · subst h3; decide +kernel
        · rw [if_neg (fun e => h1 (List.cons.inj e).1), if_neg (fun e => h2 (List.cons.inj e).1), if_neg (fun e => h3 (List.cons.inj e).1)]
          unfold numF
          split
          · rename_i c hc
            have e := ext c hc
            by_cases g : 48 ≤ c ∧ c ≤ 57 ∧ (1 : Int) ≤ (c : Int) - 48 ∧ (c : Int) - 48 ≤ 3
            · obtain ⟨g1, g2, g3, g4⟩ := g
              have : c = 49 ∨ c = 50 ∨ c = 51 := by omega
              rcases this with rfl | rfl | rfl
              · exact absurd (e.trans (by decide +kernel)) h1
              · exact absurd (e.trans (by decide +kernel)) h2
              · exact absurd (e.trans (by decide +kernel)) h3
            · exact if_neg g
          · rfl
theorem top_le {w : List Str} {t : Int} (h : topOf w = some t) : 1 ≤ t ∧ t ≤ 3 ∧ w.length = 1 := by
  unfold topOf at h
  split at h
  · rename_i e; cases h; rw [e]; exact ⟨by omega, by omega, rfl⟩
  · split at h
    · rename_i e; cases h; rw [e]; exact ⟨by omega, by omega, rfl⟩
    · split at h
      · rename_i e; cases h; rw [e]; exact ⟨by omega, by omega, rfl⟩
      · cases h
def legK (ls : List Lg) : List (Key × D) := ls.map fun l => (.inr l.nm, legD l)
theorem legK_has (ls : List Lg) (z : Str) : (SJ.valD (legK ls) (.inr z)).isSome = decide (z ∈ ls.map (·.nm)) := by
  unfold legK SJ.valD
  rw [List.find?_map, Option.map_map, Option.isSome_map, Bool.eq_iff_iff, decide_eq_true_iff, List.find?_isSome]
  constructor
  · rintro ⟨l, hl, e⟩
    have e := of_decide_eq_true (show decide ((Sum.inr l.nm : Key) = .inr z) = true from e)
    exact List.mem_map.mpr ⟨l, hl, Sum.inr.inj e⟩
  · intro h
    obtain ⟨l, hl, e⟩ := List.mem_map.mp h
    exact ⟨l, hl, decide_eq_true (show (Sum.inr l.nm : Key) = .inr z by rw [e])⟩
theorem legK_put {ls : List Lg} {l : Lg} (h : l.nm ∉ ls.map (·.nm)) : putKD (legK ls) (.inr l.nm) (legD l) = legK (ls ++ [l]) := by
  unfold putKD
  have e : ((legK ls).any fun kv => decide (kv.1 = .inr l.nm)) = false := by
    rw [Bool.eq_false_iff]
    intro e
    obtain ⟨kv, hk, e⟩ := List.any_eq_true.mp e
    obtain ⟨m, hm, rfl⟩ := List.mem_map.mp hk
    have e := of_decide_eq_true e
    exact h (List.mem_map.mpr ⟨m, hm, Sum.inr.inj e⟩)
  rw [e, if_neg Bool.false_ne_true]
  unfold legK
  rw [List.map_append]
  rfl
structure AccOk (acc : List Lg) : Prop where
  le : acc.length ≤ 40
  nd : (acc.map (·.nm)).Nodup
  nm : ∀ l ∈ acc, nameB l.nm = true ∧ l.nm.length ≤ 1000
theorem AccOk.legs {acc : List Lg} (h : AccOk acc) : LegsOk acc := ⟨h.le, h.nd, fun l hl => (h.nm l hl).2⟩
theorem AccOk.add {acc : List Lg} (h : AccOk acc) {r : List Str} (hk : acc.length < 40) (hn : nmB acc r = true) (hl : (r.getD 1 "").length ≤ 1000) : AccOk (acc ++ [lgOf r]) := by
  unfold nmB at hn
  rw [Bool.and_eq_true, Bool.and_eq_true] at hn
  have n1 : r.getD 1 "" ∉ acc.map (·.nm) := fun m => by
    have := hn.2.2
    rw [decide_eq_true m] at this
    cases this
  refine ⟨by rw [List.length_append, List.length_singleton]; omega, ?_, fun l hm => ?_⟩
  · rw [List.map_append]
    refine List.nodup_append.mpr ⟨h.nd, List.nodup_cons.mpr ⟨List.not_mem_nil, List.nodup_nil⟩, fun a ha b hb e => n1 ?_⟩
    rw [List.mem_singleton.mp hb] at e
    have e : a = r.getD 1 "" := e
    rw [← e]
    exact ha
  · rcases List.mem_append.mp hm with hm | hm
    · exact h.nm l hm
    · rw [List.mem_singleton.mp hm]
      exact ⟨hn.2.1, hl⟩
theorem acc_nil : AccOk [] := ⟨Nat.zero_le _, List.nodup_nil, fun l h => nomatch h⟩
theorem legsF_ok : ∀ {rs : List (List Str)} {k : Nat} {acc ls : List Lg}, legsF k acc rs = .inl ls → acc.length + 1 = k → AccOk acc → (∀ r ∈ rs, ∀ z ∈ r, z.length ≤ 1000) → AccOk ls
  | [], k, acc, ls, h, e, ok, _ => by cases h; exact ok
  | r :: rs, k, acc, ls, h, e, ok, hz => by
    unfold legsF at h
    split at h
    · rename_i h1
      rw [Bool.and_eq_true] at h1
      have hk := of_decide_eq_true h1.2
      split at h
      · rename_i h2
        split at h
        · rename_i h3
          refine legsF_ok h (by rw [List.length_append, List.length_singleton]; omega) (ok.add (by omega) h2 ?_) fun r hr => hz r (List.mem_cons_of_mem _ hr)
          have m : r.getD 1 "" ∈ r := by
            match r, h3 with
            | [a, b], _ => exact List.mem_cons_of_mem _ (List.mem_cons_self ..)
          exact hz r (List.mem_cons_self ..) _ m
        · cases h
      · cases h
    · cases h
theorem RowsOk.len {rs : List (List Str)} (h : RowsOk rs) : ∀ r ∈ rs, ∀ z ∈ r, z.length ≤ 1000 := fun r hr z hz => by
  have := wt_mem hz
  have := (h.row r hr).2.1
  omega
theorem readH_ok {h : List Str} {rs : List (List Str)} (hz : ∀ r ∈ rs, ∀ z ∈ r, z.length ≤ 1000) {t : Int} {g p : Bool} {ls : List Lg} (e : readH h rs = .inl (t, g, p, ls)) : AccOk ls ∧ 1 ≤ t ∧ t ≤ 3 := by
  unfold readH at e
  split at e
  · cases ht : topOf ((h.drop 1).take 1) with
    | none => rw [ht] at e; cases e
    | some t2 =>
      rw [ht] at e
      have e : (if h.length = 2 + nR h then readL t2 h rs else .inr (0, 2 + nR h)) = Sum.inl (t, g, p, ls) := e
      split at e
      · unfold readL at e
        cases hl : legsF 1 [] rs with
        | inl ls2 =>
          rw [hl] at e
          cases e
          exact ⟨legsF_ok hl rfl acc_nil hz, (top_le ht).1, (top_le ht).2.1⟩
        | inr x => rw [hl] at e; cases e
      · cases e
  · cases e
end
end K86
namespace K86
open PySem PySem.Spec PyProof.Rows L2 He SJ
open LamX (CodeO lamS_by Tabs tLam)
local macro_rules | `(tactic| walk_at "mr") => `(tactic| repeat' (first
  | with_reducible apply ms_seq | with_reducible apply ms_if | with_reducible apply ms_ret | with_reducible apply ms_next | with_reducible apply s_asg
  | ((with_reducible apply g_var); first | refine m_var rfl ?_ | refine m_varS rfl ?_)
  | with_reducible apply m_cI | with_reducible apply m_cS | with_reducible apply m_cB | with_reducible apply m_cN | with_reducible apply m_cC | with_reducible apply m_cT
  | with_reducible apply m_op | with_reducible apply m_cb | with_reducible apply m_nil | with_reducible apply m_cons | with_reducible apply m_test | with_reducible apply m_B | with_reducible apply q_bl
  | with_reducible apply m_and | with_reducible apply m_or | with_reducible apply m_not | with_reducible apply m_andV | with_reducible apply m_orV | with_reducible apply m_notV | with_reducible apply m_ife | with_reducible apply m_chain
  | with_reducible apply q_v | ((with_reducible apply g_slot); refine q_own rfl ?_) | with_reducible apply q_n | with_reducible apply q_c | with_reducible apply q_t | with_reducible apply q_f | with_reducible apply m_yes
  | with_reducible apply r_addI | with_reducible apply r_subI | with_reducible apply r_eqI | with_reducible apply r_neI | with_reducible apply r_eqS | with_reducible apply r_neS | with_reducible apply r_ltI | with_reducible apply r_leI | with_reducible apply r_gtI | with_reducible apply r_geI
  | with_reducible apply r_isN | with_reducible apply r_isnN | with_reducible apply c_intI | with_reducible apply c_intB | with_reducible apply v_lst | with_reducible apply m_tup | ((with_reducible apply g_le); refine ⟨Nat.le_of_ble_eq_true rfl, ?_⟩) | with_reducible apply v_sl | with_reducible apply v_dnew
  | ((with_reducible apply g_dget); refine m_dget ?_) | refine get_str rfl rfl ?_
  | with_reducible apply m_fld | with_reducible apply m_con | refine ⟨_, _, _, rfl, by walk_at "fd", rfl, ?_⟩
  | ((with_reducible apply g_fn); first | refine m_fn wr0 ?_ | refine m_fn (by assumption) ?_ | refine m_fnP ?_ rfl)
  | ((with_reducible apply g_nw); refine m_nw wr0 ?_) | ((with_reducible apply g_ownGet); refine m_ownGet wr0 ?_) | ((with_reducible apply g_ownIn); refine r_ownIn ?_)
  | ((with_reducible apply g_inS); first | refine r_inStrs rfl ?_ | refine r_inStrsT rfl ?_ | refine r_ninStrsT rfl ?_) | ((with_reducible apply g_len); first | refine c_lenL rfl ?_ | refine c_lenT rfl ?_ | refine c_lenD rfl ?_)
  | ((with_reducible apply g_list); first | refine c_listv (.inl rfl) ?_ | refine c_listv (.inr rfl) ?_) | ((with_reducible apply g_tupU); first | refine c_tupleL rfl ?_ | refine c_tupleT ?_) | ((with_reducible apply g_pr); refine m_pr ?_) | refine ⟨_, _, _, rfl, by walk_at "cl", by walk_at "pr", ?_⟩ | refine ⟨_, rfl, ?_⟩ | fail))
local macro_rules | `(tactic| walk_at "me") => `(tactic| repeat' (first
  | ((with_reducible apply g_var); first | refine m_var rfl ?_ | refine m_varS rfl ?_)
  | with_reducible apply m_cI | with_reducible apply m_cS | with_reducible apply m_cB | with_reducible apply m_cN | with_reducible apply m_cC | with_reducible apply m_cT
  | with_reducible apply m_op | with_reducible apply m_cb | with_reducible apply m_nil | with_reducible apply m_cons | with_reducible apply m_test | with_reducible apply m_B | with_reducible apply q_bl
  | with_reducible apply m_and | with_reducible apply m_or | with_reducible apply m_not | with_reducible apply m_andV | with_reducible apply m_orV | with_reducible apply m_notV | with_reducible apply m_ife | with_reducible apply m_chain
  | with_reducible apply q_v | ((with_reducible apply g_slot); refine q_own rfl ?_) | with_reducible apply q_n | with_reducible apply q_c | with_reducible apply q_t | with_reducible apply q_f | with_reducible apply m_yes
  | with_reducible apply r_addI | with_reducible apply r_subI | with_reducible apply r_eqI | with_reducible apply r_neI | with_reducible apply r_eqS | with_reducible apply r_neS | with_reducible apply r_ltI | with_reducible apply r_leI | with_reducible apply r_gtI | with_reducible apply r_geI
  | with_reducible apply r_isN | with_reducible apply r_isnN | with_reducible apply c_intI | with_reducible apply c_intB | with_reducible apply v_lst | with_reducible apply m_tup | ((with_reducible apply g_le); refine ⟨Nat.le_of_ble_eq_true rfl, ?_⟩) | with_reducible apply v_sl | with_reducible apply v_dnew
  | ((with_reducible apply g_dget); refine m_dget ?_) | refine get_str rfl rfl ?_
  | with_reducible apply m_fld | with_reducible apply m_con | refine ⟨_, _, _, rfl, by walk_at "fd", rfl, ?_⟩
  | ((with_reducible apply g_fn); first | refine m_fn wr0 ?_ | refine m_fn (by assumption) ?_ | refine m_fnP ?_ rfl)
  | ((with_reducible apply g_nw); refine m_nw wr0 ?_) | ((with_reducible apply g_ownGet); refine m_ownGet wr0 ?_) | ((with_reducible apply g_ownIn); refine r_ownIn ?_)
  | ((with_reducible apply g_inS); first | refine r_inStrs rfl ?_ | refine r_inStrsT rfl ?_ | refine r_ninStrsT rfl ?_) | ((with_reducible apply g_len); first | refine c_lenL rfl ?_ | refine c_lenT rfl ?_ | refine c_lenD rfl ?_)
  | ((with_reducible apply g_list); first | refine c_listv (.inl rfl) ?_ | refine c_listv (.inr rfl) ?_) | ((with_reducible apply g_tupU); first | refine c_tupleL rfl ?_ | refine c_tupleT ?_) | ((with_reducible apply g_pr); refine m_pr ?_) | refine ⟨_, _, _, rfl, by walk_at "cl", by walk_at "pr", ?_⟩ | refine ⟨_, rfl, ?_⟩ | fail))
local macro_rules | `(tactic| walk_at "fd") => `(tactic| first | exact (fr_fld (by assumption)).1 | exact (fr_fld (by assumption)).2.1 | exact (fr_fld (by assumption)).2.2.1 | exact (fr_fld (by assumption)).2.2.2 | exact leg_fld (by assumption) _ | fail)
local macro_rules | `(tactic| walk_at "cl") => `(tactic| first | exact fr_cls (by assumption) | exact leg_cls (by assumption) _ | fail)
local macro_rules | `(tactic| walk_at "pr") => `(tactic| first | exact Tx.pr_Flegs (by assumption) | exact Tx.pr_Fnames (by assumption) | exact Tx.pr_Fdrivers (by assumption) | exact Tx.pr_Flisteners (by assumption) | exact Tx.pr_Frails (by assumption) | exact Tx.pr_Fmembers (by assumption) | exact leg_prB (by assumption) _ | fail)
section
variable {K : PySem.W.Frag} {mg : Str → Option Value} {vs : List V} {H : Hp} {Q : VK} {E : XK}
/-- head[2 + len(rails):3 + len(rails)] == [rail] -/
theorem m_rail {O : Oc} {F0 : Hp} {ρ : Ro} {QT : Bool → Ro → Prop} {h cur : List Str} {z : Str} (h1 : sl ρ 1 = .val (strsD h)) (h3 : sl ρ 3 = .own (.lst (cur.map D.str))) (h4 : sl ρ 4 = .val (.str z)) (th : TxtOk h) (tz : PyData.strOk z = true) (k : QT (decide ((h.drop (2 + cur.length)).take 1 = [z])) ρ) :
    Mt K O F0 (tTest (tOp (rEqU K) (tSl (rSlU K) (tVar 1) (tPart (tOp (rAdd K) (tC (.int 2)) (tCB (rLenU K) (tCons (tVar 3) tNil)))) (tPart (tOp (rAdd K) (tC (.int 3)) (tCB (rLenU K) (tCons (tVar 3) tNil))))) (tLst (tCons (tVar 4) tNil)))) ρ QT := by
  have m3 : (sl ρ 3).mut = true := by rw [h3]; rfl
  have s3 : seeD (.slot 3) ρ = some (.lst (cur.map D.str)) := by
    show (match sl ρ 3 with | .own d => some d | .val d => some d | _ => none) = _
    rw [h3]
  have e2 : (2 : Int) + ((cur.map D.str).length : Int) = ((2 + cur.length : Nat) : Int) := by rw [List.length_map]; omega
  have e3 : (3 : Int) + ((cur.map D.str).length : Int) = ((2 + cur.length + 1 : Nat) : Int) := by rw [List.length_map]; omega
  refine m_test (m_op (v_sl (m_var h1 (mo_part (m_op (m_cI (m_cb (m_cons (m_varS m3 (m_nil (c_lenL s3 (r_addI ⟨_, rfl, ?_⟩))))))))))))
  refine mo_part (m_op (m_cI (m_cb (m_cons (m_varS m3 (m_nil (c_lenL s3 (r_addI ⟨_, rfl, h.map D.str, rfl, ?_⟩))))))))
  rw [e2, e3, cut_one]
  refine v_lst (m_cons (m_var h4 (m_nil (q_c (q_v (q_n ⟨Nat.le_of_ble_eq_true rfl, r_eqStrsL (ys := [z]) rfl rfl (cut_txt th _ _) (fun y hy => by rw [List.mem_singleton.mp hy]; exact tz) (q_bl k)⟩))))))
theorem ok_gp : PyData.strOk "ground" = true ∧ PyData.strOk "power" = true := ⟨ok_str (by decide), ok_str (by decide)⟩
theorem nR_eq (h : List Str) : 2 + (railsL (grB h) false).length = 2 + (if grB h = true then 1 else 0) := by
  cases grB h <;> rfl
theorem poB_eq (h : List Str) : decide ((h.drop (2 + (railsL (grB h) false).length)).take 1 = [("power" : Str)]) = poB h := by rw [nR_eq]; rfl
theorem rails_gp (g p : Bool) : railsL g p = railsL g false ++ (if p = true then [("power" : Str)] else []) := by
  cases g <;> cases p <;> rfl
theorem row_cons {r : List Str} (h : r ≠ []) : ∃ a t, r = a :: t := by
  cases r with
  | nil => exact absurd rfl h
  | cons a t => exact ⟨a, t, rfl⟩
theorem kd_eq {a : Str} {t : List Str} : kdB (a :: t) = decide (a ∈ (["driver", "listener"] : List Str)) := rfl
theorem row_one {r : List Str} (h : 1 < r.length) : ∃ a b t, r = a :: b :: t := by
  match r, h with
  | a :: b :: t, _ => exact ⟨a, b, t, rfl⟩
theorem pure_frame_in (T : Tx K mg) (h : sp_frame_in K vs H Q E) : t_frame_in K E { nx := fun _ H2 => Q .non H2, rt := Q } (start ["rows", "head", "top", "rails", "rail", "legs", "line", "words"] vs) H := by
  refine body_pu h fun o w F0 ds Qd Ed ⟨rs, e, ok, qq, qe⟩ hW => ?_
  subst e
  obtain ⟨hd, rest, rfl⟩ : ∃ a t, rs = a :: t := by
    cases rs with
    | nil => exact absurd rfl ok.ne
    | cons a t => exact ⟨a, t, rfl⟩
  obtain ⟨h0, ht, rfl⟩ := row_cons (ok.row hd (List.mem_cons_self ..)).1
  have th : TxtOk (h0 :: ht) := okT_txt (ok.row _ (List.mem_cons_self ..)).2.2
  have lz := ok.len
  generalize hH : h0 :: ht = hh at *
  have hhd : hh.headD "" = h0 := by rw [← hH]; rfl
  have hat : atI (hh.map D.str) 0 = some (.str h0) := by rw [← hH]; exact at0
  have q1 : ∀ {a b : Nat}, readH hh rest = .inr (a, b) → Ed "InvalidText" (xtF a b) := fun e => qe _ _ e
  refine ms_seq (ms_drop (m_fn hW (m_cons (m_andV (m_op (m_var rfl (v_lst (m_nil (q_n ⟨Nat.zero_le _, r_seq (fun _ _ => true) (.inr ⟨rfl, rfl⟩) (fun d hd e he => nomatch he) (q_bl (q_t ?_))⟩)))))))))
  refine m_op (m_op (m_op (m_var rfl (m_cI (r_ixL rfl (e := strsD hh) at0 (m_cI (r_ixL (ds := hh.map D.str) rfl hat (m_cS (r_eqS ?_)))))))))
  refine m_cons (m_cI (m_cons (m_cI (m_nil (q_c (q_v (q_c (q_v (q_c (q_v (q_n ⟨_, 0, 0, rfl, fun e1 => ?_, fun e1 => q1 ?_⟩)))))))))))
  rotate_left
  · unfold readH
    exact if_neg (by rw [hhd]; exact of_decide_eq_false e1)
  have e1 := of_decide_eq_true e1
  have rd : readH hh rest = readT hh rest (topOf ((hh.drop 1).take 1)) := by
    unfold readH
    exact if_pos (by rw [hhd]; exact e1)
  refine ms_seq (s_asg (m_op (m_var rfl (m_cI (r_ixL rfl (e := strsD hh) at0 (q_v ?_))))))
  have hw1 : ((hh.drop 1).take 1).length ≤ 1 := by rw [List.length_take]; omega
  have hwz : ∀ z ∈ (hh.drop 1).take 1, z.length ≤ 1000 := fun z hz => lz hh (List.mem_cons_self ..) z (List.mem_of_mem_drop (List.mem_of_mem_take hz))
  have hjl : (Txt.join "" ((hh.drop 1).take 1)).length ≤ 1001 := by
    match hm : (hh.drop 1).take 1, hw1 with
    | [], _ => rw [join_nil]; decide
    | [z], _ => rw [join_one]; have := hwz z (by rw [hm]; exact List.mem_cons_self ..); omega
  have hjs : (((hh.drop 1).take 1).map (·.length)).sum + ((hh.drop 1).take 1).length * ("" : Str).length ≤ 16777216 := by
    match hm : (hh.drop 1).take 1, hw1 with
    | [], _ => decide
    | [z], _ =>
      have := hwz z (by rw [hm]; exact List.mem_cons_self ..)
      show z.length + 0 + 1 * ("" : Str).length ≤ _
      rw [show ("" : Str).length = 0 from rfl]
      omega
  refine ms_seq (s_asg (m_fn hW (m_cons (m_join (zs := []) (m_cS ⟨_, rfl, v_sl (m_var rfl (mo_part (m_cI ⟨_, rfl, mo_part (m_cI ⟨_, rfl, hh.map D.str, rfl, (hh.drop 1).take 1, .inl (congrArg (fun l => some (D.lst l)) (cut_one hh 1)), hjs, ?_⟩)⟩)))⟩)))))
  refine m_cons (m_cI (m_cons (m_cI (m_nil (q_c (q_v (q_c (q_v (q_c (q_v (q_n ⟨_, 1, 3, rfl, hjl, by omega, by omega, q_v ?_⟩)))))))))))
  rw [num_top hw1]
  refine ms_seq (ms_drop (m_fn hW (m_cons (m_op (m_var rfl (m_cN (r_isnN (m_cons (m_cI (m_cons (m_cI (m_nil (q_c (q_v (q_c (q_v (q_c (q_v (q_n ⟨_, 0, 1, rfl, fun e2 => ?_, fun e2 => q1 ?_⟩)))))))))))))))))))
  rotate_left
  · rw [rd]
    cases ht : topOf ((hh.drop 1).take 1) with
    | none => rfl
    | some t => rw [ht] at e2; cases e2
  obtain ⟨t, ht⟩ : ∃ t, topOf ((hh.drop 1).take 1) = some t := by
    cases ht : topOf ((hh.drop 1).take 1) with
    | none => rw [ht] at e2; cases e2
    | some t => exact ⟨t, rfl⟩
  rw [ht]
  rw [ht] at rd
  obtain ⟨t1, t3, tl⟩ := top_le ht
  refine ms_seq (s_asgF (mf_lst (m_nil (q_n ⟨Nat.zero_le _, by show 3 < 8; decide, ?_⟩))))
  refine ms_seq (ms_for [4] (mi_tup (m_tup (m_cons (m_cS (m_cons (m_cS (m_nil (q_c (q_v (q_c (q_v (q_n ⟨Nat.le_of_ble_eq_true rfl, q_v (q_tup ⟨fun i ρ => ∃ (s4 : Sl) (cur : List Str), (i = 0 → cur = []) ∧ (i = 1 → cur = railsL (grB hh) false) ∧ (i = 2 → cur = railsL (grB hh) (poB hh)) ∧ ρ = [.val (rowsD (hh :: rest)), .val (strsD hh), .val (.int t), .own (.lst (cur.map D.str)), s4, .none, .none, .none], ⟨.none, [], fun _ => rfl, fun z => by omega, fun z => by omega, rfl⟩, fun i d ρ hd hI => ?_, fun ρ hI => ?_⟩)⟩)))))))))))))
  · obtain ⟨s4, cur, c0, c1, c2, rfl⟩ := hI
    match i, hd with
    | 0, hd =>
      cases hd
      obtain rfl := c0 rfl
      refine mg_name (ms_if (m_rail rfl rfl rfl th ok_gp.1 ?_))
      have eg : decide ((hh.drop (2 + ([] : List Str).length)).take 1 = [("ground" : Str)]) = grB hh := rfl
      rw [eg]
      cases hg : grB hh with
      | true =>
        rw [hg] at c1
        exact q_t (ms_append rfl (m_var rfl (q_v ⟨[], rfl, by decide, .val (.str "ground"), ["ground"], fun z => by omega, fun _ => rfl, fun z => by omega, rfl⟩)))
      | false => exact q_f (ms_next ⟨.val (.str "ground"), [], fun z => rfl, fun _ => rfl, fun z => by omega, rfl⟩)
    | 1, hd =>
      cases hd
      obtain rfl := c1 rfl
      refine mg_name (ms_if (m_rail rfl rfl rfl th ok_gp.2 ?_))
      rw [poB_eq]
      cases hp : poB hh with
      | true =>
        refine q_t (ms_append rfl (m_var rfl (q_v ⟨_, rfl, by rw [List.length_map]; cases grB hh <;> decide, .val (.str "power"), railsL (grB hh) true, fun z => by omega, fun z => by omega, fun _ => rfl, ?_⟩)))
        rw [rails_gp _ true, List.map_append]
        rfl
      | false => exact q_f (ms_next ⟨.val (.str "power"), _, fun z => by omega, fun z => by omega, fun _ => rfl, rfl⟩)
    | i + 2, hd => cases hd
  obtain ⟨s4, cur, c0, c1, c2, rfl⟩ := hI
  obtain rfl := c2 rfl
  have eL : (2 : Int) + (((railsL (grB hh) (poB hh)).map D.str).length : Int) = ((2 + nR hh : Nat) : Int) := by rw [List.length_map]; show _ = ((2 + (railsL (grB hh) (poB hh)).length : Nat) : Int); omega
  refine ms_seq (ms_drop (m_fn hW (m_cons (m_op (m_cb (m_cons (m_var rfl (m_nil (c_lenL rfl (m_op (m_cI (m_cb (m_cons (m_varS rfl (m_nil (c_lenL rfl (r_addI (r_eqI ?_))))))))))))))))))
  refine m_cons (m_cI (m_cons (m_op (m_cI (m_cb (m_cons (m_varS rfl (m_nil (c_lenL rfl (r_addI ?_))))))))))
  rw [eL]
  refine m_nil (q_c (q_v (q_c (q_v (q_c (q_v (q_n ⟨_, 0, 2 + nR hh, rfl, fun e3 => ?_, fun e3 => q1 ?_⟩)))))))
  rotate_left
  · rw [rd]
    exact if_neg (by have := of_decide_eq_false e3; rw [List.length_map] at this; omega)
  have e3 := of_decide_eq_true e3
  rw [List.length_map] at e3
  have e3 : hh.length = 2 + nR hh := by omega
  have rd : readH hh rest = readL t hh rest := by rw [rd]; exact if_pos e3
  obtain ⟨R, hR⟩ : ∃ R, legsF 1 [] rest = R := ⟨_, rfl⟩
  have rd2 : ∀ e, R = .inr e → readH hh rest = .inr e := fun e he => by
    rw [rd]
    unfold readL
    rw [hR, he]
  have rd3 : ∀ ls, R = .inl ls → readH hh rest = .inl (t, grB hh, poB hh, ls) := fun e he => by
    rw [rd]
    unfold readL
    rw [hR, he]
  refine ms_seq (s_asgF (m_dnew ⟨by show 5 < 8; decide, ?_⟩))
  refine ms_seq (ms_for [6, 7] (mi_enK (m_cons (v_sl (m_var rfl (mo_part (m_cI ⟨_, rfl, mo_no ⟨(hh :: rest).map strsD, rfl, ?_⟩⟩))))))) 
  rw [show SJ.cutD ((hh :: rest).map strsD) (some 1) none = rest.map strsD from cut_a _ 1]
  refine m_cons (m_cI (m_nil (q_c (q_v (q_c (q_v (q_n ⟨rest.map strsD, 1, rfl, by omega, by omega, fun i ρ => ∃ (acc : List Lg) (s6 s7 : Sl), legsF (i + 1) acc (rest.drop i) = R ∧ acc.length = i ∧ AccOk acc ∧ ρ = [.val (rowsD (hh :: rest)), .val (strsD hh), .val (.int t), .own (.lst ((railsL (grB hh) (poB hh)).map D.str)), s4, .own (.dct (legK acc)), s6, s7], ⟨[], .none, .none, hR, rfl, acc_nil, rfl⟩, fun i d ρ hd hI => ?_, fun ρ hI => ?_⟩)))))))
  · obtain ⟨acc, s6, s7, a1, a2, a3, rfl⟩ := hI
    obtain ⟨e, he, rfl⟩ := enKD_get hd
    rw [List.getElem?_map] at he
    obtain ⟨r, hr, rfl⟩ := Option.map_eq_some_iff.mp he
    have hrm : r ∈ rest := List.mem_of_getElem? hr
    have hdr : rest.drop i = r :: rest.drop (i + 1) := by
      obtain ⟨hlt, hr2⟩ := List.getElem?_eq_some_iff.mp hr
      rw [List.drop_eq_getElem_cons hlt, hr2]
    obtain ⟨k0, kt, rfl⟩ := row_cons (ok.row r (List.mem_cons_of_mem _ hrm)).1
    have okr := (ok.row _ (List.mem_cons_of_mem _ hrm)).2.2
    have lr := lz _ (List.mem_cons_of_mem _ hrm)
    rw [hdr] at a1
    unfold legsF at a1
    have e1i : (1 : Int) + (i : Nat) = ((i + 1 : Nat) : Int) := by omega
    rw [e1i]
    refine mg_pair ?_
    refine ms_seq (ms_drop (m_fn hW (m_cons (m_andV (m_op (m_op (m_var rfl (m_cI (r_ixL rfl (e := .str k0) at0 (m_cTup T.tg_KINDS (r_inStrsT rfl (q_bl ?_))))))))))))
    have go0 : (kdB (k0 :: kt) && decide (i + 1 ≤ 40)) = false → Ed "InvalidText" (xtF (i + 1) 0) := fun z => by
      refine q1 (rd2 _ ?_)
      rw [← a1, z]
      rfl
    cases hk : decide (k0 ∈ (["driver", "listener"] : List Str)) with
    | false => exact q_f (m_cons (m_var rfl (m_cons (m_cI (m_nil (q_c (q_v (q_c (q_v (q_c (q_v (q_n ⟨false, i + 1, 0, rfl, fun z => (nomatch z), fun _ => go0 (by rw [kd_eq, hk]; rfl)⟩))))))))))))
    | true =>
      refine q_t (m_op (m_var rfl (m_cvalE T.cv_MOST (fun F => .int _) (m_cC ⟨rfl, r_leI ?_⟩))))
      refine m_cons (m_var rfl (m_cons (m_cI (m_nil (q_c (q_v (q_c (q_v (q_c (q_v (q_n ⟨_, i + 1, 0, rfl, fun e4 => ?_, fun e4 => go0 ?_⟩)))))))))))
      rotate_left
      · rw [decide_eq_false (show ¬ i + 1 ≤ 40 by have := of_decide_eq_false e4; omega), Bool.and_false]
      have e4 : i + 1 ≤ 40 := by have := of_decide_eq_true e4; omega
      rw [if_pos (show (kdB (k0 :: kt) && decide (i + 1 ≤ 40)) = true by rw [kd_eq, hk, decide_eq_true e4]; rfl)] at a1
      have go1 : nmB acc (k0 :: kt) = false → Ed "InvalidText" (xtF (i + 1) 1) := fun z => by
        refine q1 (rd2 _ ?_)
        rw [← a1, z]
        rfl
      refine ms_seq (ms_drop (m_fn hW (m_cons (m_andV (m_op (m_cb (m_cons (m_var rfl (m_nil (c_lenL rfl (m_cI (r_gtI (q_bl ?_)))))))))))))
      by_cases l1 : 1 < (k0 :: kt).length
      · rw [decide_eq_true (show (((k0 :: kt).map D.str).length : Int) > 1 by rw [List.length_map]; omega)]
        obtain ⟨_, n1, rt, ez⟩ := row_one l1
        cases ez
        have hn1 : n1.length ≤ 1000 := lr n1 (List.mem_cons_of_mem _ (List.mem_cons_self ..))
        refine q_t (m_andV (m_fn hW (m_cons (m_op (m_var rfl (m_cI (r_ixL rfl (e := .str n1) at1 (m_nil (q_c (q_v (q_n ⟨n1, rfl, hn1, q_bl ?_⟩)))))))))))
        have nm_e : nmB acc (k0 :: n1 :: rt) = (nameB n1 && !decide (n1 ∈ acc.map (·.nm))) := by
          unfold nmB
          rw [decide_eq_true l1, Bool.true_and]
          rfl
        rw [nm_e] at a1 go1
        cases hnb : nameB n1 with
        | false => exact q_f (m_cons (m_var rfl (m_cons (m_cI (m_nil (q_c (q_v (q_c (q_v (q_c (q_v (q_n ⟨false, i + 1, 1, rfl, fun z => (nomatch z), fun _ => go1 (by rw [hnb]; rfl)⟩))))))))))))
        | true =>
          refine q_t (m_dnin (m_op (m_var rfl (m_cI (r_ixL rfl (e := .str n1) at1 (m_varS rfl ⟨legK acc, .inr n1, rfl, ⟨_, rfl, rfl⟩, ?_⟩))))))
          rw [legK_has]
          refine m_cons (m_var rfl (m_cons (m_cI (m_nil (q_c (q_v (q_c (q_v (q_c (q_v (q_n ⟨_, i + 1, 1, rfl, fun e5 => ?_, fun e5 => go1 (by rw [hnb, e5]; rfl)⟩)))))))))))
          have e5n : n1 ∉ acc.map (·.nm) := fun m => by rw [decide_eq_true m] at e5; cases e5
          have nmT : nmB acc (k0 :: n1 :: rt) = true := by rw [nm_e, hnb, e5]; rfl
          rw [hnb, e5, if_pos (show (true && true) = true from rfl)] at a1
          refine ms_seq (ms_drop (m_fn hW (m_cons (m_op (m_cb (m_cons (m_var rfl (m_nil (c_lenL rfl (m_cI (r_eqI ?_)))))))))))
          refine m_cons (m_var rfl (m_cons (m_cI (m_nil (q_c (q_v (q_c (q_v (q_c (q_v (q_n ⟨_, i + 1, 2, rfl, fun e6 => ?_, fun e6 => q1 ?_⟩)))))))))))
          rotate_left
          · refine rd2 _ ?_
            rw [← a1, if_neg (show ¬ (k0 :: n1 :: rt).length = 2 by have := of_decide_eq_false e6; rw [List.length_map] at this; omega)]
          have e6 : (k0 :: n1 :: rt).length = 2 := by have := of_decide_eq_true e6; rw [List.length_map] at this; omega
          rw [if_pos e6] at a1
          have hk0 : k0.length ≤ 1000 := lr k0 (List.mem_cons_self ..)
          refine ms_dputV (m_fn hW (m_cons (m_op (m_var rfl (m_cI (r_ixL rfl (e := .str k0) at0 (m_cons (m_op (m_var rfl (m_cI (r_ixL rfl (e := .str n1) at1 (m_nil (q_c (q_v (q_c (q_v (q_n ⟨k0, n1, rfl, by omega, okr k0 (List.mem_cons_self ..), hn1, hnb, q_v ⟨legK acc, n1, rfl, by unfold legK; rw [List.length_map]; omega, fun O2 F2 => m_op (m_var rfl (m_cI (r_ixL rfl (e := .str n1) at1 ⟨rfl, rfl⟩))), ?_⟩⟩)))))))))))))))))
          refine ⟨acc ++ [lgOf (k0 :: n1 :: rt)], .val (.int ((i + 1 : Nat) : Int)), .val (strsD (k0 :: n1 :: rt)), a1, by rw [List.length_append, List.length_singleton, a2], a3.add (by omega) nmT hn1, ?_⟩
          rw [← legK_put (l := lgOf (k0 :: n1 :: rt)) e5n]
          rfl
      · rw [decide_eq_false (show ¬ (((k0 :: kt).map D.str).length : Int) > 1 by rw [List.length_map]; omega)]
        exact q_f (m_cons (m_var rfl (m_cons (m_cI (m_nil (q_c (q_v (q_c (q_v (q_c (q_v (q_n ⟨false, i + 1, 1, rfl, fun z => (nomatch z), fun _ => go1 (by unfold nmB; rw [decide_eq_false l1]; rfl)⟩))))))))))))
  obtain ⟨acc, s6, s7, a1, a2, a3, rfl⟩ := hI
  have hl : (enKD 1 (rest.map strsD)).length = rest.length := by unfold enKD; rw [List.length_map, List.length_zipIdx, List.length_map]
  rw [hl, List.drop_length] at a1
  have rdF : readF (hh :: rest) = .inl (t, grB hh, poB hh, acc) := by
    show readH hh rest = _
    exact rd3 _ (a1.symm.trans (by unfold legsF; rfl))
  refine ms_ret (m_cmK [] (fun F => .nil) hW (m_cC ⟨rfl, ?_⟩))
  refine m_cons (m_f (mf_listV (m_varS rfl ⟨legK acc, rfl, m_nil ?_⟩)))
  refine m_cons (m_var rfl (m_cons (m_op (m_cS (m_varS rfl (r_inStrs rfl (m_cons (m_op (m_cS (m_varS rfl (r_inStrs rfl (m_nil ?_))))))))))) )
  have el : (legK acc).map (·.2) = acc.map legD := by unfold legK; rw [List.map_map]; rfl
  have er : decide (("ground" : Str) ∈ railsL (grB hh) (poB hh)) = grB hh ∧ decide (("power" : Str) ∈ railsL (grB hh) (poB hh)) = poB hh := by cases grB hh <;> cases poB hh <;> decide
  rw [el, er.1, er.2]
  refine q_c (q_v (q_c (q_v (q_c (q_v (q_c (q_v (q_n ⟨[_], [_, _, _], rfl, rfl, rfl, rfl, ?_⟩)))))))) 
  exact ⟨acc, t, grB hh, poB hh, _, rfl, .inl rfl, a3.legs, t1, t3, q_v (qq _ _ _ _ rdF)⟩
theorem pure_read_frame (T : Tx K mg) (h : sp_read_frame K vs H Q E) : t_read_frame K E { nx := fun _ H2 => Q .non H2, rt := Q } (start ["text"] vs) H := by
  refine body_pu h fun o w F0 ds Qd Ed ⟨d, e, q⟩ hW => ?_
  subst e
  rcases q with ⟨z, rfl, hz, hk, q⟩ | ⟨hd, q⟩
  · exact ms_ret (m_fn hW (m_cons (m_fn hW (m_cons (m_var rfl (m_nil (q_c (q_v (q_n ⟨_, rfl, .inl ⟨z, rfl, hz, m_nil (q_c (q_v (q_n ⟨rowsOf z, rfl, rowsOf_ok hz hk, fun t g p ls e => q_v (q.1 t g p ls e), q.2⟩)))⟩⟩)))))))))
  · exact ms_ret (m_fn hW (m_cons (m_fn hW (m_cons (m_var rfl (m_nil (q_c (q_v (q_n ⟨_, rfl, .inr ⟨hd, q⟩⟩)))))))))
end
end K86
namespace K86
open PySem PySem.Spec PyProof.Rows L2 He SJ
open LamX (CodeO lamS_by Tabs tLam)
local macro_rules | `(tactic| walk_at "mr") => `(tactic| repeat' (first
  | with_reducible apply ms_seq | with_reducible apply ms_if | with_reducible apply ms_ret | with_reducible apply ms_next | with_reducible apply s_asg
  | ((with_reducible apply g_var); first | refine m_var rfl ?_ | refine m_varS rfl ?_)
  | with_reducible apply m_cI | with_reducible apply m_cS | with_reducible apply m_cB | with_reducible apply m_cN | with_reducible apply m_cC | with_reducible apply m_cT
  | with_reducible apply m_op | with_reducible apply m_cb | with_reducible apply m_nil | with_reducible apply m_cons | with_reducible apply m_test | with_reducible apply m_B | with_reducible apply q_bl
  | with_reducible apply m_and | with_reducible apply m_or | with_reducible apply m_not | with_reducible apply m_andV | with_reducible apply m_orV | with_reducible apply m_notV | with_reducible apply m_ife | with_reducible apply m_chain
  | with_reducible apply q_v | ((with_reducible apply g_slot); refine q_own rfl ?_) | with_reducible apply q_n | with_reducible apply q_c | with_reducible apply q_t | with_reducible apply q_f | with_reducible apply m_yes
  | with_reducible apply r_addI | with_reducible apply r_subI | with_reducible apply r_eqI | with_reducible apply r_neI | with_reducible apply r_eqS | with_reducible apply r_neS | with_reducible apply r_ltI | with_reducible apply r_leI | with_reducible apply r_gtI | with_reducible apply r_geI
  | with_reducible apply r_isN | with_reducible apply r_isnN | with_reducible apply c_intI | with_reducible apply c_intB | with_reducible apply v_lst | with_reducible apply m_tup | ((with_reducible apply g_le); refine ⟨Nat.le_of_ble_eq_true rfl, ?_⟩) | with_reducible apply v_sl | with_reducible apply v_dnew
  | ((with_reducible apply g_dget); refine m_dget ?_) | refine get_str rfl rfl ?_
  | with_reducible apply m_fld | with_reducible apply m_con | refine ⟨_, _, _, rfl, by walk_at "fd", rfl, ?_⟩
  | ((with_reducible apply g_fn); first | refine m_fn wr0 ?_ | refine m_fn (by assumption) ?_ | refine m_fnP ?_ rfl)
  | ((with_reducible apply g_nw); refine m_nw wr0 ?_) | ((with_reducible apply g_ownGet); refine m_ownGet wr0 ?_) | ((with_reducible apply g_ownIn); refine r_ownIn ?_)
  | ((with_reducible apply g_inS); first | refine r_inStrs rfl ?_ | refine r_inStrsT rfl ?_ | refine r_ninStrsT rfl ?_) | ((with_reducible apply g_len); first | refine c_lenL rfl ?_ | refine c_lenT rfl ?_ | refine c_lenD rfl ?_)
  | ((with_reducible apply g_list); first | refine c_listv (.inl rfl) ?_ | refine c_listv (.inr rfl) ?_) | ((with_reducible apply g_tupU); first | refine c_tupleL rfl ?_ | refine c_tupleT ?_) | ((with_reducible apply g_pr); refine m_pr ?_) | refine ⟨_, _, _, rfl, by walk_at "cl", by walk_at "pr", ?_⟩ | refine ⟨_, rfl, ?_⟩ | fail))
local macro_rules | `(tactic| walk_at "me") => `(tactic| repeat' (first
  | ((with_reducible apply g_var); first | refine m_var rfl ?_ | refine m_varS rfl ?_)
  | with_reducible apply m_cI | with_reducible apply m_cS | with_reducible apply m_cB | with_reducible apply m_cN | with_reducible apply m_cC | with_reducible apply m_cT
  | with_reducible apply m_op | with_reducible apply m_cb | with_reducible apply m_nil | with_reducible apply m_cons | with_reducible apply m_test | with_reducible apply m_B | with_reducible apply q_bl
  | with_reducible apply m_and | with_reducible apply m_or | with_reducible apply m_not | with_reducible apply m_andV | with_reducible apply m_orV | with_reducible apply m_notV | with_reducible apply m_ife | with_reducible apply m_chain
  | with_reducible apply q_v | ((with_reducible apply g_slot); refine q_own rfl ?_) | with_reducible apply q_n | with_reducible apply q_c | with_reducible apply q_t | with_reducible apply q_f | with_reducible apply m_yes
  | with_reducible apply r_addI | with_reducible apply r_subI | with_reducible apply r_eqI | with_reducible apply r_neI | with_reducible apply r_eqS | with_reducible apply r_neS | with_reducible apply r_ltI | with_reducible apply r_leI | with_reducible apply r_gtI | with_reducible apply r_geI
  | with_reducible apply r_isN | with_reducible apply r_isnN | with_reducible apply c_intI | with_reducible apply c_intB | with_reducible apply v_lst | with_reducible apply m_tup | ((with_reducible apply g_le); refine ⟨Nat.le_of_ble_eq_true rfl, ?_⟩) | with_reducible apply v_sl | with_reducible apply v_dnew
  | ((with_reducible apply g_dget); refine m_dget ?_) | refine get_str rfl rfl ?_
  | with_reducible apply m_fld | with_reducible apply m_con | refine ⟨_, _, _, rfl, by walk_at "fd", rfl, ?_⟩
  | ((with_reducible apply g_fn); first | refine m_fn wr0 ?_ | refine m_fn (by assumption) ?_ | refine m_fnP ?_ rfl)
  | ((with_reducible apply g_nw); refine m_nw wr0 ?_) | ((with_reducible apply g_ownGet); refine m_ownGet wr0 ?_) | ((with_reducible apply g_ownIn); refine r_ownIn ?_)
  | ((with_reducible apply g_inS); first | refine r_inStrs rfl ?_ | refine r_inStrsT rfl ?_ | refine r_ninStrsT rfl ?_) | ((with_reducible apply g_len); first | refine c_lenL rfl ?_ | refine c_lenT rfl ?_ | refine c_lenD rfl ?_)
  | ((with_reducible apply g_list); first | refine c_listv (.inl rfl) ?_ | refine c_listv (.inr rfl) ?_) | ((with_reducible apply g_tupU); first | refine c_tupleL rfl ?_ | refine c_tupleT ?_) | ((with_reducible apply g_pr); refine m_pr ?_) | refine ⟨_, _, _, rfl, by walk_at "cl", by walk_at "pr", ?_⟩ | refine ⟨_, rfl, ?_⟩ | fail))
local macro_rules | `(tactic| walk_at "fd") => `(tactic| first | exact (fr_fld (by assumption)).1 | exact (fr_fld (by assumption)).2.1 | exact (fr_fld (by assumption)).2.2.1 | exact (fr_fld (by assumption)).2.2.2 | exact leg_fld (by assumption) _ | fail)
local macro_rules | `(tactic| walk_at "cl") => `(tactic| first | exact fr_cls (by assumption) | exact leg_cls (by assumption) _ | fail)
local macro_rules | `(tactic| walk_at "pr") => `(tactic| first | exact Tx.pr_Flegs (by assumption) | exact Tx.pr_Fnames (by assumption) | exact Tx.pr_Fdrivers (by assumption) | exact Tx.pr_Flisteners (by assumption) | exact Tx.pr_Frails (by assumption) | exact Tx.pr_Fmembers (by assumption) | exact leg_prB (by assumption) _ | fail)
section
variable {K : PySem.W.Frag} {mg : Str → Option Value} {vs : List V} {H : Hp} {Q : VK} {E : XK}
theorem pure_Lpen (T : Tx K mg) (h : sp_Lpen K vs H Q E) : t_Lpen K { nx := fun _ H2 => Q .non H2, rt := Q } (start ["_law_script"] vs) H := pen_ok h
theorem pure_Ldraw (T : Tx K mg) (h : sp_Ldraw K vs H Q E) : t_Ldraw K { nx := fun _ H2 => Q .non H2, rt := Q } (start ["_law_pen_here", "_law_many", "_law_digit", "_law_at", "_law_cell", "_law_great", "_law_mixed"] vs) H :=
  draw_okB (c1 := 90073) (c2 := 149) (m1 := 2147483563) (c3 := 50093) (c4 := 43) (m2 := 2147483587) (c5 := 71) (c6 := 60101) (c7 := 41) (m3 := 2147483629) (draw_of h) (by decide) (by decide) (by decide) (by decide) (by decide) (by decide) (by decide) (by decide) (by decide)
theorem pure_Lpick (T : Tx K mg) (h : sp_Lpick K vs H Q E) : t_Lpick K { nx := fun _ H2 => Q .non H2, rt := Q } (start ["_law_pen_here", "_law_some"] vs) H := by
  refine body_pp h fun o w F0 m ds Qd ⟨es, hd, h1, h2, h3, q⟩ => ?_
  have hpos : 0 < es.length := Nat.pos_of_ne_zero fun z => h2 (List.eq_nil_of_length_eq_zero z)
  rcases hd with rfl | rfl
  · refine ms_ret (m_op (m_var rfl (m_fnP (m_cons (m_cb (m_cons (m_var rfl (m_nil (c_lenL rfl (m_nil ⟨_, rfl, _, rfl, h1, by omega, by omega, fun r r0 r1 => ?_⟩))))))) rfl)))
    obtain ⟨e, e1, e2⟩ := atI_in r0 r1
    exact r_ixL rfl e2 (q_v ⟨_, rfl, q e (List.mem_of_getElem? e1)⟩)
  · refine ms_ret (m_op (m_var rfl (m_fnP (m_cons (m_cb (m_cons (m_var rfl (m_nil (c_lenT rfl (m_nil ⟨_, rfl, _, rfl, h1, by omega, by omega, fun r r0 r1 => ?_⟩))))))) rfl)))
    obtain ⟨e, e1, e2⟩ := atI_in r0 r1
    exact r_ixT rfl e2 (q_v ⟨_, rfl, q e (List.mem_of_getElem? e1)⟩)
theorem pool_nd : pool.Nodup := by decide
end
end K86
namespace K86
open PySem PySem.Spec PyProof.Rows L2 He SJ
open LamX (CodeO lamS_by Tabs tLam)
local macro_rules | `(tactic| walk_at "mr") => `(tactic| repeat' (first
  | with_reducible apply ms_seq | with_reducible apply ms_if | with_reducible apply ms_ret | with_reducible apply ms_next | with_reducible apply s_asg
  | ((with_reducible apply g_var); first | refine m_var rfl ?_ | refine m_varS rfl ?_)
  | with_reducible apply m_cI | with_reducible apply m_cS | with_reducible apply m_cB | with_reducible apply m_cN | with_reducible apply m_cC | with_reducible apply m_cT
  | with_reducible apply m_op | with_reducible apply m_cb | with_reducible apply m_nil | with_reducible apply m_cons | with_reducible apply m_test | with_reducible apply m_B | with_reducible apply q_bl
  | with_reducible apply m_and | with_reducible apply m_or | with_reducible apply m_not | with_reducible apply m_andV | with_reducible apply m_orV | with_reducible apply m_notV | with_reducible apply m_ife | with_reducible apply m_chain
  | with_reducible apply q_v | ((with_reducible apply g_slot); refine q_own rfl ?_) | with_reducible apply q_n | with_reducible apply q_c | with_reducible apply q_t | with_reducible apply q_f | with_reducible apply m_yes
  | with_reducible apply r_addI | with_reducible apply r_subI | with_reducible apply r_eqI | with_reducible apply r_neI | with_reducible apply r_eqS | with_reducible apply r_neS | with_reducible apply r_ltI | with_reducible apply r_leI | with_reducible apply r_gtI | with_reducible apply r_geI
  | with_reducible apply r_isN | with_reducible apply r_isnN | with_reducible apply c_intI | with_reducible apply c_intB | with_reducible apply v_lst | with_reducible apply m_tup | ((with_reducible apply g_le); refine ⟨Nat.le_of_ble_eq_true rfl, ?_⟩) | with_reducible apply v_sl | with_reducible apply v_dnew
  | ((with_reducible apply g_dget); refine m_dget ?_) | refine get_str rfl rfl ?_
  | with_reducible apply m_fld | with_reducible apply m_con | refine ⟨_, _, _, rfl, by walk_at "fd", rfl, ?_⟩
  | ((with_reducible apply g_fn); first | refine m_fn wr0 ?_ | refine m_fn (by assumption) ?_ | refine m_fnP ?_ rfl)
  | ((with_reducible apply g_nw); refine m_nw wr0 ?_) | ((with_reducible apply g_ownGet); refine m_ownGet wr0 ?_) | ((with_reducible apply g_ownIn); refine r_ownIn ?_)
  | ((with_reducible apply g_inS); first | refine r_inStrs rfl ?_ | refine r_inStrsT rfl ?_ | refine r_ninStrsT rfl ?_) | ((with_reducible apply g_len); first | refine c_lenL rfl ?_ | refine c_lenT rfl ?_ | refine c_lenD rfl ?_)
  | ((with_reducible apply g_list); first | refine c_listv (.inl rfl) ?_ | refine c_listv (.inr rfl) ?_) | ((with_reducible apply g_tupU); first | refine c_tupleL rfl ?_ | refine c_tupleT ?_) | ((with_reducible apply g_pr); refine m_pr ?_) | refine ⟨_, _, _, rfl, by walk_at "cl", by walk_at "pr", ?_⟩ | refine ⟨_, rfl, ?_⟩ | fail))
local macro_rules | `(tactic| walk_at "me") => `(tactic| repeat' (first
  | ((with_reducible apply g_var); first | refine m_var rfl ?_ | refine m_varS rfl ?_)
  | with_reducible apply m_cI | with_reducible apply m_cS | with_reducible apply m_cB | with_reducible apply m_cN | with_reducible apply m_cC | with_reducible apply m_cT
  | with_reducible apply m_op | with_reducible apply m_cb | with_reducible apply m_nil | with_reducible apply m_cons | with_reducible apply m_test | with_reducible apply m_B | with_reducible apply q_bl
  | with_reducible apply m_and | with_reducible apply m_or | with_reducible apply m_not | with_reducible apply m_andV | with_reducible apply m_orV | with_reducible apply m_notV | with_reducible apply m_ife | with_reducible apply m_chain
  | with_reducible apply q_v | ((with_reducible apply g_slot); refine q_own rfl ?_) | with_reducible apply q_n | with_reducible apply q_c | with_reducible apply q_t | with_reducible apply q_f | with_reducible apply m_yes
  | with_reducible apply r_addI | with_reducible apply r_subI | with_reducible apply r_eqI | with_reducible apply r_neI | with_reducible apply r_eqS | with_reducible apply r_neS | with_reducible apply r_ltI | with_reducible apply r_leI | with_reducible apply r_gtI | with_reducible apply r_geI
  | with_reducible apply r_isN | with_reducible apply r_isnN | with_reducible apply c_intI | with_reducible apply c_intB | with_reducible apply v_lst | with_reducible apply m_tup | ((with_reducible apply g_le); refine ⟨Nat.le_of_ble_eq_true rfl, ?_⟩) | with_reducible apply v_sl | with_reducible apply v_dnew
  | ((with_reducible apply g_dget); refine m_dget ?_) | refine get_str rfl rfl ?_
  | with_reducible apply m_fld | with_reducible apply m_con | refine ⟨_, _, _, rfl, by walk_at "fd", rfl, ?_⟩
  | ((with_reducible apply g_fn); first | refine m_fn wr0 ?_ | refine m_fn (by assumption) ?_ | refine m_fnP ?_ rfl)
  | ((with_reducible apply g_nw); refine m_nw wr0 ?_) | ((with_reducible apply g_ownGet); refine m_ownGet wr0 ?_) | ((with_reducible apply g_ownIn); refine r_ownIn ?_)
  | ((with_reducible apply g_inS); first | refine r_inStrs rfl ?_ | refine r_inStrsT rfl ?_ | refine r_ninStrsT rfl ?_) | ((with_reducible apply g_len); first | refine c_lenL rfl ?_ | refine c_lenT rfl ?_ | refine c_lenD rfl ?_)
  | ((with_reducible apply g_list); first | refine c_listv (.inl rfl) ?_ | refine c_listv (.inr rfl) ?_) | ((with_reducible apply g_tupU); first | refine c_tupleL rfl ?_ | refine c_tupleT ?_) | ((with_reducible apply g_pr); refine m_pr ?_) | refine ⟨_, _, _, rfl, by walk_at "cl", by walk_at "pr", ?_⟩ | refine ⟨_, rfl, ?_⟩ | fail))
local macro_rules | `(tactic| walk_at "fd") => `(tactic| first | exact (fr_fld (by assumption)).1 | exact (fr_fld (by assumption)).2.1 | exact (fr_fld (by assumption)).2.2.1 | exact (fr_fld (by assumption)).2.2.2 | exact leg_fld (by assumption) _ | fail)
local macro_rules | `(tactic| walk_at "cl") => `(tactic| first | exact fr_cls (by assumption) | exact leg_cls (by assumption) _ | fail)
local macro_rules | `(tactic| walk_at "pr") => `(tactic| first | exact Tx.pr_Flegs (by assumption) | exact Tx.pr_Fnames (by assumption) | exact Tx.pr_Fdrivers (by assumption) | exact Tx.pr_Flisteners (by assumption) | exact Tx.pr_Frails (by assumption) | exact Tx.pr_Fmembers (by assumption) | exact leg_prB (by assumption) _ | fail)
section
variable {K : PySem.W.Frag} {mg : Str → Option Value} {vs : List V} {H : Hp} {Q : VK} {E : XK}
theorem memK {e : D} (he : e ∈ [D.str "drivers", .str "drivers", .str "drivers", .str "drivers", .str "listeners"]) : ∃ z : Str, e = .str z ∧ (z = "drivers" ∨ z = "listeners") := by
  have : e = .str "drivers" ∨ e = .str "listeners" := by
    simp only [List.mem_cons, List.not_mem_nil, or_false] at he
    rcases he with h | h | h | h | h
    · exact .inl h
    · exact .inl h
    · exact .inl h
    · exact .inl h
    · exact .inr h
  rcases this with rfl | rfl
  · exact ⟨_, rfl, .inl rfl⟩
  · exact ⟨_, rfl, .inr rfl⟩
theorem mem5 {e : D} (he : e ∈ [D.lst [], .lst [], .lst [.str "ground"], .lst [.str "power"], .lst [.str "ground", .str "power"]]) : ∃ g p, e = .lst ((railsL g p).map D.str) := by
  rcases List.mem_cons.mp he with rfl | he
  · exact ⟨false, false, rfl⟩
  · rcases List.mem_cons.mp he with rfl | he
    · exact ⟨false, false, rfl⟩
    · rcases List.mem_cons.mp he with rfl | he
      · exact ⟨true, false, rfl⟩
      · rcases List.mem_cons.mp he with rfl | he
        · exact ⟨false, true, rfl⟩
        · rcases List.mem_cons.mp he with rfl | he
          · exact ⟨true, true, rfl⟩
          · cases he
theorem rl_le (g p : Bool) : (railsL g p).length ≤ 2 := by cases g <;> cases p <;> decide
theorem perm_d {dl ll rest ys : List Str} {j : Nat} {z : Str} (h : (dl ++ ll ++ rest).Perm pool) (e : rest[j]? = some z) (y : ys.Perm (dl ++ [z])) : (ys ++ ll ++ rest.eraseIdx j).Perm pool := by
  refine List.Perm.trans ?_ (perm_pop h e)
  refine List.Perm.append_right _ ?_
  refine (y.append_right ll).trans ?_
  rw [List.append_assoc, List.append_assoc]
  exact List.Perm.append_left dl List.perm_append_comm
theorem perm_l {dl ll rest ys : List Str} {j : Nat} {z : Str} (h : (dl ++ ll ++ rest).Perm pool) (e : rest[j]? = some z) (y : ys.Perm (ll ++ [z])) : (dl ++ ys ++ rest.eraseIdx j).Perm pool := by
  refine List.Perm.trans ?_ (perm_pop h e)
  refine List.Perm.append_right _ ?_
  rw [List.append_assoc]
  exact List.Perm.append_left dl y
theorem pure_Lbare (T : Tx K mg) (h : sp_Lbare K vs H Q E) : t_Lbare K { nx := fun _ H2 => Q .non H2, rt := Q } (start ["_law_pen_here", "_law_most", "_law_bare_here", "_law_tags", "_law_turn", "_law_kind"] vs) H := by
  refine body_pp h fun o w F0 n ds Qd ⟨m, e, hm2, hm8, hn, q⟩ => ?_
  subst e
  refine ms_seq (s_asgF (mf_disp (trs := [("top", tOp (rAdd K) (tC (.int 1)) (tFn (sp_Ldraw K) [] W0 (tCons (tVar 0) (tCons (tC (.int 3)) tNil)))), ("drivers", tLst tNil), ("listeners", tLst tNil)]) fun oo ww => ?_))
  refine m_op (m_cI (m_fnP (m_cons (m_cI (m_nil ⟨n, rfl, 3, rfl, by omega, by decide, by decide, fun t t0 t1 => ?_⟩))) rfl))
  refine r_addI (q_v (v_lst (m_nil (q_n ⟨Nat.zero_le _, q_v (v_lst (m_nil (q_n ⟨Nat.zero_le _, q_v ⟨Nat.le_of_ble_eq_true rfl, by show ([.inr "top", .inr "drivers", .inr "listeners"] : List Key).Nodup; decide, by show 2 < 6; decide, ?_⟩⟩)))⟩))))
  refine ms_seq (ms_dput (m_op ?_))
  walk_at "me"
  refine ⟨by omega, by decide, by decide, fun r r0 r1 => ?_⟩
  obtain ⟨e, e1, e2⟩ := atI_in (xs := [D.lst [], .lst [], .lst [.str "ground"], .lst [.str "power"], .lst [.str "ground", .str "power"]]) r0 r1
  obtain ⟨gg, pp, rfl⟩ := mem5 (List.mem_of_getElem? e1)
  refine r_ixL rfl e2 (q_v ⟨_, rfl, Nat.le_of_ble_eq_true rfl, ?_⟩)
  refine ms_seq (s_asg ?_)
  walk_at "me"
  refine ms_seq (s_asgF (mf_cat ?_))
  walk_at "me"
  refine ⟨_, _, rfl, rfl, by decide, by show 3 < 6; decide, ?_⟩
  have hr2 := rl_le gg pp
  refine ms_seq (ms_for [4] (mi_rng1 (m_cons (m_fnP (m_cons (m_op (m_op (m_var rfl (m_cI (r_addI (m_cb (m_cons (m_dget (m_varS rfl (m_cS (get_str rfl rfl (m_nil (c_lenL rfl (r_subI (m_nil ⟨n + 2, rfl, _, rfl, by omega, ?_, ?_, fun c c0 c1 => m_nil ⟨c, rfl, ?_, ?_⟩⟩)))))))))))))))) rfl))))
  · rw [List.length_map]; omega
  · rw [List.length_map]; omega
  · rw [List.length_map] at c1; omega
  rw [List.length_map] at c1
  obtain ⟨c, rfl⟩ := Int.eq_ofNat_of_zero_le c0
  have hrl : (rngD 0 ((c : Int)).toNat).length = c := by unfold rngD; rw [List.length_map, List.length_range]; omega
  refine ⟨fun i ρ => ∃ (dl ll rest : List Str) (s4 s5 : Sl), (dl ++ ll ++ rest).Perm pool ∧ (dl ++ ll).length = i ∧ ρ = [.pen (n + 3 + 2 * i), .val (.int m), .own (bareD (1 + t) dl ll (railsL gg pp)), .own (.lst (rest.map D.str)), s4, s5], ⟨[], [], pool, .none, .none, List.Perm.refl _, rfl, rfl⟩, fun i d ρ hd hI => ?_, fun ρ hI => ?_⟩
  · obtain ⟨dl, ll, rest, s4, s5, hp, hl, rfl⟩ := hI
    have hi : i < c := by
      have := (List.getElem?_eq_some_iff.mp hd).1
      omega
    have hr : rest.length = 16 - i := by
      have := hp.length_eq
      rw [List.length_append, hl] at this
      have h16 : pool.length = 16 := rfl
      omega
    have hdl : dl.length + ll.length = i := by rw [← List.length_append]; exact hl
    refine mg_name (ms_seq (s_asg (m_op ?_)))
    walk_at "me"
    refine ⟨by omega, by decide, by decide, fun r r0 r1 => ?_⟩
    obtain ⟨e, e1, e2⟩ := atI_in (xs := [D.str "drivers", .str "drivers", .str "drivers", .str "drivers", .str "listeners"]) r0 r1
    obtain ⟨kz, rfl, hk⟩ := memK (List.mem_of_getElem? e1)
    refine r_ixL rfl e2 (q_v ?_)
    rcases hk with rfl | rfl
    · refine ms_dputV (m_cb (m_cons (m_op (m_dget (m_varS rfl (m_var rfl (get_str rfl rfl (v_lst (m_cons (m_popAt rfl (m_fnP (m_cons (m_cb (m_cons (m_varS rfl (m_nil (c_lenL rfl (m_nil ⟨n + 3 + 2 * i + 1, rfl, _, rfl, by omega, ?_, ?_, fun r r0 r1 => ?_⟩))))))) rfl)))))))))))
      · rw [List.length_map]; omega
      · rw [List.length_map]; omega
      · rw [List.length_map] at r1
        obtain ⟨j, rfl⟩ := Int.eq_ofNat_of_zero_le r0
        have hj : j < rest.length := by omega
        refine ⟨j, rest.map D.str, .str rest[j], rfl, rfl, by omega, by rw [List.getElem?_map, List.getElem?_eq_getElem hj]; rfl, m_nil (q_c (q_v (q_n ⟨Nat.le_of_ble_eq_true rfl, ?_⟩)))⟩
        refine r_catL rfl rfl (by rw [List.length_map]; show dl.length + 1 ≤ 10000; omega) (m_nil (c_sortS (zs := dl ++ [rest[j]]) (by rw [List.map_append]; rfl) (by rw [List.length_append, List.length_singleton]; omega) fun ys y1 y2 => q_v ⟨_, "drivers", rfl, Nat.le_of_ble_eq_true rfl, fun O2 F2 => m_var rfl ⟨rfl, rfl⟩, ?_⟩))
        refine ⟨ys, ll, rest.eraseIdx j, .val d, .val (.str "drivers"), perm_d hp (List.getElem?_eq_getElem hj) y1, ?_, ?_⟩
        · have := y1.length_eq
          rw [List.length_append, List.length_singleton] at this
          rw [List.length_append]
          omega
        · rw [erase_map]
          rfl
    · refine ms_dputV (m_cb (m_cons (m_op (m_dget (m_varS rfl (m_var rfl (get_str rfl rfl (v_lst (m_cons (m_popAt rfl (m_fnP (m_cons (m_cb (m_cons (m_varS rfl (m_nil (c_lenL rfl (m_nil ⟨n + 3 + 2 * i + 1, rfl, _, rfl, by omega, ?_, ?_, fun r r0 r1 => ?_⟩))))))) rfl)))))))))))
      · rw [List.length_map]; omega
      · rw [List.length_map]; omega
      · rw [List.length_map] at r1
        obtain ⟨j, rfl⟩ := Int.eq_ofNat_of_zero_le r0
        have hj : j < rest.length := by omega
        refine ⟨j, rest.map D.str, .str rest[j], rfl, rfl, by omega, by rw [List.getElem?_map, List.getElem?_eq_getElem hj]; rfl, m_nil (q_c (q_v (q_n ⟨Nat.le_of_ble_eq_true rfl, ?_⟩)))⟩
        refine r_catL rfl rfl (by rw [List.length_map]; show ll.length + 1 ≤ 10000; omega) (m_nil (c_sortS (zs := ll ++ [rest[j]]) (by rw [List.map_append]; rfl) (by rw [List.length_append, List.length_singleton]; omega) fun ys y1 y2 => q_v ⟨_, "listeners", rfl, Nat.le_of_ble_eq_true rfl, fun O2 F2 => m_var rfl ⟨rfl, rfl⟩, ?_⟩))
        refine ⟨dl, ys, rest.eraseIdx j, .val d, .val (.str "listeners"), perm_l hp (List.getElem?_eq_getElem hj) y1, ?_, ?_⟩
        · have := y1.length_eq
          rw [List.length_append, List.length_singleton] at this
          rw [List.length_append]
          omega
        · rw [erase_map]
          rfl
  · obtain ⟨dl, ll, rest, s4, s5, hp, hl, rfl⟩ := hI
    rw [hrl] at hl
    have hnd : (dl ++ ll ++ rest).Nodup := hp.nodup_iff.mpr pool_nd
    refine ms_ret (m_varS rfl (q_own rfl ⟨_, rfl, ?_⟩))
    rw [hrl]
    exact q (1 + t) dl ll gg pp _ ⟨by omega, by omega, (List.nodup_append.mp hnd).1, fun z hz => hp.mem_iff.mp (List.mem_append_left _ hz), by omega⟩ (by omega) (by omega)
def strD (b : Bool) : D → D
  | .str z => legD ⟨b, z⟩
  | d => d
theorem strD_map (b : Bool) (zs : List Str) : ((zs.map D.str).filter fun _ => true).map (strD b) = zs.map fun z => legD ⟨b, z⟩ := by
  rw [all_tt, List.map_map]; rfl
theorem rails_in (g p : Bool) : decide (("ground" : Str) ∈ railsL g p) = g ∧ decide (("power" : Str) ∈ railsL g p) = p := by cases g <;> cases p <;> decide
theorem pure_Lframe (T : Tx K mg) (h : sp_Lframe K vs H Q E) : t_Lframe K { nx := fun _ H2 => Q .non H2, rt := Q } (start ["_law_bare_here", "_law_legs_so", "_law_tag", "_law_rails_so"] vs) H := by
  refine body_pu h fun o w F0 ds Qd Ed ⟨top, dl, ll, g, p, e, hL, hN, t1, t3, q⟩ hW => ?_
  subst e
  have hmem : ∀ z ∈ dl ++ ll, z.length ≤ 1000 := fun z hz => by
    have : z ∈ (mkL dl ll).map (·.nm) := by rw [mkL_nm]; exact hz
    obtain ⟨l, hl, rfl⟩ := List.mem_map.mp this
    exact hL.2.2 l hl
  have hl2 : dl.length + ll.length ≤ 40 := by
    have := hL.1
    have e := congrArg List.length (mkL_nm dl ll)
    rw [List.length_map, List.length_append] at e
    omega
  refine ms_seq (s_asg (m_op (v_lcM [2] (fun _ => true) (strD true) (by decide) (by decide) (mi_list (m_dget (m_var rfl (m_cS (get_str rfl rfl (q_v (q_lst ⟨by rw [List.length_map]; omega, one_free rfl, fun d hd oo ww => ?_, ?_⟩))))))))))
  · obtain ⟨z, hz, rfl⟩ := List.mem_map.mp hd
    have n1 := hN z (List.mem_append_left _ hz)
    have n2 := hmem z (List.mem_append_left _ hz)
    exact mg_name ⟨rfl, rfl, m_yes ⟨rfl, rfl, fun _ => m_nw wr0 (m_cons (m_var rfl (m_nil (q_c (q_v (q_n ⟨true, z, rfl, rfl, n2, n1, rfl, rfl⟩))))))⟩⟩
  refine v_lcM [2] (fun _ => true) (strD false) (by decide) (by decide) (mi_list (m_dget (m_var rfl (m_cS (get_str rfl rfl (q_v (q_lst ⟨by rw [List.length_map]; omega, one_free rfl, fun d hd oo ww => ?_, ?_⟩)))))))
  · obtain ⟨z, hz, rfl⟩ := List.mem_map.mp hd
    have n1 := hN z (List.mem_append_right _ hz)
    have n2 := hmem z (List.mem_append_right _ hz)
    exact mg_name ⟨rfl, rfl, m_yes ⟨rfl, rfl, fun _ => m_nw wr0 (m_cons (m_var rfl (m_nil (q_c (q_v (q_n ⟨false, z, rfl, rfl, n2, n1, rfl, rfl⟩))))))⟩⟩
  rw [strD_map, strD_map]
  refine r_catL rfl rfl (by rw [List.length_map, List.length_map]; omega) (q_v ?_)
  refine ms_seq (s_asg (m_dget (m_var rfl (m_cS (get_str rfl rfl (q_v ?_))))))
  refine ms_ret (m_cmK [] (fun F => .nil) wr0 (m_cC ⟨rfl, ?_⟩))
  walk_at "me"
  refine ⟨[_], [_, _, _], rfl, rfl, rfl, rfl, ?_⟩
  have el : (dl.map fun z => legD ⟨true, z⟩) ++ (ll.map fun z => legD ⟨false, z⟩) = (mkL dl ll).map legD := by
    unfold mkL
    rw [List.map_append, List.map_map, List.map_map]
    rfl
  rw [(rails_in g p).1, (rails_in g p).2, el]
  exact ⟨mkL dl ll, top, g, p, _, rfl, .inl rfl, hL, t1, t3, q_v q⟩
end
end K86
namespace K86
open PySem PySem.Spec PyProof.Rows L2 He SJ
open LamX (CodeO lamS_by Tabs tLam)
local macro_rules | `(tactic| walk_at "mr") => `(tactic| repeat' (first
  | with_reducible apply ms_seq | with_reducible apply ms_if | with_reducible apply ms_ret | with_reducible apply ms_next | with_reducible apply s_asg
  | ((with_reducible apply g_var); first | refine m_var rfl ?_ | refine m_varS rfl ?_)
  | with_reducible apply m_cI | with_reducible apply m_cS | with_reducible apply m_cB | with_reducible apply m_cN | with_reducible apply m_cC | with_reducible apply m_cT
  | with_reducible apply m_op | with_reducible apply m_cb | with_reducible apply m_nil | with_reducible apply m_cons | with_reducible apply m_test | with_reducible apply m_B | with_reducible apply q_bl
  | with_reducible apply m_and | with_reducible apply m_or | with_reducible apply m_not | with_reducible apply m_andV | with_reducible apply m_orV | with_reducible apply m_notV | with_reducible apply m_ife | with_reducible apply m_chain
  | with_reducible apply q_v | ((with_reducible apply g_slot); refine q_own rfl ?_) | with_reducible apply q_n | with_reducible apply q_c | with_reducible apply q_t | with_reducible apply q_f | with_reducible apply m_yes
  | with_reducible apply r_addI | with_reducible apply r_subI | with_reducible apply r_eqI | with_reducible apply r_neI | with_reducible apply r_eqS | with_reducible apply r_neS | with_reducible apply r_ltI | with_reducible apply r_leI | with_reducible apply r_gtI | with_reducible apply r_geI
  | with_reducible apply r_isN | with_reducible apply r_isnN | with_reducible apply c_intI | with_reducible apply c_intB | with_reducible apply v_lst | with_reducible apply m_tup | ((with_reducible apply g_le); refine ⟨Nat.le_of_ble_eq_true rfl, ?_⟩) | with_reducible apply v_sl | with_reducible apply v_dnew
  | ((with_reducible apply g_dget); refine m_dget ?_) | refine get_str rfl rfl ?_
  | with_reducible apply m_fld | with_reducible apply m_con | refine ⟨_, _, _, rfl, by walk_at "fd", rfl, ?_⟩
  | ((with_reducible apply g_fn); first | refine m_fn wr0 ?_ | refine m_fn (by assumption) ?_ | refine m_fnP ?_ rfl)
  | ((with_reducible apply g_nw); refine m_nw wr0 ?_) | ((with_reducible apply g_ownGet); refine m_ownGet wr0 ?_) | ((with_reducible apply g_ownIn); refine r_ownIn ?_)
  | ((with_reducible apply g_inS); first | refine r_inStrs rfl ?_ | refine r_inStrsT rfl ?_ | refine r_ninStrsT rfl ?_) | ((with_reducible apply g_len); first | refine c_lenL rfl ?_ | refine c_lenT rfl ?_ | refine c_lenD rfl ?_)
  | ((with_reducible apply g_list); first | refine c_listv (.inl rfl) ?_ | refine c_listv (.inr rfl) ?_) | ((with_reducible apply g_tupU); first | refine c_tupleL rfl ?_ | refine c_tupleT ?_) | ((with_reducible apply g_pr); refine m_pr ?_) | refine ⟨_, _, _, rfl, by walk_at "cl", by walk_at "pr", ?_⟩ | refine ⟨_, rfl, ?_⟩ | fail))
local macro_rules | `(tactic| walk_at "me") => `(tactic| repeat' (first
  | ((with_reducible apply g_var); first | refine m_var rfl ?_ | refine m_varS rfl ?_)
  | with_reducible apply m_cI | with_reducible apply m_cS | with_reducible apply m_cB | with_reducible apply m_cN | with_reducible apply m_cC | with_reducible apply m_cT
  | with_reducible apply m_op | with_reducible apply m_cb | with_reducible apply m_nil | with_reducible apply m_cons | with_reducible apply m_test | with_reducible apply m_B | with_reducible apply q_bl
  | with_reducible apply m_and | with_reducible apply m_or | with_reducible apply m_not | with_reducible apply m_andV | with_reducible apply m_orV | with_reducible apply m_notV | with_reducible apply m_ife | with_reducible apply m_chain
  | with_reducible apply q_v | ((with_reducible apply g_slot); refine q_own rfl ?_) | with_reducible apply q_n | with_reducible apply q_c | with_reducible apply q_t | with_reducible apply q_f | with_reducible apply m_yes
  | with_reducible apply r_addI | with_reducible apply r_subI | with_reducible apply r_eqI | with_reducible apply r_neI | with_reducible apply r_eqS | with_reducible apply r_neS | with_reducible apply r_ltI | with_reducible apply r_leI | with_reducible apply r_gtI | with_reducible apply r_geI
  | with_reducible apply r_isN | with_reducible apply r_isnN | with_reducible apply c_intI | with_reducible apply c_intB | with_reducible apply v_lst | with_reducible apply m_tup | ((with_reducible apply g_le); refine ⟨Nat.le_of_ble_eq_true rfl, ?_⟩) | with_reducible apply v_sl | with_reducible apply v_dnew
  | ((with_reducible apply g_dget); refine m_dget ?_) | refine get_str rfl rfl ?_
  | with_reducible apply m_fld | with_reducible apply m_con | refine ⟨_, _, _, rfl, by walk_at "fd", rfl, ?_⟩
  | ((with_reducible apply g_fn); first | refine m_fn wr0 ?_ | refine m_fn (by assumption) ?_ | refine m_fnP ?_ rfl)
  | ((with_reducible apply g_nw); refine m_nw wr0 ?_) | ((with_reducible apply g_ownGet); refine m_ownGet wr0 ?_) | ((with_reducible apply g_ownIn); refine r_ownIn ?_)
  | ((with_reducible apply g_inS); first | refine r_inStrs rfl ?_ | refine r_inStrsT rfl ?_ | refine r_ninStrsT rfl ?_) | ((with_reducible apply g_len); first | refine c_lenL rfl ?_ | refine c_lenT rfl ?_ | refine c_lenD rfl ?_)
  | ((with_reducible apply g_list); first | refine c_listv (.inl rfl) ?_ | refine c_listv (.inr rfl) ?_) | ((with_reducible apply g_tupU); first | refine c_tupleL rfl ?_ | refine c_tupleT ?_) | ((with_reducible apply g_pr); refine m_pr ?_) | refine ⟨_, _, _, rfl, by walk_at "cl", by walk_at "pr", ?_⟩ | refine ⟨_, rfl, ?_⟩ | fail))
local macro_rules | `(tactic| walk_at "fd") => `(tactic| first | exact (fr_fld (by assumption)).1 | exact (fr_fld (by assumption)).2.1 | exact (fr_fld (by assumption)).2.2.1 | exact (fr_fld (by assumption)).2.2.2 | exact leg_fld (by assumption) _ | fail)
local macro_rules | `(tactic| walk_at "cl") => `(tactic| first | exact fr_cls (by assumption) | exact leg_cls (by assumption) _ | fail)
local macro_rules | `(tactic| walk_at "pr") => `(tactic| first | exact Tx.pr_Flegs (by assumption) | exact Tx.pr_Fnames (by assumption) | exact Tx.pr_Fdrivers (by assumption) | exact Tx.pr_Flisteners (by assumption) | exact Tx.pr_Frails (by assumption) | exact Tx.pr_Fmembers (by assumption) | exact leg_prB (by assumption) _ | fail)
section
variable {K : PySem.W.Frag} {mg : Str → Option Value} {vs : List V} {H : Hp} {Q : VK} {E : XK}
theorem okT_app {a b : Str} (ha : okT a) (hb : okT b) : okT (a ++ b) := fun c hc => by
  have hc : c ∈ TL.tl (a ++ b) := hc
  rw [TL.tl_append] at hc
  rcases List.mem_append.mp hc with h | h
  · exact ha c h
  · exact hb c h
theorem len_app (a b : Str) : (a ++ b).length = a.length + b.length := by rw [TL.len_tl, TL.tl_append, List.length_append, ← TL.len_tl, ← TL.len_tl]
theorem okT_of {z : Str} (h : (z.cps.toList.all fun c => decide (c < 0x110000)) = true) : okT z := fun c hc => of_decide_eq_true (List.all_eq_true.mp h c hc)
theorem wt_le {k : Nat} {zs : List Str} (h : ∀ z ∈ zs, z.length ≤ k) : wt zs ≤ zs.length * (k + 1) := by
  induction zs with
  | nil => exact Nat.zero_le _
  | cons z zs ih =>
    have h1 := h z (List.mem_cons_self ..)
    have h2 := ih fun y hy => h y (List.mem_cons_of_mem _ hy)
    rw [wt_cons, List.length_cons, Nat.succ_mul]
    omega
theorem pool_sh : ∀ z ∈ pool, z.length ≤ 8 ∧ (z.cps.toList.all fun c => decide (c < 0x110000)) = true := by decide
theorem rail_sh (g p : Bool) : ∀ z ∈ railsL g p, z.length ≤ 6 ∧ okT z := fun z hz => by
  have : z = "ground" ∨ z = "power" := by
    cases g <;> cases p <;> simp [railsL] at hz <;> simp [hz] <;> rcases hz with h | h <;> simp [h]
  rcases this with rfl | rfl <;> exact ⟨by decide, okT_of (by decide)⟩
def tagF (k : Str) : D → D
  | .str z => .tup [.str z, .str k]
  | d => d
def kdsL (k : Str) (zs : List Str) : List (Key × D) := zs.map fun z => (.inr z, .str k)
theorem tag_map (k : Str) (zs : List Str) : ((zs.map D.str).filter fun _ => true).map (tagF k) = (kdsL k zs).map fun q => D.tup [SJ.keyOf q.1, q.2] := by
  unfold kdsL
  rw [all_tt, List.map_map, List.map_map]
  rfl
theorem kds_keys (k : Str) (zs : List Str) : (kdsL k zs).map (·.1) = zs.map Sum.inr := by
  unfold kdsL
  rw [List.map_map]
  rfl
theorem nd_inr {zs : List Str} (h : zs.Nodup) : (zs.map (Sum.inr : Str → Key)).Nodup := by
  induction zs with
  | nil => exact List.nodup_nil
  | cons z zs ih =>
    obtain ⟨h1, h2⟩ := List.nodup_cons.mp h
    refine List.nodup_cons.mpr ⟨fun m => ?_, ih h2⟩
    obtain ⟨y, hy, e⟩ := List.mem_map.mp m
    exact h1 (by rw [← Sum.inr.inj e]; exact hy)
def kindS (dl : List Str) (z : Str) : Str := if z ∈ dl then "driver" else "listener"
theorem find_kds (k : Str) (z : Str) : ∀ zs : List Str, (kdsL k zs).find? (fun kv => decide (kv.1 = .inr z)) = if z ∈ zs then some (.inr z, .str k) else none
  | [] => rfl
  | y :: zs => by
    show (match decide ((Sum.inr y : Key) = .inr z) with | true => some ((Sum.inr y : Key), D.str k) | false => (kdsL k zs).find? _) = _
    by_cases e : y = z
    · subst e
      rw [decide_eq_true rfl, if_pos (List.mem_cons_self ..)]
    · rw [decide_eq_false (fun h => e (Sum.inr.inj h)), find_kds k z zs]
      by_cases m : z ∈ zs
      · rw [if_pos m, if_pos (List.mem_cons_of_mem _ m)]
      · rw [if_neg m, if_neg fun h => by rcases List.mem_cons.mp h with h | h; exact e h.symm; exact m h]
theorem val_kds {dl ll : List Str} {z : Str} (h : z ∈ dl ++ ll) : SJ.valD (kdsL "driver" dl ++ kdsL "listener" ll) (.inr z) = some (.str (kindS dl z)) := by
  unfold SJ.valD kindS
  rw [List.find?_append, find_kds, find_kds]
  by_cases m : z ∈ dl
  · rw [if_pos m, if_pos m]; rfl
  · rw [if_neg m, if_neg m, if_pos (by rcases List.mem_append.mp h with h | h; exact absurd h m; exact h)]; rfl
def lineS (dl : List Str) (z : Str) : Str := kindS dl z ++ " " ++ z
def lineD (dl : List Str) : D → D
  | .str z => .str (lineS dl z)
  | d => d
theorem line_map (dl zs : List Str) : ((zs.map D.str).filter fun _ => true).map (lineD dl) = (zs.map (lineS dl)).map D.str := by
  rw [all_tt, List.map_map, List.map_map]
  rfl
theorem kind_sh (dl : List Str) (z : Str) : (kindS dl z).length ≤ 8 ∧ okT (kindS dl z) := by
  unfold kindS
  split
  · exact ⟨by decide, okT_of (by decide)⟩
  · exact ⟨by decide, okT_of (by decide)⟩
theorem top_sh {t : Int} (h1 : 1 ≤ t) (h3 : t ≤ 3) : ((toString t : String) : Str).length = 1 ∧ okT (toString t : String) ∧ t.natAbs.log2 < 1920 := by
  have : t = 1 ∨ t = 2 ∨ t = 3 := by omega
  rcases this with rfl | rfl | rfl
  · exact ⟨by decide +kernel, okT_of (by decide +kernel), by decide⟩
  · exact ⟨by decide +kernel, okT_of (by decide +kernel), by decide⟩
  · exact ⟨by decide +kernel, okT_of (by decide +kernel), by decide⟩
theorem pure_Lframe_lines (T : Tx K mg) (h : sp_Lframe_lines K vs H Q E) : t_Lframe_lines K { nx := fun _ H2 => Q .non H2, rt := Q } (start ["_law_bare_here", "_law_kinds_so", "_law_tag", "_law_found"] vs) H := by
  refine body_pu h fun o w F0 ds Qd Ed ⟨top, dl, ll, g, p, e, hB, q⟩ hW => ?_
  subst e
  have hle : dl.length + ll.length ≤ 8 := by rw [← List.length_append]; exact hB.le
  have hr2 := rl_le g p
  obtain ⟨nd1, nd2, nd3⟩ := List.nodup_append.mp hB.nd
  refine ms_seq (s_asgF (mf_dictL (v_lcM [2] (fun _ => true) (tagF "driver") (by decide) (by decide) (mi_list (m_dget (m_var rfl (m_cS (get_str rfl rfl (q_v (q_lst ⟨by rw [List.length_map]; omega, one_free rfl, fun d hd oo ww => ?_, kdsL "driver" dl, congrArg (fun l => some (D.lst l)) (tag_map "driver" dl), by show 1 < 4; decide, ?_⟩))))))))))
  · obtain ⟨z, hz, rfl⟩ := List.mem_map.mp hd
    exact mg_name ⟨rfl, rfl, m_yes ⟨rfl, rfl, fun _ => m_tup (m_cons (m_var rfl (m_cons (m_cS (m_nil (q_c (q_v (q_c (q_v (q_n ⟨Nat.le_of_ble_eq_true rfl, rfl, rfl⟩))))))))))⟩⟩
  rw [mergeKD_nodup (by rw [List.nil_append, kds_keys]; exact nd_inr nd1), List.nil_append]
  refine ms_seq (ms_dupd ⟨_, rfl⟩ (mf_dictL (v_lcM [2] (fun _ => true) (tagF "listener") (by decide) (by decide) (mi_list (m_dget (m_var rfl (m_cS (get_str rfl rfl (q_v (q_lst ⟨by rw [List.length_map]; omega, one_free rfl, fun d hd oo ww => ?_, kdsL "listener" ll, congrArg (fun l => some (D.lst l)) (tag_map "listener" ll), _, _, rfl, rfl, ?_, ?_, ?_⟩))))))))))
  · obtain ⟨z, hz, rfl⟩ := List.mem_map.mp hd
    exact mg_name ⟨rfl, rfl, m_yes ⟨rfl, rfl, fun _ => m_tup (m_cons (m_var rfl (m_cons (m_cS (m_nil (q_c (q_v (q_c (q_v (q_n ⟨Nat.le_of_ble_eq_true rfl, rfl, rfl⟩))))))))))⟩⟩
  · unfold kdsL; rw [List.length_map]; omega
  · rw [mergeKD_nodup (by rw [List.nil_append, kds_keys]; exact nd_inr nd2), List.nil_append]
    unfold kdsL; rw [List.length_map]; omega
  rw [mergeKD_nodup (acc := []) (by rw [List.nil_append, kds_keys]; exact nd_inr nd2), List.nil_append, mergeKD_nodup (by rw [List.map_append, kds_keys, kds_keys, ← List.map_append]; exact nd_inr hB.nd)]
  obtain ⟨ts1, ts2, ts3⟩ := top_sh hB.t1 hB.t3
  have rw1 := wt_le fun z hz => (rail_sh g p z hz).1
  have rs := wt_sum (railsL g p)
  refine ms_seq (s_asg (v_lst (m_cons (m_join (zs := []) (m_cS ⟨_, rfl, m_op (v_lst (m_cons (m_cS (m_cons (m_cb (m_cons (m_dget (m_var rfl (m_cS (get_str rfl rfl (m_nil (m_strI ts3 (m_nil (q_c (q_v (q_c (q_v (q_n ⟨Nat.le_of_ble_eq_true rfl, m_dget (m_var rfl (m_cS (get_str rfl rfl (r_catL rfl rfl ?_ ⟨[("frame" : Str), (toString top : String)] ++ railsL g p, .inl ?_, ?_, m_nil (q_c (q_v (q_n ⟨Nat.le_of_ble_eq_true rfl, q_v ?_⟩)))⟩))))⟩))))))))))))))))))⟩)))))
  · rw [List.length_map]; show 2 + _ ≤ _; omega
  · rw [List.map_append]; rfl
  · show (([("frame" : Str), (toString top : String)] ++ railsL g p).map (·.length)).sum + ([("frame" : Str), (toString top : String)] ++ railsL g p).length * 1 ≤ _
    rw [Nat.mul_one, wt_sum, wt_app, wt_cons, wt_cons, wt_nil, ts1]
    have : ("frame" : Str).length = 5 := rfl
    omega
  have hfl : wt [Txt.join " " ([("frame" : Str), (toString top : String)] ++ railsL g p)] ≤ 25 := by
    have h1 := join_len sepB ([("frame" : Str), (toString top : String)] ++ railsL g p)
    rw [wt_app, wt_cons, wt_cons, wt_nil, ts1] at h1
    have : ("frame" : Str).length = 5 := rfl
    rw [wt_cons, wt_nil]
    omega
  have hfo : okT (Txt.join " " ([("frame" : Str), (toString top : String)] ++ railsL g p)) := join_ok sepB fun z hz => by
    rcases List.mem_append.mp hz with hz | hz
    · rcases List.mem_cons.mp hz with rfl | hz
      · exact okT_of (by decide)
      · rw [List.mem_singleton.mp hz]; exact ts2
    · exact (rail_sh g p z hz).2
  refine ms_ret (m_op (m_var rfl ?_))
  refine v_lcM [2] (fun _ => true) (lineD dl) (by decide) (by decide) (mi_list (m_cb (m_cons (m_f (mf_listDk (m_varS rfl ⟨kdsL "driver" dl ++ kdsL "listener" ll, rfl, m_nil (c_sortS (zs := dl ++ ll) ?_ (by rw [List.length_append]; omega) fun ys y1 y2 => q_v (q_lst ⟨?_, one_free rfl, fun d hd oo ww => ?_, ?_⟩))⟩))))))
  · show some (D.lst _) = some (D.lst _)
    rw [show ((kdsL "driver" dl ++ kdsL "listener" ll).map fun q => SJ.keyOf q.1) = ((kdsL "driver" dl ++ kdsL "listener" ll).map (·.1)).map SJ.keyOf by rw [List.map_map]; rfl, List.map_append, kds_keys, kds_keys, ← List.map_append, List.map_map]
    rfl
  · rw [List.length_map, y1.length_eq, List.length_append]; omega
  · obtain ⟨z, hz, rfl⟩ := List.mem_map.mp hd
    have hzm : z ∈ dl ++ ll := y1.mem_iff.mp hz
    have hz8 := (pool_sh z (hB.pl z hzm)).1
    have hk8 := (kind_sh dl z).1
    refine mg_name ⟨rfl, rfl, m_yes ⟨rfl, rfl, fun _ => m_op (m_op (m_dget (m_varS rfl (m_var rfl (get_str rfl (val_kds hzm) (m_cS (r_addS ?_ (m_var rfl (r_addS ?_ ⟨rfl, rfl⟩)))))))))⟩⟩
    · rw [show (" " : Str).length = 1 from rfl]; omega
    · rw [len_app, show (" " : Str).length = 1 from rfl]; omega
  rw [line_map]
  have hys : ys.length ≤ 8 := by rw [y1.length_eq]; exact hB.le
  refine r_catL rfl rfl (by rw [List.length_map, List.length_map]; show 1 + ys.length ≤ 10000; omega) (q_v ?_)
  have hl : ∀ z ∈ ys.map (lineS dl), z.length ≤ 17 ∧ okT z := fun z hz => by
    obtain ⟨y, hy, rfl⟩ := List.mem_map.mp hz
    have h8 := pool_sh y (hB.pl y (y1.mem_iff.mp hy))
    have k8 := kind_sh dl y
    unfold lineS
    refine ⟨?_, okT_app (okT_app k8.2 (okT_of (by decide))) (okT_of h8.2)⟩
    rw [len_app, len_app, show (" " : Str).length = 1 from rfl]
    omega
  have hw := wt_le fun z hz => (hl z hz).1
  rw [List.length_map] at hw
  have := q (Txt.join " " ([("frame" : Str), (toString top : String)] ++ railsL g p) :: ys.map (lineS dl)) (by
    have h0 := hfl
    rw [wt_cons, wt_nil] at h0
    rw [wt_cons]
    omega) (fun z hz => by
    rcases List.mem_cons.mp hz with rfl | hz
    · exact hfo
    · exact (hl z hz).2)
  exact this
def strI : D → D
  | .int i => .str (toString i : String)
  | d => d
theorem four_str : ((rngD 0 4).filter fun _ => true).map strI = (["0", "1", "2", "3"] : List Str).map D.str := by
  rw [all_tt]
  show [D.str ((toString (0 + ((0 : Nat) : Int)) : String) : Str), D.str ((toString (0 + ((1 : Nat) : Int)) : String) : Str), D.str ((toString (0 + ((2 : Nat) : Int)) : String) : Str), D.str ((toString (0 + ((3 : Nat) : Int)) : String) : Str)] = [D.str "0", D.str "1", D.str "2", D.str "3"]
  rw [show ((toString (0 + ((0 : Nat) : Int)) : String) : Str) = "0" by decide +kernel, show ((toString (0 + ((1 : Nat) : Int)) : String) : Str) = "1" by decide +kernel, show ((toString (0 + ((2 : Nat) : Int)) : String) : Str) = "2" by decide +kernel, show ((toString (0 + ((3 : Nat) : Int)) : String) : Str) = "3" by decide +kernel]
theorem rng_four (d : D) (h : d ∈ rngD 0 4) : ∃ i : Int, d = .int i ∧ i.natAbs.log2 < 1920 := by
  obtain ⟨i, hi, rfl⟩ := List.mem_map.mp h
  have : i < 4 := List.mem_range.mp hi
  have : i = 0 ∨ i = 1 ∨ i = 2 ∨ i = 3 := by omega
  rcases this with rfl | rfl | rfl | rfl <;> exact ⟨_, rfl, by decide⟩
theorem numL_some {z : Str} (h : z ∈ (["0", "1", "2", "3"] : List Str)) : ∃ i : Int, numL [z] = some i ∧ PySem.intText? z = some i ∧ z.length ≤ 640 := by
  simp only [List.mem_cons, List.not_mem_nil, or_false] at h
  rcases h with rfl | rfl | rfl | rfl
  · exact ⟨0, by decide +kernel, int_one (c := 48) rfl (by decide) (by decide), by decide⟩
  · exact ⟨1, by decide +kernel, int_one (c := 49) rfl (by decide) (by decide), by decide⟩
  · exact ⟨2, by decide +kernel, int_one (c := 50) rfl (by decide) (by decide), by decide⟩
  · exact ⟨3, by decide +kernel, int_one (c := 51) rfl (by decide) (by decide), by decide⟩
theorem numL_none {z : Str} (h : z ∉ (["0", "1", "2", "3"] : List Str)) : numL [z] = none := by
  simp only [List.mem_cons, List.not_mem_nil, or_false, not_or] at h
  unfold numL topOf
  rw [if_neg (fun e => h.1 (List.cons.inj e).1), if_neg (fun e => h.2.1 (List.cons.inj e).1), if_neg (fun e => h.2.2.1 (List.cons.inj e).1), if_neg (fun e => h.2.2.2 (List.cons.inj e).1)]
theorem pure_Lnumber (T : Tx K mg) (h : sp_Lnumber K vs H Q E) : t_Lnumber K { nx := fun _ H2 => Q .non H2, rt := Q } (start ["_law_some", "_law_most", "_law_k"] vs) H := by
  refine body_pu h fun o w F0 ds Qd Ed ⟨w0, e, hl, ho, q⟩ hW => ?_
  subst e
  match w0, hl with
  | [], _ =>
    exact ms_seq (ms_if (m_or (m_test (m_op (m_cb (m_cons (m_var rfl (m_nil (c_lenL rfl (m_cI (r_neI (q_bl (ms_ret (m_cN (q_v q)))))))))))))))
  | [z], _ =>
    refine ms_seq (ms_if (m_or (m_test (m_op (m_cb (m_cons (m_var rfl (m_nil (c_lenL rfl (m_cI (r_neI (q_bl ?_))))))))))))
    refine q_f (m_test (m_op (m_op (m_var rfl (m_cI (r_ixL rfl (e := .str z) at0 ?_))))))
    refine v_lcM [2] (fun _ => true) strI (by decide) (by decide) (mi_rng1 (m_cons (m_op (m_var rfl (m_cI (r_addI (m_nil ⟨_, rfl, by decide, by decide, one_free rfl, fun d hd oo ww => ?_, ?_⟩)))))))
    · obtain ⟨i, rfl, hi⟩ := rng_four d hd
      exact mg_name ⟨rfl, rfl, m_yes ⟨rfl, rfl, fun _ => m_cb (m_cons (m_var rfl (m_nil (m_strI hi ⟨rfl, rfl⟩))))⟩⟩
    rw [show ((rngD 0 ((3 : Int) + 1).toNat).filter fun _ => true).map strI = (["0", "1", "2", "3"] : List Str).map D.str from four_str]
    refine r_ninStrsL (zs := ["0", "1", "2", "3"]) rfl (q_bl ?_)
    by_cases hz : z ∈ (["0", "1", "2", "3"] : List Str)
    · rw [decide_eq_true hz]
      obtain ⟨i, h1, h2, h3⟩ := numL_some hz
      rw [h1] at q
      exact q_f (ms_next (ms_ret (m_cb (m_cons (m_op (m_var rfl (m_cI (r_ixL rfl (e := .str z) at0 (m_nil (c_intT h2 h3 (q_v q)))))))))))
    · rw [decide_eq_false hz]
      rw [numL_none hz] at q
      exact q_t (ms_ret (m_cN (q_v q)))
def lettB (z : Str) : Bool := z.cps.toList.all fun c => decide (c ∈ letters)
def notLet : D → Bool
  | .str s => !(s.cps.toList.all fun c => decide (c ∈ letters))
  | _ => false
def badL (z : Str) : List Str := (z.cps.toList.filter fun c => !decide (c ∈ letters)).map fun c => (⟨#[c]⟩ : Str)
theorem bad_map (z : Str) : ((signsD z).filter notLet).map id = (badL z).map D.str := by
  unfold signsD badL
  rw [List.map_id, List.filter_map, List.map_map]
  have e : (notLet ∘ fun c => D.str ⟨#[c]⟩) = fun c => !decide (c ∈ letters) := funext fun c => by
    show (!(([c] : List Nat).all fun c => decide (c ∈ letters))) = _
    rw [List.all_cons, List.all_nil, Bool.and_true]
  rw [e]; rfl
theorem bad_nil (z : Str) : decide (badL z = []) = lettB z := by
  have e : (badL z = []) ↔ lettB z = true := by
    unfold badL lettB
    rw [List.map_eq_nil_iff, List.filter_eq_nil_iff, List.all_eq_true]
    constructor
    · intro h c hc
      have := h c hc
      cases hd : decide (c ∈ letters) with
      | true => rfl
      | false => rw [hd] at this; exact absurd rfl this
    · intro h c hc
      rw [h c hc]; exact Bool.false_ne_true
  cases hb : lettB z with
  | true => exact decide_eq_true (e.mpr hb)
  | false => exact decide_eq_false fun c => by rw [e.mp c] at hb; cases hb
theorem bad_ok {z : Str} (h : okT z) : ∀ y ∈ badL z, okT y := fun y hy c hc => by
  obtain ⟨d, hd, rfl⟩ := List.mem_map.mp hy
  rw [List.mem_singleton.mp (show c ∈ [d] from hc)]
  exact h d (List.mem_filter.mp hd).1
theorem nameB_eq (z : Str) : nameB z = (decide (0 < z.length) && (decide (z.length < 9) && (!decide (z ∈ (["ground", "power", "nothing"] : List Str)) && lettB z))) := by
  unfold nameB
  show (decide (1 ≤ z.length) && (decide (z.length ≤ 8) && (lettB z && !decide (z ∈ (["ground", "power", "nothing"] : List Str))))) = _
  rw [show decide (1 ≤ z.length) = decide (0 < z.length) from decide_eq_decide.mpr Iff.rfl, show decide (z.length ≤ 8) = decide (z.length < 9) from decide_eq_decide.mpr ⟨fun h => by omega, fun h => by omega⟩, Bool.and_comm (lettB z)]
theorem pure_Lis_name (T : Tx K mg) (h : sp_Lis_name K vs H Q E) : t_Lis_name K { nx := fun _ H2 => Q .non H2, rt := Q } (start ["_law_tag", "_law_sign"] vs) H := by
  refine body_pu h fun o w F0 ds Qd Ed ⟨z, e, hz, ho, q⟩ hW => ?_
  subst e
  rw [nameB_eq] at q
  refine ms_seq (ms_if (m_or (m_not (m_test (m_chain (m_cI (m_cb (m_cons (m_var rfl (m_nil (c_lenS (by omega) (r_ltI (q_bl ?_)))))))))))))
  have e1 : decide ((0 : Int) < (z.length : Int)) = decide (0 < z.length) := decide_eq_decide.mpr ⟨fun h => by omega, fun h => by omega⟩
  have e2 : decide ((z.length : Int) < 9) = decide (z.length < 9) := decide_eq_decide.mpr ⟨fun h => by omega, fun h => by omega⟩
  rw [e1]
  cases h1 : decide (0 < z.length) with
  | false =>
    rw [h1, Bool.false_and] at q
    exact q_f (q_bl (q_t (ms_ret (m_cB (q_v q)))))
  | true =>
    rw [h1, Bool.true_and] at q
    refine q_t (m_cI (r_ltI (q_bl ?_)))
    rw [e2]
    cases h2 : decide (z.length < 9) with
    | false =>
      rw [h2, Bool.false_and] at q
      exact q_t (ms_ret (m_cB (q_v q)))
    | true =>
      rw [h2, Bool.true_and] at q
      refine q_f (m_test (m_op (m_var rfl (m_tup (m_cons (m_cS (m_cons (m_cS (m_cons (m_cS (m_nil (q_c (q_v (q_c (q_v (q_c (q_v (q_n ⟨Nat.le_of_ble_eq_true rfl, r_inStrsT (zs := ["ground", "power", "nothing"]) rfl (q_bl ?_)⟩))))))))))))))))))
      cases h3 : decide (z ∈ (["ground", "power", "nothing"] : List Str)) with
      | true =>
        rw [h3] at q
        exact q_t (ms_ret (m_cB (q_v q)))
      | false =>
        rw [h3] at q
        refine q_f (ms_next (ms_ret (m_op (m_f (mf_lcM [1] notLet id (by decide) (by decide) (mi_str (m_var rfl ⟨z, rfl, ?_, one_free rfl, fun d hd oo ww => ?_, ?_⟩)))))))
        · unfold signsD; rw [List.length_map, Array.length_toList]; exact Nat.le_trans hz (by decide)
        · obtain ⟨c, hc, rfl⟩ := List.mem_map.mp hd
          refine mg_name ⟨rfl, rfl, m_test (m_op (m_var rfl (m_cS (r_notSign (q_bl ⟨rfl, ?_, fun _ => m_var rfl ⟨rfl, rfl⟩⟩)))))⟩
          show (!decide (c ∈ _)) = !(([c] : List Nat).all fun c => decide (c ∈ letters))
          rw [List.all_cons, List.all_nil, Bool.and_true]
          rfl
        · rw [bad_map]
          refine v_lst (m_nil (q_n ⟨Nat.zero_le _, r_eqStrsL (zs := badL z) (ys := []) rfl rfl (okT_txt (bad_ok ho)) (fun _ h => nomatch h) (q_v ?_)⟩))
          rw [bad_nil]
          exact q
end
end K86
namespace K86
open PySem PySem.Spec PyProof.Rows L2 He SJ
open LamX (CodeO lamS_by Tabs tLam)
local macro_rules | `(tactic| walk_at "mr") => `(tactic| repeat' (first
  | with_reducible apply ms_seq | with_reducible apply ms_if | with_reducible apply ms_ret | with_reducible apply ms_next | with_reducible apply s_asg
  | ((with_reducible apply g_var); first | refine m_var rfl ?_ | refine m_varS rfl ?_)
  | with_reducible apply m_cI | with_reducible apply m_cS | with_reducible apply m_cB | with_reducible apply m_cN | with_reducible apply m_cC | with_reducible apply m_cT
  | with_reducible apply m_op | with_reducible apply m_cb | with_reducible apply m_nil | with_reducible apply m_cons | with_reducible apply m_test | with_reducible apply m_B | with_reducible apply q_bl
  | with_reducible apply m_and | with_reducible apply m_or | with_reducible apply m_not | with_reducible apply m_andV | with_reducible apply m_orV | with_reducible apply m_notV | with_reducible apply m_ife | with_reducible apply m_chain
  | with_reducible apply q_v | ((with_reducible apply g_slot); refine q_own rfl ?_) | with_reducible apply q_n | with_reducible apply q_c | with_reducible apply q_t | with_reducible apply q_f | with_reducible apply m_yes
  | with_reducible apply r_addI | with_reducible apply r_subI | with_reducible apply r_eqI | with_reducible apply r_neI | with_reducible apply r_eqS | with_reducible apply r_neS | with_reducible apply r_ltI | with_reducible apply r_leI | with_reducible apply r_gtI | with_reducible apply r_geI
  | with_reducible apply r_isN | with_reducible apply r_isnN | with_reducible apply c_intI | with_reducible apply c_intB | with_reducible apply v_lst | with_reducible apply m_tup | ((with_reducible apply g_le); refine ⟨Nat.le_of_ble_eq_true rfl, ?_⟩) | with_reducible apply v_sl | with_reducible apply v_dnew
  | ((with_reducible apply g_dget); refine m_dget ?_) | refine get_str rfl rfl ?_
  | with_reducible apply m_fld | with_reducible apply m_con | refine ⟨_, _, _, rfl, by walk_at "fd", rfl, ?_⟩
  | ((with_reducible apply g_fn); first | refine m_fn wr0 ?_ | refine m_fn (by assumption) ?_ | refine m_fnP ?_ rfl)
  | ((with_reducible apply g_nw); refine m_nw wr0 ?_) | ((with_reducible apply g_ownGet); refine m_ownGet wr0 ?_) | ((with_reducible apply g_ownIn); refine r_ownIn ?_)
  | ((with_reducible apply g_inS); first | refine r_inStrs rfl ?_ | refine r_inStrsT rfl ?_ | refine r_ninStrsT rfl ?_) | ((with_reducible apply g_len); first | refine c_lenL rfl ?_ | refine c_lenT rfl ?_ | refine c_lenD rfl ?_)
  | ((with_reducible apply g_list); first | refine c_listv (.inl rfl) ?_ | refine c_listv (.inr rfl) ?_) | ((with_reducible apply g_tupU); first | refine c_tupleL rfl ?_ | refine c_tupleT ?_) | ((with_reducible apply g_pr); refine m_pr ?_) | refine ⟨_, _, _, rfl, by walk_at "cl", by walk_at "pr", ?_⟩ | refine ⟨_, rfl, ?_⟩ | fail))
local macro_rules | `(tactic| walk_at "me") => `(tactic| repeat' (first
  | ((with_reducible apply g_var); first | refine m_var rfl ?_ | refine m_varS rfl ?_)
  | with_reducible apply m_cI | with_reducible apply m_cS | with_reducible apply m_cB | with_reducible apply m_cN | with_reducible apply m_cC | with_reducible apply m_cT
  | with_reducible apply m_op | with_reducible apply m_cb | with_reducible apply m_nil | with_reducible apply m_cons | with_reducible apply m_test | with_reducible apply m_B | with_reducible apply q_bl
  | with_reducible apply m_and | with_reducible apply m_or | with_reducible apply m_not | with_reducible apply m_andV | with_reducible apply m_orV | with_reducible apply m_notV | with_reducible apply m_ife | with_reducible apply m_chain
  | with_reducible apply q_v | ((with_reducible apply g_slot); refine q_own rfl ?_) | with_reducible apply q_n | with_reducible apply q_c | with_reducible apply q_t | with_reducible apply q_f | with_reducible apply m_yes
  | with_reducible apply r_addI | with_reducible apply r_subI | with_reducible apply r_eqI | with_reducible apply r_neI | with_reducible apply r_eqS | with_reducible apply r_neS | with_reducible apply r_ltI | with_reducible apply r_leI | with_reducible apply r_gtI | with_reducible apply r_geI
  | with_reducible apply r_isN | with_reducible apply r_isnN | with_reducible apply c_intI | with_reducible apply c_intB | with_reducible apply v_lst | with_reducible apply m_tup | ((with_reducible apply g_le); refine ⟨Nat.le_of_ble_eq_true rfl, ?_⟩) | with_reducible apply v_sl | with_reducible apply v_dnew
  | ((with_reducible apply g_dget); refine m_dget ?_) | refine get_str rfl rfl ?_
  | with_reducible apply m_fld | with_reducible apply m_con | refine ⟨_, _, _, rfl, by walk_at "fd", rfl, ?_⟩
  | ((with_reducible apply g_fn); first | refine m_fn wr0 ?_ | refine m_fn (by assumption) ?_ | refine m_fnP ?_ rfl)
  | ((with_reducible apply g_nw); refine m_nw wr0 ?_) | ((with_reducible apply g_ownGet); refine m_ownGet wr0 ?_) | ((with_reducible apply g_ownIn); refine r_ownIn ?_)
  | ((with_reducible apply g_inS); first | refine r_inStrs rfl ?_ | refine r_inStrsT rfl ?_ | refine r_ninStrsT rfl ?_) | ((with_reducible apply g_len); first | refine c_lenL rfl ?_ | refine c_lenT rfl ?_ | refine c_lenD rfl ?_)
  | ((with_reducible apply g_list); first | refine c_listv (.inl rfl) ?_ | refine c_listv (.inr rfl) ?_) | ((with_reducible apply g_tupU); first | refine c_tupleL rfl ?_ | refine c_tupleT ?_) | ((with_reducible apply g_pr); refine m_pr ?_) | refine ⟨_, _, _, rfl, by walk_at "cl", by walk_at "pr", ?_⟩ | refine ⟨_, rfl, ?_⟩ | fail))
local macro_rules | `(tactic| walk_at "fd") => `(tactic| first | exact (fr_fld (by assumption)).1 | exact (fr_fld (by assumption)).2.1 | exact (fr_fld (by assumption)).2.2.1 | exact (fr_fld (by assumption)).2.2.2 | exact leg_fld (by assumption) _ | fail)
local macro_rules | `(tactic| walk_at "cl") => `(tactic| first | exact fr_cls (by assumption) | exact leg_cls (by assumption) _ | fail)
local macro_rules | `(tactic| walk_at "pr") => `(tactic| first | exact Tx.pr_Flegs (by assumption) | exact Tx.pr_Fnames (by assumption) | exact Tx.pr_Fdrivers (by assumption) | exact Tx.pr_Flisteners (by assumption) | exact Tx.pr_Frails (by assumption) | exact Tx.pr_Fmembers (by assumption) | exact leg_prB (by assumption) _ | fail)
section
variable {K : PySem.W.Frag} {mg : Str → Option Value} {vs : List V} {H : Hp} {Q : VK} {E : XK}
theorem nR_le {h : List Str} {t : Int} (e : topOf ((h.drop 1).take 1) = some t) : 2 + nR h ≤ h.length := by
  have l1 := (top_le e).2.2
  rw [List.length_take, List.length_drop] at l1
  have hg : ∀ {a : Nat} {z : Str}, (h.drop a).take 1 = [z] → a + 1 ≤ h.length := fun {a z} e => by
    have := congrArg List.length e
    rw [List.length_take, List.length_drop, List.length_singleton] at this
    omega
  unfold nR railsL
  by_cases g : grB h = true
  · have g2 := hg (of_decide_eq_true (show decide ((h.drop 2).take 1 = [("ground" : Str)]) = true from g))
    rw [if_pos g]
    by_cases p : poB h = true
    · have p2 := of_decide_eq_true (show decide ((h.drop (2 + (if grB h = true then 1 else 0))).take 1 = [("power" : Str)]) = true from p)
      rw [if_pos g] at p2
      have p3 := hg p2
      rw [if_pos p]
      show 2 + 2 ≤ _
      omega
    · rw [if_neg p]
      show 2 + 1 ≤ _
      omega
  · rw [if_neg g]
    by_cases p : poB h = true
    · have p2 := of_decide_eq_true (show decide ((h.drop (2 + (if grB h = true then 1 else 0))).take 1 = [("power" : Str)]) = true from p)
      rw [if_neg g] at p2
      have p3 := hg p2
      rw [if_pos p]
      show 2 + 1 ≤ _
      omega
    · rw [if_neg p]
      show 2 + 0 ≤ _
      omega
theorem top_cases {w : List Str} : (topOf w = none ∧ (outI (numL w) = .non ∨ outI (numL w) = .int 0)) ∨ ∃ t, topOf w = some t ∧ numL w = some t ∧ (t = 1 ∨ t = 2 ∨ t = 3) ∧ ∃ z, w = [z] ∧ PySem.intText? z = some t ∧ z.length ≤ 640 := by
  unfold numL
  by_cases h0 : w = [("0" : Str)]
  · subst h0
    exact .inl ⟨by decide +kernel, .inr (by rw [if_pos rfl]; rfl)⟩
  · rw [if_neg h0]
    cases ht : topOf w with
    | none => exact .inl ⟨rfl, .inl rfl⟩
    | some t =>
      refine .inr ⟨t, rfl, rfl, ?_⟩
      unfold topOf at ht
      by_cases h1 : w = [("1" : Str)]
      · rw [if_pos h1] at ht; cases ht
        exact ⟨.inl rfl, _, h1, int_one (c := 49) rfl (by decide) (by decide), by decide⟩
      · rw [if_neg h1] at ht
        by_cases h2 : w = [("2" : Str)]
        · rw [if_pos h2] at ht; cases ht
          exact ⟨.inr (.inl rfl), _, h2, int_one (c := 50) rfl (by decide) (by decide), by decide⟩
        · rw [if_neg h2] at ht
          by_cases h3 : w = [("3" : Str)]
          · rw [if_pos h3] at ht; cases ht
            exact ⟨.inr (.inr rfl), _, h3, int_one (c := 51) rfl (by decide) (by decide), by decide⟩
          · rw [if_neg h3] at ht; cases ht
theorem dat_int (i : Int) : DataD (.int i) := ⟨_, rfl, rfl⟩
theorem dat_non : DataD .non := ⟨_, rfl, by decide⟩
theorem drvs_add (acc : List Lg) (l : Lg) : drvs (acc ++ [l]) = if l.drv = true then drvs acc ++ [l.nm] else drvs acc := by
  unfold drvs
  rw [List.filter_append, List.map_append]
  cases h : l.drv with
  | true => rw [if_pos rfl, show ([l].filter fun l => l.drv) = [l] by rw [List.filter_cons, h]; rfl]; rfl
  | false => rw [if_neg Bool.false_ne_true, show ([l].filter fun l => l.drv) = [] by rw [List.filter_cons, h]; rfl]; exact List.append_nil _
theorem lsts_add (acc : List Lg) (l : Lg) : lsts (acc ++ [l]) = if l.drv = true then lsts acc else lsts acc ++ [l.nm] := by
  unfold lsts
  rw [List.filter_append, List.map_append]
  cases h : l.drv with
  | true => rw [if_pos rfl, show ([l].filter fun l => !l.drv) = [] by rw [List.filter_cons, h]; rfl]; exact List.append_nil _
  | false => rw [if_neg Bool.false_ne_true, show ([l].filter fun l => !l.drv) = [l] by rw [List.filter_cons, h]; rfl]; rfl
theorem two_len (acc : List Lg) : (sortS (drvs acc)).length + (sortS (lsts acc)).length = acc.length := by
  have := (mkL_perm acc).length_eq
  unfold mkL at this
  rw [List.length_append, List.length_map, List.length_map] at this
  exact this
theorem two_mem (acc : List Lg) (z : Str) : z ∈ sortS (drvs acc) ++ sortS (lsts acc) ↔ z ∈ acc.map (·.nm) := by
  rw [← mkL_nm]
  exact ((mkL_perm acc).map _).mem_iff
theorem sort_add {zs ys : List Str} {z : Str} (h1 : ys.Perm (sortS zs ++ [z])) (h2 : sortedS ys = true) : ys = sortS (zs ++ [z]) := by
  rw [srt_eq h1 h2]
  exact sortS_congr ((sortS_perm zs).append_right [z])
theorem s_nil : sortS ([] : List Str) = [] := (sortS_perm []).eq_nil
/-- one rail, as the law looks for it -/
theorem m_lrail {O : Oc} {F0 : Hp} {N : Hn} {R0 : D} {hh cur : List Str} {z : Str} {s4 : Sl} {b : Bool} (th : TxtOk hh) (okz : PyData.strOk z = true) (hb : decide ((hh.drop (2 + cur.length)).take 1 = [z]) = b) (hc2 : cur.length ≤ 2)
    (hP : N.nx [.val R0, .val (strsD hh), .val (strsD (cur ++ (if b = true then [z] else []))), .val (.str z), .val (.int ((2 + cur.length : Nat) : Int)), .none, .none, .none]) :
    Ms K O F0 (tSeq (tAsg (tOp (rAdd K) (tC (.int 2)) (tCB (rLenU K) (tCons (tVar 2) tNil))) (gName 4)) (tAsg (tOp (rAdd K) (tVar 2) (tOp (rMul K) (tLst (tCons (tVar 3) tNil)) (tCB rInt (tCons (tOp (rEqU K) (tSl (rSlU K) (tVar 1) (tPart (tVar 4)) (tPart (tOp (rAdd K) (tVar 4) (tC (.int 1))))) (tLst (tCons (tVar 3) tNil))) tNil)))) (gName 2))) [.val R0, .val (strsD hh), .val (strsD cur), .val (.str z), s4, .none, .none, .none] N := by
  refine ms_seq (s_asg (m_op (m_cI (m_cb (m_cons (m_var rfl (m_nil (c_lenL (ds := cur.map D.str) rfl (r_addI (q_v ?_))))))))))
  rw [show (2 : Int) + ((cur.map D.str).length : Int) = ((2 + cur.length : Nat) : Int) by rw [List.length_map]; omega]
  refine s_asg (m_op (m_var rfl (v_repL (v_lst (m_cons (m_var rfl (m_nil (q_c (q_v (q_n ⟨Nat.le_of_ble_eq_true rfl, m_cb (m_cons (m_op (v_slAB (zs := hh) rfl (m_var rfl ⟨2 + cur.length, rfl, m_op (m_var rfl (m_cI (r_addI ⟨2 + cur.length + 1, rfl, ?_⟩)))⟩))))⟩))))))))))
  rw [show 2 + cur.length + 1 - (2 + cur.length) = 1 by omega]
  refine v_lst (m_cons (m_var rfl (m_nil (q_c (q_v (q_n ⟨Nat.le_of_ble_eq_true rfl, r_eqStrsL (ys := [z]) rfl rfl (cut_txt th _ _) (fun y hy => by rw [List.mem_singleton.mp hy]; exact okz) (m_nil (c_intB ?_))⟩))))))
  rw [hb]
  cases b with
  | true =>
    refine ⟨[.str z], 1, rfl, rfl, by omega, by omega, Nat.le_of_ble_eq_true rfl, q_v ⟨rfl, r_catL (ds := cur.map D.str) rfl rfl (by rw [List.length_map]; show cur.length + 1 ≤ 10000; omega) (q_v ?_)⟩⟩
    rw [if_pos rfl] at hP
    have : (cur.map D.str ++ (List.replicate (1 : Int).toNat [D.str z]).flatten) = (cur ++ [z]).map D.str := by rw [List.map_append]; rfl
    rw [this]
    exact hP
  | false =>
    refine ⟨[.str z], 0, rfl, rfl, by omega, by omega, Nat.le_of_ble_eq_true rfl, q_v ⟨rfl, r_catL (ds := cur.map D.str) rfl rfl (by rw [List.length_map]; show cur.length + 0 ≤ 10000; omega) (q_v ?_)⟩⟩
    rw [if_neg Bool.false_ne_true] at hP
    have : (cur.map D.str ++ (List.replicate (0 : Int).toNat [D.str z]).flatten) = (cur ++ []).map D.str := by rw [List.map_append]; rfl
    rw [this]
    exact hP
theorem pure_Lframe_in (T : Tx K mg) (h : sp_Lframe_in K vs H Q E) : t_Lframe_in K { nx := fun _ H2 => Q .non H2, rt := Q } (start ["_law_rows_so", "_law_first", "_law_rails_so", "_law_rail", "_law_at", "_law_bare_here", "_law_row", "_law_tags"] vs) H := by
  refine body_pu h fun o w F0 ds Qd Ed ⟨rs, e, ok, qq, qe⟩ hW => ?_
  subst e
  obtain ⟨hd, rest, rfl⟩ : ∃ a t, rs = a :: t := by
    cases rs with
    | nil => exact absurd rfl ok.ne
    | cons a t => exact ⟨a, t, rfl⟩
  obtain ⟨h0, ht, rfl⟩ := row_cons (ok.row hd (List.mem_cons_self ..)).1
  have th : TxtOk (h0 :: ht) := okT_txt (ok.row _ (List.mem_cons_self ..)).2.2
  have oh := (ok.row _ (List.mem_cons_self ..)).2.2
  have lz := ok.len
  have lr1 : rest.length ≤ 1000 := by have := ok.le; rw [List.length_cons] at this; omega
  generalize hH : h0 :: ht = hh at *
  have hhd : hh.headD "" = h0 := by rw [← hH]; rfl
  have hat : atI (hh.map D.str) 0 = some (.str h0) := by rw [← hH]; exact at0
  have q1 : ∀ {a b : Nat}, readH hh rest = .inr (a, b) → Qd (.tup [.int (a : Nat), .int (b : Nat)]) := fun e => qe _ _ e
  refine ms_seq (ms_if (m_or (m_test (m_op (m_var rfl (v_lst (m_nil (q_n ⟨Nat.zero_le _, r_seq (fun _ _ => true) (.inr ⟨rfl, rfl⟩) (fun d hd e he => nomatch he) (q_bl (q_f ?_))⟩))))))))
  refine m_test (m_op (m_op (m_op (m_var rfl (m_cI (r_ixL rfl (e := strsD hh) at0 (m_cI (r_ixL (ds := hh.map D.str) rfl hat (m_cS (r_neS (q_bl ?_)))))))))))
  by_cases e1 : h0 = "frame"
  case neg =>
    rw [decide_eq_false e1]
    refine q_t (ms_ret (m_tup (m_cons (m_cI (m_cons (m_cI (m_nil (q_c (q_v (q_c (q_v (q_n ⟨Nat.le_of_ble_eq_true rfl, q_v (q1 (a := 0) (b := 0) ?_)⟩))))))))))))
    unfold readH
    exact if_neg (by rw [hhd]; exact e1)
  rw [decide_eq_true e1]
  have rd : readH hh rest = readT hh rest (topOf ((hh.drop 1).take 1)) := by
    unfold readH
    exact if_pos (by rw [hhd]; exact e1)
  refine q_f (ms_next (ms_seq (ms_par (m_cons (m_op (m_var rfl (m_cI (r_ixL rfl (e := strsD hh) at0 (m_cons (v_lst (m_nil (q_n ⟨Nat.zero_le _, m_nil (q_c (q_v (q_c (q_v (q_n ⟨_, _, rfl, ?_⟩)))))⟩))))))))))))
  have hw1 : ((hh.drop 1).take 1).length ≤ 1 := by rw [List.length_take]; omega
  have how : ∀ z ∈ (hh.drop 1).take 1, okT z := fun z hz => oh z (List.mem_of_mem_drop (List.mem_of_mem_take hz))
  refine ms_seq (ms_if (m_test (m_op (m_fn wr0 (m_cons (v_slAB (zs := hh) rfl (m_cI ⟨1, rfl, m_cI ⟨2, rfl, m_cons (m_cI (m_nil (q_c (q_v (q_c (q_v (q_n ⟨(hh.drop 1).take 1, rfl, hw1, how, ?_⟩)))))))⟩⟩)))))))
  refine m_tup (m_cons (m_cN (m_cons (m_cI (m_nil (q_c (q_v (q_c (q_v (q_n ⟨Nat.le_of_ble_eq_true rfl, ?_⟩))))))))))
  have hdat : DataD (outI (numL ((hh.drop 1).take 1))) := by
    cases numL ((hh.drop 1).take 1) with
    | none => exact dat_non
    | some i => exact dat_int i
  refine r_inGd (ds := [.non, .int 0]) rfl hdat (.inr rfl) (fun e he => by
    rcases List.mem_cons.mp he with rfl | he
    · exact dat_non
    · rw [List.mem_singleton.mp he]; exact dat_int 0) (q_bl ?_)
  rcases top_cases (w := (hh.drop 1).take 1) with ⟨ht, hn⟩ | ⟨t, ht, hn, h123, z1, hz1, hi1, hl1⟩
  · have : ([D.non, .int 0].any (eqvD · (outI (numL ((hh.drop 1).take 1))))) = true := by rcases hn with hn | hn <;> rw [hn] <;> decide +kernel
    rw [if_neg Bool.false_ne_true, this]
    refine q_t (ms_ret (m_tup (m_cons (m_cI (m_cons (m_cI (m_nil (q_c (q_v (q_c (q_v (q_n ⟨Nat.le_of_ble_eq_true rfl, q_v (q1 (a := 0) (b := 1) ?_)⟩))))))))))))
    rw [rd, ht]
    rfl
  have : ([D.non, .int 0].any (eqvD · (outI (numL ((hh.drop 1).take 1))))) = false := by rw [hn]; rcases h123 with rfl | rfl | rfl <;> decide +kernel
  rw [if_neg Bool.false_ne_true, this]
  rw [ht] at rd
  refine q_f (ms_next ?_)
  refine ms_seq (ms_for [3] (mi_tup (m_tup (m_cons (m_cS (m_cons (m_cS (m_nil (q_c (q_v (q_c (q_v (q_n ⟨Nat.le_of_ble_eq_true rfl, q_v (q_tup ⟨fun i ρ => ∃ (s3 s4 : Sl) (cur : List Str), (i = 0 → cur = []) ∧ (i = 1 → cur = railsL (grB hh) false) ∧ (i = 2 → cur = railsL (grB hh) (poB hh)) ∧ ρ = [.val (rowsD (hh :: rest)), .val (strsD hh), .val (strsD cur), s3, s4, .none, .none, .none], ⟨.none, .none, [], fun _ => rfl, fun z => by omega, fun z => by omega, rfl⟩, fun i d ρ hd hI => ?_, fun ρ hI => ?_⟩)⟩)))))))))))))
  · obtain ⟨s3, s4, cur, c0, c1, c2, rfl⟩ := hI
    match i, hd with
    | 0, hd =>
      cases hd
      obtain rfl := c0 rfl
      refine mg_name (m_lrail (b := grB hh) th ok_gp.1 rfl (Nat.zero_le _) ?_)
      exact ⟨_, _, railsL (grB hh) false, fun z => by omega, fun _ => rfl, fun z => by omega, by cases grB hh <;> rfl⟩
    | 1, hd =>
      cases hd
      obtain rfl := c1 rfl
      refine mg_name (m_lrail (b := poB hh) th ok_gp.2 (poB_eq hh) (rl_le _ _) ?_)
      exact ⟨_, _, railsL (grB hh) (poB hh), fun z => by omega, fun z => by omega, fun _ => rfl, by rw [rails_gp (grB hh) (poB hh)]⟩
    | i + 2, hd => cases hd
  obtain ⟨s3, s4, cur, c0, c1, c2, rfl⟩ := hI
  obtain rfl := c2 rfl
  have eL : (2 : Int) + (((railsL (grB hh) (poB hh)).map D.str).length : Int) = ((2 + nR hh : Nat) : Int) := by rw [List.length_map]; show _ = ((2 + (railsL (grB hh) (poB hh)).length : Nat) : Int); omega
  refine ms_seq (ms_if (m_test (m_op (m_cb (m_cons (m_var rfl (m_nil (c_lenL (ds := hh.map D.str) rfl (m_op (m_cI (m_cb (m_cons (m_var rfl (m_nil (c_lenL (ds := (railsL (grB hh) (poB hh)).map D.str) rfl (r_addI (r_gtI (q_bl ?_))))))))))))))))))
  rw [eL, List.length_map]
  have hle := nR_le ht
  by_cases e3 : hh.length = 2 + nR hh
  case neg =>
    rw [decide_eq_true (show ((2 + nR hh : Nat) : Int) < (hh.length : Int) by omega)]
    refine q_t (ms_ret (m_tup (m_cons (m_cI (m_cons (m_op (m_cI (m_cb (m_cons (m_var rfl (m_nil (c_lenL (ds := (railsL (grB hh) (poB hh)).map D.str) rfl (r_addI ?_)))))))))))))
    rw [eL]
    refine m_nil (q_c (q_v (q_c (q_v (q_n ⟨Nat.le_of_ble_eq_true rfl, q_v (q1 (a := 0) (b := 2 + nR hh) ?_)⟩)))))
    rw [rd]
    exact if_neg e3
  rw [decide_eq_false (show ¬ ((2 + nR hh : Nat) : Int) < (hh.length : Int) by omega)]
  have rd : readH hh rest = readL t hh rest := by rw [rd]; exact if_pos e3
  obtain ⟨R, hR⟩ : ∃ R, legsF 1 [] rest = R := ⟨_, rfl⟩
  have rd2 : ∀ e, R = .inr e → readH hh rest = .inr e := fun e he => by
    rw [rd]
    unfold readL
    rw [hR, he]
  have rd3 : ∀ ls, R = .inl ls → readH hh rest = .inl (t, grB hh, poB hh, ls) := fun e he => by
    rw [rd]
    unfold readL
    rw [hR, he]
  have hz1a : atI (hh.map D.str) 1 = some (.str z1) := by
    cases hh with
    | nil => cases hz1
    | cons a l =>
      cases l with
      | nil => cases hz1
      | cons b l =>
        cases hz1
        exact at1
  refine q_f (ms_next (ms_seq (s_asgF (mf_disp (trs := [("top", tCB rIntS (tCons (tOp (rIx K) (tVar 1) (tC (.int 1))) tNil)), ("drivers", tLst tNil), ("listeners", tLst tNil), ("rails", tVar 2)]) fun oo ww => ?_))))
  refine m_cb (m_cons (m_op (m_var rfl (m_cI (r_ixL (ds := hh.map D.str) rfl hz1a (m_nil (c_intT hi1 hl1 (q_v (v_lst (m_nil (q_n ⟨Nat.zero_le _, q_v (v_lst (m_nil (q_n ⟨Nat.zero_le _, q_v (m_var rfl (q_v ⟨Nat.le_of_ble_eq_true rfl, by show ([.inr "top", .inr "drivers", .inr "listeners", .inr "rails"] : List Key).Nodup; decide, by show 5 < 8; decide, ?_⟩))⟩)))⟩)))))))))))
  refine ms_seq (ms_for [4] (mi_rng2 (m_cons (m_cI (m_cons (m_cb (m_cons (m_var rfl (m_nil (c_lenL (ds := (hh :: rest).map strsD) rfl (m_nil ⟨1, _, rfl, by omega, ?_, ?_⟩)))))))))))
  · rw [List.length_map, List.length_cons]; omega
  have hrl : (((((hh :: rest).map strsD).length : Nat) : Int) - 1).toNat = rest.length := by rw [List.length_map, List.length_cons]; omega
  rw [hrl]
  have hrn : (rngD 1 rest.length).length = rest.length := by unfold rngD; rw [List.length_map, List.length_range]
  refine ⟨fun i ρ => ∃ (acc : List Lg) (s4 s6 s7 : Sl), legsF (i + 1) acc (rest.drop i) = R ∧ acc.length = i ∧ AccOk acc ∧ ρ = [.val (rowsD (hh :: rest)), .val (strsD hh), .val (strsD (railsL (grB hh) (poB hh))), s3, s4, .own (bareD t (sortS (drvs acc)) (sortS (lsts acc)) (railsL (grB hh) (poB hh))), s6, s7], ⟨[], s4, .none, .none, hR, rfl, acc_nil, by rw [show sortS (drvs []) = [] from s_nil, show sortS (lsts []) = [] from s_nil]; rfl⟩, fun i d ρ hd hI => ?_, fun ρ hI => ?_⟩
  · obtain ⟨acc, s4, s6, s7, a1, a2, a3, rfl⟩ := hI
    have hi : i < rest.length := by rw [← hrn]; exact (List.getElem?_eq_some_iff.mp hd).1
    obtain rfl : d = .int (1 + (i : Int)) := by
      unfold rngD at hd
      rw [List.getElem?_map, List.getElem?_range hi] at hd
      exact (Option.some.inj hd).symm
    obtain ⟨r, hr⟩ : ∃ r, rest[i]? = some r := ⟨_, List.getElem?_eq_getElem hi⟩
    have hrm : r ∈ rest := List.mem_of_getElem? hr
    have hdr : rest.drop i = r :: rest.drop (i + 1) := by
      obtain ⟨hlt, hr2⟩ := List.getElem?_eq_some_iff.mp hr
      rw [List.drop_eq_getElem_cons hlt, hr2]
    have hra : atI ((hh :: rest).map strsD) ((i + 1 : Nat) : Int) = some (strsD r) := atI_nat (by rw [List.getElem?_map, List.getElem?_cons_succ, hr]; rfl)
    obtain ⟨k0, kt, rfl⟩ := row_cons (ok.row r (List.mem_cons_of_mem _ hrm)).1
    have okr := (ok.row _ (List.mem_cons_of_mem _ hrm)).2.2
    have lr := lz _ (List.mem_cons_of_mem _ hrm)
    rw [hdr] at a1
    unfold legsF at a1
    have e1i : (1 : Int) + (i : Nat) = ((i + 1 : Nat) : Int) := by omega
    rw [e1i]
    have ret : ∀ (x : Nat) (ρ : Ro), sl ρ 4 = .val (.int ((i + 1 : Nat) : Int)) → R = .inr (i + 1, x) → ∀ N : Hn, (∀ d ρ, Qd d → N.rt d ρ) → ∀ (c : Int), c = (x : Nat) → Ms K ⟨o, w, TB K⟩ F0 (tRet (tTup (tCons (tVar 4) (tCons (tC (.int c)) tNil)))) ρ N := fun x ρ h4 hx N hN c hc => by
      subst hc
      exact ms_ret (m_tup (m_cons (m_var h4 (m_cons (m_cI (m_nil (q_c (q_v (q_c (q_v (q_n ⟨Nat.le_of_ble_eq_true rfl, q_v (hN _ _ (q1 (rd2 _ hx)))⟩)))))))))))
    refine mg_name (ms_seq (s_asg (m_op (m_var rfl (m_var rfl (r_ixL (ds := (hh :: rest).map strsD) rfl hra (q_v ?_)))))))
    refine ms_seq (ms_if (m_or (m_test (m_op (m_op (m_var rfl (m_cI (r_ixL (ds := (k0 :: kt).map D.str) rfl at0 (m_tup (m_cons (m_cS (m_cons (m_cS (m_nil (q_c (q_v (q_c (q_v (q_n ⟨Nat.le_of_ble_eq_true rfl, r_ninStrsT (zs := ["driver", "listener"]) rfl (q_bl ?_)⟩)))))))))))))))))))
    by_cases hk : k0 ∈ (["driver", "listener"] : List Str)
    case neg =>
      rw [decide_eq_false hk]
      refine q_t (q_t (ret 0 _ rfl ?_ _ (fun d ρ z => z) _ rfl))
      rw [← a1, kd_eq, decide_eq_false hk]
      rfl
    rw [decide_eq_true hk]
    refine q_f (m_test (m_op (m_var rfl (m_cI (r_gtI (q_bl ?_))))))
    by_cases e4 : i + 1 ≤ 40
    case neg =>
      rw [decide_eq_true (show (40 : Int) < ((i + 1 : Nat) : Int) by omega)]
      refine q_t (ret 0 _ rfl ?_ _ (fun d ρ z => z) _ rfl)
      rw [← a1, decide_eq_false e4, Bool.and_false]
      rfl
    rw [decide_eq_false (show ¬ (40 : Int) < ((i + 1 : Nat) : Int) by omega)]
    rw [if_pos (show (kdB (k0 :: kt) && decide (i + 1 ≤ 40)) = true by rw [kd_eq, decide_eq_true hk, decide_eq_true e4]; rfl)] at a1
    have tl2 := two_len acc
    refine q_f (ms_next (ms_seq (s_asg (m_op (m_dget (m_varS rfl (m_cS (get_str rfl rfl (m_dget (m_varS rfl (m_cS (get_str rfl rfl (r_catL (ds := (sortS (drvs acc)).map D.str) (es := (sortS (lsts acc)).map D.str) rfl rfl (by rw [List.length_map, List.length_map]; omega) (q_v ?_))))))))))))))
    rw [← List.map_append]
    refine ms_seq (ms_if (m_or (m_test (m_op (m_cb (m_cons (m_var rfl (m_nil (c_lenL (ds := (k0 :: kt).map D.str) rfl (m_cI (r_ltI (q_bl ?_))))))))))))
    by_cases l1 : 1 < (k0 :: kt).length
    case neg =>
      rw [decide_eq_true (show (((k0 :: kt).map D.str).length : Int) < 2 by rw [List.length_map]; omega)]
      refine q_t (q_t (ret 1 _ rfl ?_ _ (fun d ρ z => z) _ rfl))
      rw [← a1]
      exact if_neg (by unfold nmB; rw [decide_eq_false l1]; exact Bool.false_ne_true)
    rw [decide_eq_false (show ¬ (((k0 :: kt).map D.str).length : Int) < 2 by rw [List.length_map]; omega)]
    obtain ⟨_, n1, rt, ez⟩ := row_one l1
    cases ez
    have hn1 : n1.length ≤ 1000 := lr n1 (List.mem_cons_of_mem _ (List.mem_cons_self ..))
    have on1 := okr n1 (List.mem_cons_of_mem _ (List.mem_cons_self ..))
    have nm_e : nmB acc (k0 :: n1 :: rt) = (nameB n1 && !decide (n1 ∈ acc.map (·.nm))) := by
      unfold nmB
      rw [decide_eq_true l1, Bool.true_and]
      rfl
    rw [nm_e] at a1
    refine q_f (m_or (m_not (m_B (m_fn wr0 (m_cons (m_op (m_var rfl (m_cI (r_ixL (ds := (k0 :: n1 :: rt).map D.str) rfl at1 (m_nil (q_c (q_v (q_n ⟨n1, rfl, hn1, on1, q_bl ?_⟩)))))))))))))
    cases hnb : nameB n1 with
    | false =>
      refine q_t (q_t (ret 1 _ rfl ?_ _ (fun d ρ z => z) _ rfl))
      rw [← a1, hnb]
      rfl
    | true =>
      refine q_f (m_test (m_op (m_op (m_var rfl (m_cI (r_ixL (ds := (k0 :: n1 :: rt).map D.str) rfl at1 (m_var rfl (r_inStrs (zs := sortS (drvs acc) ++ sortS (lsts acc)) rfl (q_bl ?_)))))))))
      by_cases hm : n1 ∈ acc.map (·.nm)
      case pos =>
        rw [decide_eq_true ((two_mem acc n1).mpr hm)]
        refine q_t (ret 1 _ rfl ?_ _ (fun d ρ z => z) _ rfl)
        rw [← a1, hnb, decide_eq_true hm]
        rfl
      rw [decide_eq_false (fun z => hm ((two_mem acc n1).mp z))]
      have nmT : nmB acc (k0 :: n1 :: rt) = true := by rw [nm_e, hnb, decide_eq_false hm]; rfl
      rw [hnb, decide_eq_false hm, if_pos (show (true && !false) = true from rfl)] at a1
      refine q_f (ms_next (ms_seq (ms_if (m_test (m_op (m_cb (m_cons (m_var rfl (m_nil (c_lenL (ds := (k0 :: n1 :: rt).map D.str) rfl (m_cI (r_gtI (q_bl ?_)))))))))))))
      by_cases e6 : (k0 :: n1 :: rt).length = 2
      case neg =>
        rw [decide_eq_true (show (2 : Int) < (((k0 :: n1 :: rt).map D.str).length : Int) by rw [List.length_map]; rw [List.length_cons, List.length_cons] at e6 ⊢; omega)]
        refine q_t (ret 2 _ rfl ?_ _ (fun d ρ z => z) _ rfl)
        rw [← a1]
        exact if_neg e6
      rw [decide_eq_false (show ¬ (2 : Int) < (((k0 :: n1 :: rt).map D.str).length : Int) by rw [List.length_map]; omega)]
      rw [if_pos e6] at a1
      have acc2 := a3.add (r := k0 :: n1 :: rt) (by omega) nmT hn1
      have la2 : (acc ++ [lgOf (k0 :: n1 :: rt)]).length = i + 1 := by rw [List.length_append, List.length_singleton, a2]
      have hk2 : k0 = "driver" ∨ k0 = "listener" := by
        rcases List.mem_cons.mp hk with h | h
        · exact .inl h
        · exact .inr (List.mem_singleton.mp h)
      refine q_f (ms_next ?_)
      rcases hk2 with rfl | rfl
      · refine ms_dputV (m_cb (m_cons (m_op (m_dget (m_varS rfl (m_op (m_op (m_var rfl (m_cI (r_ixL (ds := (("driver" : Str) :: n1 :: rt).map D.str) rfl at0 (m_cS (r_addS (Nat.le_of_ble_eq_true rfl) (get_str rfl rfl (v_lst (m_cons (m_op (m_var rfl (m_cI (r_ixL (ds := (("driver" : Str) :: n1 :: rt).map D.str) rfl at1 (m_nil (q_c (q_v (q_n ⟨Nat.le_of_ble_eq_true rfl, ?_⟩)))))))))))))))))))))))
        refine r_catL (ds := (sortS (drvs acc)).map D.str) rfl rfl (by rw [List.length_map]; show _ + 1 ≤ 10000; omega) (m_nil (c_sortS (zs := sortS (drvs acc) ++ [n1]) (by show some (D.lst _) = some (D.lst _); rw [List.map_append]; rfl) (by rw [List.length_append, List.length_singleton]; omega) fun ys y1 y2 => q_v ⟨_, "drivers", rfl, Nat.le_of_ble_eq_true rfl, fun O2 F2 => m_op (m_op (m_var rfl (m_cI (r_ixL (ds := (("driver" : Str) :: n1 :: rt).map D.str) rfl at0 (m_cS (r_addS (Nat.le_of_ble_eq_true rfl) ⟨rfl, rfl⟩)))))), ?_⟩))
        refine ⟨acc ++ [lgOf (("driver" : Str) :: n1 :: rt)], .val (.int ((i + 1 : Nat) : Int)), .val (strsD (("driver" : Str) :: n1 :: rt)), .val (strsD (sortS (drvs acc) ++ sortS (lsts acc))), a1, la2, acc2, ?_⟩
        rw [drvs_add, lsts_add, if_pos (show (lgOf (("driver" : Str) :: n1 :: rt)).drv = true from rfl), if_pos (show (lgOf (("driver" : Str) :: n1 :: rt)).drv = true from rfl), show (lgOf (("driver" : Str) :: n1 :: rt)).nm = n1 from rfl, ← sort_add y1 y2]
        rfl
      · refine ms_dputV (m_cb (m_cons (m_op (m_dget (m_varS rfl (m_op (m_op (m_var rfl (m_cI (r_ixL (ds := (("listener" : Str) :: n1 :: rt).map D.str) rfl at0 (m_cS (r_addS (Nat.le_of_ble_eq_true rfl) (get_str rfl rfl (v_lst (m_cons (m_op (m_var rfl (m_cI (r_ixL (ds := (("listener" : Str) :: n1 :: rt).map D.str) rfl at1 (m_nil (q_c (q_v (q_n ⟨Nat.le_of_ble_eq_true rfl, ?_⟩)))))))))))))))))))))))
        refine r_catL (ds := (sortS (lsts acc)).map D.str) rfl rfl (by rw [List.length_map]; show _ + 1 ≤ 10000; omega) (m_nil (c_sortS (zs := sortS (lsts acc) ++ [n1]) (by show some (D.lst _) = some (D.lst _); rw [List.map_append]; rfl) (by rw [List.length_append, List.length_singleton]; omega) fun ys y1 y2 => q_v ⟨_, "listeners", rfl, Nat.le_of_ble_eq_true rfl, fun O2 F2 => m_op (m_op (m_var rfl (m_cI (r_ixL (ds := (("listener" : Str) :: n1 :: rt).map D.str) rfl at0 (m_cS (r_addS (Nat.le_of_ble_eq_true rfl) ⟨rfl, rfl⟩)))))), ?_⟩))
        refine ⟨acc ++ [lgOf (("listener" : Str) :: n1 :: rt)], .val (.int ((i + 1 : Nat) : Int)), .val (strsD (("listener" : Str) :: n1 :: rt)), .val (strsD (sortS (drvs acc) ++ sortS (lsts acc))), a1, la2, acc2, ?_⟩
        have hf : (lgOf (("listener" : Str) :: n1 :: rt)).drv = false := show decide (("listener" : Str) = "driver") = false from decide_eq_false (by decide)
        rw [drvs_add, lsts_add, if_neg (by rw [hf]; exact Bool.false_ne_true), if_neg (by rw [hf]; exact Bool.false_ne_true), show (lgOf (("listener" : Str) :: n1 :: rt)).nm = n1 from rfl, ← sort_add y1 y2]
        rfl
  · obtain ⟨acc, s4, s6, s7, a1, a2, a3, rfl⟩ := hI
    rw [hrn, List.drop_length] at a1
    have rdF : readF (hh :: rest) = .inl (t, grB hh, poB hh, acc) := rd3 _ (a1.symm.trans (by unfold legsF; rfl))
    exact ms_ret (m_varS rfl (q_own rfl (qq _ _ _ _ rdF)))
end
end K86
namespace K86
open PySem PySem.Spec PyProof.Rows L2 He SJ
open LamX (CodeO lamS_by Tabs tLam)
local macro_rules | `(tactic| walk_at "mr") => `(tactic| repeat' (first
  | with_reducible apply ms_seq | with_reducible apply ms_if | with_reducible apply ms_ret | with_reducible apply ms_next | with_reducible apply s_asg
  | ((with_reducible apply g_var); first | refine m_var rfl ?_ | refine m_varS rfl ?_)
  | with_reducible apply m_cI | with_reducible apply m_cS | with_reducible apply m_cB | with_reducible apply m_cN | with_reducible apply m_cC | with_reducible apply m_cT
  | with_reducible apply m_op | with_reducible apply m_cb | with_reducible apply m_nil | with_reducible apply m_cons | with_reducible apply m_test | with_reducible apply m_B | with_reducible apply q_bl
  | with_reducible apply m_and | with_reducible apply m_or | with_reducible apply m_not | with_reducible apply m_andV | with_reducible apply m_orV | with_reducible apply m_notV | with_reducible apply m_ife | with_reducible apply m_chain
  | with_reducible apply q_v | ((with_reducible apply g_slot); refine q_own rfl ?_) | with_reducible apply q_n | with_reducible apply q_c | with_reducible apply q_t | with_reducible apply q_f | with_reducible apply m_yes
  | with_reducible apply r_addI | with_reducible apply r_subI | with_reducible apply r_eqI | with_reducible apply r_neI | with_reducible apply r_eqS | with_reducible apply r_neS | with_reducible apply r_ltI | with_reducible apply r_leI | with_reducible apply r_gtI | with_reducible apply r_geI
  | with_reducible apply r_isN | with_reducible apply r_isnN | with_reducible apply c_intI | with_reducible apply c_intB | with_reducible apply v_lst | with_reducible apply m_tup | ((with_reducible apply g_le); refine ⟨Nat.le_of_ble_eq_true rfl, ?_⟩) | with_reducible apply v_sl | with_reducible apply v_dnew
  | ((with_reducible apply g_dget); refine m_dget ?_) | refine get_str rfl rfl ?_
  | with_reducible apply m_fld | with_reducible apply m_con | refine ⟨_, _, _, rfl, by walk_at "fd", rfl, ?_⟩
  | ((with_reducible apply g_fn); first | refine m_fn wr0 ?_ | refine m_fn (by assumption) ?_ | refine m_fnP ?_ rfl)
  | ((with_reducible apply g_nw); refine m_nw wr0 ?_) | ((with_reducible apply g_ownGet); refine m_ownGet wr0 ?_) | ((with_reducible apply g_ownIn); refine r_ownIn ?_)
  | ((with_reducible apply g_inS); first | refine r_inStrs rfl ?_ | refine r_inStrsT rfl ?_ | refine r_ninStrsT rfl ?_) | ((with_reducible apply g_len); first | refine c_lenL rfl ?_ | refine c_lenT rfl ?_ | refine c_lenD rfl ?_)
  | ((with_reducible apply g_list); first | refine c_listv (.inl rfl) ?_ | refine c_listv (.inr rfl) ?_) | ((with_reducible apply g_tupU); first | refine c_tupleL rfl ?_ | refine c_tupleT ?_) | ((with_reducible apply g_pr); refine m_pr ?_) | refine ⟨_, _, _, rfl, by walk_at "cl", by walk_at "pr", ?_⟩ | refine ⟨_, rfl, ?_⟩ | fail))
local macro_rules | `(tactic| walk_at "me") => `(tactic| repeat' (first
  | ((with_reducible apply g_var); first | refine m_var rfl ?_ | refine m_varS rfl ?_)
  | with_reducible apply m_cI | with_reducible apply m_cS | with_reducible apply m_cB | with_reducible apply m_cN | with_reducible apply m_cC | with_reducible apply m_cT
  | with_reducible apply m_op | with_reducible apply m_cb | with_reducible apply m_nil | with_reducible apply m_cons | with_reducible apply m_test | with_reducible apply m_B | with_reducible apply q_bl
  | with_reducible apply m_and | with_reducible apply m_or | with_reducible apply m_not | with_reducible apply m_andV | with_reducible apply m_orV | with_reducible apply m_notV | with_reducible apply m_ife | with_reducible apply m_chain
  | with_reducible apply q_v | ((with_reducible apply g_slot); refine q_own rfl ?_) | with_reducible apply q_n | with_reducible apply q_c | with_reducible apply q_t | with_reducible apply q_f | with_reducible apply m_yes
  | with_reducible apply r_addI | with_reducible apply r_subI | with_reducible apply r_eqI | with_reducible apply r_neI | with_reducible apply r_eqS | with_reducible apply r_neS | with_reducible apply r_ltI | with_reducible apply r_leI | with_reducible apply r_gtI | with_reducible apply r_geI
  | with_reducible apply r_isN | with_reducible apply r_isnN | with_reducible apply c_intI | with_reducible apply c_intB | with_reducible apply v_lst | with_reducible apply m_tup | ((with_reducible apply g_le); refine ⟨Nat.le_of_ble_eq_true rfl, ?_⟩) | with_reducible apply v_sl | with_reducible apply v_dnew
  | ((with_reducible apply g_dget); refine m_dget ?_) | refine get_str rfl rfl ?_
  | with_reducible apply m_fld | with_reducible apply m_con | refine ⟨_, _, _, rfl, by walk_at "fd", rfl, ?_⟩
  | ((with_reducible apply g_fn); first | refine m_fn wr0 ?_ | refine m_fn (by assumption) ?_ | refine m_fnP ?_ rfl)
  | ((with_reducible apply g_nw); refine m_nw wr0 ?_) | ((with_reducible apply g_ownGet); refine m_ownGet wr0 ?_) | ((with_reducible apply g_ownIn); refine r_ownIn ?_)
  | ((with_reducible apply g_inS); first | refine r_inStrs rfl ?_ | refine r_inStrsT rfl ?_ | refine r_ninStrsT rfl ?_) | ((with_reducible apply g_len); first | refine c_lenL rfl ?_ | refine c_lenT rfl ?_ | refine c_lenD rfl ?_)
  | ((with_reducible apply g_list); first | refine c_listv (.inl rfl) ?_ | refine c_listv (.inr rfl) ?_) | ((with_reducible apply g_tupU); first | refine c_tupleL rfl ?_ | refine c_tupleT ?_) | ((with_reducible apply g_pr); refine m_pr ?_) | refine ⟨_, _, _, rfl, by walk_at "cl", by walk_at "pr", ?_⟩ | refine ⟨_, rfl, ?_⟩ | fail))
local macro_rules | `(tactic| walk_at "fd") => `(tactic| first | exact (fr_fld (by assumption)).1 | exact (fr_fld (by assumption)).2.1 | exact (fr_fld (by assumption)).2.2.1 | exact (fr_fld (by assumption)).2.2.2 | exact leg_fld (by assumption) _ | fail)
local macro_rules | `(tactic| walk_at "cl") => `(tactic| first | exact fr_cls (by assumption) | exact leg_cls (by assumption) _ | fail)
local macro_rules | `(tactic| walk_at "pr") => `(tactic| first | exact Tx.pr_Flegs (by assumption) | exact Tx.pr_Fnames (by assumption) | exact Tx.pr_Fdrivers (by assumption) | exact Tx.pr_Flisteners (by assumption) | exact Tx.pr_Frails (by assumption) | exact Tx.pr_Fmembers (by assumption) | exact leg_prB (by assumption) _ | fail)
section
variable {K : PySem.W.Frag} {mg : Str → Option Value} {vs : List V} {H : Hp} {Q : VK} {E : XK}
def oddS : List Str := (["", "frame", "driver", "listener", "ground", "power", "rest", "word", "reads", "block", "nothing", "A", "a"] : List Str) ++ (["b", "0", "1", "2", "3", "4", "00", "01", "10", "-1", "100", "a=0", "a=00", "=0", "a=", "a=0=0", "b=1"] : List Str) ++ (["+1", "-0", "+0", "a=+1", "a=-0"] : List Str)
theorem odd_sh : ∀ z ∈ oddS, z.length ≤ 8 ∧ (z.cps.toList.all fun c => decide (c < 0x110000)) = true := by decide +kernel
abbrev okL (r : List Str) : Prop := ∀ z ∈ r, okT z
theorem okL_app {a b : List Str} (h1 : okL a) (h2 : okL b) : okL (a ++ b) := fun z hz => by
  rcases List.mem_append.mp hz with h | h
  · exact h1 z h
  · exact h2 z h
theorem okL_take {a : List Str} (h : okL a) (k : Nat) : okL (a.take k) := fun z hz => h z (List.mem_of_mem_take hz)
theorem okL_drop {a : List Str} (h : okL a) (k : Nat) : okL (a.drop k) := fun z hz => h z (List.mem_of_mem_drop hz)
theorem okL_one {z : Str} (h : okT z) : okL [z] := fun y hy => by rw [List.mem_singleton.mp hy]; exact h
theorem wt_tk (r : List Str) (k : Nat) : wt (r.take k) ≤ wt r := by have := wt_take k r; omega
theorem wt_dr (r : List Str) (k : Nat) : wt (r.drop k) ≤ wt r := by have := wt_take k r; omega
theorem wt_two (r : List Str) (k : Nat) : wt (r.take k) + wt (r.drop (k + 1)) ≤ wt r := by
  have h1 := wt_take k r
  have h2 : wt (r.drop (k + 1)) ≤ wt (r.drop k) := by rw [← List.drop_drop]; exact wt_dr _ _
  omega
theorem wt_at {r : List Str} {k : Nat} {z : Str} (h : r[k]? = some z) : wt (r.take k) + (z.length + 1) + wt (r.drop (k + 1)) = wt r := by
  have h1 := wt_take k r
  obtain ⟨hlt, e⟩ := List.getElem?_eq_some_iff.mp h
  rw [List.drop_eq_getElem_cons hlt, wt_cons, e] at h1
  omega
/-- the names of the def while it works at one row -/
def spR (zs : List Str) (rows : D) (a v s : Nat) (k : Nat) (r : List Str) (fd mo : Sl) : Ro :=
  [.pen k, .val (.lst (zs.map D.str)), .val (.lst (oddS.map D.str)), .val rows, .none, .val (.int (a : Nat)), .val (.int (v : Nat)), .val (strsD r), .val (.int (s : Nat)), fd, mo]
section
variable {o : Hp} {w : Option V} {F0 : Hp} {N : Hn} {zs r : List Str} {rows : D} {a v s k : Nat} {fd mo : Sl}
abbrev OT (K : PySem.W.Frag) (o : Hp) (w : Option V) : Oc := ⟨o, w, TB K⟩
theorem m_pickO {i : Nat} {ρ : Ro} {Q : X → Ro → Prop} (h0 : sl ρ 0 = .pen k) (hi : sl ρ i = .val (.lst (r.map D.str))) (hk : k < 100000) (hr : r ≠ []) (hl : r.length ≤ 1000) (q : ∀ z ∈ r, Q (.val (.str z)) (ρ.set 0 (.pen (k + 1)))) :
    Me K (OT K o w) F0 (tFn (sp_Lpick K) [] W0 (tCons (tVar 0) (tCons (tVar i) tNil))) ρ Q := by
  refine m_fnP (m_cons (m_var hi (m_nil (q_c (q_v (q_n ⟨k, h0, r.map D.str, .inl rfl, hk, fun e => hr (List.map_eq_nil_iff.mp e), by rw [List.length_map]; exact hl, fun e he => ?_⟩)))))) (by rw [h0]; rfl)
  obtain ⟨z, hz, rfl⟩ := List.mem_map.mp he
  exact q z hz
theorem odd_ne : oddS ≠ [] := by decide
theorem odd_le : oddS.length ≤ 1000 := by decide
theorem sp1 (hk : k < 100000) (hl : r.length ≤ 1000) (ok : okL r) (h1 : v < 3 → ∀ z ∈ oddS, N.nx (spR zs rows a v s (k + 1) (r.take s ++ [z] ++ r.drop (s + 1)) fd mo)) (h2 : 3 ≤ v → N.nx (spR zs rows a v s k r fd mo)) :
    Ms K (OT K o w) F0 (tIfS (tTest (tOp rLtU (tVar 6) (tC (.int 3)))) (tAsg (tOp (rAdd K) (tOp (rAdd K) (tSl (rSlU K) (tVar 7) tNoPart (tPart (tVar 8))) (tLst (tCons (tFn (sp_Lpick K) [] W0 (tCons (tVar 0) (tCons (tVar 2) tNil))) tNil))) (tSl (rSlU K) (tVar 7) (tPart (tOp (rAdd K) (tVar 8) (tC (.int 1)))) tNoPart)) (gName 7)) tNext) (spR zs rows a v s k r fd mo) N := by
  refine ms_if (m_test (m_op (m_var rfl (m_cI (r_ltI (q_bl ?_))))))
  by_cases hv : v < 3
  · rw [decide_eq_true (show ((v : Nat) : Int) < 3 by omega)]
    refine q_t (s_asg (m_op (m_op (v_slB (zs := r) rfl (m_var rfl ⟨s, rfl, v_lst (m_cons (m_pickO rfl rfl hk odd_ne odd_le fun z hz => m_nil (q_c (q_v (q_n ⟨Nat.le_of_ble_eq_true rfl, ?_⟩)))))⟩)))))
    refine r_catL (ds := (r.take s).map D.str) (es := [D.str z]) rfl rfl ?_ ?_
    · rw [List.length_map, List.length_take]; show _ + 1 ≤ 10000; omega
    refine v_slA1 (zs := r) rfl (m_op (m_var rfl (m_cI (r_addI ⟨s + 1, rfl, ?_⟩))))
    refine r_catL (ds := (r.take s).map D.str ++ [D.str z]) (es := (r.drop (s + 1)).map D.str) rfl rfl ?_ (q_v ?_)
    · rw [List.length_append, List.length_map, List.length_take, List.length_map, List.length_drop]; show _ + 1 + _ ≤ 10000; omega
    have e : (r.take s).map D.str ++ [D.str z] ++ (r.drop (s + 1)).map D.str = (r.take s ++ [z] ++ r.drop (s + 1)).map D.str := by rw [List.map_append, List.map_append]; rfl
    rw [e]
    exact h1 hv z hz
  · rw [decide_eq_false (show ¬ ((v : Nat) : Int) < 3 by omega)]
    exact q_f (ms_next (h2 (by omega)))
theorem sp2 (hl : r.length ≤ 1000) (h1 : v = 3 → N.nx (spR zs rows a v s k (r.take s ++ r.drop (s + 1)) fd mo)) (h2 : v ≠ 3 → N.nx (spR zs rows a v s k r fd mo)) :
    Ms K (OT K o w) F0 (tIfS (tTest (tOp (rEqU K) (tVar 6) (tC (.int 3)))) (tAsg (tOp (rAdd K) (tSl (rSlU K) (tVar 7) tNoPart (tPart (tVar 8))) (tSl (rSlU K) (tVar 7) (tPart (tOp (rAdd K) (tVar 8) (tC (.int 1)))) tNoPart)) (gName 7)) tNext) (spR zs rows a v s k r fd mo) N := by
  refine ms_if (m_test (m_op (m_var rfl (m_cI (r_eqI (q_bl ?_))))))
  by_cases hv : v = 3
  · rw [decide_eq_true (show ((v : Nat) : Int) = 3 by omega)]
    refine q_t (s_asg (m_op (v_slB (zs := r) rfl (m_var rfl ⟨s, rfl, ?_⟩))))
    refine v_slA1 (zs := r) rfl (m_op (m_var rfl (m_cI (r_addI ⟨s + 1, rfl, ?_⟩))))
    refine r_catL (ds := (r.take s).map D.str) (es := (r.drop (s + 1)).map D.str) rfl rfl ?_ (q_v ?_)
    · rw [List.length_map, List.length_take, List.length_map, List.length_drop]; omega
    rw [← List.map_append]
    exact h1 hv
  · rw [decide_eq_false (show ¬ ((v : Nat) : Int) = 3 by omega)]
    exact q_f (ms_next (h2 hv))
theorem sp3 (hk : k < 100000) (hl : r.length ≤ 1000) (h1 : v = 4 → ∀ z ∈ oddS, N.nx (spR zs rows a v s (k + 1) (r.take (s + 1) ++ [z] ++ r.drop (s + 1)) fd mo)) (h2 : v ≠ 4 → N.nx (spR zs rows a v s k r fd mo)) :
    Ms K (OT K o w) F0 (tIfS (tTest (tOp (rEqU K) (tVar 6) (tC (.int 4)))) (tAsg (tOp (rAdd K) (tOp (rAdd K) (tSl (rSlU K) (tVar 7) tNoPart (tPart (tOp (rAdd K) (tVar 8) (tC (.int 1))))) (tLst (tCons (tFn (sp_Lpick K) [] W0 (tCons (tVar 0) (tCons (tVar 2) tNil))) tNil))) (tSl (rSlU K) (tVar 7) (tPart (tOp (rAdd K) (tVar 8) (tC (.int 1)))) tNoPart)) (gName 7)) tNext) (spR zs rows a v s k r fd mo) N := by
  refine ms_if (m_test (m_op (m_var rfl (m_cI (r_eqI (q_bl ?_))))))
  by_cases hv : v = 4
  · rw [decide_eq_true (show ((v : Nat) : Int) = 4 by omega)]
    refine q_t (s_asg (m_op (m_op (v_slB (zs := r) rfl (m_op (m_var rfl (m_cI (r_addI ⟨s + 1, rfl, v_lst (m_cons (m_pickO rfl rfl hk odd_ne odd_le fun z hz => m_nil (q_c (q_v (q_n ⟨Nat.le_of_ble_eq_true rfl, ?_⟩)))))⟩))))))))
    refine r_catL (ds := (r.take (s + 1)).map D.str) (es := [D.str z]) rfl rfl ?_ ?_
    · rw [List.length_map, List.length_take]; show _ + 1 ≤ 10000; omega
    refine v_slA1 (zs := r) rfl (m_op (m_var rfl (m_cI (r_addI ⟨s + 1, rfl, ?_⟩))))
    refine r_catL (ds := (r.take (s + 1)).map D.str ++ [D.str z]) (es := (r.drop (s + 1)).map D.str) rfl rfl ?_ (q_v ?_)
    · rw [List.length_append, List.length_map, List.length_take, List.length_map, List.length_drop]; show _ + 1 + _ ≤ 10000; omega
    have e : (r.take (s + 1)).map D.str ++ [D.str z] ++ (r.drop (s + 1)).map D.str = (r.take (s + 1) ++ [z] ++ r.drop (s + 1)).map D.str := by rw [List.map_append, List.map_append]; rfl
    rw [e]
    exact h1 hv z hz
  · rw [decide_eq_false (show ¬ ((v : Nat) : Int) = 4 by omega)]
    exact q_f (ms_next (h2 hv))
theorem sp4 (hk : k < 100000) (hl : r.length ≤ 1000) (hr : v = 5 → r ≠ []) (h1 : v = 5 → ∀ z ∈ r, N.nx (spR zs rows a v s (k + 1) (r ++ [z]) fd mo)) (h2 : v ≠ 5 → N.nx (spR zs rows a v s k r fd mo)) :
    Ms K (OT K o w) F0 (tIfS (tTest (tOp (rEqU K) (tVar 6) (tC (.int 5)))) (tAsg (tOp (rAdd K) (tVar 7) (tLst (tCons (tFn (sp_Lpick K) [] W0 (tCons (tVar 0) (tCons (tVar 7) tNil))) tNil))) (gName 7)) tNext) (spR zs rows a v s k r fd mo) N := by
  refine ms_if (m_test (m_op (m_var rfl (m_cI (r_eqI (q_bl ?_))))))
  by_cases hv : v = 5
  · rw [decide_eq_true (show ((v : Nat) : Int) = 5 by omega)]
    refine q_t (s_asg (m_op (m_var rfl (v_lst (m_cons (m_pickO (r := r) rfl rfl hk (hr hv) hl fun z hz => m_nil (q_c (q_v (q_n ⟨Nat.le_of_ble_eq_true rfl, ?_⟩)))))))))
    refine r_catL (ds := r.map D.str) (es := [D.str z]) rfl rfl ?_ (q_v ?_)
    · rw [List.length_map]; show _ + 1 ≤ 10000; omega
    have e : r.map D.str ++ [D.str z] = (r ++ [z]).map D.str := by rw [List.map_append]; rfl
    rw [e]
    exact h1 hv z hz
  · rw [decide_eq_false (show ¬ ((v : Nat) : Int) = 5 by omega)]
    exact q_f (ms_next (h2 hv))
theorem sum_one (y : List Str) : (y.map (·.length)).sum + y.length * (" " : Str).length = wt y := by
  rw [show (" " : Str).length = 1 from rfl, Nat.mul_one, wt_sum]
theorem sp5 (hz : zs.length ≤ 1000) (hr : wt r ≤ 100000) (h : N.nx (spR zs rows a v s k r (.val (strsD (zs.take a ++ [Txt.join " " r] ++ zs.drop (a + 1)))) mo)) :
    Ms K (OT K o w) F0 (tAsg (tOp (rAdd K) (tOp (rAdd K) (tSl (rSlU K) (tVar 1) tNoPart (tPart (tVar 5))) (tLst (tCons (tM1 (rJoin K) (tC (.str " ")) (tVar 7)) tNil))) (tSl (rSlU K) (tVar 1) (tPart (tOp (rAdd K) (tVar 5) (tC (.int 1)))) tNoPart)) (gName 9)) (spR zs rows a v s k r fd mo) N := by
  refine s_asg (m_op (m_op (v_slB (zs := zs) rfl (m_var rfl ⟨a, rfl, v_lst (m_cons (m_join (zs := []) (m_cS ⟨_, rfl, m_var rfl ⟨r, .inl rfl, by rw [sum_one]; omega, m_nil (q_c (q_v (q_n ⟨Nat.le_of_ble_eq_true rfl, ?_⟩)))⟩⟩)))⟩))))
  refine r_catL (ds := (zs.take a).map D.str) (es := [D.str (Txt.join " " r)]) rfl rfl ?_ ?_
  · rw [List.length_map, List.length_take]; show _ + 1 ≤ 10000; omega
  refine v_slA1 (zs := zs) rfl (m_op (m_var rfl (m_cI (r_addI ⟨a + 1, rfl, ?_⟩))))
  refine r_catL (ds := (zs.take a).map D.str ++ [D.str (Txt.join " " r)]) (es := (zs.drop (a + 1)).map D.str) rfl rfl ?_ (q_v ?_)
  · rw [List.length_append, List.length_map, List.length_take, List.length_map, List.length_drop]; show _ + 1 + _ ≤ 10000; omega
  have e : (zs.take a).map D.str ++ [D.str (Txt.join " " r)] ++ (zs.drop (a + 1)).map D.str = (zs.take a ++ [Txt.join " " r] ++ zs.drop (a + 1)).map D.str := by rw [List.map_append, List.map_append]; rfl
  rw [e]
  exact h
theorem sp6 (hz : zs.length ≤ 1000) (h1 : v = 6 → N.nx (spR zs rows a v s k r (.val (strsD (zs.take a ++ (zs.drop a).take 1 ++ zs.drop a))) mo)) (h2 : v ≠ 6 → N.nx (spR zs rows a v s k r fd mo)) :
    Ms K (OT K o w) F0 (tIfS (tTest (tOp (rEqU K) (tVar 6) (tC (.int 6)))) (tAsg (tOp (rAdd K) (tOp (rAdd K) (tSl (rSlU K) (tVar 1) tNoPart (tPart (tVar 5))) (tSl (rSlU K) (tVar 1) (tPart (tVar 5)) (tPart (tOp (rAdd K) (tVar 5) (tC (.int 1)))))) (tSl (rSlU K) (tVar 1) (tPart (tVar 5)) tNoPart)) (gName 9)) tNext) (spR zs rows a v s k r fd mo) N := by
  refine ms_if (m_test (m_op (m_var rfl (m_cI (r_eqI (q_bl ?_))))))
  by_cases hv : v = 6
  · rw [decide_eq_true (show ((v : Nat) : Int) = 6 by omega)]
    refine q_t (s_asg (m_op (m_op (v_slB (zs := zs) rfl (m_var rfl ⟨a, rfl, v_slAB (zs := zs) rfl (m_var rfl ⟨a, rfl, m_op (m_var rfl (m_cI (r_addI ⟨a + 1, rfl, ?_⟩)))⟩)⟩)))))
    rw [show a + 1 - a = 1 by omega]
    refine r_catL (ds := (zs.take a).map D.str) (es := ((zs.drop a).take 1).map D.str) rfl rfl ?_ ?_
    · rw [List.length_map, List.length_take, List.length_map, List.length_take]; omega
    refine v_slA1 (zs := zs) rfl (m_var rfl ⟨a, rfl, ?_⟩)
    refine r_catL (ds := (zs.take a).map D.str ++ ((zs.drop a).take 1).map D.str) (es := (zs.drop a).map D.str) rfl rfl ?_ (q_v ?_)
    · rw [List.length_append, List.length_map, List.length_take, List.length_map, List.length_map, List.length_take, List.length_drop]; omega
    rw [← List.map_append, ← List.map_append]
    exact h1 hv
  · rw [decide_eq_false (show ¬ ((v : Nat) : Int) = 6 by omega)]
    exact q_f (ms_next (h2 hv))
theorem sp7 (hz : zs.length ≤ 1000) (h1 : v = 7 → N.nx (spR zs rows a v s k r (.val (strsD (zs.take a ++ zs.drop (a + 1)))) mo)) (h2 : v ≠ 7 → N.nx (spR zs rows a v s k r fd mo)) :
    Ms K (OT K o w) F0 (tIfS (tTest (tOp (rEqU K) (tVar 6) (tC (.int 7)))) (tAsg (tOp (rAdd K) (tSl (rSlU K) (tVar 1) tNoPart (tPart (tVar 5))) (tSl (rSlU K) (tVar 1) (tPart (tOp (rAdd K) (tVar 5) (tC (.int 1)))) tNoPart)) (gName 9)) tNext) (spR zs rows a v s k r fd mo) N := by
  refine ms_if (m_test (m_op (m_var rfl (m_cI (r_eqI (q_bl ?_))))))
  by_cases hv : v = 7
  · rw [decide_eq_true (show ((v : Nat) : Int) = 7 by omega)]
    refine q_t (s_asg (m_op (v_slB (zs := zs) rfl (m_var rfl ⟨a, rfl, ?_⟩))))
    refine v_slA1 (zs := zs) rfl (m_op (m_var rfl (m_cI (r_addI ⟨a + 1, rfl, ?_⟩))))
    refine r_catL (ds := (zs.take a).map D.str) (es := (zs.drop (a + 1)).map D.str) rfl rfl ?_ (q_v ?_)
    · rw [List.length_map, List.length_take, List.length_map, List.length_drop]; omega
    rw [← List.map_append]
    exact h1 hv
  · rw [decide_eq_false (show ¬ ((v : Nat) : Int) = 7 by omega)]
    exact q_f (ms_next (h2 hv))
theorem sp8 (hk : k + 3 < 100000) (hz : zs.length ≤ 1000) (h1 : v = 8 → ∀ ms : List Str, wt ms ≤ 18 → okL ms → ∀ mo, N.nx (spR zs rows a v s (k + 3) r (.val (strsD (zs.take a ++ [Txt.join " " ms] ++ zs.drop a))) mo)) (h2 : v ≠ 8 → N.nx (spR zs rows a v s k r fd mo)) :
    Ms K (OT K o w) F0 (tIfS (tTest (tOp (rEqU K) (tVar 6) (tC (.int 8)))) (tSeq (tAsg (tSl (rSlU K) (tLst (tCons (tFn (sp_Lpick K) [] W0 (tCons (tVar 0) (tCons (tVar 2) tNil))) (tCons (tFn (sp_Lpick K) [] W0 (tCons (tVar 0) (tCons (tVar 2) tNil))) tNil))) tNoPart (tPart (tOp (rAdd K) (tC (.int 1)) (tFn (sp_Ldraw K) [] W0 (tCons (tVar 0) (tCons (tC (.int 2)) tNil)))))) (gName 10)) (tAsg (tOp (rAdd K) (tOp (rAdd K) (tSl (rSlU K) (tVar 1) tNoPart (tPart (tVar 5))) (tLst (tCons (tM1 (rJoin K) (tC (.str " ")) (tVar 10)) tNil))) (tSl (rSlU K) (tVar 1) (tPart (tVar 5)) tNoPart)) (gName 9))) tNext) (spR zs rows a v s k r fd mo) N := by
  refine ms_if (m_test (m_op (m_var rfl (m_cI (r_eqI (q_bl ?_))))))
  by_cases hv : v = 8
  · rw [decide_eq_true (show ((v : Nat) : Int) = 8 by omega)]
    refine q_t (ms_seq (s_asg (v_sl (v_lst (m_cons (m_pickO rfl rfl (by omega) odd_ne odd_le fun y hy => m_cons (m_pickO rfl rfl (by omega) odd_ne odd_le fun z hz => m_nil (q_c (q_v (q_c (q_v (q_n ⟨Nat.le_of_ble_eq_true rfl, mo_no (mo_part (m_op (m_cI ?_)))⟩)))))))))))) 
    refine m_fnP (m_cons (m_cI (m_nil (q_c (q_v (q_n ⟨k + 2, rfl, 2, rfl, by omega, by decide, by decide, fun t t0 t1 => ?_⟩)))))) rfl
    obtain ⟨t, rfl⟩ := Int.eq_ofNat_of_zero_le t0
    refine r_addI ⟨_, rfl, ([y, z] : List Str).map D.str, rfl, q_v ?_⟩
    rw [show (1 : Int) + (t : Nat) = ((1 + t : Nat) : Int) by omega, cut_b, ← List.map_take]
    have hm : wt (([y, z] : List Str).take (1 + t)) ≤ 18 := by
      have h1 := wt_tk [y, z] (1 + t)
      have h2 := (odd_sh y hy).1
      have h3 := (odd_sh z hz).1
      rw [wt_cons, wt_cons, wt_nil] at h1
      omega
    have hmo : okL (([y, z] : List Str).take (1 + t)) := okL_take (fun x hx => by
      rcases List.mem_cons.mp hx with rfl | hx
      · exact okT_of (odd_sh _ hy).2
      · rw [List.mem_singleton.mp hx]; exact okT_of (odd_sh _ hz).2) _
    generalize ([y, z] : List Str).take (1 + t) = ms at *
    refine s_asg (m_op (m_op (v_slB (zs := zs) rfl (m_var rfl ⟨a, rfl, v_lst (m_cons (m_join (zs := []) (m_cS ⟨_, rfl, m_var rfl ⟨ms, .inl rfl, by rw [sum_one]; omega, m_nil (q_c (q_v (q_n ⟨Nat.le_of_ble_eq_true rfl, ?_⟩)))⟩⟩)))⟩))))
    refine r_catL (ds := (zs.take a).map D.str) (es := [D.str (Txt.join " " ms)]) rfl rfl ?_ ?_
    · rw [List.length_map, List.length_take]; show _ + 1 ≤ 10000; omega
    refine v_slA1 (zs := zs) rfl (m_var rfl ⟨a, rfl, ?_⟩)
    refine r_catL (ds := (zs.take a).map D.str ++ [D.str (Txt.join " " ms)]) (es := (zs.drop a).map D.str) rfl rfl ?_ (q_v ?_)
    · rw [List.length_append, List.length_map, List.length_take, List.length_map, List.length_drop]; show _ + 1 + _ ≤ 10000; omega
    have e : (zs.take a).map D.str ++ [D.str (Txt.join " " ms)] ++ (zs.drop a).map D.str = (zs.take a ++ [Txt.join " " ms] ++ zs.drop a).map D.str := by rw [List.map_append, List.map_append]; rfl
    rw [e]
    exact h1 hv ms hm hmo _
  · rw [decide_eq_false (show ¬ ((v : Nat) : Int) = 8 by omega)]
    exact q_f (ms_next (h2 hv))
end
end
end K86
namespace K86
open PySem PySem.Spec PyProof.Rows L2 He SJ
open LamX (CodeO lamS_by Tabs tLam)
local macro_rules | `(tactic| walk_at "mr") => `(tactic| repeat' (first
  | with_reducible apply ms_seq | with_reducible apply ms_if | with_reducible apply ms_ret | with_reducible apply ms_next | with_reducible apply s_asg
  | ((with_reducible apply g_var); first | refine m_var rfl ?_ | refine m_varS rfl ?_)
  | with_reducible apply m_cI | with_reducible apply m_cS | with_reducible apply m_cB | with_reducible apply m_cN | with_reducible apply m_cC | with_reducible apply m_cT
  | with_reducible apply m_op | with_reducible apply m_cb | with_reducible apply m_nil | with_reducible apply m_cons | with_reducible apply m_test | with_reducible apply m_B | with_reducible apply q_bl
  | with_reducible apply m_and | with_reducible apply m_or | with_reducible apply m_not | with_reducible apply m_andV | with_reducible apply m_orV | with_reducible apply m_notV | with_reducible apply m_ife | with_reducible apply m_chain
  | with_reducible apply q_v | ((with_reducible apply g_slot); refine q_own rfl ?_) | with_reducible apply q_n | with_reducible apply q_c | with_reducible apply q_t | with_reducible apply q_f | with_reducible apply m_yes
  | with_reducible apply r_addI | with_reducible apply r_subI | with_reducible apply r_eqI | with_reducible apply r_neI | with_reducible apply r_eqS | with_reducible apply r_neS | with_reducible apply r_ltI | with_reducible apply r_leI | with_reducible apply r_gtI | with_reducible apply r_geI
  | with_reducible apply r_isN | with_reducible apply r_isnN | with_reducible apply c_intI | with_reducible apply c_intB | with_reducible apply v_lst | with_reducible apply m_tup | ((with_reducible apply g_le); refine ⟨Nat.le_of_ble_eq_true rfl, ?_⟩) | with_reducible apply v_sl | with_reducible apply v_dnew
  | ((with_reducible apply g_dget); refine m_dget ?_) | refine get_str rfl rfl ?_
  | with_reducible apply m_fld | with_reducible apply m_con | refine ⟨_, _, _, rfl, by walk_at "fd", rfl, ?_⟩
  | ((with_reducible apply g_fn); first | refine m_fn wr0 ?_ | refine m_fn (by assumption) ?_ | refine m_fnP ?_ rfl)
  | ((with_reducible apply g_nw); refine m_nw wr0 ?_) | ((with_reducible apply g_ownGet); refine m_ownGet wr0 ?_) | ((with_reducible apply g_ownIn); refine r_ownIn ?_)
  | ((with_reducible apply g_inS); first | refine r_inStrs rfl ?_ | refine r_inStrsT rfl ?_ | refine r_ninStrsT rfl ?_) | ((with_reducible apply g_len); first | refine c_lenL rfl ?_ | refine c_lenT rfl ?_ | refine c_lenD rfl ?_)
  | ((with_reducible apply g_list); first | refine c_listv (.inl rfl) ?_ | refine c_listv (.inr rfl) ?_) | ((with_reducible apply g_tupU); first | refine c_tupleL rfl ?_ | refine c_tupleT ?_) | ((with_reducible apply g_pr); refine m_pr ?_) | refine ⟨_, _, _, rfl, by walk_at "cl", by walk_at "pr", ?_⟩ | refine ⟨_, rfl, ?_⟩ | fail))
local macro_rules | `(tactic| walk_at "me") => `(tactic| repeat' (first
  | ((with_reducible apply g_var); first | refine m_var rfl ?_ | refine m_varS rfl ?_)
  | with_reducible apply m_cI | with_reducible apply m_cS | with_reducible apply m_cB | with_reducible apply m_cN | with_reducible apply m_cC | with_reducible apply m_cT
  | with_reducible apply m_op | with_reducible apply m_cb | with_reducible apply m_nil | with_reducible apply m_cons | with_reducible apply m_test | with_reducible apply m_B | with_reducible apply q_bl
  | with_reducible apply m_and | with_reducible apply m_or | with_reducible apply m_not | with_reducible apply m_andV | with_reducible apply m_orV | with_reducible apply m_notV | with_reducible apply m_ife | with_reducible apply m_chain
  | with_reducible apply q_v | ((with_reducible apply g_slot); refine q_own rfl ?_) | with_reducible apply q_n | with_reducible apply q_c | with_reducible apply q_t | with_reducible apply q_f | with_reducible apply m_yes
  | with_reducible apply r_addI | with_reducible apply r_subI | with_reducible apply r_eqI | with_reducible apply r_neI | with_reducible apply r_eqS | with_reducible apply r_neS | with_reducible apply r_ltI | with_reducible apply r_leI | with_reducible apply r_gtI | with_reducible apply r_geI
  | with_reducible apply r_isN | with_reducible apply r_isnN | with_reducible apply c_intI | with_reducible apply c_intB | with_reducible apply v_lst | with_reducible apply m_tup | ((with_reducible apply g_le); refine ⟨Nat.le_of_ble_eq_true rfl, ?_⟩) | with_reducible apply v_sl | with_reducible apply v_dnew
  | ((with_reducible apply g_dget); refine m_dget ?_) | refine get_str rfl rfl ?_
  | with_reducible apply m_fld | with_reducible apply m_con | refine ⟨_, _, _, rfl, by walk_at "fd", rfl, ?_⟩
  | ((with_reducible apply g_fn); first | refine m_fn wr0 ?_ | refine m_fn (by assumption) ?_ | refine m_fnP ?_ rfl)
  | ((with_reducible apply g_nw); refine m_nw wr0 ?_) | ((with_reducible apply g_ownGet); refine m_ownGet wr0 ?_) | ((with_reducible apply g_ownIn); refine r_ownIn ?_)
  | ((with_reducible apply g_inS); first | refine r_inStrs rfl ?_ | refine r_inStrsT rfl ?_ | refine r_ninStrsT rfl ?_) | ((with_reducible apply g_len); first | refine c_lenL rfl ?_ | refine c_lenT rfl ?_ | refine c_lenD rfl ?_)
  | ((with_reducible apply g_list); first | refine c_listv (.inl rfl) ?_ | refine c_listv (.inr rfl) ?_) | ((with_reducible apply g_tupU); first | refine c_tupleL rfl ?_ | refine c_tupleT ?_) | ((with_reducible apply g_pr); refine m_pr ?_) | refine ⟨_, _, _, rfl, by walk_at "cl", by walk_at "pr", ?_⟩ | refine ⟨_, rfl, ?_⟩ | fail))
local macro_rules | `(tactic| walk_at "fd") => `(tactic| first | exact (fr_fld (by assumption)).1 | exact (fr_fld (by assumption)).2.1 | exact (fr_fld (by assumption)).2.2.1 | exact (fr_fld (by assumption)).2.2.2 | exact leg_fld (by assumption) _ | fail)
local macro_rules | `(tactic| walk_at "cl") => `(tactic| first | exact fr_cls (by assumption) | exact leg_cls (by assumption) _ | fail)
local macro_rules | `(tactic| walk_at "pr") => `(tactic| first | exact Tx.pr_Flegs (by assumption) | exact Tx.pr_Fnames (by assumption) | exact Tx.pr_Fdrivers (by assumption) | exact Tx.pr_Flisteners (by assumption) | exact Tx.pr_Frails (by assumption) | exact Tx.pr_Fmembers (by assumption) | exact leg_prB (by assumption) _ | fail)
section
variable {K : PySem.W.Frag} {mg : Str → Option Value} {vs : List V} {H : Hp} {Q : VK} {E : XK}
/-- what may stand for the lines that are told -/
structure FdOk2 (zs : List Str) (fd : Sl) : Prop where
  ex : ∃ ys, fd = .val (strsD ys) ∧ wt ys ≤ 2 * wt zs + 40 ∧ okL ys
theorem pure_Lspoilt (T : Tx K mg) (h : sp_Lspoilt K vs H Q E) : t_Lspoilt K { nx := fun _ H2 => Q .non H2, rt := Q } (start ["_law_pen_here", "_law_lines", "_law_odd", "_law_rows_so", "_law_line", "_law_at", "_law_way", "_law_row", "_law_spot", "_law_found", "_law_more"] vs) H := by
  refine body_pp h fun o w F0 n ds Qd ⟨zs, e, hne, hwt, hok, hn, q⟩ => ?_
  subst e
  have hzl : zs.length ≤ 440 := Nat.le_trans (wt_len zs) hwt
  refine ms_seq (s_asg ?_)
  walk_at "me"
  refine ms_seq (s_asg (m_op ?_))
  walk_at "me"
  refine r_catL rfl rfl (Nat.le_of_ble_eq_true rfl) (q_v ?_)
  refine ms_seq (s_asg (m_op ?_))
  walk_at "me"
  refine r_catL rfl rfl (Nat.le_of_ble_eq_true rfl) (q_v ?_)
  refine ms_seq (s_asg (v_lcM [4] (fun _ => true) splF (by decide) (by decide) (mi_list (m_var rfl (q_v (q_lst ⟨by rw [List.length_map]; omega, one_free rfl, fun d hd oo ww => ?_, ?_⟩))))))
  · obtain ⟨l, hl, rfl⟩ := List.mem_map.mp hd
    have := wt_mem hl
    exact mg_name ⟨rfl, rfl, m_yes ⟨rfl, rfl, fun _ => m_f (mf_split (m_var rfl ⟨l, rfl, m_cS ⟨_, rfl, by decide +kernel, by omega, rfl, rfl⟩⟩))⟩⟩
  rw [splF_map]
  have hrl : ((zs.map fun l => Txt.split l " ").map strsD).length = zs.length := by rw [List.length_map, List.length_map]
  have hpos : 0 < zs.length := Nat.pos_of_ne_zero fun z => hne (List.eq_nil_of_length_eq_zero z)
  refine q_v (ms_seq (ms_par (m_cons (m_fnP (m_cons (m_cb (m_cons (m_var rfl (m_nil (c_lenL (ds := (zs.map fun l => Txt.split l " ").map strsD) rfl (m_nil (q_c (q_v (q_n ⟨n, rfl, _, rfl, by omega, ?_, ?_, fun a a0 a1 => ?_⟩)))))))))) rfl))))
  · rw [hrl]; omega
  · rw [hrl]; omega
  rw [hrl] at a1
  obtain ⟨a, rfl⟩ := Int.eq_ofNat_of_zero_le a0
  refine m_cons (m_fnP (m_cons (m_cI (m_nil (q_c (q_v (q_n ⟨n + 1, rfl, 10, rfl, by omega, by decide, by decide, fun v v0 v1 => ?_⟩)))))) rfl)
  obtain ⟨v, rfl⟩ := Int.eq_ofNat_of_zero_le v0
  refine m_nil (q_c (q_v (q_c (q_v (q_n ⟨_, _, rfl, ?_⟩)))))
  obtain ⟨l, hl⟩ : ∃ l, zs[a]? = some l := ⟨_, List.getElem?_eq_getElem (show a < zs.length by omega)⟩
  have hlm : l ∈ zs := List.mem_of_getElem? hl
  have hat := wt_at hl
  have hlw := wt_mem hlm
  have hr0 := split_wt (x := l) sepB
  have hr0n : Txt.split l " " ≠ [] := split_ne sepB
  have hr0o : okL (Txt.split l " ") := split_ok sepB (hok l hlm)
  refine ms_seq (s_asg (m_op (m_var rfl (m_var rfl (r_ixL (ds := (zs.map fun l => Txt.split l " ").map strsD) (e := strsD (Txt.split l " ")) rfl (atI_nat (by rw [List.getElem?_map, List.getElem?_map, hl]; rfl)) (q_v ?_))))))
  have hr0l := wt_len (Txt.split l " ")
  have hr0p : 0 < (Txt.split l " ").length := Nat.pos_of_ne_zero fun z => hr0n (List.eq_nil_of_length_eq_zero z)
  refine ms_seq (s_asg (m_fnP (m_cons (m_cb (m_cons (m_var rfl (m_nil (c_lenL (ds := (Txt.split l " ").map D.str) rfl (m_nil (q_c (q_v (q_n ⟨n + 2, rfl, _, rfl, by omega, ?_, ?_, fun s s0 s1 => q_v ?_⟩)))))))))) rfl))
  · rw [List.length_map]; omega
  · rw [List.length_map]; omega
  obtain ⟨s, rfl⟩ := Int.eq_ofNat_of_zero_le s0
  generalize hr : Txt.split l " " = r0 at *
  show Ms K (OT K o w) F0 _ (spR zs (.lst ((zs.map fun l => Txt.split l " ").map strsD)) a v s (n + 3) r0 .none .none) _
  generalize D.lst ((zs.map fun l => Txt.split l " ").map strsD) = rows
  have odd8 : ∀ z ∈ oddS, z.length ≤ 8 ∧ okT z := fun z hz => ⟨(odd_sh z hz).1, okT_of (odd_sh z hz).2⟩
  -- behind the row's own changes
  have tail : ∀ (k : Nat) (r : List Str), k ≤ n + 6 → wt r ≤ 2 * (l.length + 1) + 37 → okL r → Ms K (OT K o w) F0 (tSeq (tAsg (tOp (rAdd K) (tOp (rAdd K) (tSl (rSlU K) (tVar 1) tNoPart (tPart (tVar 5))) (tLst (tCons (tM1 (rJoin K) (tC (.str " ")) (tVar 7)) tNil))) (tSl (rSlU K) (tVar 1) (tPart (tOp (rAdd K) (tVar 5) (tC (.int 1)))) tNoPart)) (gName 9)) (tSeq (tIfS (tTest (tOp (rEqU K) (tVar 6) (tC (.int 6)))) (tAsg (tOp (rAdd K) (tOp (rAdd K) (tSl (rSlU K) (tVar 1) tNoPart (tPart (tVar 5))) (tSl (rSlU K) (tVar 1) (tPart (tVar 5)) (tPart (tOp (rAdd K) (tVar 5) (tC (.int 1)))))) (tSl (rSlU K) (tVar 1) (tPart (tVar 5)) tNoPart)) (gName 9)) tNext) (tSeq (tIfS (tTest (tOp (rEqU K) (tVar 6) (tC (.int 7)))) (tAsg (tOp (rAdd K) (tSl (rSlU K) (tVar 1) tNoPart (tPart (tVar 5))) (tSl (rSlU K) (tVar 1) (tPart (tOp (rAdd K) (tVar 5) (tC (.int 1)))) tNoPart)) (gName 9)) tNext) (tSeq (tIfS (tTest (tOp (rEqU K) (tVar 6) (tC (.int 8)))) (tSeq (tAsg (tSl (rSlU K) (tLst (tCons (tFn (sp_Lpick K) [] W0 (tCons (tVar 0) (tCons (tVar 2) tNil))) (tCons (tFn (sp_Lpick K) [] W0 (tCons (tVar 0) (tCons (tVar 2) tNil))) tNil))) tNoPart (tPart (tOp (rAdd K) (tC (.int 1)) (tFn (sp_Ldraw K) [] W0 (tCons (tVar 0) (tCons (tC (.int 2)) tNil)))))) (gName 10)) (tAsg (tOp (rAdd K) (tOp (rAdd K) (tSl (rSlU K) (tVar 1) tNoPart (tPart (tVar 5))) (tLst (tCons (tM1 (rJoin K) (tC (.str " ")) (tVar 10)) tNil))) (tSl (rSlU K) (tVar 1) (tPart (tVar 5)) tNoPart)) (gName 9))) tNext) (tRet (tIf (tTest (tOp rLtU (tVar 6) (tC (.int 9)))) (tVar 9) (tOp (rAdd K) (tVar 1) (tLst (tCons (tC (.str "")) tNil))))))))) (spR zs rows a v s k r .none .none) { nx := fun ρ => ∃ j, sl ρ 0 = Sl.pen j ∧ Qd D.non j, rt := fun d ρ => ∃ j, sl ρ 0 = Sl.pen j ∧ Qd d j } := fun k r hk hw hro => by
    have jl := join_len sepB r
    have jo : okT (Txt.join " " r) := join_ok sepB hro
    refine ms_seq (sp5 (by omega) (by omega) ?_)
    have f5 : FdOk2 zs (.val (strsD (zs.take a ++ [Txt.join " " r] ++ zs.drop (a + 1)))) := ⟨_, rfl, by rw [wt_app, wt_app, wt_cons, wt_nil]; omega, okL_app (okL_app (okL_take hok _) (okL_one jo)) (okL_drop hok _)⟩
    generalize Sl.val (strsD (zs.take a ++ [Txt.join " " r] ++ zs.drop (a + 1))) = fd at f5
    have last : ∀ (k : Nat) (fd mo : Sl), k ≤ n + 9 → FdOk2 zs fd → Ms K (OT K o w) F0 (tRet (tIf (tTest (tOp rLtU (tVar 6) (tC (.int 9)))) (tVar 9) (tOp (rAdd K) (tVar 1) (tLst (tCons (tC (.str "")) tNil))))) (spR zs rows a v s k r fd mo) { nx := fun ρ => ∃ j, sl ρ 0 = Sl.pen j ∧ Qd D.non j, rt := fun d ρ => ∃ j, sl ρ 0 = Sl.pen j ∧ Qd d j } := fun k fd mo hk ⟨ys, e, hy1, hy2⟩ => by
      subst e
      refine ms_ret (m_ife (m_test (m_op (m_var rfl (m_cI (r_ltI (q_bl ?_)))))))
      cases decide (((v : Nat) : Int) < 9) with
      | true => exact q_t (m_var rfl (q_v ⟨k, rfl, q ys k hy1 hy2 (by omega)⟩))
      | false =>
        refine q_f (m_op (m_var rfl (v_lst (m_cons (m_cS (m_nil (q_c (q_v (q_n ⟨Nat.le_of_ble_eq_true rfl, r_catL (ds := zs.map D.str) (es := [D.str ""]) rfl rfl ?_ (q_v ⟨k, rfl, ?_⟩)⟩)))))))))
        · rw [List.length_map]; show _ + 1 ≤ 10000; omega
        have e : zs.map D.str ++ [D.str ""] = (zs ++ [("" : Str)]).map D.str := by rw [List.map_append]; rfl
        rw [e]
        exact q _ k (by rw [wt_app, wt_cons, wt_nil, show ("" : Str).length = 0 from rfl]; omega) (okL_app hok (okL_one (okT_of (by decide)))) (by omega)
    have s8 : ∀ (fd : Sl), FdOk2 zs fd → Ms K (OT K o w) F0 (tSeq (tIfS (tTest (tOp (rEqU K) (tVar 6) (tC (.int 8)))) (tSeq (tAsg (tSl (rSlU K) (tLst (tCons (tFn (sp_Lpick K) [] W0 (tCons (tVar 0) (tCons (tVar 2) tNil))) (tCons (tFn (sp_Lpick K) [] W0 (tCons (tVar 0) (tCons (tVar 2) tNil))) tNil))) tNoPart (tPart (tOp (rAdd K) (tC (.int 1)) (tFn (sp_Ldraw K) [] W0 (tCons (tVar 0) (tCons (tC (.int 2)) tNil)))))) (gName 10)) (tAsg (tOp (rAdd K) (tOp (rAdd K) (tSl (rSlU K) (tVar 1) tNoPart (tPart (tVar 5))) (tLst (tCons (tM1 (rJoin K) (tC (.str " ")) (tVar 10)) tNil))) (tSl (rSlU K) (tVar 1) (tPart (tVar 5)) tNoPart)) (gName 9))) tNext) (tRet (tIf (tTest (tOp rLtU (tVar 6) (tC (.int 9)))) (tVar 9) (tOp (rAdd K) (tVar 1) (tLst (tCons (tC (.str "")) tNil)))))) (spR zs rows a v s k r fd .none) { nx := fun ρ => ∃ j, sl ρ 0 = Sl.pen j ∧ Qd D.non j, rt := fun d ρ => ∃ j, sl ρ 0 = Sl.pen j ∧ Qd d j } := fun fd hf => by
      refine ms_seq (sp8 (by omega) (by omega) (fun _ ms h1 h2 mo => last (k + 3) _ mo (by omega) ⟨_, rfl, ?_, okL_app (okL_app (okL_take hok _) (okL_one (join_ok sepB h2))) (okL_drop hok _)⟩) fun _ => last k fd .none (by omega) hf)
      have j2 := join_len sepB ms
      have t2 := wt_take a zs
      rw [wt_app, wt_app, wt_cons, wt_nil]
      omega
    have s7 : ∀ (fd : Sl), FdOk2 zs fd → Ms K (OT K o w) F0 _ (spR zs rows a v s k r fd .none) _ := fun fd hf => ms_seq (sp7 (by omega) (fun _ => s8 _ ⟨_, rfl, by have := wt_two zs a; rw [wt_app]; omega, okL_app (okL_take hok _) (okL_drop hok _)⟩) fun _ => s8 fd hf)
    exact ms_seq (sp6 (by omega) (fun _ => s7 _ ⟨_, rfl, by
      have t2 := wt_take a zs
      have t3 := wt_tk (zs.drop a) 1
      rw [wt_app, wt_app]
      omega, okL_app (okL_app (okL_take hok _) (okL_take (okL_drop hok _) _)) (okL_drop hok _)⟩) fun _ => s7 fd f5)
  -- the row's changes
  have r4 : ∀ (k : Nat) (r : List Str), k ≤ n + 5 → wt r ≤ (l.length + 1) + 18 → okL r → (v = 5 → r ≠ []) → Ms K (OT K o w) F0 _ (spR zs rows a v s k r .none .none) _ := fun k r hk hw hro hrn => by
    have hl := wt_len r
    exact ms_seq (sp4 (by omega) (by omega) hrn (fun _ z hz => tail (k + 1) _ (by omega) (by have := wt_mem hz; rw [wt_app, wt_cons, wt_nil]; omega) (okL_app hro (okL_one (hro z hz)))) fun _ => tail k r (by omega) (by omega) hro)
  have r3 : ∀ (k : Nat) (r : List Str), k ≤ n + 4 → wt r ≤ (l.length + 1) + 9 → okL r → (v = 5 → r ≠ []) → Ms K (OT K o w) F0 _ (spR zs rows a v s k r .none .none) _ := fun k r hk hw hro hrn => by
    have hl := wt_len r
    exact ms_seq (sp3 (by omega) (by omega) (fun hv z hz => r4 (k + 1) _ (by omega) (by
      have t2 := wt_take (s + 1) r
      have := (odd8 z hz).1
      rw [wt_app, wt_app, wt_cons, wt_nil]
      omega) (okL_app (okL_app (okL_take hro _) (okL_one (odd8 z hz).2)) (okL_drop hro _)) fun h5 => by omega) fun _ => r4 k r (by omega) (by omega) hro hrn)
  have r2 : ∀ (k : Nat) (r : List Str), k ≤ n + 4 → wt r ≤ (l.length + 1) + 9 → okL r → (v = 5 → r ≠ []) → Ms K (OT K o w) F0 _ (spR zs rows a v s k r .none .none) _ := fun k r hk hw hro hrn => by
    have hl := wt_len r
    exact ms_seq (sp2 (by omega) (fun hv => r3 k _ (by omega) (by
      have t2 := wt_two r s
      rw [wt_app]
      omega) (okL_app (okL_take hro _) (okL_drop hro _)) fun h5 => by omega) fun _ => r3 k r (by omega) (by omega) hro hrn)
  refine ms_seq (sp1 (by omega) (by omega) hr0o (fun hv z hz => r2 (n + 4) _ (by omega) (by
      have t2 := wt_two r0 s
      have := (odd8 z hz).1
      rw [wt_app, wt_app, wt_cons, wt_nil]
      omega) (okL_app (okL_app (okL_take hr0o _) (okL_one (odd8 z hz).2)) (okL_drop hr0o _)) fun h5 => by omega) fun _ => r2 (n + 3) r0 (by omega) (by omega) hr0o fun _ => hr0n)
end
end K86
namespace K86
open PySem PySem.Spec PyProof.Rows L2 He SJ
open LamX (CodeO lamS_by Tabs tLam)
local macro_rules | `(tactic| walk_at "mr") => `(tactic| repeat' (first
  | with_reducible apply ms_seq | with_reducible apply ms_if | with_reducible apply ms_ret | with_reducible apply ms_next | with_reducible apply s_asg
  | ((with_reducible apply g_var); first | refine m_var rfl ?_ | refine m_varS rfl ?_)
  | with_reducible apply m_cI | with_reducible apply m_cS | with_reducible apply m_cB | with_reducible apply m_cN | with_reducible apply m_cC | with_reducible apply m_cT
  | with_reducible apply m_op | with_reducible apply m_cb | with_reducible apply m_nil | with_reducible apply m_cons | with_reducible apply m_test | with_reducible apply m_B | with_reducible apply q_bl
  | with_reducible apply m_and | with_reducible apply m_or | with_reducible apply m_not | with_reducible apply m_andV | with_reducible apply m_orV | with_reducible apply m_notV | with_reducible apply m_ife | with_reducible apply m_chain
  | with_reducible apply q_v | ((with_reducible apply g_slot); refine q_own rfl ?_) | with_reducible apply q_n | with_reducible apply q_c | with_reducible apply q_t | with_reducible apply q_f | with_reducible apply m_yes
  | with_reducible apply r_addI | with_reducible apply r_subI | with_reducible apply r_eqI | with_reducible apply r_neI | with_reducible apply r_eqS | with_reducible apply r_neS | with_reducible apply r_ltI | with_reducible apply r_leI | with_reducible apply r_gtI | with_reducible apply r_geI
  | with_reducible apply r_isN | with_reducible apply r_isnN | with_reducible apply c_intI | with_reducible apply c_intB | with_reducible apply v_lst | with_reducible apply m_tup | ((with_reducible apply g_le); refine ⟨Nat.le_of_ble_eq_true rfl, ?_⟩) | with_reducible apply v_sl | with_reducible apply v_dnew
  | ((with_reducible apply g_dget); refine m_dget ?_) | refine get_str rfl rfl ?_
  | with_reducible apply m_fld | with_reducible apply m_con | refine ⟨_, _, _, rfl, by walk_at "fd", rfl, ?_⟩
  | ((with_reducible apply g_fn); first | refine m_fn wr0 ?_ | refine m_fn (by assumption) ?_ | refine m_fnP ?_ rfl)
  | ((with_reducible apply g_nw); refine m_nw wr0 ?_) | ((with_reducible apply g_ownGet); refine m_ownGet wr0 ?_) | ((with_reducible apply g_ownIn); refine r_ownIn ?_)
  | ((with_reducible apply g_inS); first | refine r_inStrs rfl ?_ | refine r_inStrsT rfl ?_ | refine r_ninStrsT rfl ?_) | ((with_reducible apply g_len); first | refine c_lenL rfl ?_ | refine c_lenT rfl ?_ | refine c_lenD rfl ?_)
  | ((with_reducible apply g_list); first | refine c_listv (.inl rfl) ?_ | refine c_listv (.inr rfl) ?_) | ((with_reducible apply g_tupU); first | refine c_tupleL rfl ?_ | refine c_tupleT ?_) | ((with_reducible apply g_pr); refine m_pr ?_) | refine ⟨_, _, _, rfl, by walk_at "cl", by walk_at "pr", ?_⟩ | refine ⟨_, rfl, ?_⟩ | fail))
local macro_rules | `(tactic| walk_at "me") => `(tactic| repeat' (first
  | ((with_reducible apply g_var); first | refine m_var rfl ?_ | refine m_varS rfl ?_)
  | with_reducible apply m_cI | with_reducible apply m_cS | with_reducible apply m_cB | with_reducible apply m_cN | with_reducible apply m_cC | with_reducible apply m_cT
  | with_reducible apply m_op | with_reducible apply m_cb | with_reducible apply m_nil | with_reducible apply m_cons | with_reducible apply m_test | with_reducible apply m_B | with_reducible apply q_bl
  | with_reducible apply m_and | with_reducible apply m_or | with_reducible apply m_not | with_reducible apply m_andV | with_reducible apply m_orV | with_reducible apply m_notV | with_reducible apply m_ife | with_reducible apply m_chain
  | with_reducible apply q_v | ((with_reducible apply g_slot); refine q_own rfl ?_) | with_reducible apply q_n | with_reducible apply q_c | with_reducible apply q_t | with_reducible apply q_f | with_reducible apply m_yes
  | with_reducible apply r_addI | with_reducible apply r_subI | with_reducible apply r_eqI | with_reducible apply r_neI | with_reducible apply r_eqS | with_reducible apply r_neS | with_reducible apply r_ltI | with_reducible apply r_leI | with_reducible apply r_gtI | with_reducible apply r_geI
  | with_reducible apply r_isN | with_reducible apply r_isnN | with_reducible apply c_intI | with_reducible apply c_intB | with_reducible apply v_lst | with_reducible apply m_tup | ((with_reducible apply g_le); refine ⟨Nat.le_of_ble_eq_true rfl, ?_⟩) | with_reducible apply v_sl | with_reducible apply v_dnew
  | ((with_reducible apply g_dget); refine m_dget ?_) | refine get_str rfl rfl ?_
  | with_reducible apply m_fld | with_reducible apply m_con | refine ⟨_, _, _, rfl, by walk_at "fd", rfl, ?_⟩
  | ((with_reducible apply g_fn); first | refine m_fn wr0 ?_ | refine m_fn (by assumption) ?_ | refine m_fnP ?_ rfl)
  | ((with_reducible apply g_nw); refine m_nw wr0 ?_) | ((with_reducible apply g_ownGet); refine m_ownGet wr0 ?_) | ((with_reducible apply g_ownIn); refine r_ownIn ?_)
  | ((with_reducible apply g_inS); first | refine r_inStrs rfl ?_ | refine r_inStrsT rfl ?_ | refine r_ninStrsT rfl ?_) | ((with_reducible apply g_len); first | refine c_lenL rfl ?_ | refine c_lenT rfl ?_ | refine c_lenD rfl ?_)
  | ((with_reducible apply g_list); first | refine c_listv (.inl rfl) ?_ | refine c_listv (.inr rfl) ?_) | ((with_reducible apply g_tupU); first | refine c_tupleL rfl ?_ | refine c_tupleT ?_) | ((with_reducible apply g_pr); refine m_pr ?_) | refine ⟨_, _, _, rfl, by walk_at "cl", by walk_at "pr", ?_⟩ | refine ⟨_, rfl, ?_⟩ | fail))
local macro_rules | `(tactic| walk_at "fd") => `(tactic| first | exact (fr_fld (by assumption)).1 | exact (fr_fld (by assumption)).2.1 | exact (fr_fld (by assumption)).2.2.1 | exact (fr_fld (by assumption)).2.2.2 | exact leg_fld (by assumption) _ | fail)
local macro_rules | `(tactic| walk_at "cl") => `(tactic| first | exact fr_cls (by assumption) | exact leg_cls (by assumption) _ | fail)
local macro_rules | `(tactic| walk_at "pr") => `(tactic| first | exact Tx.pr_Flegs (by assumption) | exact Tx.pr_Fnames (by assumption) | exact Tx.pr_Fdrivers (by assumption) | exact Tx.pr_Flisteners (by assumption) | exact Tx.pr_Frails (by assumption) | exact Tx.pr_Fmembers (by assumption) | exact leg_prB (by assumption) _ | fail)
section
variable {K : PySem.W.Frag} {mg : Str → Option Value} {vs : List V} {H : Hp} {Q : VK} {E : XK}
theorem pure_Lheard (T : Tx K mg) {f c : Addr} {q : Str} {tl : XK → Hp → VK → Prop} (h : TT_Lheard K tl H Q) (hc : H c = some (CodeO c q)) : t_Lheard K f c q tl { nx := fun _ H2 => Q .non H2, rt := Q } (start ["_law_ask", "error"] [.ref f]) H :=
  gives_tryV (CR := CR_heard) (C := "InvalidText") (f1 := "line") (f2 := "word") h hc T.exm T.xc_InvalidText T.kx T.kv (fun cn fs Qd hcr => by
    obtain ⟨e, a, b, e2, q⟩ := hcr
    subst e e2
    exact ⟨rfl, _, _, rfl, rfl, q⟩) fun d Qd z => z
theorem readF_ok {rs : List (List Str)} (ok : RowsOk rs) {t : Int} {g p : Bool} {ls : List Lg} (e : readF rs = .inl (t, g, p, ls)) : AccOk ls ∧ 1 ≤ t ∧ t ≤ 3 := by
  cases rs with
  | nil => cases e
  | cons h rs => exact readH_ok (fun r hr => ok.len r (List.mem_cons_of_mem _ hr)) e
theorem legsF_err : ∀ {rs : List (List Str)} {k a b : Nat} {acc : List Lg}, legsF k acc rs = .inr (a, b) → a < k + rs.length ∧ b ≤ 2
  | [], k, a, b, acc, h => by unfold legsF at h; cases h
  | r :: rs, k, a, b, acc, h => by
    unfold legsF at h
    rw [List.length_cons]
    split at h
    · split at h
      · split at h
        · have := legsF_err h; omega
        · cases h; omega
      · cases h; omega
    · cases h; omega
theorem nR_two (h : List Str) : nR h ≤ 2 := rl_le _ _
theorem readF_err {rs : List (List Str)} (ok : RowsOk rs) {a b : Nat} (e : readF rs = .inr (a, b)) : a ≤ 1001 ∧ b ≤ 4 := by
  have hle := ok.le
  cases rs with
  | nil => cases e; omega
  | cons h rs =>
    rw [List.length_cons] at hle
    have e : readH h rs = .inr (a, b) := e
    have n2 := nR_two h
    unfold readH at e
    split at e
    · cases ht : topOf ((h.drop 1).take 1) with
      | none => rw [ht] at e; cases e; omega
      | some t =>
        rw [ht] at e
        have e : (if h.length = 2 + nR h then readL t h rs else .inr (0, 2 + nR h)) = Sum.inr (a, b) := e
        split at e
        · unfold readL at e
          cases hl : legsF 1 [] rs with
          | inl ls => rw [hl] at e; cases e
          | inr x =>
            obtain ⟨a2, b2⟩ := x
            rw [hl] at e
            cases e
            have := legsF_err hl
            omega
        · cases e; omega
    · cases e; omega
theorem sh_int {i : Int} (h : i.natAbs.log2 < 1920) : Sh 2 2000 (.int i) := ⟨decide_eq_true h, by simp only [PyData.depth]; exact Nat.zero_le _, Nat.le_trans (by simp only [PyData.shown]; exact PyProof.Rows.int_text_len_1921 h) (by decide)⟩
theorem log_small {n : Nat} (h : n ≤ 5000) : ((n : Nat) : Int).natAbs.log2 < 1920 := by
  rw [Int.natAbs_natCast]
  by_cases z : n = 0
  · subst z; decide
  · exact (Nat.log2_lt z).mpr (Nat.lt_of_le_of_lt h (Nat.lt_of_lt_of_le (show 5000 < 2 ^ 13 by decide) (Nat.pow_le_pow_right (by decide) (by decide))))
def pdTwo (a b : Nat) : PyData := .tuple [.int (a : Nat), .int (b : Nat)]
def errD (a b : Nat) : D := .tup [.int (a : Nat), .int (b : Nat)]
theorem rep_two {a b : Nat} (ha : a ≤ 5000) (hb : b ≤ 5000) : ReprQ (errD a b) (pdTwo a b) :=
  ⟨by unfold errD pdTwo; simp only [pyQ, pyQL, Option.map_some], 3, _, sh_tup (n := 2) (w := 2000) (shs_cons (sh_int (log_small ha)) (shs_cons (sh_int (log_small hb)) shs_nil)), by decide, Nat.le_of_ble_eq_true rfl⟩
theorem py_two (a b : Nat) : pyOf (errD a b) = some (pdTwo a b) := by unfold errD pdTwo; rfl
theorem shp_two (a b : Nat) : SeqAt.shaped (pdTwo a b) = true := by unfold pdTwo; rfl
theorem eqv_two (a b : Nat) : PyData.eqv (pdTwo a b) (pdTwo a b) = true := by
  unfold pdTwo
  simp [PyData.eqv, PyData.eqvAll]
/-- what is heard of a reading -/
def toldD : Sum (Int × Bool × Bool × List Lg) (Nat × Nat) → D
  | .inl (t, g, p, ls) => .lst [frameD t g p (sortL ls)]
  | .inr (a, b) => errD a b
theorem m_hear {o : Hp} {w : Option V} {F0 : Hp} {ρ : Ro} {QX : X → Ro → Prop} {te : TE} {z : Str} (hz : z.length ≤ 1000) (ho : okT z) (ht : ∀ (F1 : Hp) (QA : X → Ro → Prop), QA (.val (.str z)) ρ → Me K ⟨o, w, TB K⟩ F1 te ρ QA) (k : QX (.val (toldD (readF (rowsOf z)))) ρ) :
    Me K ⟨o, w, TB K⟩ F0 (tLam (TB K) (TT_Lheard K) (tS fun W => tFn (sp_read_frame K) [] W (tCons te tNil))) ρ QX := by
  refine m_lamV (CR := CR_heard) fun W σ F1 s1 hW => ma_fn hW (m_cons (ht F1 _ (m_nil (q_c (q_v (q_n ⟨_, rfl, .inl ⟨z, rfl, hz, ho, fun t g p ls e => ?_, fun a b e => ?_⟩⟩))))))
  · rw [e] at k
    exact ⟨_, rfl, k⟩
  · rw [e] at k
    exact ⟨rfl, a, b, rfl, k⟩
theorem m_hearK {o : Hp} {w : Option V} {F0 : Hp} {ρ : Ro} {QX : X → Ro → Prop} {te : TE} {z : Str} (hz : z.length ≤ 1000) (ho : okT z) (ht : ∀ (F1 : Hp) (QA : X → Ro → Prop), QA (.val (.str z)) ρ → Me K ⟨o, w, TB K⟩ F1 te ρ QA) (k : QX (.val (toldD (readF (rowsOf z)))) ρ) :
    Me K ⟨o, w, TB K⟩ F0 (tLam (TB K) (TT_Lheard K) (tS fun W => tFnK 0 1 (sp_read_frame K) gkb_read_frame_0_text W tNil (tCons te tNil))) ρ QX := by
  refine m_lamV (CR := CR_heard) fun W σ F1 s1 hW => ma_fnK (fun z => rfl) hW (m_cons (ht F1 _ (m_nil (q_c (q_v (q_n ⟨rfl, _, rfl, .inl ⟨z, rfl, hz, ho, fun t g p ls e => ?_, fun a b e => ?_⟩⟩))))))
  · rw [e] at k
    exact ⟨_, rfl, k⟩
  · rw [e] at k
    exact ⟨rfl, a, b, rfl, k⟩
theorem m_hearO {o : Hp} {w : Option V} {F0 : Hp} {ρ : Ro} {QX : X → Ro → Prop} {te : TE} {d : D} (hd : oddT d = true) (ht : ∀ (F1 : Hp) (QA : X → Ro → Prop), QA (.val d) ρ → Me K ⟨o, w, TB K⟩ F1 te ρ QA) (k : QX (.val (errD 0 0)) ρ) :
    Me K ⟨o, w, TB K⟩ F0 (tLam (TB K) (TT_Lheard K) (tS fun W => tFn (sp_read_frame K) [] W (tCons te tNil))) ρ QX :=
  m_lamV (CR := CR_heard) fun W σ F1 s1 hW => ma_fn hW (m_cons (ht F1 _ (m_nil (q_c (q_v (q_n ⟨_, rfl, .inr ⟨hd, rfl, 0, 0, rfl, k⟩⟩))))))
theorem leg_mk {ls : List Lg} (h : AccOk ls) : LegsOk (mkL (sortS (drvs ls)) (sortS (lsts ls))) ∧ ∀ z ∈ sortS (drvs ls) ++ sortS (lsts ls), nameB z = true := by
  have p := mkL_perm ls
  refine ⟨⟨by rw [p.length_eq]; exact h.le, (p.map _).nodup_iff.mpr h.nd, fun l hl => (h.nm l (p.mem_iff.mp hl)).2⟩, fun z hz => ?_⟩
  obtain ⟨l, hl, rfl⟩ := List.mem_map.mp ((two_mem ls z).mp hz)
  exact (h.nm l hl).1
theorem pure_Lright (T : Tx K mg) (h : sp_Lright K vs H Q E) : t_Lright K { nx := fun _ H2 => Q .non H2, rt := Q } (start ["_law_text_so", "_law_due", "_law_line", "_law_told"] vs) H := by
  refine body_pu h fun o w F0 ds Qd Ed ⟨z, e, hz, ho, q⟩ hW => ?_
  subst e
  have hok := rowsOf_ok hz ho
  have wz := split_wt (x := z) sepN
  have l1 := wt_len (Txt.split z "\n")
  refine ms_seq (s_asg (m_fn wr0 (m_cons (v_lcM [2] (fun _ => true) splF (by decide) (by decide) (mi_list (m_f (mf_split (m_var rfl ⟨z, rfl, m_cS ⟨_, rfl, by decide +kernel, by omega, q_v (q_lst ⟨by rw [List.length_map]; omega, one_free rfl, fun d hd oo ww => ?_, ?_⟩)⟩⟩))))))))
  · obtain ⟨l, hl, rfl⟩ := List.mem_map.mp hd
    have := wt_mem hl
    exact mg_name ⟨rfl, rfl, m_yes ⟨rfl, rfl, fun _ => m_f (mf_split (m_var rfl ⟨l, rfl, m_cS ⟨_, rfl, by decide +kernel, by omega, rfl, rfl⟩⟩))⟩⟩
  rw [splF_map]
  cases hR : readF (rowsOf z) with
  | inr x =>
    obtain ⟨a, b⟩ := x
    obtain ⟨ha, hb⟩ := readF_err hok hR
    refine m_nil (q_c (q_v (q_n ⟨rowsOf z, rfl, hok, fun t g p ls e => (by rw [hR] at e; cases e), fun a2 b2 e => ?_⟩)))
    rw [hR] at e
    cases e
    have e1 : toldD (readF (rowsOf z)) = errD a b := by rw [hR]; rfl
    refine q_v (ms_seq (s_asg (m_hear hz ho (fun F1 QA k => m_var rfl k) ?_)))
    rw [e1]
    refine q_v (ms_seq (ms_if (m_B (m_cb (m_cons (m_var rfl (m_cons (m_cT (m_nil (c_isiY (d := errD a b) rfl trivial T.kt_tuple (q_bl (q_t ?_))))))))))))
    refine ms_ret (m_andV (m_op (m_cb (m_cons (m_var rfl (m_nil (c_reprQD (d := errD a b) rfl (rep_two (by omega) (by omega)) (m_cb (m_cons (m_var rfl (m_nil (c_reprQD (d := errD a b) rfl (rep_two (by omega) (by omega)) (r_eqS (q_bl ?_))))))))))))) )
    rw [decide_eq_true rfl]
    refine q_t (m_op (m_hearK hz ho (fun F1 QA k => m_var rfl k) ?_))
    rw [e1]
    refine m_var rfl (r_eqD (d := errD a b) (e := errD a b) rfl rfl (py_two a b) (py_two a b) (shp_two a b) (shp_two a b) (q_v ?_))
    rw [eqv_two]
    exact q
  | inl x =>
    obtain ⟨t, g, p, ls⟩ := x
    obtain ⟨hA, t1, t3⟩ := readF_ok hok hR
    obtain ⟨hL, hN⟩ := leg_mk hA
    refine m_nil (q_c (q_v (q_n ⟨rowsOf z, rfl, hok, fun t2 g2 p2 ls2 e => ?_, fun a2 b2 e => (by rw [hR] at e; cases e)⟩)))
    rw [hR] at e
    cases e
    have e1 : toldD (readF (rowsOf z)) = .lst [frameD t g p (sortL ls)] := by rw [hR]; rfl
    refine q_v (ms_seq (s_asg (m_hear hz ho (fun F1 QA k => m_var rfl k) ?_)))
    rw [e1]
    refine q_v (ms_seq (ms_if (m_B (m_cb (m_cons (m_var rfl (m_cons (m_cT (m_nil (c_isiY (d := bareD t (sortS (drvs ls)) (sortS (lsts ls)) (railsL g p)) rfl trivial T.kt_dict (q_bl (q_f (ms_next ?_)))))))))))))
    refine ms_ret (m_op (m_var rfl (v_lst (m_cons (m_fn wr0 (m_cons (m_var rfl (m_nil (q_c (q_v (q_n ⟨t, _, _, g, p, rfl, hL, hN, t1, t3, m_nil (q_c (q_v (q_n ⟨Nat.le_of_ble_eq_true rfl, ?_⟩)))⟩)))))))))))
    rw [sortL_eq (mkL_perm ls) hA.nd]
    refine r_seqX (nm := true) (fun _ _ => true) (ds := [frameD t g p (sortL ls)]) (es := [frameD t g p (sortL ls)]) (.inr ⟨rfl, rfl⟩) (fun d hd e he => ?_) (q_v ?_)
    · rw [List.mem_singleton.mp hd, List.mem_singleton.mp he]
      refine ⟨"Frame", _, "Frame", _, rfl, rfl, T.o_Feq, T.in_Frame, T.nf_Frame, .inl ⟨t, g, p, sortL ls, t, g, p, sortL ls, rfl, ?_⟩, fun _ _ _ _ => rfl⟩
      rw [legsE_self, decide_eq_true rfl, decide_eq_true rfl]
      rfl
    · exact q
end
end K86
namespace K86
open PySem PySem.Spec PyProof.Rows L2 He SJ
open LamX (CodeO lamS_by Tabs tLam)
local macro_rules | `(tactic| walk_at "mr") => `(tactic| repeat' (first
  | with_reducible apply ms_seq | with_reducible apply ms_if | with_reducible apply ms_ret | with_reducible apply ms_next | with_reducible apply s_asg
  | ((with_reducible apply g_var); first | refine m_var rfl ?_ | refine m_varS rfl ?_)
  | with_reducible apply m_cI | with_reducible apply m_cS | with_reducible apply m_cB | with_reducible apply m_cN | with_reducible apply m_cC | with_reducible apply m_cT
  | with_reducible apply m_op | with_reducible apply m_cb | with_reducible apply m_nil | with_reducible apply m_cons | with_reducible apply m_test | with_reducible apply m_B | with_reducible apply q_bl
  | with_reducible apply m_and | with_reducible apply m_or | with_reducible apply m_not | with_reducible apply m_andV | with_reducible apply m_orV | with_reducible apply m_notV | with_reducible apply m_ife | with_reducible apply m_chain
  | with_reducible apply q_v | ((with_reducible apply g_slot); refine q_own rfl ?_) | with_reducible apply q_n | with_reducible apply q_c | with_reducible apply q_t | with_reducible apply q_f | with_reducible apply m_yes
  | with_reducible apply r_addI | with_reducible apply r_subI | with_reducible apply r_eqI | with_reducible apply r_neI | with_reducible apply r_eqS | with_reducible apply r_neS | with_reducible apply r_ltI | with_reducible apply r_leI | with_reducible apply r_gtI | with_reducible apply r_geI
  | with_reducible apply r_isN | with_reducible apply r_isnN | with_reducible apply c_intI | with_reducible apply c_intB | with_reducible apply v_lst | with_reducible apply m_tup | ((with_reducible apply g_le); refine ⟨Nat.le_of_ble_eq_true rfl, ?_⟩) | with_reducible apply v_sl | with_reducible apply v_dnew
  | ((with_reducible apply g_dget); refine m_dget ?_) | refine get_str rfl rfl ?_
  | with_reducible apply m_fld | with_reducible apply m_con | refine ⟨_, _, _, rfl, by walk_at "fd", rfl, ?_⟩
  | ((with_reducible apply g_fn); first | refine m_fn wr0 ?_ | refine m_fn (by assumption) ?_ | refine m_fnP ?_ rfl)
  | ((with_reducible apply g_nw); refine m_nw wr0 ?_) | ((with_reducible apply g_ownGet); refine m_ownGet wr0 ?_) | ((with_reducible apply g_ownIn); refine r_ownIn ?_)
  | ((with_reducible apply g_inS); first | refine r_inStrs rfl ?_ | refine r_inStrsT rfl ?_ | refine r_ninStrsT rfl ?_) | ((with_reducible apply g_len); first | refine c_lenL rfl ?_ | refine c_lenT rfl ?_ | refine c_lenD rfl ?_)
  | ((with_reducible apply g_list); first | refine c_listv (.inl rfl) ?_ | refine c_listv (.inr rfl) ?_) | ((with_reducible apply g_tupU); first | refine c_tupleL rfl ?_ | refine c_tupleT ?_) | ((with_reducible apply g_pr); refine m_pr ?_) | refine ⟨_, _, _, rfl, by walk_at "cl", by walk_at "pr", ?_⟩ | refine ⟨_, rfl, ?_⟩ | fail))
local macro_rules | `(tactic| walk_at "me") => `(tactic| repeat' (first
  | ((with_reducible apply g_var); first | refine m_var rfl ?_ | refine m_varS rfl ?_)
  | with_reducible apply m_cI | with_reducible apply m_cS | with_reducible apply m_cB | with_reducible apply m_cN | with_reducible apply m_cC | with_reducible apply m_cT
  | with_reducible apply m_op | with_reducible apply m_cb | with_reducible apply m_nil | with_reducible apply m_cons | with_reducible apply m_test | with_reducible apply m_B | with_reducible apply q_bl
  | with_reducible apply m_and | with_reducible apply m_or | with_reducible apply m_not | with_reducible apply m_andV | with_reducible apply m_orV | with_reducible apply m_notV | with_reducible apply m_ife | with_reducible apply m_chain
  | with_reducible apply q_v | ((with_reducible apply g_slot); refine q_own rfl ?_) | with_reducible apply q_n | with_reducible apply q_c | with_reducible apply q_t | with_reducible apply q_f | with_reducible apply m_yes
  | with_reducible apply r_addI | with_reducible apply r_subI | with_reducible apply r_eqI | with_reducible apply r_neI | with_reducible apply r_eqS | with_reducible apply r_neS | with_reducible apply r_ltI | with_reducible apply r_leI | with_reducible apply r_gtI | with_reducible apply r_geI
  | with_reducible apply r_isN | with_reducible apply r_isnN | with_reducible apply c_intI | with_reducible apply c_intB | with_reducible apply v_lst | with_reducible apply m_tup | ((with_reducible apply g_le); refine ⟨Nat.le_of_ble_eq_true rfl, ?_⟩) | with_reducible apply v_sl | with_reducible apply v_dnew
  | ((with_reducible apply g_dget); refine m_dget ?_) | refine get_str rfl rfl ?_
  | with_reducible apply m_fld | with_reducible apply m_con | refine ⟨_, _, _, rfl, by walk_at "fd", rfl, ?_⟩
  | ((with_reducible apply g_fn); first | refine m_fn wr0 ?_ | refine m_fn (by assumption) ?_ | refine m_fnP ?_ rfl)
  | ((with_reducible apply g_nw); refine m_nw wr0 ?_) | ((with_reducible apply g_ownGet); refine m_ownGet wr0 ?_) | ((with_reducible apply g_ownIn); refine r_ownIn ?_)
  | ((with_reducible apply g_inS); first | refine r_inStrs rfl ?_ | refine r_inStrsT rfl ?_ | refine r_ninStrsT rfl ?_) | ((with_reducible apply g_len); first | refine c_lenL rfl ?_ | refine c_lenT rfl ?_ | refine c_lenD rfl ?_)
  | ((with_reducible apply g_list); first | refine c_listv (.inl rfl) ?_ | refine c_listv (.inr rfl) ?_) | ((with_reducible apply g_tupU); first | refine c_tupleL rfl ?_ | refine c_tupleT ?_) | ((with_reducible apply g_pr); refine m_pr ?_) | refine ⟨_, _, _, rfl, by walk_at "cl", by walk_at "pr", ?_⟩ | refine ⟨_, rfl, ?_⟩ | fail))
local macro_rules | `(tactic| walk_at "fd") => `(tactic| first | exact (fr_fld (by assumption)).1 | exact (fr_fld (by assumption)).2.1 | exact (fr_fld (by assumption)).2.2.1 | exact (fr_fld (by assumption)).2.2.2 | exact leg_fld (by assumption) _ | fail)
local macro_rules | `(tactic| walk_at "cl") => `(tactic| first | exact fr_cls (by assumption) | exact leg_cls (by assumption) _ | fail)
local macro_rules | `(tactic| walk_at "pr") => `(tactic| first | exact Tx.pr_Flegs (by assumption) | exact Tx.pr_Fnames (by assumption) | exact Tx.pr_Fdrivers (by assumption) | exact Tx.pr_Flisteners (by assumption) | exact Tx.pr_Frails (by assumption) | exact Tx.pr_Fmembers (by assumption) | exact leg_prB (by assumption) _ | fail)
section
variable {K : PySem.W.Frag} {mg : Str → Option Value} {vs : List V} {H : Hp} {Q : VK} {E : XK}
def cA : Str := "abcdefg"
def cB : Str := "hijklm"
def tagZ (i : Int) : Str := (⟨#[(atI cA.cps.toList (i / 6)).getD 0]⟩ : Str) ++ (⟨#[(atI cB.cps.toList (i % 6)).getD 0]⟩ : Str)
def tagD : D → D
  | .int i => .str (tagZ i)
  | d => d
def manyT : List Str := (List.range 40).map fun (k : Nat) => tagZ (0 + (k : Int))
theorem many_map : ((rngD 0 40).filter fun _ => true).map tagD = manyT.map D.str := by
  rw [all_tt]
  unfold rngD manyT
  rw [List.map_map, List.map_map]
  rfl
def drvD : D → D
  | .str z => .str ("driver " ++ z)
  | d => d
def manyL : List Str := ("frame 1" : Str) :: manyT.map fun z => ("driver " : Str) ++ z
theorem drv_map : ((manyT.map D.str).filter fun _ => true).map drvD = (manyT.map fun z => ("driver " : Str) ++ z).map D.str := by
  rw [all_tt, List.map_map, List.map_map]
  rfl
theorem many_len : manyT.length = 40 := by unfold manyT; rw [List.length_map, List.length_range]
theorem many_tx : ∀ z ∈ manyT, z.length = 2 ∧ okT z := by
  have : ∀ z ∈ manyT, z.length = 2 ∧ (z.cps.toList.all fun c => decide (c < 0x110000)) = true := by decide +kernel
  exact fun z hz => ⟨(this z hz).1, okT_of (this z hz).2⟩
theorem manyL_ok : wt manyL ≤ 410 ∧ okL manyL := by
  have h9 : ∀ z ∈ manyT.map fun z => ("driver " ++ z : Str), z.length ≤ 9 ∧ okT z := fun z hz => by
    obtain ⟨y, hy, rfl⟩ := List.mem_map.mp hz
    have := many_tx y hy
    refine ⟨?_, okT_app (okT_of (by decide)) this.2⟩
    rw [len_app, this.1]
    decide
  have hw := wt_le fun z hz => (h9 z hz).1
  rw [List.length_map, many_len] at hw
  constructor
  · unfold manyL
    rw [wt_cons]
    have : ("frame 1" : Str).length = 7 := rfl
    omega
  · intro z hz
    rcases List.mem_cons.mp hz with rfl | hz
    · exact okT_of (by decide)
    · exact (h9 z hz).2
/-- the rows of forty-one legs -/
def manyR : List (List Str) := (["frame", "1"] : List Str) :: ((manyT ++ [("a" : Str)]).map fun z => [("driver" : Str), z])
theorem many_line (z : Str) (h : 32 ∉ z.cps.toList) : Txt.split ("driver " ++ z) " " = [("driver" : Str), z] := by
  have e : Txt.join " " [("driver" : Str), z] = "driver " ++ z := by
    rw [TL.join_eq]
    show (("driver" : Str) ++ " " ++ z : Str) = _
    rw [show (("driver" : Str) ++ " " : Str) = "driver " by decide +kernel]
  rw [← e]
  refine TL.split_join (S := []) sepB.tl sepB.kd (List.cons_ne_nil _ _) fun p hp => ?_
  rcases List.mem_cons.mp hp with rfl | hp
  · decide +kernel
  · rw [List.mem_singleton.mp hp]; exact h
theorem many_no : ∀ z ∈ manyT ++ [("a" : Str)], 32 ∉ z.cps.toList ∧ 10 ∉ z.cps.toList := by decide +kernel
theorem many_rows : rowsOf (Txt.join "\n" (manyL ++ [("driver a" : Str)])) = manyR := by
  have e1 : manyL ++ [("driver a" : Str)] = ("frame 1" : Str) :: ((manyT ++ [("a" : Str)]).map fun z => ("driver " : Str) ++ z) := by
    unfold manyL
    rw [List.map_append]
    show _ :: (_ ++ _) = _ :: (_ ++ [("driver " ++ "a" : Str)])
    rw [show (("driver " : Str) ++ "a" : Str) = "driver a" by decide +kernel]
  have e2 : Txt.split (Txt.join "\n" (manyL ++ [("driver a" : Str)])) "\n" = manyL ++ [("driver a" : Str)] := by
    refine TL.split_join (S := []) sepN.tl sepN.kd (by rw [e1]; exact List.cons_ne_nil _ _) fun p hp => ?_
    rw [e1] at hp
    rcases List.mem_cons.mp hp with rfl | hp
    · decide +kernel
    · obtain ⟨z, hz, rfl⟩ := List.mem_map.mp hp
      rw [TL.tl_append]
      intro m
      rcases List.mem_append.mp m with m | m
      · revert m; decide +kernel
      · exact (many_no z hz).2 m
  unfold rowsOf manyR
  rw [e2, e1, List.map_cons, List.map_map]
  congr 1
  · have : Txt.join " " [("frame" : Str), "1"] = "frame 1" := by rw [TL.join_eq]; decide +kernel
    rw [← this]
    exact TL.split_join (S := []) sepB.tl sepB.kd (List.cons_ne_nil _ _) (by decide +kernel)
  · exact List.map_congr_left fun z hz => many_line z (many_no z hz).1
theorem many_read : readF (rowsOf (Txt.join "\n" (manyL ++ [("driver a" : Str)]))) = .inr (41, 0) := by
  rw [many_rows]
  have : (match readF manyR with | .inr (a, b) => decide (a = 41) && decide (b = 0) | _ => false) = true := by decide +kernel
  cases h : readF manyR with
  | inl x => rw [h] at this; cases this
  | inr x =>
    obtain ⟨a, b⟩ := x
    rw [h] at this
    have this : (decide (a = 41) && decide (b = 0)) = true := this
    rw [Bool.and_eq_true] at this
    rw [of_decide_eq_true this.1, of_decide_eq_true this.2]
theorem pure_Lmany_right (T : Tx K mg) (h : sp_Lmany_right K vs H Q E) : t_Lmany_right K { nx := fun _ H2 => Q .non H2, rt := Q } (start ["_law_tags", "_law_k", "_law_lines", "_law_tag"] vs) H := by
  obtain rfl : vs = [] := List.eq_nil_of_length_eq_zero (len_pu (P := P_Lmany_right) (n := 0) (fun ds Q E h => by rw [h.1]; rfl) h)
  refine body_pu0 h fun o F0 Qd Ed ⟨_, q⟩ => ?_
  refine ms_seq (ms_asg00 (v_lcM [1] (fun _ => true) tagD (by decide) (by decide) (mi_rng1 (m_cons (m_cI (m_nil ⟨40, rfl, by decide, by unfold rngD; rw [List.length_map, List.length_range]; decide, one_free rfl, fun d hd oo ww => ?_, ?_⟩))))))
  · obtain ⟨j, hj, rfl⟩ := List.mem_map.mp hd
    have hj : j < 40 := List.mem_range.mp hj
    have hA : cA.cps.toList.length = 7 := rfl
    have hB : cB.cps.toList.length = 6 := rfl
    obtain ⟨x, _, hx⟩ := atI_in (xs := cA.cps.toList) (i := (0 + (j : Int)) / 6) (by omega) (by rw [hA]; omega)
    obtain ⟨y, _, hy⟩ := atI_in (xs := cB.cps.toList) (i := (0 + (j : Int)) % 6) (by omega) (by rw [hB]; omega)
    refine mg_name ⟨rfl, rfl, m_yes ⟨rfl, rfl, fun _ => m_op (m_op (m_cS (m_op (m_var rfl (m_cI (r_fdv (by decide) (by decide) (r_ixS (by decide) hx ?_)))))))⟩⟩
    refine m_op (m_cS (m_op (m_cb (m_cons (m_var rfl (m_nil (c_intI (m_cI (r_mod (by decide) (r_ixS (by decide) hy (r_addS (Nat.le_of_ble_eq_true rfl) ⟨?_, rfl⟩))))))))))) 
    show X.val (.str _) = X.val (.str (tagZ (0 + (j : Int))))
    unfold tagZ
    rw [hx, hy]
    rfl
  rw [show (40 : Int).toNat = 40 from rfl, many_map]
  refine q_v (ms_seq (s_asg (m_op (v_lst (m_cons (m_cS (m_nil (q_c (q_v (q_n ⟨Nat.le_of_ble_eq_true rfl, ?_⟩))))))))))
  refine v_lcM [3] (fun _ => true) drvD (by decide) (by decide) (mi_list (m_var rfl (q_v (q_lst ⟨by rw [List.length_map, many_len]; decide, one_free rfl, fun d hd oo ww => ?_, ?_⟩))))
  · obtain ⟨z, hz, rfl⟩ := List.mem_map.mp hd
    exact mg_name ⟨rfl, rfl, m_yes ⟨rfl, rfl, fun _ => m_op (m_cS (m_var rfl (r_addS (by rw [(many_tx z hz).1]; decide) ⟨rfl, rfl⟩)))⟩⟩
  rw [drv_map]
  refine r_catL (ds := [D.str "frame 1"]) rfl rfl (by rw [List.length_map, List.length_map, many_len]; decide) (q_v ?_)
  obtain ⟨mw, mo⟩ := manyL_ok
  have sum1 : ∀ y : List Str, (y.map (·.length)).sum + y.length * ("\n" : Str).length = wt y := fun y => by rw [show ("\n" : Str).length = 1 from rfl, Nat.mul_one, wt_sum]
  have jl := join_len sepN manyL
  refine ms_ret (m_andV (m_fn wr0 (m_cons (m_join (zs := []) (m_cS ⟨_, rfl, m_var rfl ⟨manyL, .inl rfl, by rw [sum1]; omega, m_nil (q_c (q_v (q_n ⟨_, rfl, by omega, join_ok sepN mo, q_bl (q_t ?_)⟩)))⟩⟩)))))
  have w2 : wt (manyL ++ [("driver a" : Str)]) ≤ 430 := by
    rw [wt_app, wt_cons, wt_nil, show ("driver a" : Str).length = 8 from rfl]; omega
  have j2 := join_len sepN (manyL ++ [("driver a" : Str)])
  refine m_op (m_hear (z := Txt.join "\n" (manyL ++ [("driver a" : Str)])) (by omega) (join_ok sepN (okL_app mo (okL_one (okT_of (by decide))))) (fun F1 QA k => ?_) ?_)
  · refine m_join (zs := []) (m_cS ⟨_, rfl, m_op (m_var rfl (v_lst (m_cons (m_cS (m_nil (q_c (q_v (q_n ⟨Nat.le_of_ble_eq_true rfl, ?_⟩))))))))⟩)
    refine r_catL (ds := manyL.map D.str) rfl rfl ?_ ⟨manyL ++ [("driver a" : Str)], .inl ?_, by rw [sum1]; omega, k⟩
    · have := wt_len manyL; rw [List.length_map]; show _ + 1 ≤ 10000; omega
    · rw [List.map_append]; rfl
  rw [many_read]
  refine m_tup (m_cons (m_cI (m_cons (m_cI (m_nil (q_c (q_v (q_c (q_v (q_n ⟨Nat.le_of_ble_eq_true rfl, ?_⟩))))))))))
  refine r_eqD (d := errD 41 0) (e := errD 41 0) rfl rfl (py_two 41 0) (py_two 41 0) (shp_two 41 0) (shp_two 41 0) (q_v ?_)
  rw [eqv_two]
  exact q
end
end K86
namespace K86
open PySem PySem.Spec PyProof.Rows L2 He SJ
open LamX (CodeO lamS_by Tabs tLam)
local macro_rules | `(tactic| walk_at "mr") => `(tactic| repeat' (first
  | with_reducible apply ms_seq | with_reducible apply ms_if | with_reducible apply ms_ret | with_reducible apply ms_next | with_reducible apply s_asg
  | ((with_reducible apply g_var); first | refine m_var rfl ?_ | refine m_varS rfl ?_)
  | with_reducible apply m_cI | with_reducible apply m_cS | with_reducible apply m_cB | with_reducible apply m_cN | with_reducible apply m_cC | with_reducible apply m_cT
  | with_reducible apply m_op | with_reducible apply m_cb | with_reducible apply m_nil | with_reducible apply m_cons | with_reducible apply m_test | with_reducible apply m_B | with_reducible apply q_bl
  | with_reducible apply m_and | with_reducible apply m_or | with_reducible apply m_not | with_reducible apply m_andV | with_reducible apply m_orV | with_reducible apply m_notV | with_reducible apply m_ife | with_reducible apply m_chain
  | with_reducible apply q_v | ((with_reducible apply g_slot); refine q_own rfl ?_) | with_reducible apply q_n | with_reducible apply q_c | with_reducible apply q_t | with_reducible apply q_f | with_reducible apply m_yes
  | with_reducible apply r_addI | with_reducible apply r_subI | with_reducible apply r_eqI | with_reducible apply r_neI | with_reducible apply r_eqS | with_reducible apply r_neS | with_reducible apply r_ltI | with_reducible apply r_leI | with_reducible apply r_gtI | with_reducible apply r_geI
  | with_reducible apply r_isN | with_reducible apply r_isnN | with_reducible apply c_intI | with_reducible apply c_intB | with_reducible apply v_lst | with_reducible apply m_tup | ((with_reducible apply g_le); refine ⟨Nat.le_of_ble_eq_true rfl, ?_⟩) | with_reducible apply v_sl | with_reducible apply v_dnew
  | ((with_reducible apply g_dget); refine m_dget ?_) | refine get_str rfl rfl ?_
  | with_reducible apply m_fld | with_reducible apply m_con | refine ⟨_, _, _, rfl, by walk_at "fd", rfl, ?_⟩
  | ((with_reducible apply g_fn); first | refine m_fn wr0 ?_ | refine m_fn (by assumption) ?_ | refine m_fnP ?_ rfl)
  | ((with_reducible apply g_nw); refine m_nw wr0 ?_) | ((with_reducible apply g_ownGet); refine m_ownGet wr0 ?_) | ((with_reducible apply g_ownIn); refine r_ownIn ?_)
  | ((with_reducible apply g_inS); first | refine r_inStrs rfl ?_ | refine r_inStrsT rfl ?_ | refine r_ninStrsT rfl ?_) | ((with_reducible apply g_len); first | refine c_lenL rfl ?_ | refine c_lenT rfl ?_ | refine c_lenD rfl ?_)
  | ((with_reducible apply g_list); first | refine c_listv (.inl rfl) ?_ | refine c_listv (.inr rfl) ?_) | ((with_reducible apply g_tupU); first | refine c_tupleL rfl ?_ | refine c_tupleT ?_) | ((with_reducible apply g_pr); refine m_pr ?_) | refine ⟨_, _, _, rfl, by walk_at "cl", by walk_at "pr", ?_⟩ | refine ⟨_, rfl, ?_⟩ | fail))
local macro_rules | `(tactic| walk_at "me") => `(tactic| repeat' (first
  | ((with_reducible apply g_var); first | refine m_var rfl ?_ | refine m_varS rfl ?_)
  | with_reducible apply m_cI | with_reducible apply m_cS | with_reducible apply m_cB | with_reducible apply m_cN | with_reducible apply m_cC | with_reducible apply m_cT
  | with_reducible apply m_op | with_reducible apply m_cb | with_reducible apply m_nil | with_reducible apply m_cons | with_reducible apply m_test | with_reducible apply m_B | with_reducible apply q_bl
  | with_reducible apply m_and | with_reducible apply m_or | with_reducible apply m_not | with_reducible apply m_andV | with_reducible apply m_orV | with_reducible apply m_notV | with_reducible apply m_ife | with_reducible apply m_chain
  | with_reducible apply q_v | ((with_reducible apply g_slot); refine q_own rfl ?_) | with_reducible apply q_n | with_reducible apply q_c | with_reducible apply q_t | with_reducible apply q_f | with_reducible apply m_yes
  | with_reducible apply r_addI | with_reducible apply r_subI | with_reducible apply r_eqI | with_reducible apply r_neI | with_reducible apply r_eqS | with_reducible apply r_neS | with_reducible apply r_ltI | with_reducible apply r_leI | with_reducible apply r_gtI | with_reducible apply r_geI
  | with_reducible apply r_isN | with_reducible apply r_isnN | with_reducible apply c_intI | with_reducible apply c_intB | with_reducible apply v_lst | with_reducible apply m_tup | ((with_reducible apply g_le); refine ⟨Nat.le_of_ble_eq_true rfl, ?_⟩) | with_reducible apply v_sl | with_reducible apply v_dnew
  | ((with_reducible apply g_dget); refine m_dget ?_) | refine get_str rfl rfl ?_
  | with_reducible apply m_fld | with_reducible apply m_con | refine ⟨_, _, _, rfl, by walk_at "fd", rfl, ?_⟩
  | ((with_reducible apply g_fn); first | refine m_fn wr0 ?_ | refine m_fn (by assumption) ?_ | refine m_fnP ?_ rfl)
  | ((with_reducible apply g_nw); refine m_nw wr0 ?_) | ((with_reducible apply g_ownGet); refine m_ownGet wr0 ?_) | ((with_reducible apply g_ownIn); refine r_ownIn ?_)
  | ((with_reducible apply g_inS); first | refine r_inStrs rfl ?_ | refine r_inStrsT rfl ?_ | refine r_ninStrsT rfl ?_) | ((with_reducible apply g_len); first | refine c_lenL rfl ?_ | refine c_lenT rfl ?_ | refine c_lenD rfl ?_)
  | ((with_reducible apply g_list); first | refine c_listv (.inl rfl) ?_ | refine c_listv (.inr rfl) ?_) | ((with_reducible apply g_tupU); first | refine c_tupleL rfl ?_ | refine c_tupleT ?_) | ((with_reducible apply g_pr); refine m_pr ?_) | refine ⟨_, _, _, rfl, by walk_at "cl", by walk_at "pr", ?_⟩ | refine ⟨_, rfl, ?_⟩ | fail))
local macro_rules | `(tactic| walk_at "fd") => `(tactic| first | exact (fr_fld (by assumption)).1 | exact (fr_fld (by assumption)).2.1 | exact (fr_fld (by assumption)).2.2.1 | exact (fr_fld (by assumption)).2.2.2 | exact leg_fld (by assumption) _ | fail)
local macro_rules | `(tactic| walk_at "cl") => `(tactic| first | exact fr_cls (by assumption) | exact leg_cls (by assumption) _ | fail)
local macro_rules | `(tactic| walk_at "pr") => `(tactic| first | exact Tx.pr_Flegs (by assumption) | exact Tx.pr_Fnames (by assumption) | exact Tx.pr_Fdrivers (by assumption) | exact Tx.pr_Flisteners (by assumption) | exact Tx.pr_Frails (by assumption) | exact Tx.pr_Fmembers (by assumption) | exact leg_prB (by assumption) _ | fail)
section
variable {K : PySem.W.Frag} {mg : Str → Option Value} {vs : List V} {H : Hp} {Q : VK} {E : XK}
def bndW (j : Nat) : Nat := if j = 0 then 200 else if j = 1 then 440 else 920
theorem bnd_step {j : Nat} (h : j < 2) : 2 * bndW j + 40 ≤ bndW (j + 1) ∧ bndW j ≤ bndW (j + 1) ∧ bndW j ≤ 440 := by
  have : j = 0 ∨ j = 1 := by omega
  rcases this with rfl | rfl <;> decide
theorem bnd_le {j : Nat} (h : j ≤ 2) : bndW j ≤ 920 := by
  have : j = 0 ∨ j = 1 ∨ j = 2 := by omega
  rcases this with rfl | rfl | rfl <;> decide
theorem sum_nl (y : List Str) : (y.map (·.length)).sum + y.length * ("\n" : Str).length = wt y := by rw [show ("\n" : Str).length = 1 from rfl, Nat.mul_one, wt_sum]
def someS : List Str := (["", "frame", "frame 0", "frame 1 power ground", "frame 1 ground ground", "frame 2\n", "frame 01"] : List Str) ++ (["frame +1", "frame -1"] : List Str) ++ (["frame 1\ndriver a{", "frame 1\ndriver `", "frame 1\nlistener {", "frame 1\ndriver a`b"] : List Str)
theorem some_sh : ∀ z ∈ someS, z.length ≤ 100 ∧ (z.cps.toList.all fun c => decide (c < 0x110000)) = true := by decide +kernel
theorem oddV : ∀ d ∈ [D.non, .int 5, .bl true, .tup [], .lst [], .dct [], .lst [.str "frame 1"]], oddT d = true := by
  intro d h
  simp only [List.mem_cons, List.not_mem_nil, or_false] at h
  rcases h with rfl | rfl | rfl | rfl | rfl | rfl | rfl <;> rfl
theorem pure_law (T : Tx K mg) (h : sp_law K vs H Q E) : t_law K { nx := fun _ H2 => Q .non H2, rt := Q } (start ["_law_script", "_law_pen_here", "_law_turn", "_law_lines", "_law_again", "_law_odd", "_law_some", "_law_text_so"] vs) H := by
  refine body_law h (by decide) fun o w F0 => ?_
  refine ms_seq (ms_for [2] (mi_rng1 (m_cons (m_cI (m_nil ⟨10, rfl, by decide, ?_⟩)))))
  refine ⟨fun i ρ => ∃ n s2 s3 s4, n ≤ 70 * i ∧ ρ = [.none, .pen n, s2, s3, s4, .none, .none, .none], ⟨0, _, _, _, Nat.zero_le _, rfl⟩, fun i d ρ2 hd hI => ?_, fun ρ2 hI => ?_⟩
  · obtain ⟨n, s2, s3, s4, hn, rfl⟩ := hI
    have hi : i < 10 := (List.getElem?_eq_some_iff.mp hd).1
    obtain ⟨j, _, rfl⟩ := List.mem_map.mp (List.mem_of_getElem? hd)
    refine mg_name (ms_seq (s_asg (m_fn wr0 (m_cons (m_fnP (m_cons (m_cI (m_nil (q_c (q_v (q_n ⟨n, rfl, 8, rfl, by omega, by omega, by omega, fun top dl ll g p n2 hB _ hn2 => ?_⟩)))))) rfl)))))
    refine m_nil (q_c (q_v (q_n ⟨top, dl, ll, g, p, rfl, hB, fun zs hw ho => q_v ?_⟩)))
    refine ms_seq (ms_for [4] (mi_rng1 (m_cons (m_op (m_cI (m_fnP (m_cons (m_cI (m_nil (q_c (q_v (q_n ⟨n2, rfl, 2, rfl, by omega, by decide, by decide, fun r r0 r1 => ?_⟩)))))) rfl))))))
    refine r_addI (m_nil ⟨_, rfl, by omega, ?_⟩)
    have hc : (1 + r).toNat ≤ 2 := by omega
    have hrl : (rngD 0 (1 + r).toNat).length = (1 + r).toNat := by unfold rngD; rw [List.length_map, List.length_range]
    refine ⟨fun i2 ρ => ∃ zs n3 s4, okL zs ∧ wt zs ≤ bndW i2 ∧ n3 ≤ n2 + 1 + 10 * i2 ∧ ρ = [.none, .pen n3, .val (.int (0 + (j : Int))), .val (strsD zs), s4, .none, .none, .none], ⟨zs, n2 + 1, s4, ho, hw, by omega, rfl⟩, fun i2 d ρ hd hI => ?_, fun ρ hI => ?_⟩
    · obtain ⟨zs, n3, s4, ho, hw, hn3, rfl⟩ := hI
      have hi2 : i2 < 2 := by have := (List.getElem?_eq_some_iff.mp hd).1; omega
      obtain ⟨b1, b2, b3⟩ := bnd_step hi2
      refine mg_name (s_asg (m_ife (m_test (m_op (m_var rfl (v_lst (m_nil (q_n ⟨Nat.zero_le _, r_neStrsL (zs := zs) (ys := []) rfl rfl (okT_txt ho) (fun _ h => nomatch h) (q_bl ?_)⟩))))))))
      by_cases hz : zs = []
      · rw [decide_eq_true hz]
        exact q_f (m_var rfl (q_v ⟨zs, n3, _, ho, by omega, by omega, rfl⟩))
      · rw [decide_eq_false hz]
        refine q_t (m_fnP (m_cons (m_var rfl (m_nil (q_c (q_v (q_n ⟨n3, rfl, zs, rfl, hz, by omega, ho, by omega, fun ys n4 hy1 hy2 hn4 => q_v ⟨ys, n4, _, hy2, by omega, by omega, rfl⟩⟩)))))) rfl)
    · obtain ⟨zs, n3, s4, ho, hw, hn3, rfl⟩ := hI
      rw [hrl] at hw hn3
      have h920 := bnd_le hc
      have jl := join_len sepN zs
      refine ms_if (m_not (m_B (m_fn wr0 (m_cons (m_join (zs := []) (m_cS ⟨_, rfl, m_var rfl ⟨zs, .inl rfl, by rw [sum_nl]; omega, m_nil (q_c (q_v (q_n ⟨_, rfl, by omega, join_ok sepN ho, q_bl (q_f (ms_next ?_))⟩)))⟩⟩))))))
      exact ⟨n3, _, _, _, by omega, rfl⟩
  · obtain ⟨n, s2, s3, s4, hn, rfl⟩ := hI
    refine ms_seq (ms_for [5] (mi_tup (m_tup (m_cons (m_cN (m_cons (m_cI (m_cons (m_cB (m_cons (m_tup (m_nil (q_n ⟨Nat.zero_le _, m_cons (v_lst (m_nil (q_n ⟨Nat.zero_le _, m_cons (v_dnew (m_cons (v_lst (m_cons (m_cS (m_nil (q_c (q_v (q_n ⟨Nat.le_of_ble_eq_true rfl, ?_⟩)))))) )))⟩)))⟩)))))))))))) )
    refine m_nil (q_c (q_v (q_c (q_v (q_c (q_v (q_c (q_v (q_c (q_v (q_c (q_v (q_c (q_v (q_n ⟨Nat.le_of_ble_eq_true rfl, q_v (q_tup ⟨fun i ρ => ∃ s5, ρ = [.none, .pen n, s2, s3, s4, s5, .none, .none], ⟨_, rfl⟩, fun i d ρ hd hI => ?_, fun ρ hI => ?_⟩)⟩)))))))))))))))
    · obtain ⟨s5, rfl⟩ := hI
      have hdm := oddV d (List.mem_of_getElem? hd)
      refine mg_name (ms_if (m_test (m_op (m_hearO hdm (fun F1 QA k => m_var rfl k) ?_))))
      refine m_tup (m_cons (m_cI (m_cons (m_cI (m_nil (q_c (q_v (q_c (q_v (q_n ⟨Nat.le_of_ble_eq_true rfl, ?_⟩))))))))))
      refine r_neD (d := errD 0 0) (e := errD 0 0) rfl rfl (py_two 0 0) (py_two 0 0) (shp_two 0 0) (shp_two 0 0) (q_bl ?_)
      rw [eqv_two]
      exact q_f (ms_next ⟨_, rfl⟩)
    · obtain ⟨s5, rfl⟩ := hI
      refine ms_seq (s_asg ?_)
      walk_at "me"
      refine ms_seq (s_asg (m_op ?_))
      walk_at "me"
      refine r_catL rfl rfl (Nat.le_of_ble_eq_true rfl) (q_v ?_)
      refine ms_seq (s_asg (m_op ?_))
      walk_at "me"
      refine r_catL rfl rfl (Nat.le_of_ble_eq_true rfl) (q_v ?_)
      refine ms_ret (m_andV (m_op (v_lcM [7] (fun _ => false) (fun d => d) (by decide) (by decide) (mi_list (m_var rfl (q_v ⟨someS.map D.str, rfl, Nat.le_of_ble_eq_true rfl, one_free rfl, fun d hd oo ww => ?_, ?_⟩))))))
      · obtain ⟨z, hz, rfl⟩ := List.mem_map.mp hd
        have hs := some_sh z hz
        exact mg_name ⟨rfl, rfl, m_not (m_B (m_fn wr0 (m_cons (m_var rfl (m_nil (q_c (q_v (q_n ⟨z, rfl, by omega, okT_of hs.2, q_bl ⟨rfl, rfl, fun h => nomatch h⟩⟩))))))))⟩
      have hf : ((someS.map D.str).filter fun _ => false) = [] := List.filter_eq_nil_iff.mpr fun _ _ => Bool.false_ne_true
      rw [hf]
      refine v_lst (m_nil (q_n ⟨Nat.zero_le _, r_eqStrsL (zs := []) (ys := []) rfl rfl (fun _ h => nomatch h) (fun _ h => nomatch h) (q_bl ?_)⟩))
      rw [decide_eq_true rfl]
      exact q_t (m_fn wr0 (m_nil (q_n ⟨rfl, q_v rfl⟩)))
end
end K86
namespace K86
open PySem PySem.Spec PyProof.Rows L2 He SJ
open LamX (CodeO lamS_by Tabs tLam)
section
variable {K : PySem.W.Frag} {vs : List V} {H : Hp} {Q : VK} {E : XK}
theorem len_is_integer (h : sp_is_integer K vs H Q E) : vs.length = 1 := len_pu (P := P_is_integer) (fun ds Q E h => by rcases h with ⟨_, e, _⟩ <;> (rw [e]; rfl)) h
theorem len_is_between (h : sp_is_between K vs H Q E) : vs.length = 3 := len_pu (P := P_is_between) (fun ds Q E h => by rcases h with ⟨_, _, _, e, _⟩ <;> (rw [e]; rfl)) h
theorem len_is_name (h : sp_is_name K vs H Q E) : vs.length = 1 := len_pu (P := P_is_name) (fun ds Q E h => by rcases h with ⟨_, e, _⟩ <;> (rw [e]; rfl)) h
theorem len_Leg_init (h : sp_Leg_init K vs H Q E) : vs.length = 2 := len_pin (P := P_Leg_init) (fun c ds Q E h => by rcases h with ⟨_, _, _, e, _⟩ <;> (rw [e]; rfl)) h
theorem len_Leg_eq (h : sp_Leg_eq K vs H Q E) : vs.length = 2 := len_pu (P := P_Leg_eq) (fun ds Q E h => by rcases h with ⟨_, _, e, _⟩ <;> (rw [e]; rfl)) h
theorem len_fault_of (h : sp_fault_of K vs H Q E) : vs.length = 4 := len_pu (P := P_fault_of) (fun ds Q E h => by rcases h with ⟨_, _, _, _, e, _⟩ <;> (rw [e]; rfl)) h
theorem len_Frame_of (h : sp_Frame_of K vs H Q E) : vs.length = 5 := len_pu (P := P_Frame_of) (fun ds Q E h => by rcases h with ⟨_, _, _, _, _, e, _⟩ <;> (rw [e]; rfl)) h
theorem len_Frame_legs (h : sp_Frame_legs K vs H Q E) : vs.length = 1 := len_pu (P := P_Frame_legs) (fun ds Q E h => by rcases h with ⟨_, _, _, _, e, _⟩ <;> (rw [e]; rfl)) h
theorem len_Frame_rails (h : sp_Frame_rails K vs H Q E) : vs.length = 1 := len_pu (P := P_Frame_rails) (fun ds Q E h => by rcases h with ⟨_, _, _, _, e, _⟩ <;> (rw [e]; rfl)) h
theorem len_Frame_eq (h : sp_Frame_eq K vs H Q E) : vs.length = 2 := len_pu (P := P_Frame_eq) (fun ds Q E h => by rcases h with ⟨_, _, _, _, _, _, _, _, e, _⟩ | ⟨_, _, _, _, _, e, _⟩ <;> (rw [e]; rfl)) h
theorem len_number_in (h : sp_number_in K vs H Q E) : vs.length = 3 := len_pu (P := P_number_in) (fun ds Q E h => by rcases h with ⟨_, _, _, e, _⟩ <;> (rw [e]; rfl)) h
theorem len_leg_of (h : sp_leg_of K vs H Q E) : vs.length = 2 := len_pu (P := P_leg_of) (fun ds Q E h => by rcases h with ⟨_, _, e, _⟩ <;> (rw [e]; rfl)) h
theorem len_lines_in (h : sp_lines_in K vs H Q E) : vs.length = 1 := len_pu (P := P_lines_in) (fun ds Q E h => by rcases h with ⟨_, e, _⟩ <;> (rw [e]; rfl)) h
theorem len_need (h : sp_need K vs H Q E) : vs.length = 3 := len_pu (P := P_need) (fun ds Q E h => by rcases h with ⟨_, _, _, e, _⟩ <;> (rw [e]; rfl)) h
theorem len_frame_in (h : sp_frame_in K vs H Q E) : vs.length = 1 := len_pu (P := P_frame_in) (fun ds Q E h => by rcases h with ⟨_, e, _⟩ <;> (rw [e]; rfl)) h
theorem len_read_frame (h : sp_read_frame K vs H Q E) : vs.length = 1 := len_pu (P := P_read_frame) (fun ds Q E h => by rcases h with ⟨_, e, _⟩ <;> (rw [e]; rfl)) h
theorem len_Lpen (h : sp_Lpen K vs H Q E) : vs.length = 1 := len_pen h
theorem len_Ldraw (h : sp_Ldraw K vs H Q E) : vs.length = 2 := len_pp (P := P_Ldraw) (fun m ds Q h => by obtain ⟨_, e, _⟩ := h; rw [e]; rfl) h
theorem len_Lpick (h : sp_Lpick K vs H Q E) : vs.length = 2 := len_pp (P := P_Lpick) (fun m ds Q h => by obtain ⟨_, e | e, _⟩ := h <;> (rw [e]; rfl)) h
theorem len_Lbare (h : sp_Lbare K vs H Q E) : vs.length = 2 := len_pp (P := P_Lbare) (fun m ds Q h => by rcases h with ⟨_, e, _⟩ <;> (rw [e]; rfl)) h
theorem len_Lframe (h : sp_Lframe K vs H Q E) : vs.length = 1 := len_pu (P := P_Lframe) (fun ds Q E h => by rcases h with ⟨_, _, _, _, _, e, _⟩ <;> (rw [e]; rfl)) h
theorem len_Lframe_lines (h : sp_Lframe_lines K vs H Q E) : vs.length = 1 := len_pu (P := P_Lframe_lines) (fun ds Q E h => by rcases h with ⟨_, _, _, _, _, e, _⟩ <;> (rw [e]; rfl)) h
theorem len_Lnumber (h : sp_Lnumber K vs H Q E) : vs.length = 2 := len_pu (P := P_Lnumber) (fun ds Q E h => by rcases h with ⟨_, e, _⟩ <;> (rw [e]; rfl)) h
theorem len_Lis_name (h : sp_Lis_name K vs H Q E) : vs.length = 1 := len_pu (P := P_Lis_name) (fun ds Q E h => by rcases h with ⟨_, e, _⟩ <;> (rw [e]; rfl)) h
theorem len_Lframe_in (h : sp_Lframe_in K vs H Q E) : vs.length = 1 := len_pu (P := P_Lframe_in) (fun ds Q E h => by rcases h with ⟨_, e, _⟩ <;> (rw [e]; rfl)) h
theorem len_Lspoilt (h : sp_Lspoilt K vs H Q E) : vs.length = 2 := len_pp (P := P_Lspoilt) (fun m ds Q h => by rcases h with ⟨_, e, _⟩ <;> (rw [e]; rfl)) h
theorem len_Lright (h : sp_Lright K vs H Q E) : vs.length = 1 := len_pu (P := P_Lright) (fun ds Q E h => by rcases h with ⟨_, e, _⟩ <;> (rw [e]; rfl)) h
theorem len_Lmany_right (h : sp_Lmany_right K vs H Q E) : vs.length = 0 := len_pu (P := P_Lmany_right) (fun ds Q E h => by rcases h with ⟨e, _⟩ <;> (rw [e]; rfl)) h
theorem len_law (h : sp_law K vs H Q E) : vs.length = 1 := SJ.len_law h
theorem law_sp {a : Addr} {ns : List Int} (hl : ns.length ≤ 63) (hT : ∀ q ∈ tf.map (cTA K), H q.2 = some (.tbl #[])) (hS : SqL K H a (ns.map V.int)) (ho : ∀ b o, H b = some o → (∃ q ∈ tf.map (cTA K), b = q.2) ∨ b = a) : sp_law K [.ref a] H (fun v _ => v = .bl true) fun _ _ _ => False := by
  refine ⟨a, ns, rfl, hS, hl, fun p hp => ?_, fun _ => rfl⟩
  rcases List.mem_cons.mp hp with rfl | hp
  · exact ⟨#[], hT _ (List.mem_of_getElem? (i := 0) rfl), (by show TriplesOk []; trivial), fun pos cv hc => nomatch hc⟩
  rcases List.mem_cons.mp hp with rfl | hp
  · exact ⟨#[], hT _ (List.mem_of_getElem? (i := 1) rfl), (by show TriplesOk []; trivial), fun pos cv hc => nomatch hc⟩
  rcases List.mem_cons.mp hp with rfl | hp
  · exact ⟨#[], hT _ (List.mem_of_getElem? (i := 2) rfl), (by show TriplesOk []; trivial), fun pos cv hc => nomatch hc⟩
  rcases List.mem_singleton.mp hp with rfl
  exact ⟨#[], hT _ (List.mem_of_getElem? (i := 3) rfl), (by show TriplesOk []; trivial), fun pos cv hc => nomatch hc⟩
end
end K86
namespace K86
open PySem PySem.Spec PyProof.Rows L2 He SJ
open LamX (CodeO lamS_by Tabs tLam)
section
variable {P : Program} {w : World} {K : PySem.W.Frag} {mg : Str → Option Value} {base : Heap}
theorem sf_InvalidFrame_init (T : Tx K mg) (hP : P = PySem.Challenge.pw_strayjoins_k86_frames_refused) : SupFn K P ["self", "reason"] ["self", "reason"] "InvalidFrame.__init__" (defArgs s_InvalidFrame_init) (defBody s_InvalidFrame_init) (defScope s_InvalidFrame_init) (a_InvalidFrame_init K) (ccA K (a_InvalidFrame_init K)) (cdaA K (a_InvalidFrame_init K)) (ga K "InvalidFrame") := by
  subst hP
  obtain ⟨e1, e2, e3, e4⟩ := XD.facts T.e_InvalidFrame_init.1 T.e_InvalidFrame_init.2
  exact ⟨e1, e2, e3, e4, by decide +kernel, rfl, rfl, rfl, by decide +kernel, rfl, by decide +kernel, by decide +kernel, fun x h => nofree_of (by decide +kernel) h, by decide +kernel, by decide +kernel, ⟨_, rfl, rfl⟩⟩
theorem ok_InvalidFrame_init (T : Tx K mg) (hP : P = PySem.Challenge.pw_strayjoins_k86_frames_refused) : ∃ fd, Fk P w K mg base 1 (a_InvalidFrame_init K) fd ["self", "reason"] (spX (ga K "InvalidFrame") ["reason"]) ∧ Binds K fd ["self", "reason"] [] := by
  obtain ⟨fd, ⟨kV, doc, pm, an, ct, rfl⟩, F⟩ := fk_sup (k := 0) (sp := spX (ga K "InvalidFrame") ["reason"]) (ta := (tCons (tVar 1) tNil)) (tr := (tSt K "ValueError.__new__" [.type "ValueError", .type "Exception", .type "BaseException", .type "object"] "reason" (tVar 0) (tVar 1))) (sf_InvalidFrame_init T hP) exb_value T.x_InvalidFrame.g rfl T.x_InvalidFrame.sup T.x_InvalidFrame.sB T.x_InvalidFrame.stat T.x_InvalidFrame.mro T.f_super
    (fun vs H Q E h => spX_len h) (fun A outer s H => (pa_cons (pv 1) pa_nil)) (fun A outer s H => (pss_one (ps_xst exb_value.sf (pv 0) (pv 1)))) (fun vs H Q E h => spX_1 T.x_InvalidFrame.g (T.x_InvalidFrame.nof _ (by decide)) h)
  exact ⟨_, F, .all fun us hl => match us, hl with | [_, _], _ => rfl⟩
theorem sf_InvalidText_init (T : Tx K mg) (hP : P = PySem.Challenge.pw_strayjoins_k86_frames_refused) : SupFn K P ["self", "line", "word"] ["self", "line", "word"] "InvalidText.__init__" (defArgs s_InvalidText_init) (defBody s_InvalidText_init) (defScope s_InvalidText_init) (a_InvalidText_init K) (ccA K (a_InvalidText_init K)) (cdaA K (a_InvalidText_init K)) (ga K "InvalidText") := by
  subst hP
  obtain ⟨e1, e2, e3, e4⟩ := XD.facts T.e_InvalidText_init.1 T.e_InvalidText_init.2
  exact ⟨e1, e2, e3, e4, by decide +kernel, rfl, rfl, rfl, by decide +kernel, rfl, by decide +kernel, by decide +kernel, fun x h => nofree_of (by decide +kernel) h, by decide +kernel, by decide +kernel, ⟨_, rfl, rfl⟩⟩
theorem ok_InvalidText_init (T : Tx K mg) (hP : P = PySem.Challenge.pw_strayjoins_k86_frames_refused) : ∃ fd, Fk P w K mg base 1 (a_InvalidText_init K) fd ["self", "line", "word"] (spX (ga K "InvalidText") ["line", "word"]) ∧ Binds K fd ["self", "line", "word"] [] := by
  obtain ⟨fd, ⟨kV, doc, pm, an, ct, rfl⟩, F⟩ := fk_sup (k := 0) (sp := spX (ga K "InvalidText") ["line", "word"]) (ta := (tCons (tVar 1) (tCons (tVar 2) tNil))) (tr := (tSeq (tSt K "ValueError.__new__" [.type "ValueError", .type "Exception", .type "BaseException", .type "object"] "line" (tVar 0) (tVar 1)) (tSt K "ValueError.__new__" [.type "ValueError", .type "Exception", .type "BaseException", .type "object"] "word" (tVar 0) (tVar 2)))) (sf_InvalidText_init T hP) exb_value T.x_InvalidText.g rfl T.x_InvalidText.sup T.x_InvalidText.sB T.x_InvalidText.stat T.x_InvalidText.mro T.f_super
    (fun vs H Q E h => spX_len h) (fun A outer s H => (pa_cons (pv 1) (pa_cons (pv 2) pa_nil))) (fun A outer s H => (pss_cons (ps_xst exb_value.sf (pv 0) (pv 1)) (pss_one (ps_xst exb_value.sf (pv 0) (pv 2))))) (fun vs H Q E h => spX_2 T.x_InvalidText.g (T.x_InvalidText.nof _ (by decide)) (T.x_InvalidText.nof _ (by decide)) h)
  exact ⟨_, F, .all fun us hl => match us, hl with | [_, _, _], _ => rfl⟩
theorem ok_is_integer {fd : FuncData} (T : Tx K mg) (F : Fn_is_integer K fd) : Fk P w K mg base 1 (a_is_integer K) fd ["value"] (sp_is_integer K) := by
  refine fk_of F sc_is_integer (fun vs H Q E h => len_is_integer h) (fun cdv A outer s H vs Q E hr h => ⟨t_is_integer K, ?_, pure_is_integer T h⟩)
  exact (pss_one (ps_ret (pe_and (pe_callB c_isi rfl T.f_isinstance (by decide +kernel) (pa_cons (pv 0) (pa_cons (pe_bltn (v := .ty "int") rfl T.f_int (by decide +kernel) rfl) pa_nil))) (pe_one (pe_not (pe_callB c_isi rfl T.f_isinstance (by decide +kernel) (pa_cons (pv 0) (pa_cons (pe_bltn (v := .ty "bool") rfl T.f_bool (by decide +kernel) rfl) pa_nil))))))))
theorem ok_is_between {fd : FuncData} (T : Tx K mg) (F : Fn_is_between K fd) : Fk P w K mg base 2 (a_is_between K) fd ["value", "least", "most"] (sp_is_between K) := by
  obtain ⟨fd_is_integer, F_is_integer⟩ := T.d_is_integer
  have G_is_integer := ok_is_integer (P := P) (w := w) (base := base) T F_is_integer
  have b_is_integer := F_is_integer.bindsN (ps := ["value"]) fun _ _ _ _ _ _ us hl => match us, hl with | [_], _ => rfl
  refine fk_of F sc_is_between (fun vs H Q E h => len_is_between h) (fun cdv A outer s H vs Q E hr h => ⟨t_is_between K, ?_, pure_is_between T h⟩)
  exact (pss_one (ps_ret (pe_and (pe_fn G_is_integer (hr.mono (by decide)) rfl T.g_is_integer F_is_integer.kp b_is_integer .nil takes0 (pa_cons (pv 0) pa_nil)) (pe_one (pe_chain o_le o_le (pv 1) (pv 0) (pv 2))))))
theorem ok_is_name {fd : FuncData} (T : Tx K mg) (F : Fn_is_name K fd) : Fk P w K mg base 1 (a_is_name K) fd ["value"] (sp_is_name K) := by
  refine fk_of F sc_is_name (fun vs H Q E h => len_is_name h) (fun cdv A outer s H vs Q E hr h => ⟨t_is_name K, ?_, pure_is_name T h⟩)
  exact (pss_cons (ps_if (PW.pt (pw_or (pt_not (pt_val (pe_callB c_isi rfl T.f_isinstance (by decide +kernel) (pa_cons (pv 0) (pa_cons (pe_bltn (v := .ty "str") rfl T.f_str (by decide +kernel) rfl) pa_nil))))) (pw_or1 (pt_not (pt_chain o_le o_le pe_int (pe_callB c_len rfl T.f_len (by decide +kernel) (pa_cons (pv 0) pa_nil)) (pe_glob rfl T.g_MOST_LETTERS.choose_spec ⟨_, rfl⟩)))))) (pss_one (ps_ret pe_bl)) pss_nil) (pss_one (ps_ret (pe_and (pe_callB (c_all rfl) rfl T.f_all (by decide +kernel) (pa_cons (pe_lc (own := [("letter", 1)]) rfl sc_is_name.nd (pi_str (pv 0)) (blkOk_by (own := [("letter", 1)]) (N := ["value", "letter"]) (sc := defScope s_is_name) (by decide +kernel)) (fun _ _ _ _ _ => (pg_name (i := 1) sc_is_name.nd rfl (by first | exact Or.inl rfl | exact Or.inr rfl))) (fun _ _ _ _ _ => pts_nil) (fun _ _ _ _ _ => (pe_cmpR op_inS (pv 1) (pe_glob rfl T.g_LETTERS.choose_spec ⟨_, rfl⟩) rfl))) pa_nil)) (pe_one (pe_cmpR o_nin (pv 0) (pe_tup (pa_cons (pe_glob rfl T.g_GROUND.choose_spec ⟨_, rfl⟩) (pa_cons (pe_glob rfl T.g_POWER.choose_spec ⟨_, rfl⟩) (pa_cons (pe_glob rfl T.g_NOTHING.choose_spec ⟨_, rfl⟩) pa_nil)))) rfl))))))
theorem ok_Leg_init {fd : FuncData} (T : Tx K mg) (F : Fn_Leg_init K fd) (hP : P = PySem.Challenge.pw_strayjoins_k86_frames_refused) : Fk P w K mg base 3 (a_Leg_init K) fd ["self", "name"] (sp_Leg_init K) := by
  obtain ⟨fd_is_name, F_is_name⟩ := T.d_is_name
  have G_is_name := ok_is_name (P := P) (w := w) (base := base) T F_is_name
  have b_is_name := F_is_name.bindsN (ps := ["value"]) fun _ _ _ _ _ _ us hl => match us, hl with | [_], _ => rfl
  obtain ⟨fd_InvalidFrame_init, G_InvalidFrame_init, b_InvalidFrame_init⟩ := ok_InvalidFrame_init (P := P) (w := w) (base := base) T hP
  refine fk_of F sc_Leg_init (fun vs H Q E h => len_Leg_init h) (fun cdv A outer s H vs Q E hr h => ⟨t_Leg_init K E, ?_, pure_Leg_init T h⟩)
  exact (pss_cons (ps_if (pt_not (pt_val (pe_fn G_is_name (hr.mono (by decide)) rfl T.g_is_name F_is_name.kp b_is_name .nil (takes_of rfl rfl rfl rfl) (pa_cons (pv 1) pa_nil)))) (pss_one (ps_raise rfl (takes_of rfl rfl rfl rfl) (pmk_x exb_value T.x_InvalidFrame.g T.x_InvalidFrame.iC T.x_InvalidFrame.tI G_InvalidFrame_init (hr.mono (by decide)) b_InvalidFrame_init (by decide) rfl T.g_InvalidFrame (pa_cons pe_str pa_nil)))) pss_nil) (pss_one (ps_fld (pv 0) (pv 1) rfl)))
theorem ok_Leg_eq {fd : FuncData} (T : Tx K mg) (F : Fn_Leg_eq K fd) : Fk P w K mg base 1 (a_Leg_eq K) fd ["self", "other"] (sp_Leg_eq K) := by
  refine fk_of F sc_Leg_eq (fun vs H Q E h => len_Leg_eq h) (fun cdv A outer s H vs Q E hr h => ⟨t_Leg_eq K, ?_, pure_Leg_eq T h⟩)
  exact (pss_one (ps_ret (pe_and (pe_callB c_isi rfl T.f_isinstance (by decide +kernel) (pa_cons (pv 1) (pa_cons (pe_glob rfl T.g_Leg rfl) pa_nil))) (pe_and (pe_cmpR (o_eq hr.units) (pe_con (pv 0) rfl) (pe_con (pv 1) rfl) (nomark _)) (pe_one (pe_cmpR (o_eq hr.units) (pe_fld (pv 0) rfl) (pe_fld (pv 1) rfl) (nomark _)))))))
theorem ok_fault_of {fd : FuncData} (T : Tx K mg) (F : Fn_fault_of K fd) : Fk P w K mg base 3 (a_fault_of K) fd ["legs", "most", "top", "rails"] (sp_fault_of K) := by
  obtain ⟨fd_is_between, F_is_between⟩ := T.d_is_between
  have G_is_between := ok_is_between (P := P) (w := w) (base := base) T F_is_between
  have b_is_between := F_is_between.bindsN (ps := ["value", "least", "most"]) fun _ _ _ _ _ _ us hl => match us, hl with | [_, _, _], _ => rfl
  refine fk_of F sc_fault_of (fun vs H Q E h => len_fault_of h) (fun cdv A outer s H vs Q E hr h => ⟨t_fault_of K P w, ?_, pure_fault_of T h⟩)
  exact (pss_cons (ps_if (pt_not (pt_val (pe_callB (c_all rfl) rfl T.f_all (by decide +kernel) (pa_cons (pe_lc (own := [("leg", 4)]) rfl sc_fault_of.nd (pi_tup (pv 0)) (blkOk_by (own := [("leg", 4)]) (N := ["legs", "most", "top", "rails", "leg", "rail"]) (sc := defScope s_fault_of) (by decide +kernel)) (fun _ _ _ _ _ => (pg_name (i := 4) sc_fault_of.nd rfl (by first | exact Or.inl rfl | exact Or.inr rfl))) (fun _ _ _ _ _ => pts_nil) (fun _ _ _ _ _ => (pe_callB c_isiS rfl T.f_isinstance (by decide +kernel) (pa_cons (pv 4) (pa_cons (pe_tup (pa_cons (pe_glob rfl T.g_Driver rfl) (pa_cons (pe_glob rfl T.g_Listener rfl) pa_nil))) pa_nil))))) pa_nil)))) (pss_one (ps_ret pe_str)) pss_nil) (pss_cons (ps_if (pt_cmpR o_gt (pe_callB c_len rfl T.f_len (by decide +kernel) (pa_cons (pv 0) pa_nil)) (pv 1) (nomark _)) (pss_one (ps_ret pe_str)) pss_nil) (pss_cons (ps_if (pt_cmpR o_lt (pe_callB c_lenSet rfl T.f_len (by decide +kernel) (pa_cons (pe_scK (own := [("leg", 4)]) rfl sc_fault_of.nd (pi_tup (pv 0)) (blkOk_by (own := [("leg", 4)]) (N := ["legs", "most", "top", "rails", "leg", "rail"]) (sc := defScope s_fault_of) (by decide +kernel)) (fun _ _ _ _ _ => (pg_name (i := 4) sc_fault_of.nd rfl (by first | exact Or.inl rfl | exact Or.inr rfl))) (fun _ _ _ _ _ => pts_nil) (fun _ _ _ _ _ => (pe_fld (pv 4) rfl))) pa_nil)) (pe_callB c_len rfl T.f_len (by decide +kernel) (pa_cons (pv 0) pa_nil)) (nomark _)) (pss_one (ps_ret pe_str)) pss_nil) (pss_cons (ps_if (pt_not (pt_val (pe_fn G_is_between (hr.mono (by decide)) rfl T.g_is_between F_is_between.kp b_is_between .nil takes0 (pa_cons (pv 2) (pa_cons pe_int (pa_cons (pe_glob rfl T.g_MOST_TOP.choose_spec ⟨_, rfl⟩) pa_nil)))))) (pss_one (ps_ret pe_str)) pss_nil) (pss_one (ps_ret (pe_ifExp (pt_val (pe_callB (c_all rfl) rfl T.f_all (by decide +kernel) (pa_cons (pe_lc (own := [("rail", 5)]) rfl sc_fault_of.nd (pi_tup (pv 3)) (blkOk_by (own := [("rail", 5)]) (N := ["legs", "most", "top", "rails", "leg", "rail"]) (sc := defScope s_fault_of) (by decide +kernel)) (fun _ _ _ _ _ => (pg_name (i := 5) sc_fault_of.nd rfl (by first | exact Or.inl rfl | exact Or.inr rfl))) (fun _ _ _ _ _ => pts_nil) (fun _ _ _ _ _ => (pe_callB c_isi rfl T.f_isinstance (by decide +kernel) (pa_cons (pv 5) (pa_cons (pe_bltn (v := .ty "bool") rfl T.f_bool (by decide +kernel) rfl) pa_nil))))) pa_nil))) pe_non pe_str)))))))
theorem ok_Frame_init {fd : FuncData} (T : Tx K mg) (F : Fn_Frame_init K fd) (hP : P = PySem.Challenge.pw_strayjoins_k86_frames_refused) (hB : ∀ q ∈ tf.map (cTA K), LamX.TabB base mg q.1 q.2) : Fs P w K mg base 5 (a_Frame_init K) fd ["self", "top", "ground", "power"] "legs" (sp_Frame_init K) := by
  obtain ⟨fd_InvalidFrame_init, G_InvalidFrame_init, b_InvalidFrame_init⟩ := ok_InvalidFrame_init (P := P) (w := w) (base := base) T hP
  obtain ⟨fd_fault_of, F_fault_of⟩ := T.d_fault_of
  have G_fault_of := ok_fault_of (P := P) (w := w) (base := base) T F_fault_of
  have b_fault_of := F_fault_of.bindsN (ps := ["legs", "most", "top", "rails"]) fun _ _ _ _ _ _ us hl => match us, hl with | [_, _, _, _], _ => rfl
  have mem_T_Frame_init : ((cTA K d_Frame_init).2, ("Frame.__init__" : Str) ++ ".<locals>." ++ "<lambda>") ∈ TB K := List.mem_of_getElem? (i := 0) rfl
  have uni_T_Frame_init : ∀ p ∈ TB K, p.1 = (cTA K d_Frame_init).2 → p.2 = ("Frame.__init__" : Str) ++ ".<locals>." ++ "<lambda>" := fun p hp e => by
    rcases List.mem_cons.mp hp with rfl | hp
    · rfl
    rcases List.mem_cons.mp hp with rfl | hp
    · exact absurd e.symm T.ta_Frame_init_Lright
    rcases List.mem_cons.mp hp with rfl | hp
    · exact absurd e.symm T.ta_Frame_init_Lmany_right
    rcases List.mem_singleton.mp hp with rfl
    exact absurd e.symm T.ta_Frame_init_law
  refine fsC_of F sc_Frame_init (fun cdv hcv A outer s H vs Q E hr h => ⟨t_Frame_init K E, ?_, pure_Frame_init T h⟩)
  exact (pss_cons (ps_set (i := 5) sc_Frame_init.nd rfl (by first | exact Or.inl rfl | exact Or.inr rfl) (pe_fn G_fault_of (hr.mono (by decide)) rfl T.g_fault_of F_fault_of.kp b_fault_of .nil (takes_of rfl rfl rfl rfl) (pa_cons (pv 4) (pa_cons (pe_con (pv 0) rfl) (pa_cons (pv 1) (pa_cons (pe_tup (pa_cons (pv 2) (pa_cons (pv 3) pa_nil))) pa_nil)))))) (pss_cons (ps_if (pt_cmpR o_isn (pv 5) pe_non (nomark _)) (pss_one (ps_raise rfl (takes_of rfl rfl rfl rfl) (pmk_x exb_value T.x_InvalidFrame.g T.x_InvalidFrame.iC T.x_InvalidFrame.tI G_InvalidFrame_init (hr.mono (by decide)) b_InvalidFrame_init (by decide) rfl T.g_InvalidFrame (pa_cons (pv 5) pa_nil)))) pss_nil) (pss_cons (ps_fld (pv 0) (pv 1) rfl) (pss_cons (ps_fld (pv 0) (pv 2) rfl) (pss_cons (ps_fld (pv 0) (pv 3) rfl) (pss_one (ps_fld (pv 0) (pe_dc (own := [("leg", 6)]) rfl sc_Frame_init.nd (pi_list (pe_sortA (k := 0) (pa_cons (pv 4) pa_nil) (hr.mono (by decide)) rfl T.f_sorted (hB _ (mem_tab_Frame_init)) hcv mem_T_Frame_init uni_T_Frame_init rfl (fun v fd h1 h2 h3 => by cases fd; cases h1; cases h2; cases h3; rfl) rfl rfl rfl rfl (by decide))) (blkOk_by (own := [("leg", 6)]) (N := ["self", "top", "ground", "power", "legs", "fault", "leg"]) (sc := defScope s_Frame_init) (by decide +kernel)) (fun _ _ _ _ _ => (pg_name (i := 6) sc_Frame_init.nd rfl (by first | exact Or.inl rfl | exact Or.inr rfl))) (fun _ _ _ _ _ => pts_nil) (fun _ _ _ _ _ => (pe_fld (pv 6) rfl)) (fun _ _ _ _ _ => (pv 6))) rfl)))))))
theorem ok_Frame_of {fd : FuncData} (T : Tx K mg) (F : Fn_Frame_of K fd) (hP : P = PySem.Challenge.pw_strayjoins_k86_frames_refused) (hB : ∀ q ∈ tf.map (cTA K), LamX.TabB base mg q.1 q.2) : Fk P w K mg base 7 (a_Frame_of K) fd ["cls", "legs", "top", "ground", "power"] (sp_Frame_of K) := by
  obtain ⟨fd_Frame_init, F_Frame_init⟩ := T.d_Frame_init
  have G_Frame_init := ok_Frame_init (P := P) (w := w) (base := base) T F_Frame_init hP hB
  obtain ⟨_, ks_Frame_init_top_ground_power⟩ := tks_Frame_init_top_ground_power F_Frame_init
  obtain ⟨fd_InvalidFrame_init, G_InvalidFrame_init, b_InvalidFrame_init⟩ := ok_InvalidFrame_init (P := P) (w := w) (base := base) T hP
  refine fk_of F sc_Frame_of (fun vs H Q E h => len_Frame_of h) (fun cdv A outer s H vs Q E hr h => ⟨t_Frame_of K E, ?_, pure_Frame_of T h⟩)
  exact (pss_cons (ps_if (pt_not (pt_val (pe_callB c_isiS rfl T.f_isinstance (by decide +kernel) (pa_cons (pv 1) (pa_cons (pe_tup (pa_cons (pe_bltn (v := .ty "list") rfl T.f_list (by decide +kernel) rfl) (pa_cons (pe_bltn (v := .ty "tuple") rfl T.f_tuple (by decide +kernel) rfl) pa_nil))) pa_nil))))) (pss_one (ps_raise rfl (takes_of rfl rfl rfl rfl) (pmk_x exb_value T.x_InvalidFrame.g T.x_InvalidFrame.iC T.x_InvalidFrame.tI G_InvalidFrame_init (hr.mono (by decide)) b_InvalidFrame_init (by decide) rfl T.g_InvalidFrame (pa_cons pe_str pa_nil)))) pss_nil) (pss_one (ps_ret (pe_nwSl (i := 0) T.mk_Frame G_Frame_init (hr.mono (by decide)) rfl (.inl rfl) ks_Frame_init_top_ground_power (gks_Frame_init_top_ground_power_len) (takes_of rfl rfl rfl rfl) (pv 1) (pk_cons (pv 2) (pk_cons (pv 3) (pk_cons (pv 4) pk_nil)))))))
theorem ok_Frame_legs {fd : FuncData} (T : Tx K mg) (F : Fn_Frame_legs K fd) : Fk P w K mg base 1 (a_Frame_legs K) fd ["self"] (sp_Frame_legs K) := by
  refine fk_of F sc_Frame_legs (fun vs H Q E h => len_Frame_legs h) (fun cdv A outer s H vs Q E hr h => ⟨t_Frame_legs K, ?_, pure_Frame_legs T h⟩)
  exact (pss_one (ps_ret (pe_callTy (c_tupD rfl) rfl T.f_tuple (by decide +kernel) (pa_cons (pe_bm0 PySem.F.plainAttrs_dict PySem.F.slot_dict_values PySem.F.type_dict_values mt_vals (pe_fld (pv 0) rfl)) pa_nil))))
theorem ok_Frame_rails {fd : FuncData} (T : Tx K mg) (F : Fn_Frame_rails K fd) : Fk P w K mg base 1 (a_Frame_rails K) fd ["self"] (sp_Frame_rails K) := by
  refine fk_of F sc_Frame_rails (fun vs H Q E h => len_Frame_rails h) (fun cdv A outer s H vs Q E hr h => ⟨t_Frame_rails K, ?_, pure_Frame_rails T h⟩)
  exact (pss_one (ps_ret (pe_op o_add (pe_op op_rep01 (pe_tup (pa_cons (pe_glob rfl T.g_GROUND.choose_spec ⟨_, rfl⟩) pa_nil)) (pe_callTy c_int rfl T.f_int (by decide +kernel) (pa_cons (pe_fld (pv 0) rfl) pa_nil))) (pe_op op_rep01 (pe_tup (pa_cons (pe_glob rfl T.g_POWER.choose_spec ⟨_, rfl⟩) pa_nil)) (pe_callTy c_int rfl T.f_int (by decide +kernel) (pa_cons (pe_fld (pv 0) rfl) pa_nil))))))
theorem ok_Frame_eq {fd : FuncData} (T : Tx K mg) (F : Fn_Frame_eq K fd) : Fk P w K mg base 3 (a_Frame_eq K) fd ["self", "other"] (sp_Frame_eq K) := by
  obtain ⟨fd_Frame_legs, F_Frame_legs⟩ := T.d_Frame_legs
  have G_Frame_legs := ok_Frame_legs (P := P) (w := w) (base := base) T F_Frame_legs
  have b_Frame_legs := F_Frame_legs.bindsN (ps := ["self"]) fun _ _ _ _ _ _ us hl => match us, hl with | [_], _ => rfl
  obtain ⟨fd_Leg_eq, F_Leg_eq⟩ := T.d_Leg_eq
  have G_Leg_eq := ok_Leg_eq (P := P) (w := w) (base := base) T F_Leg_eq
  have b_Leg_eq := F_Leg_eq.bindsN (ps := ["self", "other"]) fun _ _ _ _ _ _ us hl => match us, hl with | [_, _], _ => rfl
  obtain ⟨fd_Frame_rails, F_Frame_rails⟩ := T.d_Frame_rails
  have G_Frame_rails := ok_Frame_rails (P := P) (w := w) (base := base) T F_Frame_rails
  have b_Frame_rails := F_Frame_rails.bindsN (ps := ["self"]) fun _ _ _ _ _ _ us hl => match us, hl with | [_], _ => rfl
  refine fk_of F sc_Frame_eq (fun vs H Q E h => len_Frame_eq h) (fun cdv A outer s H vs Q E hr h => ⟨t_Frame_eq K, ?_, pure_Frame_eq T h⟩)
  exact (pss_cons (ps_if (PW.pt (pw_or (pt_not (pt_val (pe_callB c_isi rfl T.f_isinstance (by decide +kernel) (pa_cons (pv 1) (pa_cons (pe_glob rfl T.g_Frame rfl) pa_nil))))) (pw_or (pt_cmpR (o_ne hr.units) (pe_fld (pv 0) rfl) (pe_fld (pv 1) rfl) (nomark _)) (pw_or1 (pt_cmpR (o_ne hr.units) (pe_pr (pv 0) G_Frame_rails (hr.mono (by decide)) b_Frame_rails rfl) (pe_pr (pv 1) G_Frame_rails (hr.mono (by decide)) b_Frame_rails rfl) (nomark _)))))) (pss_one (ps_ret pe_bl)) pss_nil) (pss_one (ps_ret (pe_cmpR (seqC_run (k := 1) true ((eq_same.up (Nat.zero_le _)).or ((eq_own G_Leg_eq T.fn_Leg_eq b_Leg_eq).up (by decide))) (hr.mono (by decide))) (pe_pr (pv 0) G_Frame_legs (hr.mono (by decide)) b_Frame_legs rfl) (pe_pr (pv 1) G_Frame_legs (hr.mono (by decide)) b_Frame_legs rfl) (nomark _)))))
theorem ok_number_in {fd : FuncData} (T : Tx K mg) (F : Fn_number_in K fd) : Fk P w K mg base 1 (a_number_in K) fd ["word", "least", "most"] (sp_number_in K) := by
  refine fk_of F sc_number_in (fun vs H Q E h => len_number_in h) (fun cdv A outer s H vs Q E hr h => ⟨t_number_in K, ?_, pure_number_in T h⟩)
  exact (pss_cons (ps_if (PW.pt (pw_or (pt_not (pt_chain o_le o_le pe_int (pe_callB c_len rfl T.f_len (by decide +kernel) (pa_cons (pv 0) pa_nil)) pe_int)) (pw_or (pt_not (pt_val (pe_callB (c_all rfl) rfl T.f_all (by decide +kernel) (pa_cons (pe_lc (own := [("sign", 3)]) rfl sc_number_in.nd (pi_str (pv 0)) (blkOk_by (own := [("sign", 3)]) (N := ["word", "least", "most", "sign"]) (sc := defScope s_number_in) (by decide +kernel)) (fun _ _ _ _ _ => (pg_name (i := 3) sc_number_in.nd rfl (by first | exact Or.inl rfl | exact Or.inr rfl))) (fun _ _ _ _ _ => pts_nil) (fun _ _ _ _ _ => (pe_cmpR op_inS (pv 3) (pe_glob rfl T.g_DIGITS.choose_spec ⟨_, rfl⟩) rfl))) pa_nil)))) (pw_or1 (PW.pt (pw_and (pt_cmpR (o_eq hr.units) (pe_callB c_len rfl T.f_len (by decide +kernel) (pa_cons (pv 0) pa_nil)) pe_int (nomark _)) (pw_and1 (pt_cmpR (o_eq hr.units) (pe_ix ix_seq (pv 0) pe_int (fun _ _ => rfl)) pe_str (nomark _))))))))) (pss_one (ps_ret pe_non)) pss_nil) (pss_one (ps_ret (pe_ifExp (pt_chain o_le o_le (pv 1) (pe_callTy c_intS rfl T.f_int (by decide +kernel) (pa_cons (pv 0) pa_nil)) (pv 2)) (pe_callTy c_intS rfl T.f_int (by decide +kernel) (pa_cons (pv 0) pa_nil)) pe_non))))
theorem ok_leg_of {fd : FuncData} (T : Tx K mg) (F : Fn_leg_of K fd) (hP : P = PySem.Challenge.pw_strayjoins_k86_frames_refused) : Fk P w K mg base 5 (a_leg_of K) fd ["kind", "name"] (sp_leg_of K) := by
  obtain ⟨fd_Leg_init, F_Leg_init⟩ := T.d_Leg_init
  have G_Leg_init := ok_Leg_init (P := P) (w := w) (base := base) T F_Leg_init hP
  have b_Leg_init := F_Leg_init.bindsN (ps := ["self", "name"]) fun _ _ _ _ _ _ us hl => match us, hl with | [_, _], _ => rfl
  refine fk_of F sc_leg_of (fun vs H Q E h => len_leg_of h) (fun cdv A outer s H vs Q E hr h => ⟨t_leg_of K E, ?_, pure_leg_of T h⟩)
  exact (pss_one (ps_ret (pe_ifExp (pt_cmpR (o_eq hr.units) (pv 0) pe_str (nomark _)) (pe_nw T.mk_Driver G_Leg_init (hr.mono (by decide)) rfl T.g_Driver b_Leg_init .nil (takes_of rfl rfl rfl rfl) (pa_cons (pv 1) pa_nil)) (pe_nw T.mk_Listener G_Leg_init (hr.mono (by decide)) rfl T.g_Listener b_Leg_init .nil (takes_of rfl rfl rfl rfl) (pa_cons (pv 1) pa_nil)))))
theorem ok_lines_in {fd : FuncData} (T : Tx K mg) (F : Fn_lines_in K fd) (hP : P = PySem.Challenge.pw_strayjoins_k86_frames_refused) : Fk P w K mg base 3 (a_lines_in K) fd ["text"] (sp_lines_in K) := by
  obtain ⟨fd_InvalidText_init, G_InvalidText_init, b_InvalidText_init⟩ := ok_InvalidText_init (P := P) (w := w) (base := base) T hP
  refine fk_of F sc_lines_in (fun vs H Q E h => len_lines_in h) (fun cdv A outer s H vs Q E hr h => ⟨t_lines_in K E, ?_, pure_lines_in T h⟩)
  exact (pss_cons (ps_if (pt_not (pt_val (pe_callB c_isi rfl T.f_isinstance (by decide +kernel) (pa_cons (pv 0) (pa_cons (pe_bltn (v := .ty "str") rfl T.f_str (by decide +kernel) rfl) pa_nil))))) (pss_one (ps_raise rfl (takes_of rfl rfl rfl rfl) (pmk_x exb_value T.x_InvalidText.g T.x_InvalidText.iC T.x_InvalidText.tI G_InvalidText_init (hr.mono (by decide)) b_InvalidText_init (by decide) rfl T.g_InvalidText (pa_cons pe_int (pa_cons pe_int pa_nil))))) pss_nil) (pss_one (ps_ret (pe_lc (own := [("line", 1)]) rfl sc_lines_in.nd (pi_list (pe_splitS (pv 0) pe_str)) (blkOk_by (own := [("line", 1)]) (N := ["text", "line"]) (sc := defScope s_lines_in) (by decide +kernel)) (fun _ _ _ _ _ => (pg_name (i := 1) sc_lines_in.nd rfl (by first | exact Or.inl rfl | exact Or.inr rfl))) (fun _ _ _ _ _ => pts_nil) (fun _ _ _ _ _ => (pe_splitS (pv 1) pe_str))))))
theorem ok_need {fd : FuncData} (T : Tx K mg) (F : Fn_need K fd) (hP : P = PySem.Challenge.pw_strayjoins_k86_frames_refused) : Fk P w K mg base 3 (a_need K) fd ["is_right", "line", "word"] (sp_need K) := by
  obtain ⟨fd_InvalidText_init, G_InvalidText_init, b_InvalidText_init⟩ := ok_InvalidText_init (P := P) (w := w) (base := base) T hP
  refine fk_of F sc_need (fun vs H Q E h => len_need h) (fun cdv A outer s H vs Q E hr h => ⟨t_need K E, ?_, pure_need T h⟩)
  exact (pss_one (ps_if (pt_not (pt_val (pv 0))) (pss_one (ps_raise rfl (takes_of rfl rfl rfl rfl) (pmk_x exb_value T.x_InvalidText.g T.x_InvalidText.iC T.x_InvalidText.tI G_InvalidText_init (hr.mono (by decide)) b_InvalidText_init (by decide) rfl T.g_InvalidText (pa_cons (pv 1) (pa_cons (pv 2) pa_nil))))) pss_nil))
theorem ok_frame_in {fd : FuncData} (T : Tx K mg) (F : Fn_frame_in K fd) (hP : P = PySem.Challenge.pw_strayjoins_k86_frames_refused) (hB : ∀ q ∈ tf.map (cTA K), LamX.TabB base mg q.1 q.2) : Fk P w K mg base 8 (a_frame_in K) fd ["rows"] (sp_frame_in K) := by
  obtain ⟨fd_Frame_of, F_Frame_of⟩ := T.d_Frame_of
  have G_Frame_of := ok_Frame_of (P := P) (w := w) (base := base) T F_Frame_of hP hB
  obtain ⟨_, kbm_Frame_of_2_top_ground_power⟩ := tkbm_Frame_of_2_top_ground_power F_Frame_of
  obtain ⟨fd_leg_of, F_leg_of⟩ := T.d_leg_of
  have G_leg_of := ok_leg_of (P := P) (w := w) (base := base) T F_leg_of hP
  have b_leg_of := F_leg_of.bindsN (ps := ["kind", "name"]) fun _ _ _ _ _ _ us hl => match us, hl with | [_, _], _ => rfl
  obtain ⟨fd_need, F_need⟩ := T.d_need
  have G_need := ok_need (P := P) (w := w) (base := base) T F_need hP
  have b_need := F_need.bindsN (ps := ["is_right", "line", "word"]) fun _ _ _ _ _ _ us hl => match us, hl with | [_, _, _], _ => rfl
  obtain ⟨fd_is_name, F_is_name⟩ := T.d_is_name
  have G_is_name := ok_is_name (P := P) (w := w) (base := base) T F_is_name
  have b_is_name := F_is_name.bindsN (ps := ["value"]) fun _ _ _ _ _ _ us hl => match us, hl with | [_], _ => rfl
  obtain ⟨fd_number_in, F_number_in⟩ := T.d_number_in
  have G_number_in := ok_number_in (P := P) (w := w) (base := base) T F_number_in
  have b_number_in := F_number_in.bindsN (ps := ["word", "least", "most"]) fun _ _ _ _ _ _ us hl => match us, hl with | [_, _, _], _ => rfl
  obtain ⟨fd_Leg_eq, F_Leg_eq⟩ := T.d_Leg_eq
  have G_Leg_eq := ok_Leg_eq (P := P) (w := w) (base := base) T F_Leg_eq
  have b_Leg_eq := F_Leg_eq.bindsN (ps := ["self", "other"]) fun _ _ _ _ _ _ us hl => match us, hl with | [_, _], _ => rfl
  refine fk_of F sc_frame_in (fun vs H Q E h => len_frame_in h) (fun cdv A outer s H vs Q E hr h => ⟨t_frame_in K E, ?_, pure_frame_in T h⟩)
  exact (pss_cons (ps_expr (pe_fn G_need (hr.mono (by decide)) rfl T.g_need F_need.kp b_need .nil (takes_of rfl rfl rfl rfl) (pa_cons (pe_and (pe_cmpR (seqC_run (k := 1) false ((eq_same.up (Nat.zero_le _)).or ((eq_own G_Leg_eq T.fn_Leg_eq b_Leg_eq).up (by decide))) (hr.mono (by decide))) (pv 0) (pe_lst pa_nil) (nomark _)) (pe_one (pe_cmpR (o_eq hr.units) (pe_ix ix_seq (pe_ix ix_seq (pv 0) pe_int (fun _ _ => rfl)) pe_int (fun _ _ => rfl)) pe_str (nomark _)))) (pa_cons pe_int (pa_cons pe_int pa_nil))))) (pss_cons (ps_set (i := 1) sc_frame_in.nd rfl (by first | exact Or.inl rfl | exact Or.inr rfl) (pe_ix ix_seq (pv 0) pe_int (fun _ _ => rfl))) (pss_cons (ps_set (i := 2) sc_frame_in.nd rfl (by first | exact Or.inl rfl | exact Or.inr rfl) (pe_fn G_number_in (hr.mono (by decide)) rfl T.g_number_in F_number_in.kp b_number_in .nil (takes_of rfl rfl rfl rfl) (pa_cons (pe_join pe_str (pe_slice sl_u (pv 1) (po_some pe_int) (po_some pe_int))) (pa_cons pe_int (pa_cons (pe_glob rfl T.g_MOST_TOP.choose_spec ⟨_, rfl⟩) pa_nil))))) (pss_cons (ps_expr (pe_fn G_need (hr.mono (by decide)) rfl T.g_need F_need.kp b_need .nil (takes_of rfl rfl rfl rfl) (pa_cons (pe_cmpR o_isn (pv 2) pe_non (nomark _)) (pa_cons pe_int (pa_cons pe_int pa_nil))))) (pss_cons (ps_set (i := 3) sc_frame_in.nd rfl (by first | exact Or.inl rfl | exact Or.inr rfl) (pe_lst pa_nil)) (pss_cons (ps_for (passes_of rfl) rfl (pi_tup (pe_tup (pa_cons (pe_glob rfl T.g_GROUND.choose_spec ⟨_, rfl⟩) (pa_cons (pe_glob rfl T.g_POWER.choose_spec ⟨_, rfl⟩) pa_nil)))) (pg_name (i := 4) sc_frame_in.nd rfl (by first | exact Or.inl rfl | exact Or.inr rfl)) (pss_one (ps_if (pt_cmpR (o_eq hr.units) (pe_slice sl_u (pv 1) (po_some (pe_op o_add pe_int (pe_callB c_len rfl T.f_len (by decide +kernel) (pa_cons (pv 3) pa_nil)))) (po_some (pe_op o_add pe_int (pe_callB c_len rfl T.f_len (by decide +kernel) (pa_cons (pv 3) pa_nil))))) (pe_lst (pa_cons (pv 4) pa_nil)) (nomark _)) (pss_one (ps_expr (pe_bm PySem.F.plainAttrs_list PySem.F.slot_list_append PySem.F.type_list_append mt_append (pv 3) (pa_cons (pv 4) pa_nil)))) pss_nil))) (pss_cons (ps_expr (pe_fn G_need (hr.mono (by decide)) rfl T.g_need F_need.kp b_need .nil (takes_of rfl rfl rfl rfl) (pa_cons (pe_cmpR (o_eq hr.units) (pe_callB c_len rfl T.f_len (by decide +kernel) (pa_cons (pv 1) pa_nil)) (pe_op o_add pe_int (pe_callB c_len rfl T.f_len (by decide +kernel) (pa_cons (pv 3) pa_nil))) (nomark _)) (pa_cons pe_int (pa_cons (pe_op o_add pe_int (pe_callB c_len rfl T.f_len (by decide +kernel) (pa_cons (pv 3) pa_nil))) pa_nil))))) (pss_cons (ps_set (i := 5) sc_frame_in.nd rfl (by first | exact Or.inl rfl | exact Or.inr rfl) pe_dnewK) (pss_cons (ps_for (passes_of rfl) rfl (pi_enK rfl T.f_enumerate (pa_cons (pe_slice sl_u (pv 0) (po_some pe_int) po_none) (pa_cons pe_int pa_nil))) (pg_tup rfl (pgs_cons (pg_name (i := 6) sc_frame_in.nd rfl (by first | exact Or.inl rfl | exact Or.inr rfl)) (pgs_cons (pg_name (i := 7) sc_frame_in.nd rfl (by first | exact Or.inl rfl | exact Or.inr rfl)) pgs_nil))) (pss_cons (ps_expr (pe_fn G_need (hr.mono (by decide)) rfl T.g_need F_need.kp b_need .nil (takes_of rfl rfl rfl rfl) (pa_cons (pe_and (pe_cmpR o_in (pe_ix ix_seq (pv 7) pe_int (fun _ _ => rfl)) (pe_glob rfl T.g_KINDS rfl) rfl) (pe_one (pe_cmpR o_le (pv 6) (ClX.pe_cval (pe_glob rfl T.g_Frame rfl) rfl) (nomark _)))) (pa_cons (pv 6) (pa_cons pe_int pa_nil))))) (pss_cons (ps_expr (pe_fn G_need (hr.mono (by decide)) rfl T.g_need F_need.kp b_need .nil (takes_of rfl rfl rfl rfl) (pa_cons (pe_and (pe_cmpR o_gt (pe_callB c_len rfl T.f_len (by decide +kernel) (pa_cons (pv 7) pa_nil)) pe_int (nomark _)) (pe_and (pe_fn G_is_name (hr.mono (by decide)) rfl T.g_is_name F_is_name.kp b_is_name .nil (takes_of rfl rfl rfl rfl) (pa_cons (pe_ix ix_seq (pv 7) pe_int (fun _ _ => rfl)) pa_nil)) (pe_one (pe_cmp (pc_dnotin hr.hu (pe_ix ix_seq (pv 7) pe_int (fun _ _ => rfl)) (pv 5)) rfl)))) (pa_cons (pv 6) (pa_cons pe_int pa_nil))))) (pss_cons (ps_expr (pe_fn G_need (hr.mono (by decide)) rfl T.g_need F_need.kp b_need .nil (takes_of rfl rfl rfl rfl) (pa_cons (pe_cmpR (o_eq hr.units) (pe_callB c_len rfl T.f_len (by decide +kernel) (pa_cons (pv 7) pa_nil)) pe_int (nomark _)) (pa_cons (pv 6) (pa_cons pe_int pa_nil))))) (pss_one (ps_dput hr.hu (pv 5) (pe_ix ix_seq (pv 7) pe_int (fun _ _ => rfl)) (pe_fn G_leg_of (hr.mono (by decide)) rfl T.g_leg_of F_leg_of.kp b_leg_of .nil (takes_of rfl rfl rfl rfl) (pa_cons (pe_ix ix_seq (pv 7) pe_int (fun _ _ => rfl)) (pa_cons (pe_ix ix_seq (pv 7) pe_int (fun _ _ => rfl)) pa_nil))) rfl)))))) (pss_one (ps_ret (pe_cmK (n := 1) (pe_glob rfl T.g_Frame rfl) T.cm_Frame_of.1 T.cm_Frame_of.2 G_Frame_of (hr.mono (by decide)) kbm_Frame_of_2_top_ground_power (takes_of rfl rfl rfl rfl) (pa_cons (pe_callTy (c_listV rfl) rfl T.f_list (by decide +kernel) (pa_cons (pe_bm0 PySem.F.plainAttrs_dict PySem.F.slot_dict_values PySem.F.type_dict_values mt_vals (pv 5)) pa_nil)) pa_nil) (pk_cons (pv 2) (pk_cons (pe_cmpR o_in (pe_glob rfl T.g_GROUND.choose_spec ⟨_, rfl⟩) (pv 3) rfl) (pk_cons (pe_cmpR o_in (pe_glob rfl T.g_POWER.choose_spec ⟨_, rfl⟩) (pv 3) rfl) pk_nil)))))))))))))))
theorem ok_read_frame {fd : FuncData} (T : Tx K mg) (F : Fn_read_frame K fd) (hP : P = PySem.Challenge.pw_strayjoins_k86_frames_refused) (hB : ∀ q ∈ tf.map (cTA K), LamX.TabB base mg q.1 q.2) : Fk P w K mg base 9 (a_read_frame K) fd ["text"] (sp_read_frame K) := by
  obtain ⟨fd_frame_in, F_frame_in⟩ := T.d_frame_in
  have G_frame_in := ok_frame_in (P := P) (w := w) (base := base) T F_frame_in hP hB
  have b_frame_in := F_frame_in.bindsN (ps := ["rows"]) fun _ _ _ _ _ _ us hl => match us, hl with | [_], _ => rfl
  obtain ⟨fd_lines_in, F_lines_in⟩ := T.d_lines_in
  have G_lines_in := ok_lines_in (P := P) (w := w) (base := base) T F_lines_in hP
  have b_lines_in := F_lines_in.bindsN (ps := ["text"]) fun _ _ _ _ _ _ us hl => match us, hl with | [_], _ => rfl
  refine fk_of F sc_read_frame (fun vs H Q E h => len_read_frame h) (fun cdv A outer s H vs Q E hr h => ⟨t_read_frame K E, ?_, pure_read_frame T h⟩)
  exact (pss_one (ps_ret (pe_fn G_frame_in (hr.mono (by decide)) rfl T.g_frame_in F_frame_in.kp b_frame_in .nil (takes_of rfl rfl rfl rfl) (pa_cons (pe_fn G_lines_in (hr.mono (by decide)) rfl T.g_lines_in F_lines_in.kp b_lines_in .nil (takes_of rfl rfl rfl rfl) (pa_cons (pv 0) pa_nil)) pa_nil))))
theorem ok_Lpen {fd : FuncData} (T : Tx K mg) (F : Fn_Lpen K fd) : Fk P w K mg base 1 (a_Lpen K) fd ["_law_script"] (sp_Lpen K) := by
  refine fk_of F sc_Lpen (fun vs H Q E h => len_Lpen h) (fun cdv A outer s H vs Q E hr h => ⟨t_Lpen K, ?_, pure_Lpen T h⟩)
  exact (pss_one (ps_ret (pe_lst (pa_cons (pe_callTy c_list rfl T.f_list (by decide +kernel) (pa_cons (pe_slice sl_u (pv 0) po_none (po_some pe_int)) pa_nil)) (pa_cons pe_int (pa_cons pe_int pa_nil))))))
theorem ok_Ldraw {fd : FuncData} (T : Tx K mg) (F : Fn_Ldraw K fd) : Fk P w K mg base 1 (a_Ldraw K) fd ["_law_pen_here", "_law_many"] (sp_Ldraw K) := by
  refine fk_of F sc_Ldraw (fun vs H Q E h => len_Ldraw h) (fun cdv A outer s H vs Q E hr h => ⟨t_Ldraw K, ?_, pure_Ldraw T h⟩)
  exact (pss_cons (ps_if (pt_cmpR o_gt (pe_ix ix_seq (pv 0) pe_int (fun _ _ => rfl)) pe_int (nomark _)) (pss_cons (ps_set (i := 2) sc_Ldraw.nd rfl (by first | exact Or.inl rfl | exact Or.inr rfl) (pe_op o_mod (pe_callTy c_int rfl T.f_int (by decide +kernel) (pa_cons (pe_ix ix_seq (pv 0) pe_int (fun _ _ => rfl)) pa_nil)) (pv 1))) (pss_cons (ps_asg (pe_op o_fdv (pe_callTy c_int rfl T.f_int (by decide +kernel) (pa_cons (pe_ix ix_seq (pv 0) pe_int (fun _ _ => rfl)) pa_nil)) (pv 1)) (pg_sub (pv 0) pe_int set_list)) (pss_one (ps_ret (pv 2))))) pss_nil) (pss_cons (ps_set (i := 3) sc_Ldraw.nd rfl (by first | exact Or.inl rfl | exact Or.inr rfl) (pe_ix ix_seq (pv 0) pe_int (fun _ _ => rfl))) (pss_cons (ps_asg (pe_op o_add (pv 3) pe_int) (pg_sub (pv 0) pe_int set_list)) (pss_cons (ps_set (i := 4) sc_Ldraw.nd rfl (by first | exact Or.inl rfl | exact Or.inr rfl) (pe_op o_add (pe_op o_mul pe_int (pv 3)) pe_int)) (pss_cons (ps_if (pt_cmpR (o_ne hr.units) (pe_ix ix_seq (pv 0) pe_int (fun _ _ => rfl)) (pe_lst pa_nil) (nomark _)) (pss_one (ps_set (i := 4) sc_Ldraw.nd rfl (by first | exact Or.inl rfl | exact Or.inr rfl) (pe_ix ix_seq (pe_ix ix_seq (pv 0) pe_int (fun _ _ => rfl)) (pe_op o_mod (pe_callTy c_int rfl T.f_int (by decide +kernel) (pa_cons (pv 3) pa_nil)) (pe_callB c_len rfl T.f_len (by decide +kernel) (pa_cons (pe_ix ix_seq (pv 0) pe_int (fun _ _ => rfl)) pa_nil))) (fun _ _ => rfl)))) pss_nil) (pss_cons (ps_if (PW.pt (pw_and (pt_cmpR o_lt (pv 3) (pe_callB c_len rfl T.f_len (by decide +kernel) (pa_cons (pe_ix ix_seq (pv 0) pe_int (fun _ _ => rfl)) pa_nil)) (nomark _)) (pw_and1 (pt_cmpR o_ge (pe_callB c_abs rfl T.f_abs (by decide +kernel) (pa_cons (pv 4) pa_nil)) (pe_op o_pow pe_int pe_int) (nomark _))))) (pss_cons (ps_set (i := 5) sc_Ldraw.nd rfl (by first | exact Or.inl rfl | exact Or.inr rfl) (pe_op o_add (pe_op o_mul pe_int (pe_callB c_abs rfl T.f_abs (by decide +kernel) (pa_cons (pv 4) pa_nil))) (pe_callTy c_int rfl T.f_int (by decide +kernel) (pa_cons (pe_cmpR o_lt (pv 4) pe_int (nomark _)) pa_nil)))) (pss_cons (ps_asg (pe_op o_fdv (pv 5) (pv 1)) (pg_sub (pv 0) pe_int set_list)) (pss_one (ps_ret (pe_op o_mod (pe_callTy c_int rfl T.f_int (by decide +kernel) (pa_cons (pv 5) pa_nil)) (pv 1)))))) pss_nil) (pss_cons (ps_set (i := 6) sc_Ldraw.nd rfl (by first | exact Or.inl rfl | exact Or.inr rfl) (pe_op o_mod (pe_callTy c_int rfl T.f_int (by decide +kernel) (pa_cons (pe_op o_pow (pe_op o_add (pe_op o_add (pe_op o_mod (pe_callTy c_int rfl T.f_int (by decide +kernel) (pa_cons (pv 4) pa_nil)) pe_int) (pe_op o_mul pe_int (pv 3))) pe_int) pe_int) pa_nil)) pe_int)) (pss_cons (ps_set (i := 6) sc_Ldraw.nd rfl (by first | exact Or.inl rfl | exact Or.inr rfl) (pe_op o_mod (pe_callTy c_int rfl T.f_int (by decide +kernel) (pa_cons (pe_op o_pow (pe_op o_add (pe_op o_add (pe_op o_mul (pv 6) (pe_op o_add (pe_op o_mul pe_int (pv 3)) pe_int)) (pe_op o_mul (pe_op o_mul pe_int (pv 3)) (pv 3))) pe_int) pe_int) pa_nil)) pe_int)) (pss_one (ps_ret (pe_op o_mod (pe_callTy c_int rfl T.f_int (by decide +kernel) (pa_cons (pe_op o_fdv (pv 6) pe_int) pa_nil)) (pv 1))))))))))))
theorem ok_Lpick {fd : FuncData} (T : Tx K mg) (F : Fn_Lpick K fd) : Fk P w K mg base 2 (a_Lpick K) fd ["_law_pen_here", "_law_some"] (sp_Lpick K) := by
  obtain ⟨fd_Ldraw, F_Ldraw⟩ := T.d_Ldraw
  have G_Ldraw := ok_Ldraw (P := P) (w := w) (base := base) T F_Ldraw
  have b_Ldraw := F_Ldraw.bindsN (ps := ["_law_pen_here", "_law_many"]) fun _ _ _ _ _ _ us hl => match us, hl with | [_, _], _ => rfl
  refine fk_of F sc_Lpick (fun vs H Q E h => len_Lpick h) (fun cdv A outer s H vs Q E hr h => ⟨t_Lpick K, ?_, pure_Lpick T h⟩)
  exact (pss_one (ps_ret (pe_ix ix_seq (pv 1) (pe_fn G_Ldraw (hr.mono (by decide)) rfl T.g_Ldraw F_Ldraw.kp b_Ldraw .nil takes0 (pa_cons (pv 0) (pa_cons (pe_callB c_len rfl T.f_len (by decide +kernel) (pa_cons (pv 1) pa_nil)) pa_nil))) (fun _ _ => rfl))))
theorem ok_Lbare {fd : FuncData} (T : Tx K mg) (F : Fn_Lbare K fd) : Fk P w K mg base 2 (a_Lbare K) fd ["_law_pen_here", "_law_most"] (sp_Lbare K) := by
  obtain ⟨fd_Ldraw, F_Ldraw⟩ := T.d_Ldraw
  have G_Ldraw := ok_Ldraw (P := P) (w := w) (base := base) T F_Ldraw
  have b_Ldraw := F_Ldraw.bindsN (ps := ["_law_pen_here", "_law_many"]) fun _ _ _ _ _ _ us hl => match us, hl with | [_, _], _ => rfl
  refine fk_of F sc_Lbare (fun vs H Q E h => len_Lbare h) (fun cdv A outer s H vs Q E hr h => ⟨t_Lbare K, ?_, pure_Lbare T h⟩)
  exact (pss_cons (ps_set (i := 2) sc_Lbare.nd rfl (by first | exact Or.inl rfl | exact Or.inr rfl) (pe_disp (pps_cons pe_str (pe_op o_add pe_int (pe_fn G_Ldraw (hr.mono (by decide)) rfl T.g_Ldraw F_Ldraw.kp b_Ldraw .nil takes0 (pa_cons (pv 0) (pa_cons pe_int pa_nil)))) (pps_cons pe_str (pe_lst pa_nil) (pps_cons pe_str (pe_lst pa_nil) pps_nil))) (by rfl) (by rfl) (fun z => by cases z) (by decide))) (pss_cons (ps_dput hr.hu (pv 2) pe_str (pe_ix ix_seq (pe_lst (pa_cons (pe_lst pa_nil) (pa_cons (pe_lst pa_nil) (pa_cons (pe_lst (pa_cons pe_str pa_nil)) (pa_cons (pe_lst (pa_cons pe_str pa_nil)) (pa_cons (pe_lst (pa_cons pe_str (pa_cons pe_str pa_nil))) pa_nil)))))) (pe_fn G_Ldraw (hr.mono (by decide)) rfl T.g_Ldraw F_Ldraw.kp b_Ldraw .nil takes0 (pa_cons (pv 0) (pa_cons pe_int pa_nil))) (fun _ _ => rfl)) rfl) (pss_cons (ps_set (i := 3) sc_Lbare.nd rfl (by first | exact Or.inl rfl | exact Or.inr rfl) (pe_lst (pa_cons pe_str (pa_cons pe_str (pa_cons pe_str (pa_cons pe_str (pa_cons pe_str (pa_cons pe_str (pa_cons pe_str (pa_cons pe_str pa_nil)))))))))) (pss_cons (ps_set (i := 3) sc_Lbare.nd rfl (by first | exact Or.inl rfl | exact Or.inr rfl) (pe_op o_add (pv 3) (pe_lst (pa_cons pe_str (pa_cons pe_str (pa_cons pe_str (pa_cons pe_str (pa_cons pe_str (pa_cons pe_str (pa_cons pe_str (pa_cons pe_str pa_nil))))))))))) (pss_cons (ps_for (passes_of rfl) rfl (pi_range1 rfl T.f_range (pa_cons (pe_fn G_Ldraw (hr.mono (by decide)) rfl T.g_Ldraw F_Ldraw.kp b_Ldraw .nil takes0 (pa_cons (pv 0) (pa_cons (pe_op o_sub (pe_op o_add (pv 1) pe_int) (pe_callB c_len rfl T.f_len (by decide +kernel) (pa_cons (pe_dget hr.hu (pv 2) pe_str (fun _ _ => rfl)) pa_nil))) pa_nil))) pa_nil)) (pg_name (i := 4) sc_Lbare.nd rfl (by first | exact Or.inl rfl | exact Or.inr rfl)) (pss_cons (ps_set (i := 5) sc_Lbare.nd rfl (by first | exact Or.inl rfl | exact Or.inr rfl) (pe_ix ix_seq (pe_lst (pa_cons pe_str (pa_cons pe_str (pa_cons pe_str (pa_cons pe_str (pa_cons pe_str pa_nil)))))) (pe_fn G_Ldraw (hr.mono (by decide)) rfl T.g_Ldraw F_Ldraw.kp b_Ldraw .nil takes0 (pa_cons (pv 0) (pa_cons pe_int pa_nil))) (fun _ _ => rfl))) (pss_one (ps_dput hr.hu (pv 2) (pv 5) (pe_callB cr_sortedS rfl T.f_sorted (by decide +kernel) (pa_cons (pe_op o_add (pe_dget hr.hu (pv 2) (pv 5) (fun _ _ => rfl)) (pe_lst (pa_cons (pe_bm PySem.F.plainAttrs_list PySem.F.slot_list_pop PySem.F.type_list_pop mt_popAt (pv 3) (pa_cons (pe_fn G_Ldraw (hr.mono (by decide)) rfl T.g_Ldraw F_Ldraw.kp b_Ldraw .nil takes0 (pa_cons (pv 0) (pa_cons (pe_callB c_len rfl T.f_len (by decide +kernel) (pa_cons (pv 3) pa_nil)) pa_nil))) pa_nil)) pa_nil))) pa_nil)) rfl)))) (pss_one (ps_ret (pv 2))))))))
theorem ok_Lframe {fd : FuncData} (T : Tx K mg) (F : Fn_Lframe K fd) (hP : P = PySem.Challenge.pw_strayjoins_k86_frames_refused) (hB : ∀ q ∈ tf.map (cTA K), LamX.TabB base mg q.1 q.2) : Fk P w K mg base 8 (a_Lframe K) fd ["_law_bare_here"] (sp_Lframe K) := by
  obtain ⟨fd_Frame_of, F_Frame_of⟩ := T.d_Frame_of
  have G_Frame_of := ok_Frame_of (P := P) (w := w) (base := base) T F_Frame_of hP hB
  obtain ⟨_, kbm_Frame_of_2_top_ground_power⟩ := tkbm_Frame_of_2_top_ground_power F_Frame_of
  obtain ⟨fd_Leg_init, F_Leg_init⟩ := T.d_Leg_init
  have G_Leg_init := ok_Leg_init (P := P) (w := w) (base := base) T F_Leg_init hP
  have b_Leg_init := F_Leg_init.bindsN (ps := ["self", "name"]) fun _ _ _ _ _ _ us hl => match us, hl with | [_, _], _ => rfl
  refine fk_of F sc_Lframe (fun vs H Q E h => len_Lframe h) (fun cdv A outer s H vs Q E hr h => ⟨t_Lframe K, ?_, pure_Lframe T h⟩)
  exact (pss_cons (ps_set (i := 1) sc_Lframe.nd rfl (by first | exact Or.inl rfl | exact Or.inr rfl) (pe_op o_add (pe_lc (own := [("_law_tag", 2)]) rfl sc_Lframe.nd (pi_list (pe_dget hr.hu (pv 0) pe_str (fun _ _ => rfl))) (blkOk_by (own := [("_law_tag", 2)]) (N := ["_law_bare_here", "_law_legs_so", "_law_tag", "_law_rails_so"]) (sc := defScope s_Lframe) (by decide +kernel)) (fun _ _ _ _ _ => (pg_name (i := 2) sc_Lframe.nd rfl (by first | exact Or.inl rfl | exact Or.inr rfl))) (fun _ _ _ _ _ => pts_nil) (fun _ _ _ _ _ => (pe_nw T.mk_Driver G_Leg_init (hr.mono (by decide)) rfl T.g_Driver b_Leg_init .nil takes0 (pa_cons (pv 2) pa_nil)))) (pe_lc (own := [("_law_tag", 2)]) rfl sc_Lframe.nd (pi_list (pe_dget hr.hu (pv 0) pe_str (fun _ _ => rfl))) (blkOk_by (own := [("_law_tag", 2)]) (N := ["_law_bare_here", "_law_legs_so", "_law_tag", "_law_rails_so"]) (sc := defScope s_Lframe) (by decide +kernel)) (fun _ _ _ _ _ => (pg_name (i := 2) sc_Lframe.nd rfl (by first | exact Or.inl rfl | exact Or.inr rfl))) (fun _ _ _ _ _ => pts_nil) (fun _ _ _ _ _ => (pe_nw T.mk_Listener G_Leg_init (hr.mono (by decide)) rfl T.g_Listener b_Leg_init .nil takes0 (pa_cons (pv 2) pa_nil)))))) (pss_cons (ps_set (i := 3) sc_Lframe.nd rfl (by first | exact Or.inl rfl | exact Or.inr rfl) (pe_dget hr.hu (pv 0) pe_str (fun _ _ => rfl))) (pss_one (ps_ret (pe_cmK (n := 1) (pe_glob rfl T.g_Frame rfl) T.cm_Frame_of.1 T.cm_Frame_of.2 G_Frame_of (hr.mono (by decide)) kbm_Frame_of_2_top_ground_power takes0 (pa_cons (pv 1) pa_nil) (pk_cons (pe_dget hr.hu (pv 0) pe_str (fun _ _ => rfl)) (pk_cons (pe_cmpR o_in pe_str (pv 3) rfl) (pk_cons (pe_cmpR o_in pe_str (pv 3) rfl) pk_nil))))))))
theorem ok_Lframe_lines {fd : FuncData} (T : Tx K mg) (F : Fn_Lframe_lines K fd) : Fk P w K mg base 1 (a_Lframe_lines K) fd ["_law_bare_here"] (sp_Lframe_lines K) := by
  refine fk_of F sc_Lframe_lines (fun vs H Q E h => len_Lframe_lines h) (fun cdv A outer s H vs Q E hr h => ⟨t_Lframe_lines K, ?_, pure_Lframe_lines T h⟩)
  exact (pss_cons (ps_set (i := 1) sc_Lframe_lines.nd rfl (by first | exact Or.inl rfl | exact Or.inr rfl) (pe_callTy (c_dictL rfl) rfl T.f_dict (by decide +kernel) (pa_cons (pe_lc (own := [("_law_tag", 2)]) rfl sc_Lframe_lines.nd (pi_list (pe_dget hr.hu (pv 0) pe_str (fun _ _ => rfl))) (blkOk_by (own := [("_law_tag", 2)]) (N := ["_law_bare_here", "_law_kinds_so", "_law_tag", "_law_found"]) (sc := defScope s_Lframe_lines) (by decide +kernel)) (fun _ _ _ _ _ => (pg_name (i := 2) sc_Lframe_lines.nd rfl (by first | exact Or.inl rfl | exact Or.inr rfl))) (fun _ _ _ _ _ => pts_nil) (fun _ _ _ _ _ => (pe_tup (pa_cons (pv 2) (pa_cons pe_str pa_nil))))) pa_nil))) (pss_cons (ps_expr (pe_bm PySem.F.plainAttrs_dict PySem.F.slot_dict_update PySem.F.type_dict_update mt_dUpd (pv 1) (pa_cons (pe_callTy (c_dictL rfl) rfl T.f_dict (by decide +kernel) (pa_cons (pe_lc (own := [("_law_tag", 2)]) rfl sc_Lframe_lines.nd (pi_list (pe_dget hr.hu (pv 0) pe_str (fun _ _ => rfl))) (blkOk_by (own := [("_law_tag", 2)]) (N := ["_law_bare_here", "_law_kinds_so", "_law_tag", "_law_found"]) (sc := defScope s_Lframe_lines) (by decide +kernel)) (fun _ _ _ _ _ => (pg_name (i := 2) sc_Lframe_lines.nd rfl (by first | exact Or.inl rfl | exact Or.inr rfl))) (fun _ _ _ _ _ => pts_nil) (fun _ _ _ _ _ => (pe_tup (pa_cons (pv 2) (pa_cons pe_str pa_nil))))) pa_nil)) pa_nil))) (pss_cons (ps_set (i := 3) sc_Lframe_lines.nd rfl (by first | exact Or.inl rfl | exact Or.inr rfl) (pe_lst (pa_cons (pe_join pe_str (pe_op o_add (pe_lst (pa_cons pe_str (pa_cons (pe_callTy c_strI rfl T.f_str (by decide +kernel) (pa_cons (pe_dget hr.hu (pv 0) pe_str (fun _ _ => rfl)) pa_nil)) pa_nil))) (pe_dget hr.hu (pv 0) pe_str (fun _ _ => rfl)))) pa_nil))) (pss_one (ps_ret (pe_op o_add (pv 3) (pe_lc (own := [("_law_tag", 2)]) rfl sc_Lframe_lines.nd (pi_list (pe_callB cr_sortedS rfl T.f_sorted (by decide +kernel) (pa_cons (pe_callTy (call_list_dK rfl) rfl T.f_list (by decide +kernel) (pa_cons (pv 1) pa_nil)) pa_nil))) (blkOk_by (own := [("_law_tag", 2)]) (N := ["_law_bare_here", "_law_kinds_so", "_law_tag", "_law_found"]) (sc := defScope s_Lframe_lines) (by decide +kernel)) (fun _ _ _ _ _ => (pg_name (i := 2) sc_Lframe_lines.nd rfl (by first | exact Or.inl rfl | exact Or.inr rfl))) (fun _ _ _ _ _ => pts_nil) (fun _ _ _ _ _ => (pe_op o_add (pe_op o_add (pe_dget hr.hu (pv 1) (pv 2) (fun _ _ => rfl)) pe_str) (pv 2))))))))))
theorem ok_Lnumber {fd : FuncData} (T : Tx K mg) (F : Fn_Lnumber K fd) : Fk P w K mg base 1 (a_Lnumber K) fd ["_law_some", "_law_most"] (sp_Lnumber K) := by
  refine fk_of F sc_Lnumber (fun vs H Q E h => len_Lnumber h) (fun cdv A outer s H vs Q E hr h => ⟨t_Lnumber K, ?_, pure_Lnumber T h⟩)
  exact (pss_cons (ps_if (PW.pt (pw_or (pt_cmpR (o_ne hr.units) (pe_callB c_len rfl T.f_len (by decide +kernel) (pa_cons (pv 0) pa_nil)) pe_int (nomark _)) (pw_or1 (pt_cmpR o_nin (pe_ix ix_seq (pv 0) pe_int (fun _ _ => rfl)) (pe_lc (own := [("_law_k", 2)]) rfl sc_Lnumber.nd (pi_range1 rfl T.f_range (pa_cons (pe_op o_add (pv 1) pe_int) pa_nil)) (blkOk_by (own := [("_law_k", 2)]) (N := ["_law_some", "_law_most", "_law_k"]) (sc := defScope s_Lnumber) (by decide +kernel)) (fun _ _ _ _ _ => (pg_name (i := 2) sc_Lnumber.nd rfl (by first | exact Or.inl rfl | exact Or.inr rfl))) (fun _ _ _ _ _ => pts_nil) (fun _ _ _ _ _ => (pe_callTy c_strI rfl T.f_str (by decide +kernel) (pa_cons (pv 2) pa_nil)))) rfl)))) (pss_one (ps_ret pe_non)) pss_nil) (pss_one (ps_ret (pe_callTy c_intS rfl T.f_int (by decide +kernel) (pa_cons (pe_ix ix_seq (pv 0) pe_int (fun _ _ => rfl)) pa_nil)))))
theorem ok_Lis_name {fd : FuncData} (T : Tx K mg) (F : Fn_Lis_name K fd) : Fk P w K mg base 1 (a_Lis_name K) fd ["_law_tag"] (sp_Lis_name K) := by
  refine fk_of F sc_Lis_name (fun vs H Q E h => len_Lis_name h) (fun cdv A outer s H vs Q E hr h => ⟨t_Lis_name K, ?_, pure_Lis_name T h⟩)
  exact (pss_cons (ps_if (PW.pt (pw_or (pt_not (pt_chain o_lt o_lt pe_int (pe_callB c_len rfl T.f_len (by decide +kernel) (pa_cons (pv 0) pa_nil)) pe_int)) (pw_or1 (pt_cmpR o_in (pv 0) (pe_tup (pa_cons pe_str (pa_cons pe_str (pa_cons pe_str pa_nil)))) rfl)))) (pss_one (ps_ret pe_bl)) pss_nil) (pss_one (ps_ret (pe_cmpR (o_eq hr.units) (pe_lc (own := [("_law_sign", 1)]) rfl sc_Lis_name.nd (pi_str (pv 0)) (blkOk_by (own := [("_law_sign", 1)]) (N := ["_law_tag", "_law_sign"]) (sc := defScope s_Lis_name) (by decide +kernel)) (fun _ _ _ _ _ => (pg_name (i := 1) sc_Lis_name.nd rfl (by first | exact Or.inl rfl | exact Or.inr rfl))) (fun _ _ _ _ _ => (pts_one (pt_cmpR op_notInS (pv 1) pe_str rfl))) (fun _ _ _ _ _ => (pv 1))) (pe_lst pa_nil) (nomark _)))))
theorem ok_Lframe_in {fd : FuncData} (T : Tx K mg) (F : Fn_Lframe_in K fd) : Fk P w K mg base 3 (a_Lframe_in K) fd ["_law_rows_so"] (sp_Lframe_in K) := by
  obtain ⟨fd_Lis_name, F_Lis_name⟩ := T.d_Lis_name
  have G_Lis_name := ok_Lis_name (P := P) (w := w) (base := base) T F_Lis_name
  have b_Lis_name := F_Lis_name.bindsN (ps := ["_law_tag"]) fun _ _ _ _ _ _ us hl => match us, hl with | [_], _ => rfl
  obtain ⟨fd_Lnumber, F_Lnumber⟩ := T.d_Lnumber
  have G_Lnumber := ok_Lnumber (P := P) (w := w) (base := base) T F_Lnumber
  have b_Lnumber := F_Lnumber.bindsN (ps := ["_law_some", "_law_most"]) fun _ _ _ _ _ _ us hl => match us, hl with | [_, _], _ => rfl
  obtain ⟨fd_Leg_eq, F_Leg_eq⟩ := T.d_Leg_eq
  have G_Leg_eq := ok_Leg_eq (P := P) (w := w) (base := base) T F_Leg_eq
  have b_Leg_eq := F_Leg_eq.bindsN (ps := ["self", "other"]) fun _ _ _ _ _ _ us hl => match us, hl with | [_, _], _ => rfl
  refine fk_of F sc_Lframe_in (fun vs H Q E h => len_Lframe_in h) (fun cdv A outer s H vs Q E hr h => ⟨t_Lframe_in K, ?_, pure_Lframe_in T h⟩)
  exact (pss_cons (ps_if (PW.pt (pw_or (pt_cmpR (seqC_run (k := 1) true ((eq_same.up (Nat.zero_le _)).or ((eq_own G_Leg_eq T.fn_Leg_eq b_Leg_eq).up (by decide))) (hr.mono (by decide))) (pv 0) (pe_lst pa_nil) (nomark _)) (pw_or1 (pt_cmpR (o_ne hr.units) (pe_ix ix_seq (pe_ix ix_seq (pv 0) pe_int (fun _ _ => rfl)) pe_int (fun _ _ => rfl)) pe_str (nomark _))))) (pss_one (ps_ret (pe_tup (pa_cons pe_int (pa_cons pe_int pa_nil))))) pss_nil) (pss_cons (ps_par (i := 1) (j := 2) rfl sc_Lframe_in.nd rfl rfl (by decide) rfl rfl (pa_cons (pe_ix ix_seq (pv 0) pe_int (fun _ _ => rfl)) (pa_cons (pe_lst pa_nil) pa_nil)) (by rfl)) (pss_cons (ps_if (pt_cmpR (o_inH (k := 0) (hr.mono (by decide))) (pe_fn G_Lnumber (hr.mono (by decide)) rfl T.g_Lnumber F_Lnumber.kp b_Lnumber .nil takes0 (pa_cons (pe_slice sl_u (pv 1) (po_some pe_int) (po_some pe_int)) (pa_cons pe_int pa_nil))) (pe_tup (pa_cons pe_non (pa_cons pe_int pa_nil))) rfl) (pss_one (ps_ret (pe_tup (pa_cons pe_int (pa_cons pe_int pa_nil))))) pss_nil) (pss_cons (ps_for (passes_of rfl) rfl (pi_tup (pe_tup (pa_cons pe_str (pa_cons pe_str pa_nil)))) (pg_name (i := 3) sc_Lframe_in.nd rfl (by first | exact Or.inl rfl | exact Or.inr rfl)) (pss_cons (ps_set (i := 4) sc_Lframe_in.nd rfl (by first | exact Or.inl rfl | exact Or.inr rfl) (pe_op o_add pe_int (pe_callB c_len rfl T.f_len (by decide +kernel) (pa_cons (pv 2) pa_nil)))) (pss_one (ps_set (i := 2) sc_Lframe_in.nd rfl (by first | exact Or.inl rfl | exact Or.inr rfl) (pe_op o_add (pv 2) (pe_op o_mul (pe_lst (pa_cons (pv 3) pa_nil)) (pe_callTy c_int rfl T.f_int (by decide +kernel) (pa_cons (pe_cmpR (o_eq hr.units) (pe_slice sl_u (pv 1) (po_some (pv 4)) (po_some (pe_op o_add (pv 4) pe_int))) (pe_lst (pa_cons (pv 3) pa_nil)) (nomark _)) pa_nil)))))))) (pss_cons (ps_if (pt_cmpR o_gt (pe_callB c_len rfl T.f_len (by decide +kernel) (pa_cons (pv 1) pa_nil)) (pe_op o_add pe_int (pe_callB c_len rfl T.f_len (by decide +kernel) (pa_cons (pv 2) pa_nil))) (nomark _)) (pss_one (ps_ret (pe_tup (pa_cons pe_int (pa_cons (pe_op o_add pe_int (pe_callB c_len rfl T.f_len (by decide +kernel) (pa_cons (pv 2) pa_nil))) pa_nil))))) pss_nil) (pss_cons (ps_set (i := 5) sc_Lframe_in.nd rfl (by first | exact Or.inl rfl | exact Or.inr rfl) (pe_disp (pps_cons pe_str (pe_callTy c_intS rfl T.f_int (by decide +kernel) (pa_cons (pe_ix ix_seq (pv 1) pe_int (fun _ _ => rfl)) pa_nil)) (pps_cons pe_str (pe_lst pa_nil) (pps_cons pe_str (pe_lst pa_nil) (pps_cons pe_str (pv 2) pps_nil)))) (by rfl) (by rfl) (fun z => by cases z) (by decide))) (pss_cons (ps_for (passes_of rfl) rfl (pi_range2 rfl T.f_range (pa_cons pe_int (pa_cons (pe_callB c_len rfl T.f_len (by decide +kernel) (pa_cons (pv 0) pa_nil)) pa_nil))) (pg_name (i := 4) sc_Lframe_in.nd rfl (by first | exact Or.inl rfl | exact Or.inr rfl)) (pss_cons (ps_set (i := 6) sc_Lframe_in.nd rfl (by first | exact Or.inl rfl | exact Or.inr rfl) (pe_ix ix_seq (pv 0) (pv 4) (fun _ _ => rfl))) (pss_cons (ps_if (PW.pt (pw_or (pt_cmpR o_nin (pe_ix ix_seq (pv 6) pe_int (fun _ _ => rfl)) (pe_tup (pa_cons pe_str (pa_cons pe_str pa_nil))) rfl) (pw_or1 (pt_cmpR o_gt (pv 4) pe_int (nomark _))))) (pss_one (ps_ret (pe_tup (pa_cons (pv 4) (pa_cons pe_int pa_nil))))) pss_nil) (pss_cons (ps_set (i := 7) sc_Lframe_in.nd rfl (by first | exact Or.inl rfl | exact Or.inr rfl) (pe_op o_add (pe_dget hr.hu (pv 5) pe_str (fun _ _ => rfl)) (pe_dget hr.hu (pv 5) pe_str (fun _ _ => rfl)))) (pss_cons (ps_if (PW.pt (pw_or (pt_cmpR o_lt (pe_callB c_len rfl T.f_len (by decide +kernel) (pa_cons (pv 6) pa_nil)) pe_int (nomark _)) (pw_or (pt_not (pt_val (pe_fn G_Lis_name (hr.mono (by decide)) rfl T.g_Lis_name F_Lis_name.kp b_Lis_name .nil takes0 (pa_cons (pe_ix ix_seq (pv 6) pe_int (fun _ _ => rfl)) pa_nil)))) (pw_or1 (pt_cmpR o_in (pe_ix ix_seq (pv 6) pe_int (fun _ _ => rfl)) (pv 7) rfl))))) (pss_one (ps_ret (pe_tup (pa_cons (pv 4) (pa_cons pe_int pa_nil))))) pss_nil) (pss_cons (ps_if (pt_cmpR o_gt (pe_callB c_len rfl T.f_len (by decide +kernel) (pa_cons (pv 6) pa_nil)) pe_int (nomark _)) (pss_one (ps_ret (pe_tup (pa_cons (pv 4) (pa_cons pe_int pa_nil))))) pss_nil) (pss_one (ps_dput hr.hu (pv 5) (pe_op o_add (pe_ix ix_seq (pv 6) pe_int (fun _ _ => rfl)) pe_str) (pe_callB cr_sortedS rfl T.f_sorted (by decide +kernel) (pa_cons (pe_op o_add (pe_dget hr.hu (pv 5) (pe_op o_add (pe_ix ix_seq (pv 6) pe_int (fun _ _ => rfl)) pe_str) (fun _ _ => rfl)) (pe_lst (pa_cons (pe_ix ix_seq (pv 6) pe_int (fun _ _ => rfl)) pa_nil))) pa_nil)) rfl)))))))) (pss_one (ps_ret (pv 5))))))))))
theorem ok_Lspoilt {fd : FuncData} (T : Tx K mg) (F : Fn_Lspoilt K fd) : Fk P w K mg base 3 (a_Lspoilt K) fd ["_law_pen_here", "_law_lines"] (sp_Lspoilt K) := by
  obtain ⟨fd_Lpick, F_Lpick⟩ := T.d_Lpick
  have G_Lpick := ok_Lpick (P := P) (w := w) (base := base) T F_Lpick
  have b_Lpick := F_Lpick.bindsN (ps := ["_law_pen_here", "_law_some"]) fun _ _ _ _ _ _ us hl => match us, hl with | [_, _], _ => rfl
  obtain ⟨fd_Ldraw, F_Ldraw⟩ := T.d_Ldraw
  have G_Ldraw := ok_Ldraw (P := P) (w := w) (base := base) T F_Ldraw
  have b_Ldraw := F_Ldraw.bindsN (ps := ["_law_pen_here", "_law_many"]) fun _ _ _ _ _ _ us hl => match us, hl with | [_, _], _ => rfl
  refine fk_of F sc_Lspoilt (fun vs H Q E h => len_Lspoilt h) (fun cdv A outer s H vs Q E hr h => ⟨t_Lspoilt K, ?_, pure_Lspoilt T h⟩)
  exact (pss_cons (ps_set (i := 2) sc_Lspoilt.nd rfl (by first | exact Or.inl rfl | exact Or.inr rfl) (pe_lst (pa_cons pe_str (pa_cons pe_str (pa_cons pe_str (pa_cons pe_str (pa_cons pe_str (pa_cons pe_str (pa_cons pe_str (pa_cons pe_str (pa_cons pe_str (pa_cons pe_str (pa_cons pe_str (pa_cons pe_str (pa_cons pe_str pa_nil))))))))))))))) (pss_cons (ps_set (i := 2) sc_Lspoilt.nd rfl (by first | exact Or.inl rfl | exact Or.inr rfl) (pe_op o_add (pv 2) (pe_lst (pa_cons pe_str (pa_cons pe_str (pa_cons pe_str (pa_cons pe_str (pa_cons pe_str (pa_cons pe_str (pa_cons pe_str (pa_cons pe_str (pa_cons pe_str (pa_cons pe_str (pa_cons pe_str (pa_cons pe_str (pa_cons pe_str (pa_cons pe_str (pa_cons pe_str (pa_cons pe_str (pa_cons pe_str pa_nil)))))))))))))))))))) (pss_cons (ps_set (i := 2) sc_Lspoilt.nd rfl (by first | exact Or.inl rfl | exact Or.inr rfl) (pe_op o_add (pv 2) (pe_lst (pa_cons pe_str (pa_cons pe_str (pa_cons pe_str (pa_cons pe_str (pa_cons pe_str pa_nil)))))))) (pss_cons (ps_setLc (i := 3) (own := [("_law_line", 4)]) rfl sc_Lspoilt.nd rfl rfl (sw_true rfl rfl rfl (by decide +kernel)) (pi_list (pv 1)) (blkOk_by (own := [("_law_line", 4)]) (N := ["_law_pen_here", "_law_lines", "_law_odd", "_law_rows_so", "_law_line", "_law_at", "_law_way", "_law_row", "_law_spot", "_law_found", "_law_more"]) (sc := defScope s_Lspoilt) (by decide +kernel)) (fun _ _ _ _ _ => (pg_name (i := 4) sc_Lspoilt.nd rfl (by first | exact Or.inl rfl | exact Or.inr rfl))) (fun _ _ _ _ _ => pts_nil) (fun _ _ _ _ _ => (pe_splitS (pv 4) pe_str))) (pss_cons (ps_par (i := 5) (j := 6) rfl sc_Lspoilt.nd rfl rfl (by decide) rfl rfl (pa_cons (pe_fn G_Ldraw (hr.mono (by decide)) rfl T.g_Ldraw F_Ldraw.kp b_Ldraw .nil takes0 (pa_cons (pv 0) (pa_cons (pe_callB c_len rfl T.f_len (by decide +kernel) (pa_cons (pv 3) pa_nil)) pa_nil))) (pa_cons (pe_fn G_Ldraw (hr.mono (by decide)) rfl T.g_Ldraw F_Ldraw.kp b_Ldraw .nil takes0 (pa_cons (pv 0) (pa_cons pe_int pa_nil))) pa_nil)) (by rfl)) (pss_cons (ps_set (i := 7) sc_Lspoilt.nd rfl (by first | exact Or.inl rfl | exact Or.inr rfl) (pe_ix ix_seq (pv 3) (pv 5) (fun _ _ => rfl))) (pss_cons (ps_set (i := 8) sc_Lspoilt.nd rfl (by first | exact Or.inl rfl | exact Or.inr rfl) (pe_fn G_Ldraw (hr.mono (by decide)) rfl T.g_Ldraw F_Ldraw.kp b_Ldraw .nil takes0 (pa_cons (pv 0) (pa_cons (pe_callB c_len rfl T.f_len (by decide +kernel) (pa_cons (pv 7) pa_nil)) pa_nil)))) (pss_cons (ps_if (pt_cmpR o_lt (pv 6) pe_int (nomark _)) (pss_one (ps_set (i := 7) sc_Lspoilt.nd rfl (by first | exact Or.inl rfl | exact Or.inr rfl) (pe_op o_add (pe_op o_add (pe_slice sl_u (pv 7) po_none (po_some (pv 8))) (pe_lst (pa_cons (pe_fn G_Lpick (hr.mono (by decide)) rfl T.g_Lpick F_Lpick.kp b_Lpick .nil takes0 (pa_cons (pv 0) (pa_cons (pv 2) pa_nil))) pa_nil))) (pe_slice sl_u (pv 7) (po_some (pe_op o_add (pv 8) pe_int)) po_none)))) pss_nil) (pss_cons (ps_if (pt_cmpR (o_eq hr.units) (pv 6) pe_int (nomark _)) (pss_one (ps_set (i := 7) sc_Lspoilt.nd rfl (by first | exact Or.inl rfl | exact Or.inr rfl) (pe_op o_add (pe_slice sl_u (pv 7) po_none (po_some (pv 8))) (pe_slice sl_u (pv 7) (po_some (pe_op o_add (pv 8) pe_int)) po_none)))) pss_nil) (pss_cons (ps_if (pt_cmpR (o_eq hr.units) (pv 6) pe_int (nomark _)) (pss_one (ps_set (i := 7) sc_Lspoilt.nd rfl (by first | exact Or.inl rfl | exact Or.inr rfl) (pe_op o_add (pe_op o_add (pe_slice sl_u (pv 7) po_none (po_some (pe_op o_add (pv 8) pe_int))) (pe_lst (pa_cons (pe_fn G_Lpick (hr.mono (by decide)) rfl T.g_Lpick F_Lpick.kp b_Lpick .nil takes0 (pa_cons (pv 0) (pa_cons (pv 2) pa_nil))) pa_nil))) (pe_slice sl_u (pv 7) (po_some (pe_op o_add (pv 8) pe_int)) po_none)))) pss_nil) (pss_cons (ps_if (pt_cmpR (o_eq hr.units) (pv 6) pe_int (nomark _)) (pss_one (ps_set (i := 7) sc_Lspoilt.nd rfl (by first | exact Or.inl rfl | exact Or.inr rfl) (pe_op o_add (pv 7) (pe_lst (pa_cons (pe_fn G_Lpick (hr.mono (by decide)) rfl T.g_Lpick F_Lpick.kp b_Lpick .nil takes0 (pa_cons (pv 0) (pa_cons (pv 7) pa_nil))) pa_nil))))) pss_nil) (pss_cons (ps_set (i := 9) sc_Lspoilt.nd rfl (by first | exact Or.inl rfl | exact Or.inr rfl) (pe_op o_add (pe_op o_add (pe_slice sl_u (pv 1) po_none (po_some (pv 5))) (pe_lst (pa_cons (pe_join pe_str (pv 7)) pa_nil))) (pe_slice sl_u (pv 1) (po_some (pe_op o_add (pv 5) pe_int)) po_none))) (pss_cons (ps_if (pt_cmpR (o_eq hr.units) (pv 6) pe_int (nomark _)) (pss_one (ps_set (i := 9) sc_Lspoilt.nd rfl (by first | exact Or.inl rfl | exact Or.inr rfl) (pe_op o_add (pe_op o_add (pe_slice sl_u (pv 1) po_none (po_some (pv 5))) (pe_slice sl_u (pv 1) (po_some (pv 5)) (po_some (pe_op o_add (pv 5) pe_int)))) (pe_slice sl_u (pv 1) (po_some (pv 5)) po_none)))) pss_nil) (pss_cons (ps_if (pt_cmpR (o_eq hr.units) (pv 6) pe_int (nomark _)) (pss_one (ps_set (i := 9) sc_Lspoilt.nd rfl (by first | exact Or.inl rfl | exact Or.inr rfl) (pe_op o_add (pe_slice sl_u (pv 1) po_none (po_some (pv 5))) (pe_slice sl_u (pv 1) (po_some (pe_op o_add (pv 5) pe_int)) po_none)))) pss_nil) (pss_cons (ps_if (pt_cmpR (o_eq hr.units) (pv 6) pe_int (nomark _)) (pss_cons (ps_set (i := 10) sc_Lspoilt.nd rfl (by first | exact Or.inl rfl | exact Or.inr rfl) (pe_slice sl_u (pe_lst (pa_cons (pe_fn G_Lpick (hr.mono (by decide)) rfl T.g_Lpick F_Lpick.kp b_Lpick .nil takes0 (pa_cons (pv 0) (pa_cons (pv 2) pa_nil))) (pa_cons (pe_fn G_Lpick (hr.mono (by decide)) rfl T.g_Lpick F_Lpick.kp b_Lpick .nil takes0 (pa_cons (pv 0) (pa_cons (pv 2) pa_nil))) pa_nil))) po_none (po_some (pe_op o_add pe_int (pe_fn G_Ldraw (hr.mono (by decide)) rfl T.g_Ldraw F_Ldraw.kp b_Ldraw .nil takes0 (pa_cons (pv 0) (pa_cons pe_int pa_nil))))))) (pss_one (ps_set (i := 9) sc_Lspoilt.nd rfl (by first | exact Or.inl rfl | exact Or.inr rfl) (pe_op o_add (pe_op o_add (pe_slice sl_u (pv 1) po_none (po_some (pv 5))) (pe_lst (pa_cons (pe_join pe_str (pv 10)) pa_nil))) (pe_slice sl_u (pv 1) (po_some (pv 5)) po_none))))) pss_nil) (pss_one (ps_ret (pe_ifExp (pt_cmpR o_lt (pv 6) pe_int (nomark _)) (pv 9) (pe_op o_add (pv 1) (pe_lst (pa_cons pe_str pa_nil)))))))))))))))))))))
theorem gv_Lheard {X : Cx} {k : Nat} {cdv : Value} {q : Str} (hk : 1 ≤ k + 1) (T : Tx X.K X.mg) : GivesR X k ["_law_ask", "error"] "_law_heard" (defScope s_Lheard) (a_Lheard X.K) cdv (defBody s_Lheard) "_law_ask" q (TT_Lheard X.K) := fun f c s H Q tl hr act hc h => ⟨t_Lheard X.K f c q tl, (pss_cons (ps_tryK (i := 1) rfl rfl sc_Lheard.nd rfl rfl rfl T.g_JoinError takes0 (fun W pn xe tk pso => (pss_one (ps_ret (pe_lst (pa_cons (act _ _ _ _ _ tk) pa_nil))))) (fun a oe cls d pn hz hf => (pss_rtN (pss_one (ps_if (PW.pt (pw_and (pt_val (pe_callB (c_isiP hz hf) rfl T.f_isinstance (by decide +kernel) (pa_cons (pv 1) (pa_cons (pe_glob rfl T.g_InvalidText rfl) pa_nil)))) (pw_and1 (pt_val (pe_callB (c_isiP hz hf) rfl T.f_isinstance (by decide +kernel) (pa_cons (pv 1) (pa_cons (pe_bltn (v := .ty "ValueError") rfl T.f_ValueError (by decide +kernel) rfl) pa_nil))))))) (pss_one (ps_ret (pe_tup (pa_cons (pe_xf T.x_InvalidText.xf T.xn_line hz hf (pv 1)) (pa_cons (pe_xf T.x_InvalidText.xf T.xn_word hz hf (pv 1)) pa_nil))))) pss_nil))))) (pss_one (ps_ret pe_str))), pure_Lheard T h hc⟩
theorem ok_Lright {fd : FuncData} (T : Tx K mg) (F : Fn_Lright K fd) (hP : P = PySem.Challenge.pw_strayjoins_k86_frames_refused) (hB : ∀ q ∈ tf.map (cTA K), LamX.TabB base mg q.1 q.2) : Fk P w K mg base 12 (a_Lright K) fd ["_law_text_so"] (sp_Lright K) := by
  obtain ⟨fd_Lframe, F_Lframe⟩ := T.d_Lframe
  have G_Lframe := ok_Lframe (P := P) (w := w) (base := base) T F_Lframe hP hB
  have b_Lframe := F_Lframe.bindsN (ps := ["_law_bare_here"]) fun _ _ _ _ _ _ us hl => match us, hl with | [_], _ => rfl
  obtain ⟨fd_Frame_eq, F_Frame_eq⟩ := T.d_Frame_eq
  have G_Frame_eq := ok_Frame_eq (P := P) (w := w) (base := base) T F_Frame_eq
  have b_Frame_eq := F_Frame_eq.bindsN (ps := ["self", "other"]) fun _ _ _ _ _ _ us hl => match us, hl with | [_, _], _ => rfl
  obtain ⟨fd_Lheard, F_Lheard⟩ := T.d_Lheard
  have b_Lheard := F_Lheard.bindsN (ps := ["_law_ask"]) fun _ _ _ _ _ _ us hl => match us, hl with | [_], _ => rfl
  obtain ⟨fd_read_frame, F_read_frame⟩ := T.d_read_frame
  have G_read_frame := ok_read_frame (P := P) (w := w) (base := base) T F_read_frame hP hB
  have b_read_frame := F_read_frame.bindsN (ps := ["text"]) fun _ _ _ _ _ _ us hl => match us, hl with | [_], _ => rfl
  obtain ⟨fd_Lframe_in, F_Lframe_in⟩ := T.d_Lframe_in
  have G_Lframe_in := ok_Lframe_in (P := P) (w := w) (base := base) T F_Lframe_in
  have b_Lframe_in := F_Lframe_in.bindsN (ps := ["_law_rows_so"]) fun _ _ _ _ _ _ us hl => match us, hl with | [_], _ => rfl
  have mem_T_Lright : ((cTA K d_Lright).2, ("_law_right" : Str) ++ ".<locals>." ++ "<lambda>") ∈ TB K := List.mem_of_getElem? (i := 1) rfl
  have uni_T_Lright : ∀ p ∈ TB K, p.1 = (cTA K d_Lright).2 → p.2 = ("_law_right" : Str) ++ ".<locals>." ++ "<lambda>" := fun p hp e => by
    rcases List.mem_cons.mp hp with rfl | hp
    · exact absurd e T.ta_Frame_init_Lright
    rcases List.mem_cons.mp hp with rfl | hp
    · rfl
    rcases List.mem_cons.mp hp with rfl | hp
    · exact absurd e.symm T.ta_Lright_Lmany_right
    rcases List.mem_singleton.mp hp with rfl
    exact absurd e.symm T.ta_Lright_law
  refine fkC_of F sc_Lright (fun vs H Q E h => len_Lright h) (fun cdv hcv A outer s H vs Q E hr h => ⟨t_Lright K, ?_, pure_Lright T h⟩)
  exact (pss_cons (ps_set (i := 1) sc_Lright.nd rfl (by first | exact Or.inl rfl | exact Or.inr rfl) (pe_fn G_Lframe_in (hr.mono (by decide)) rfl T.g_Lframe_in F_Lframe_in.kp b_Lframe_in .nil takes0 (pa_cons (pe_lc (own := [("_law_line", 2)]) rfl sc_Lright.nd (pi_list (pe_splitS (pv 0) pe_str)) (blkOk_by (own := [("_law_line", 2)]) (N := ["_law_text_so", "_law_due", "_law_line", "_law_told"]) (sc := defScope s_Lright) (by decide +kernel)) (fun _ _ _ _ _ => (pg_name (i := 2) sc_Lright.nd rfl (by first | exact Or.inl rfl | exact Or.inr rfl))) (fun _ _ _ _ _ => pts_nil) (fun _ _ _ _ _ => (pe_splitS (pv 2) pe_str))) pa_nil))) (pss_cons (ps_set (i := 3) sc_Lright.nd rfl (by first | exact Or.inl rfl | exact Or.inr rfl) (pe_lamR (k := 9) F_Lheard rfl T.g_Lheard F_Lheard.kp b_Lheard sc_Lheard rfl (.inl rfl) (fun cdv => gv_Lheard (by decide) T) (hB _ (mem_tab_Lright)) hcv mem_T_Lright uni_T_Lright (hr.mono (by decide)) (lamS_by (sc := defScope s_Lright) (by decide +kernel)) rfl (fun _ _ _ _ _ => rfl) (fun A o2 s2 H2 E fl cl hr => pe_tS takes_lam fun W tk => (pe_fn G_read_frame (hr.mono (by decide)) rfl T.g_read_frame F_read_frame.kp b_read_frame .nil tk (pa_cons (pv 0) pa_nil))))) (pss_cons (ps_if (pt_val (pe_callB c_isi rfl T.f_isinstance (by decide +kernel) (pa_cons (pv 1) (pa_cons (pe_bltn (v := .ty "tuple") rfl T.f_tuple (by decide +kernel) rfl) pa_nil)))) (pss_one (ps_ret (pe_and (pe_cmpR (o_eq hr.units) (pe_callB (c_reprU T.sys hr) rfl T.f_repr (by decide +kernel) (pa_cons (pv 3) pa_nil)) (pe_callB (c_reprU T.sys hr) rfl T.f_repr (by decide +kernel) (pa_cons (pv 1) pa_nil)) (nomark _)) (pe_one (pe_cmpR (o_eq hr.units) (pe_lamR (k := 9) F_Lheard rfl T.g_Lheard F_Lheard.kp b_Lheard sc_Lheard rfl (.inl rfl) (fun cdv => gv_Lheard (by decide) T) (hB _ (mem_tab_Lright)) hcv mem_T_Lright uni_T_Lright (hr.mono (by decide)) (lamS_by (sc := defScope s_Lright) (by decide +kernel)) rfl (fun _ _ _ _ _ => rfl) (fun A o2 s2 H2 E fl cl hr => pe_tS takes_lam fun W tk => (pe_fnK0 G_read_frame (hr.mono (by decide)) rfl T.g_read_frame F_read_frame.kp (kb_read_frame_0_text F_read_frame) tk (pk_cons (pv 0) pk_nil)))) (pv 1) (nomark _)))))) pss_nil) (pss_one (ps_ret (pe_cmpR (seqC_run (k := 3) true ((eq_same.up (Nat.zero_le _)).or ((eq_own G_Frame_eq T.fn_Frame_eq b_Frame_eq).up (by decide))) (hr.mono (by decide))) (pv 3) (pe_lst (pa_cons (pe_fn G_Lframe (hr.mono (by decide)) rfl T.g_Lframe F_Lframe.kp b_Lframe .nil takes0 (pa_cons (pv 1) pa_nil)) pa_nil)) (nomark _)))))))
theorem ok_Lmany_right {fd : FuncData} (T : Tx K mg) (F : Fn_Lmany_right K fd) (hP : P = PySem.Challenge.pw_strayjoins_k86_frames_refused) (hB : ∀ q ∈ tf.map (cTA K), LamX.TabB base mg q.1 q.2) : Fk P w K mg base 13 (a_Lmany_right K) fd [] (sp_Lmany_right K) := by
  obtain ⟨fd_Lheard, F_Lheard⟩ := T.d_Lheard
  have b_Lheard := F_Lheard.bindsN (ps := ["_law_ask"]) fun _ _ _ _ _ _ us hl => match us, hl with | [_], _ => rfl
  obtain ⟨fd_read_frame, F_read_frame⟩ := T.d_read_frame
  have G_read_frame := ok_read_frame (P := P) (w := w) (base := base) T F_read_frame hP hB
  have b_read_frame := F_read_frame.bindsN (ps := ["text"]) fun _ _ _ _ _ _ us hl => match us, hl with | [_], _ => rfl
  obtain ⟨fd_Lright, F_Lright⟩ := T.d_Lright
  have G_Lright := ok_Lright (P := P) (w := w) (base := base) T F_Lright hP hB
  have b_Lright := F_Lright.bindsN (ps := ["_law_text_so"]) fun _ _ _ _ _ _ us hl => match us, hl with | [_], _ => rfl
  have mem_T_Lmany_right : ((cTA K d_Lmany_right).2, ("_law_many_right" : Str) ++ ".<locals>." ++ "<lambda>") ∈ TB K := List.mem_of_getElem? (i := 2) rfl
  have uni_T_Lmany_right : ∀ p ∈ TB K, p.1 = (cTA K d_Lmany_right).2 → p.2 = ("_law_many_right" : Str) ++ ".<locals>." ++ "<lambda>" := fun p hp e => by
    rcases List.mem_cons.mp hp with rfl | hp
    · exact absurd e T.ta_Frame_init_Lmany_right
    rcases List.mem_cons.mp hp with rfl | hp
    · exact absurd e T.ta_Lright_Lmany_right
    rcases List.mem_cons.mp hp with rfl | hp
    · rfl
    rcases List.mem_singleton.mp hp with rfl
    exact absurd e.symm T.ta_Lmany_right_law
  refine fkC_of F sc_Lmany_right (fun vs H Q E h => len_Lmany_right h) (fun cdv hcv A outer s H vs Q E hr h => ⟨t_Lmany_right K, ?_, pure_Lmany_right T h⟩)
  exact (pss_cons (ps_setLc (i := 0) (own := [("_law_k", 1)]) rfl sc_Lmany_right.nd rfl rfl (sw_true rfl rfl rfl (by decide +kernel)) (pi_range1 rfl T.f_range (pa_cons pe_int pa_nil)) (blkOk_by (own := [("_law_k", 1)]) (N := ["_law_tags", "_law_k", "_law_lines", "_law_tag"]) (sc := defScope s_Lmany_right) (by decide +kernel)) (fun _ _ _ _ _ => (pg_name (i := 1) sc_Lmany_right.nd rfl (by first | exact Or.inl rfl | exact Or.inr rfl))) (fun _ _ _ _ _ => pts_nil) (fun _ _ _ _ _ => (pe_op o_add (pe_ix ix_seq pe_str (pe_op o_fdv (pv 1) pe_int) (fun _ _ => rfl)) (pe_ix ix_seq pe_str (pe_op o_mod (pe_callTy c_int rfl T.f_int (by decide +kernel) (pa_cons (pv 1) pa_nil)) pe_int) (fun _ _ => rfl))))) (pss_cons (ps_set (i := 2) sc_Lmany_right.nd rfl (by first | exact Or.inl rfl | exact Or.inr rfl) (pe_op o_add (pe_lst (pa_cons pe_str pa_nil)) (pe_lc (own := [("_law_tag", 3)]) rfl sc_Lmany_right.nd (pi_list (pv 0)) (blkOk_by (own := [("_law_tag", 3)]) (N := ["_law_tags", "_law_k", "_law_lines", "_law_tag"]) (sc := defScope s_Lmany_right) (by decide +kernel)) (fun _ _ _ _ _ => (pg_name (i := 3) sc_Lmany_right.nd rfl (by first | exact Or.inl rfl | exact Or.inr rfl))) (fun _ _ _ _ _ => pts_nil) (fun _ _ _ _ _ => (pe_op o_add pe_str (pv 3)))))) (pss_one (ps_ret (pe_and (pe_fn G_Lright (hr.mono (by decide)) rfl T.g_Lright F_Lright.kp b_Lright .nil takes0 (pa_cons (pe_join pe_str (pv 2)) pa_nil)) (pe_one (pe_cmpR (o_eq hr.units) (pe_lamR (k := 9) F_Lheard rfl T.g_Lheard F_Lheard.kp b_Lheard sc_Lheard rfl (.inl rfl) (fun cdv => gv_Lheard (by decide) T) (hB _ (mem_tab_Lmany_right)) hcv mem_T_Lmany_right uni_T_Lmany_right (hr.mono (by decide)) (lamS_by (sc := defScope s_Lmany_right) (by decide +kernel)) rfl (fun _ _ _ _ _ => rfl) (fun A o2 s2 H2 E fl cl hr => pe_tS takes_lam fun W tk => (pe_fn G_read_frame (hr.mono (by decide)) rfl T.g_read_frame F_read_frame.kp b_read_frame .nil tk (pa_cons (pe_join pe_str (pe_op o_add (pv 2) (pe_lst (pa_cons pe_str pa_nil)))) pa_nil)))) (pe_tup (pa_cons pe_int (pa_cons pe_int pa_nil))) (nomark _))))))))
theorem ok_law {fd : FuncData} (T : Tx K mg) (F : Fn_law K fd) (hP : P = PySem.Challenge.pw_strayjoins_k86_frames_refused) (hB : ∀ q ∈ tf.map (cTA K), LamX.TabB base mg q.1 q.2) : Fk P w K mg base 14 (a_law K) fd ["_law_script"] (sp_law K) := by
  obtain ⟨fd_Lmany_right, F_Lmany_right⟩ := T.d_Lmany_right
  have G_Lmany_right := ok_Lmany_right (P := P) (w := w) (base := base) T F_Lmany_right hP hB
  have b_Lmany_right := F_Lmany_right.bindsN (ps := []) fun _ _ _ _ _ _ us hl => match us, hl with | [], _ => rfl
  obtain ⟨fd_Lright, F_Lright⟩ := T.d_Lright
  have G_Lright := ok_Lright (P := P) (w := w) (base := base) T F_Lright hP hB
  have b_Lright := F_Lright.bindsN (ps := ["_law_text_so"]) fun _ _ _ _ _ _ us hl => match us, hl with | [_], _ => rfl
  obtain ⟨fd_Lheard, F_Lheard⟩ := T.d_Lheard
  have b_Lheard := F_Lheard.bindsN (ps := ["_law_ask"]) fun _ _ _ _ _ _ us hl => match us, hl with | [_], _ => rfl
  obtain ⟨fd_read_frame, F_read_frame⟩ := T.d_read_frame
  have G_read_frame := ok_read_frame (P := P) (w := w) (base := base) T F_read_frame hP hB
  have b_read_frame := F_read_frame.bindsN (ps := ["text"]) fun _ _ _ _ _ _ us hl => match us, hl with | [_], _ => rfl
  obtain ⟨fd_Ldraw, F_Ldraw⟩ := T.d_Ldraw
  have G_Ldraw := ok_Ldraw (P := P) (w := w) (base := base) T F_Ldraw
  have b_Ldraw := F_Ldraw.bindsN (ps := ["_law_pen_here", "_law_many"]) fun _ _ _ _ _ _ us hl => match us, hl with | [_, _], _ => rfl
  obtain ⟨fd_Lspoilt, F_Lspoilt⟩ := T.d_Lspoilt
  have G_Lspoilt := ok_Lspoilt (P := P) (w := w) (base := base) T F_Lspoilt
  have b_Lspoilt := F_Lspoilt.bindsN (ps := ["_law_pen_here", "_law_lines"]) fun _ _ _ _ _ _ us hl => match us, hl with | [_, _], _ => rfl
  obtain ⟨fd_Lframe_lines, F_Lframe_lines⟩ := T.d_Lframe_lines
  have G_Lframe_lines := ok_Lframe_lines (P := P) (w := w) (base := base) T F_Lframe_lines
  have b_Lframe_lines := F_Lframe_lines.bindsN (ps := ["_law_bare_here"]) fun _ _ _ _ _ _ us hl => match us, hl with | [_], _ => rfl
  obtain ⟨fd_Lbare, F_Lbare⟩ := T.d_Lbare
  have G_Lbare := ok_Lbare (P := P) (w := w) (base := base) T F_Lbare
  have b_Lbare := F_Lbare.bindsN (ps := ["_law_pen_here", "_law_most"]) fun _ _ _ _ _ _ us hl => match us, hl with | [_, _], _ => rfl
  obtain ⟨fd_Lpen, F_Lpen⟩ := T.d_Lpen
  have G_Lpen := ok_Lpen (P := P) (w := w) (base := base) T F_Lpen
  have b_Lpen := F_Lpen.bindsN (ps := ["_law_script"]) fun _ _ _ _ _ _ us hl => match us, hl with | [_], _ => rfl
  have mem_T_law : ((cTA K d_law).2, ("law" : Str) ++ ".<locals>." ++ "<lambda>") ∈ TB K := List.mem_of_getElem? (i := 3) rfl
  have uni_T_law : ∀ p ∈ TB K, p.1 = (cTA K d_law).2 → p.2 = ("law" : Str) ++ ".<locals>." ++ "<lambda>" := fun p hp e => by
    rcases List.mem_cons.mp hp with rfl | hp
    · exact absurd e T.ta_Frame_init_law
    rcases List.mem_cons.mp hp with rfl | hp
    · exact absurd e T.ta_Lright_law
    rcases List.mem_cons.mp hp with rfl | hp
    · exact absurd e T.ta_Lmany_right_law
    rcases List.mem_singleton.mp hp with rfl
    rfl
  refine fkC_of F sc_law (fun vs H Q E h => len_law h) (fun cdv hcv A outer s H vs Q E hr h => ⟨t_law K, ?_, pure_law T h⟩)
  exact (pss_cons (ps_set (i := 1) sc_law.nd rfl (by first | exact Or.inl rfl | exact Or.inr rfl) (pe_fn G_Lpen (hr.mono (by decide)) rfl T.g_Lpen F_Lpen.kp b_Lpen .nil takes0 (pa_cons (pv 0) pa_nil))) (pss_cons (ps_for (passes_of rfl) rfl (pi_range1 rfl T.f_range (pa_cons pe_int pa_nil)) (pg_name (i := 2) sc_law.nd rfl (by first | exact Or.inl rfl | exact Or.inr rfl)) (pss_cons (ps_set (i := 3) sc_law.nd rfl (by first | exact Or.inl rfl | exact Or.inr rfl) (pe_fn G_Lframe_lines (hr.mono (by decide)) rfl T.g_Lframe_lines F_Lframe_lines.kp b_Lframe_lines .nil takes0 (pa_cons (pe_fn G_Lbare (hr.mono (by decide)) rfl T.g_Lbare F_Lbare.kp b_Lbare .nil takes0 (pa_cons (pv 1) (pa_cons pe_int pa_nil))) pa_nil))) (pss_cons (ps_for (passes_of rfl) rfl (pi_range1 rfl T.f_range (pa_cons (pe_op o_add pe_int (pe_fn G_Ldraw (hr.mono (by decide)) rfl T.g_Ldraw F_Ldraw.kp b_Ldraw .nil takes0 (pa_cons (pv 1) (pa_cons pe_int pa_nil)))) pa_nil)) (pg_name (i := 4) sc_law.nd rfl (by first | exact Or.inl rfl | exact Or.inr rfl)) (pss_one (ps_set (i := 3) sc_law.nd rfl (by first | exact Or.inl rfl | exact Or.inr rfl) (pe_ifExp (pt_cmpR (o_ne hr.units) (pv 3) (pe_lst pa_nil) (nomark _)) (pe_fn G_Lspoilt (hr.mono (by decide)) rfl T.g_Lspoilt F_Lspoilt.kp b_Lspoilt .nil takes0 (pa_cons (pv 1) (pa_cons (pv 3) pa_nil))) (pv 3))))) (pss_one (ps_if (pt_not (pt_val (pe_fn G_Lright (hr.mono (by decide)) rfl T.g_Lright F_Lright.kp b_Lright .nil takes0 (pa_cons (pe_join pe_str (pv 3)) pa_nil)))) (pss_one (ps_ret pe_bl)) pss_nil))))) (pss_cons (ps_for (passes_of rfl) rfl (pi_tup (pe_tup (pa_cons pe_non (pa_cons pe_int (pa_cons pe_bl (pa_cons (pe_tup pa_nil) (pa_cons (pe_lst pa_nil) (pa_cons pe_dnewK (pa_cons (pe_lst (pa_cons pe_str pa_nil)) pa_nil))))))))) (pg_name (i := 5) sc_law.nd rfl (by first | exact Or.inl rfl | exact Or.inr rfl)) (pss_one (ps_if (pt_cmpR (o_ne hr.units) (pe_lamR (k := 9) F_Lheard rfl T.g_Lheard F_Lheard.kp b_Lheard sc_Lheard rfl (.inl rfl) (fun cdv => gv_Lheard (by decide) T) (hB _ (mem_tab_law)) hcv mem_T_law uni_T_law (hr.mono (by decide)) (lamS_by (sc := defScope s_law) (by decide +kernel)) rfl (fun _ _ _ _ _ => rfl) (fun A o2 s2 H2 E fl cl hr => pe_tS takes_lam fun W tk => (pe_fn G_read_frame (hr.mono (by decide)) rfl T.g_read_frame F_read_frame.kp b_read_frame .nil tk (pa_cons (pv 5) pa_nil)))) (pe_tup (pa_cons pe_int (pa_cons pe_int pa_nil))) (nomark _)) (pss_one (ps_ret pe_bl)) pss_nil))) (pss_cons (ps_set (i := 6) sc_law.nd rfl (by first | exact Or.inl rfl | exact Or.inr rfl) (pe_lst (pa_cons pe_str (pa_cons pe_str (pa_cons pe_str (pa_cons pe_str (pa_cons pe_str (pa_cons pe_str (pa_cons pe_str pa_nil))))))))) (pss_cons (ps_set (i := 6) sc_law.nd rfl (by first | exact Or.inl rfl | exact Or.inr rfl) (pe_op o_add (pv 6) (pe_lst (pa_cons pe_str (pa_cons pe_str pa_nil))))) (pss_cons (ps_set (i := 6) sc_law.nd rfl (by first | exact Or.inl rfl | exact Or.inr rfl) (pe_op o_add (pv 6) (pe_lst (pa_cons pe_str (pa_cons pe_str (pa_cons pe_str (pa_cons pe_str pa_nil))))))) (pss_one (ps_ret (pe_and (pe_cmpR (o_eq hr.units) (pe_lc (own := [("_law_text_so", 7)]) rfl sc_law.nd (pi_list (pv 6)) (blkOk_by (own := [("_law_text_so", 7)]) (N := ["_law_script", "_law_pen_here", "_law_turn", "_law_lines", "_law_again", "_law_odd", "_law_some", "_law_text_so"]) (sc := defScope s_law) (by decide +kernel)) (fun _ _ _ _ _ => (pg_name (i := 7) sc_law.nd rfl (by first | exact Or.inl rfl | exact Or.inr rfl))) (fun _ _ _ _ _ => (pts_one (pt_not (pt_val (pe_fn G_Lright (hr.mono (by decide)) rfl T.g_Lright F_Lright.kp b_Lright .nil takes0 (pa_cons (pv 7) pa_nil)))))) (fun _ _ _ _ _ => (pv 7))) (pe_lst pa_nil) (nomark _)) (pe_one (pe_fn0 G_Lmany_right (hr.mono (by decide)) rfl T.g_Lmany_right F_Lmany_right.kp b_Lmany_right .nil takes0)))))))))))
end
end K86
open PySem PySem.W PySem.Calls PyProof.Rows in
set_option maxRecDepth 100000 in
set_option maxHeartbeats 0 in
theorem PySem.Challenge.cw_strayjoins_k86_frames_refused_holds : PySem.Challenge.rw_strayjoins_k86_frames_refused.Holds := by
  w_on; o_law
  refine HandSHeadRun.head_any (r := OpenLaw.row PySem.Challenge.rw_strayjoins_k86_frames_refused) (q := view (OpenLaw.row PySem.Challenge.rw_strayjoins_k86_frames_refused).prog [47]) (H := K86.hk) (ob := K86.ob) (M := 12000) (loose := K86.loose) (d := HandSHeadRun.topDef (OpenLaw.row PySem.Challenge.rw_strayjoins_k86_frames_refused).prog 47) (kwd := []) K86.ob_eq
    (by kernel_rfl) (fun s => by kernel_rfl) K86.run (by kernel_rfl) (by kernel_rfl) (by kernel_rfl) (by rfl) (by first | assumption | decide +kernel) (by decide +kernel) ⟨rfl, rfl, rfl, rfl, rfl, by decide +kernel⟩ ?hw ?hc
  case hw => w_witness2
  case hc =>
    refine SJ.walk_tab (l := PySem.Challenge.rw_strayjoins_k86_frames_refused) (n := 63) (k := 14) (x := "_law_script") rfl (by decide) (by kernel_rfl) ⟨⟨rfl, by decide, by decide⟩, rfl⟩ ?F
    intro w mg fa h Y G hmg0
    obtain ⟨K, KX, c⟩ := Y
    have T := K86.tx_of KX G c.z
    have hmg : mg ("law" : PySem.Str) = some (.ref fa) := by
      have e : (HandSHeadRun.topDef (OpenLaw.row PySem.Challenge.rw_strayjoins_k86_frames_refused).prog 47).name = ("law" : PySem.Str) := by kernel_rfl
      rw [← e]
      exact hmg0
    obtain ⟨fd, F⟩ := T.d_law
    obtain rfl : fa = K86.a_law K := by
      have e := hmg.symm.trans T.g_law
      cases e; rfl
    have b := L2.FunD.bindsA (ps := ["_law_script"]) F fun _ _ _ _ _ _ us hl => match us, hl with | [_], _ => rfl
    exact ⟨K, fd, _, K86.sp_law K, KX, c.tabs KX, fun s v => b s [v] rfl, fun H a ns hl hT hS ho => K86.law_sp hl hT hS ho, fun base _ _ hB => K86.ok_law T F rfl hB⟩
