import PyProof.Rows.All
import Wide.All
import OpenK.AllK
import Wide.FinOn
import KE.KStateDown
import Lean
import HandS.ForMost
import HandS.ForExc
import HandS.Defaults
import HandS.Property
import HandS.IsInst
import HandS.Head0
import HandS.Head1
import HandS.Head2
import HandS.HeadEnd
import HandS.HeadHook1
import HandS.HeadHook2
import HandS.FStr
import HandS.Flow
import HandS.MakeKw
import HandS.MakeKwOnly
import HandS.ExcField
import HandS.ExcInit
import HandS.Star
import HandS.Evl
import HandS.TupAny
import HandS.TupMul
import HandS.Style
import HandS.Wide
import HandS.WideBits
import HandS.Strs
import HandS.StrMore
import HandS.CallSlots
import KE.KCallOwn
import PyProof.InstNe
import KE.KExcSuper
import HandS.TryOnly
import HandS.Steps
import HandS.ClsMeth
import HandS.Words
import PySem.Challenge.RW_strayjoins_k02_legs
set_option Elab.async false
set_option linter.all false
set_option maxRecDepth 100000
set_option maxHeartbeats 4000000
/-! SJHead: facts of the top's end, read by one observation: a list of tests over the written part, and the defs by any path. -/
namespace SJ
open PySem PySem.Spec PyProof.Rows L2 He
/-- a def and the path to it -/
structure DD where
  ad : PySem.W.Frag → Addr
  name : Str
  qual : Str
  params : Arguments
  body : List Stmt
  scope : Scope
  dfl : List Dv := []
def fnA (K : PySem.W.Frag) (a : Addr) : FnW := match K.lookup a with
  | some ⟨_, _, .func fd, _⟩ => some (fd.name, fd.qualname, fd.params, fd.body, fd.scope, fd.globals, fd.closure, fd.builtins)
  | _ => none
def DD.val (d : DD) : FnW := some (d.name, d.qual, d.params, .stmts d.body, d.scope, mainGlobals, [], builtinsNs)
def DD.dvs (K : PySem.W.Frag) (d : DD) : List V := d.dfl.map (Dv.v K)
def DD.ok (K : PySem.W.Frag) (d : DD) : Bool := PySem.W.keepIn K (.ref (d.ad K)) && (match K.lookup (d.ad K) with
  | some ⟨_, _, .func fd, _⟩ => PySem.W.codeIn K fd.code d.qual && dflB K fd.defaults (d.dvs K)
  | _ => false)
theorem DD.funD {K : PySem.W.Frag} {d : DD} (e : fnA K (d.ad K) = d.val) (c : d.ok K = true) : ∃ fd, FunD K d.name d.qual d.params d.body d.scope (d.dvs K) [] (d.ad K) fd := by
  obtain ⟨kp, c2⟩ := ba c
  unfold fnA at e
  cases q : K.lookup (d.ad K) with
  | none => rw [q] at c2; cases c2
  | some o =>
    obtain ⟨oc, od, dt, osl⟩ := o
    rw [q] at c2 e
    cases dt with
    | func fd =>
      obtain ⟨m1, m2, m3, m4, m5, m6, m7, m8, m9, m10, m11, m12, m13, m14, m15⟩ := fd
      have e2 : (some (m1, m2, m3, m4, m5, m6, m7, m15) : FnW) = some (d.name, d.qual, d.params, .stmts d.body, d.scope, mainGlobals, [], builtinsNs) := e
      simp only [Option.some.injEq, Prod.mk.injEq] at e2
      obtain ⟨g1, g2, g3, g4, g5, g6, g7, g8⟩ := e2
      subst g1 g2 g3 g4 g5 g6 g7 g8
      obtain ⟨k1, k3⟩ := ba (show (PySem.W.codeIn K m13 d.qual && dflB K m8 (d.dvs K)) = true from c2)
      exact ⟨_, ⟨oc, od, m8, m9, m10, m11, m12, m13, m14, osl, rfl, q, k1, dflB_ok k3, .inl rfl⟩, kp⟩
    | _ => cases c2
abbrev Tst := PySem.W.Frag → Bool
abbrev AlS : Type := Bool × List FnW
def obsS (fa : List Tst) (fn : List DD) (K : PySem.W.Frag) : AlS := ((fa.all fun f => f K) && fn.all fun d => d.ok K, fn.map fun d => fnA K (d.ad K))
def valS (fn : List DD) : AlS := (true, fn.map DD.val)
def SaysS (fa : List Tst) (fn : List DD) (K : PySem.W.Frag) : Prop := obsS fa fn K = valS fn
def obsSG (n : Nat) (fa : List Tst) (fn : List DD) (g : Addr → Option Obj) : AlS := obsS fa fn (frG g (asD g n))
def hookS (n : Nat) (fa : List Tst) (fn : List DD) : PySem.W.Hook where
  α := AlS
  obs := fun s => obsSG n fa fn s.heap.get?
  val := fun _ => valS fn
  says := fun _ h => ∃ K : PySem.W.Frag, K.In h ∧ SaysS fa fn K
  of := fun _ _ e => ⟨_, frG_in, e⟩
  keeps := fun _ _ _ ⟨K, hK, c⟩ k => ⟨K, PySem.W.Frag.In.keeps hK k, c⟩
theorem obsSG_eq {n : Nat} {fa : List Tst} {fn : List DD} {g : Addr → Option Obj} {s : Shared} (h : ∀ a, g a = s.heap.get? a) : obsSG n fa fn g = (hookS n fa fn).obs s := by
  have e : g = s.heap.get? := funext h
  rw [e] <;> rfl
section
variable {fa : List Tst} {fn : List DD} {K : PySem.W.Frag}
theorem SaysS.fact (c : SaysS fa fn K) (i : Nat) {f : Tst} (h : fa[i]? = some f := by rfl) : f K = true := by
  have c1 := (ba (show ((fa.all fun f => f K) && fn.all fun d => d.ok K) = true from congrArg (fun z : AlS => z.1) c)).1
  exact List.all_eq_true.mp c1 f (List.mem_of_getElem? h)
theorem SaysS.def_ (c : SaysS fa fn K) (i : Nat) {d : DD} (h : fn[i]? = some d := by rfl) : ∃ fd, FunD K d.name d.qual d.params d.body d.scope (d.dvs K) [] (d.ad K) fd := by
  have c2 := (ba (show ((fa.all fun f => f K) && fn.all fun d => d.ok K) = true from congrArg (fun z : AlS => z.1) c)).2
  have e : fn.map (fun d => fnA K (d.ad K)) = fn.map DD.val := congrArg (fun z : AlS => z.2) c
  have e2 : (fn.map fun d => fnA K (d.ad K))[i]? = (fn.map DD.val)[i]? := by rw [e]
  rw [List.getElem?_map, List.getElem?_map, h] at e2
  exact DD.funD (Option.some.inj e2) (List.all_eq_true.mp c2 d (List.mem_of_getElem? h))
end
/-- a property's own address, its getter -/
def pgA (x f : Str) (K : PySem.W.Frag) : Addr := match PySem.W.recIn K (ma K (ga K x) f) "property" with
  | some (.ref g :: _) => g
  | _ => 0
def propB (x f : Str) : Tst := fun K => eqO (PySem.W.findIn K (.ref (ga K x)) f) (some (some (.ref (ma K (ga K x) f)))) && (eqO (PySem.W.specialIn K (.ref (ma K (ga K x) f)) "__get__") (some (some (.builtin "property.__get__"))) &&
  (decide (PySem.W.takesIn K (.ref (ma K (ga K x) f)) = some true) && (match PySem.W.recIn K (ma K (ga K x) f) "property" with
    | some (.ref _ :: _) => true
    | _ => false)))
theorem prop_ok {K : PySem.W.Frag} {x f : Str} (c : propB x f K = true) : PropOf K (ga K x) f (ma K (ga K x) f) (pgA x f K) := by
  obtain ⟨c1, c⟩ := ba c
  obtain ⟨c2, c⟩ := ba c
  obtain ⟨c3, c4⟩ := ba c
  refine ⟨eqO_ok c1, eqO_ok c2, of_decide_eq_true c3, ?_⟩
  unfold pgA
  cases q : PySem.W.recIn K (ma K (ga K x) f) "property" with
  | none => rw [q] at c4; cases c4
  | some l =>
    rw [q] at c4
    cases l with
    | nil => cases c4
    | cons v r =>
      cases v with
      | ref g => exact ⟨r, rfl⟩
      | _ => cases c4
end SJ

/-! SJX: readings, one step each. -/
namespace SJ
open PySem PySem.Spec PyProof.Rows L2 He
section
variable {K : PySem.W.Frag} {σ : L2.St} {H : Hp} {Q : VK} {QT : Bool → Hp → Prop} {QA : List V → Hp → Prop} {ta tb tc te : TE} {t u : TT} {D : Ends} {ts tu tz : TS} {r r' : R2} {x y v : V} {i j : Int} {n : Nat} {p : Addr} {tA : TA} {b c : Bool}
theorem x_var (h : σ[n]? = some (some v)) (k : Q v H) : tVar n σ H Q := ⟨v, h, k⟩
theorem x_c (k : Q v H) : tC v σ H Q := k
theorem x_op (k : ta σ H fun x H1 => tb σ H1 fun y H2 => r x y H2 Q) : tOp r ta tb σ H Q := k
theorem x_un {r : V → Hp → VK → Prop} (k : ta σ H fun x H1 => r x H1 Q) : tUn r ta σ H Q := k
theorem x_I0 {g : Int → Int → V} (k : Q (g i j) H) : rI0 g (.int i) (.int j) H Q := ⟨i, j, rfl, rfl, k⟩
theorem x_I {C : Int → Int → Prop} {g : Int → Int → V} (c : C i j) (k : Q (g i j) H) : rI C g (.int i) (.int j) H Q := ⟨i, j, rfl, rfl, c, k⟩
theorem x_U {g : Int → V} (k : Q (g i) H) : rU g (.int i) H Q := ⟨i, rfl, k⟩
theorem x_eq (h : scal x y = true) (k : Q (.bl (decide (x = y))) H) : rEq x y H Q := ⟨h, k⟩
theorem x_ne (h : scal x y = true) (k : Q (.bl (!decide (x = y))) H) : rNe x y H Q := ⟨h, k⟩
theorem x_nil (k : QA [] H) : tNil σ H QA := k
theorem x_cons (k : ta σ H fun x H1 => tA σ H1 fun xs H2 => QA (x :: xs) H2) : tCons ta tA σ H QA := k
theorem x_cb {r : List V → Hp → VK → Prop} (k : tA σ H fun vs H1 => r vs H1 Q) : tCB r tA σ H Q := k
theorem x_call {sp : Sp} {dvs : List V} {E : XK} (k : tA σ H fun vs H1 => sp (vs ++ dvs) H1 Q E) : tCall sp dvs E tA σ H Q := k
theorem x_seq (k : ts { D with nx := tz D } σ H) : tSeq ts tz D σ H := k
theorem x_next (k : D.nx σ H) : tNext D σ H := k
theorem x_asg (k : te σ H fun x H1 => D.nx (σ.set n (some x)) H1) : tAsg te (gName n) D σ H := k
theorem x_asgG {g : TG} (k : te σ H fun x H1 => g x σ H1 D.nx) : tAsg te g D σ H := k
theorem x_ret (k : te σ H D.rt) : tRet te D σ H := k
theorem x_retN (k : D.rt .non H) : tRetN D σ H := k
theorem x_drop (k : te σ H fun _ H1 => D.nx σ H1) : tDrop te D σ H := k
theorem x_if (k : t σ H fun b H1 => if b = true then ts D σ H1 else tu D σ H1) : tIfS t ts tu D σ H := k
theorem x_ife (k : t σ H fun b H1 => if b = true then ta σ H1 Q else tb σ H1 Q) : tIf t ta tb σ H Q := k
theorem x_test (k : te σ H fun x H' => ∃ b, x = .bl b ∧ QT b H') : tTest te σ H QT := k
theorem x_B (k : te σ H fun x H' => ∃ b, x = .bl b ∧ QT b H') : tB te σ H QT := k
theorem x_bl (k : QT b H) : ∃ c, V.bl b = .bl c ∧ QT c H := ⟨b, rfl, k⟩
theorem x_and (k : t σ H fun c H1 => if c = true then u σ H1 QT else QT false H1) : tAnd t u σ H QT := k
theorem x_or (k : t σ H fun c H1 => if c = true then QT true H1 else u σ H1 QT) : tOr t u σ H QT := k
theorem x_not (k : t σ H fun c H1 => QT (!c) H1) : tNot t σ H QT := k
theorem x_andV (k : ta σ H fun x H1 => ∃ c, x = .bl c ∧ if c = true then tb σ H1 Q else Q (.bl false) H1) : tAndV ta tb σ H Q := k
theorem x_orV (k : ta σ H fun x H1 => ∃ c, x = .bl c ∧ if c = true then Q (.bl true) H1 else tb σ H1 Q) : tOrV ta tb σ H Q := k
theorem x_notV (k : ta σ H fun x H1 => ∃ c, x = .bl c ∧ Q (.bl (!c)) H1) : tNotV ta σ H Q := k
theorem x_tup (k : tA σ H fun xs H1 => xs.length ≤ sizeLine ∧ ∀ p, H1 p = none → Q (.ref p) (upd H1 p (.tup xs))) : tTup tA σ H Q := k
theorem x_lst (k : tA σ H fun xs H1 => xs.length ≤ sizeLine ∧ ∀ p, H1 p = none → Q (.ref p) (upd H1 p (.lst xs))) : tLst tA σ H Q := k
theorem x_new {q : Prop} (h : n ≤ 1000) (k : q) : n ≤ sizeLine ∧ q := ⟨Nat.le_trans h (by decide), k⟩
theorem x_ixL {xs : List V} (h : SqL K H p xs) (e : atI xs i = some v) (k : Q v H) : rIx K (.ref p) (.int i) H Q := .inl ⟨p, xs, i, v, rfl, rfl, h, e, k⟩
theorem x_ixT {xs : List V} (h : SqT K H p xs) (e : atI xs i = some v) (k : Q v H) : rIx K (.ref p) (.int i) H Q := .inr (.inl ⟨p, xs, i, v, rfl, rfl, h, e, k⟩)
theorem x_sub {to ti : TE} {s : TSet} {Qs : L2.St → Hp → Prop} (k : to σ H fun o H1 => ti σ H1 fun i H2 => s o i v H2 fun H3 => Qs σ H3) : gSub to ti s v σ H Qs := k
theorem x_setL {xs : List V} {k : Nat} {Qh : Hp → Prop} (h : H p = some (.lst xs)) (e : ixN xs.length i = some k) (q : Qh (upd H p (.lst (xs.set k v)))) : rSetL (.ref p) (.int i) v H Qh := ⟨p, xs, i, k, rfl, rfl, h, e, q⟩
theorem x_int {i : Int} (k : Q (.int i) H) : (∃ j, [V.int i] = [.int j] ∧ Q (.int j) H) ∨ ∃ c, [V.int i] = [.bl c] ∧ Q (.int (if c then 1 else 0)) H := .inl ⟨i, rfl, k⟩
theorem x_intB (k : Q (.int (if b then 1 else 0)) H) : (∃ j, [V.bl b] = [.int j] ∧ Q (.int j) H) ∨ ∃ c, [V.bl b] = [.bl c] ∧ Q (.int (if c then 1 else 0)) H := .inr ⟨b, rfl, k⟩
theorem x_len {xs : List V} (h : SqL K H p xs) (k : Q (.int (xs.length : Int)) H) : ∃ x n, [V.ref p] = [x] ∧ LenV K x H n ∧ Q (.int (n : Int)) H := ⟨_, _, rfl, .inl ⟨_, h, rfl⟩, k⟩
theorem x_lenT {xs : List V} (h : SqT K H p xs) (k : Q (.int (xs.length : Int)) H) : ∃ x n, [V.ref p] = [x] ∧ LenV K x H n ∧ Q (.int (n : Int)) H := ⟨_, _, rfl, .inr ⟨_, h, rfl⟩, k⟩
theorem x_abs (k : Q (.int (if i < 0 then -i else i)) H) : ∃ j, [V.int i] = [.int j] ∧ Q (.int (if j < 0 then -j else j)) H := ⟨i, rfl, k⟩
theorem x_neD {d e : PyData} (h1 : Dp K H x d) (h2 : Dp K H y e) (s1 : SeqAt.shaped d = true) (s2 : SeqAt.shaped e = true) (k : Q (.bl (!PyData.eqv d e)) H) : rNeD K x y H Q := ⟨d, e, h1, h2, s1, s2, k⟩
theorem x_eqD {d e : PyData} (h1 : Dp K H x d) (h2 : Dp K H y e) (s1 : SeqAt.shaped d = true) (s2 : SeqAt.shaped e = true) (k : Q (.bl (PyData.eqv d e)) H) : rEqD K x y H Q := ⟨d, e, h1, h2, s1, s2, k⟩
end
/-! ### heaps -/
theorem del_sub {H : Hp} {p a : Addr} {o : HO} (h : del H p a = some o) : H a = some o := by
  by_cases e : a = p
  · rw [e, del_same] at h; cases h
  · rw [del_ne e] at h; exact h
theorem del_some {H : Hp} {p a : Addr} {o : HO} (h : del H p a = some o) : a ≠ p := fun e => by rw [e, del_same] at h; cases h
theorem del_none {H : Hp} {p a : Addr} (h : H a = none) : del H p a = none := by
  by_cases e : a = p
  · rw [e, del_same]
  · rw [del_ne e]; exact h
theorem del_upd {H : Hp} {p : Addr} {o : HO} : del (upd H p o) p = del H p := by
  funext a
  by_cases e : a = p
  · rw [e, del_same, del_same]
  · rw [del_ne e, del_ne e, upd_ne e]
theorem del_upd_ne {H : Hp} {p q : Addr} {o : HO} (n : q ≠ p) : del (upd H q o) p = upd (del H p) q o := by
  funext a
  by_cases e : a = p
  · rw [e, del_same, upd_ne (Ne.symm n), del_same]
  · rw [del_ne e]
    by_cases f : a = q
    · rw [f, upd_same, upd_same]
    · rw [upd_ne f, upd_ne f, del_ne e]
theorem Same.upd {H H' : Hp} {p : Addr} {o : HO} (e : Same H H') (h : H' p = none) : Same H (L2.upd H' p o) := fun b u q => by
  rw [upd_ne (ne_of_none (e b u q) h)]; exact e b u q
theorem Same.mut {H H' : Hp} {p : Addr} {o : HO} (e : Same H H') (h : H p = none) : Same H (L2.upd H' p o) := fun b u q => by
  rw [upd_ne (ne_of_none q h)]; exact e b u q
theorem Same.del {H H' : Hp} {p : Addr} (e : Same H H') : Same (L2.del H p) (L2.del H' p) := fun b u q => by
  rw [del_ne (del_some q)]; exact e b u (del_sub q)
end SJ

/-! SJR: one rule a construct, its ways by values joined by or; and the step of each way. -/
namespace SJ
open PySem PySem.Spec PyProof.Rows L2 He
def rStr2 (g : Str → Str → V) : R2 := fun x y H Q => ∃ i j, x = .str i ∧ y = .str j ∧ Q (g i j) H
def rAddS' : R2 := fun x y H Q => ∃ i j, x = .str i ∧ y = .str j ∧ i.length + j.length ≤ sizeLine ∧ Q (.str (i ++ j)) H
def rAdd (K : PySem.W.Frag) : R2 := fun x y H Q => rI0 (fun i j => .int (i + j)) x y H Q ∨ (rAddS' x y H Q ∨ (rCat x y H Q ∨ rCatA K x y H Q))
def rSub : R2 := rI0 fun i j => .int (i - j)
def rMul (K : PySem.W.Frag) : R2 := fun x y H Q => rI CMul (fun i j => .int (i * j)) x y H Q ∨ (rI CMulX (fun i j => .int (i * j)) x y H Q ∨ (rRep x y H Q ∨ rRepT K x y H Q))
def rMod : R2 := rI (fun _ j => j ≠ 0) fun i j => .int (i.fmod j)
def rFdv : R2 := fun x y H Q => rI CDivN (fun i j => .int (i.fdiv j)) x y H Q ∨ rI CDivW (fun i j => .int (i / j)) x y H Q
def rPow : R2 := rI CPow fun i j => .int (i ^ j.toNat)
def rEqU (K : PySem.W.Frag) : R2 := fun x y H Q => rEq x y H Q ∨ rEqD K x y H Q
def rNeU (K : PySem.W.Frag) : R2 := fun x y H Q => rNe x y H Q ∨ rNeD K x y H Q
def rLtU : R2 := fun x y H Q => rI0 (fun i j => .bl (decide (i < j))) x y H Q ∨ rStr2 (fun i j => .bl (decide (i.cps.toList < j.cps.toList))) x y H Q
def rLeU : R2 := fun x y H Q => rI0 (fun i j => .bl (decide (i ≤ j))) x y H Q ∨ rStr2 (fun i j => .bl (!decide (j.cps.toList < i.cps.toList))) x y H Q
def rGtU : R2 := rI0 fun i j => .bl (decide (j < i))
def rGeU : R2 := rI0 fun i j => .bl (decide (j ≤ i))
def rInU (K : PySem.W.Frag) (neg : Bool) : R2 := fun x y H Q => rIn K neg x y H Q ∨ rStr2 (fun i j => .bl (if neg then !(!(Builtin.Str.occurrences j i 0 j.length 1).isEmpty) else !(Builtin.Str.occurrences j i 0 j.length 1).isEmpty)) x y H Q
def rIsU (neg : Bool) : R2 := fun x y H Q => (y = .non ∧ Q (.bl (if neg then !decide (x = .non) else decide (x = .non))) H) ∨ ∃ a b : Bool, x = .bl a ∧ y = .bl b ∧ Q (.bl (if neg then !decide (a = b) else decide (a = b))) H
section
variable {X : Cx}
theorem o_add : OpR X (binaryOp .Add) (rAdd X.K) := op_add.or (op_add_str.or (op_cat.or op_catA))
theorem o_sub : OpR X (binaryOp .Sub) rSub := op_sub
theorem o_mul : OpR X (binaryOp .Mult) (rMul X.K) := op_mul.or (op_mulX.or (op_rep.or op_repT))
theorem o_mod : OpR X (binaryOp .Mod) rMod := op_modN
theorem o_fdv : OpR X (binaryOp .FloorDiv) rFdv := op_fdivN.or op_fdivW
theorem o_pow : OpR X (binaryOp .Pow) rPow := op_pow
theorem o_eq (hu : X.A.units + 64 < cLine) : OpR X (compareOp .Eq) (rEqU X.K) := op_eq.or (op_eqD hu)
theorem o_ne (hu : X.A.units + 64 < cLine) : OpR X (compareOp .NotEq) (rNeU X.K) := op_ne.or (op_neD hu)
theorem o_lt : OpR X (compareOp .Lt) rLtU := op_lt.or op_lt_str
theorem o_le : OpR X (compareOp .LtE) rLeU := op_le.or op_le_str
theorem o_gt : OpR X (compareOp .Gt) rGtU := op_gt
theorem o_ge : OpR X (compareOp .GtE) rGeU := op_ge
theorem o_in : OpR X (compareOp .In) (rInU X.K false) := op_in_seq.or op_in_str
theorem o_nin : OpR X (compareOp .NotIn) (rInU X.K true) := op_notIn_seq.or op_notin_str
theorem o_is : OpR X (compareOp .Is) (rIsU false) := OpR.or (op_isN) (op_isBl)
theorem o_isn : OpR X (compareOp .IsNot) (rIsU true) := OpR.or (op_notN) (op_notBl)
end
def rLenU (K : PySem.W.Frag) : List V → Hp → VK → Prop := fun xs H Q => (∃ x n, xs = [x] ∧ LenV K x H n ∧ Q (.int n) H) ∨ ∃ a kvs, xs = [V.ref a] ∧ H a = some (.dK kvs) ∧ Q (.int kvs.length) H
def rAbs : List V → Hp → VK → Prop := fun xs H Q => ∃ i, xs = [.int i] ∧ Q (.int (if i < 0 then -i else i)) H
def rInt : List V → Hp → VK → Prop := fun xs H Q => (∃ i, xs = [.int i] ∧ Q (.int i) H) ∨ ∃ k, xs = [.bl k] ∧ Q (.int (if k then 1 else 0)) H
def rListU (K : PySem.W.Frag) : List V → Hp → VK → Prop := fun xs H Q => ∃ p ys, xs = [.ref p] ∧ (SqL K H p ys ∨ SqT K H p ys) ∧ ∀ l, H l = none → Q (.ref l) (upd H l (.lst ys))
def rTupU (K : PySem.W.Frag) : List V → Hp → VK → Prop := fun xs H Q => ∃ p ys, xs = [.ref p] ∧ ((SqL K H p ys ∧ ∀ l, H l = none → Q (.ref l) (upd H l (.tup ys))) ∨ (SqT K H p ys ∧ Q (.ref p) H))
def rSlU (K : PySem.W.Frag) : V → Option Int → Option Int → Hp → VK → Prop := fun x lo hi H Q => rSlL K x lo hi H Q ∨ rSlT K x lo hi H Q
section
variable {X : Cx}
theorem c_len : CallR X (.builtin "len") (rLenU X.K) := call_len.or call_lenD
theorem c_abs : CallR X (.builtin "abs") rAbs := call_abs
theorem c_int : CallR X (.type "int") rInt := call_int1
theorem c_list : CallR X (.type "list") (rListU X.K) := call_list_of
theorem c_tuple : CallR X (.type "tuple") (rTupU X.K) := call_tuple_of
theorem c_isi : CallR X (.builtin "isinstance") (rIsi X.K) := call_isi
theorem c_all (hc : X.calm = true) : CallR X (.builtin "all") (rAll X.K) := cr_all hc
theorem c_any (hc : X.calm = true) : CallR X (.builtin "any") (rAny X.K) := cr_any hc
theorem c_sum (hc : X.calm = true) : CallR X (.builtin "sum") (rSum X.K) := cr_sum hc
theorem sl_u : SlR X (rSlU X.K) := sl_list.or sl_tup
end
section
variable {K : PySem.W.Frag} {H : Hp} {Q : VK} {x y v : V} {i j : Int} {n : Nat} {p q : Addr} {b c : Bool} {s t : Str} {xs ys : List V}
theorem x_addI (k : Q (.int (i + j)) H) : rAdd K (.int i) (.int j) H Q := .inl ⟨i, j, rfl, rfl, k⟩
theorem x_addS (h : s.length + t.length ≤ 1000) (k : Q (.str (s ++ t)) H) : rAdd K (.str s) (.str t) H Q := .inr (.inl ⟨s, t, rfl, rfl, Nat.le_trans h (by decide), k⟩)
theorem x_addL (h1 : H p = some (.lst xs)) (h2 : H q = some (.lst ys)) (h : xs.length + ys.length ≤ 10000) (k : ∀ l, H l = none → Q (.ref l) (upd H l (.lst (xs ++ ys)))) : rAdd K (.ref p) (.ref q) H Q :=
  .inr (.inr (.inl ⟨p, q, xs, ys, rfl, rfl, h1, h2, Nat.le_trans h (by decide), k⟩))
theorem x_sub' (k : Q (.int (i - j)) H) : rSub (.int i) (.int j) H Q := ⟨i, j, rfl, rfl, k⟩
theorem x_mulI (h : CMul i j) (k : Q (.int (i * j)) H) : rMul K (.int i) (.int j) H Q := .inl ⟨i, j, rfl, rfl, h, k⟩
theorem x_mulX (h : CMulX i j) (k : Q (.int (i * j)) H) : rMul K (.int i) (.int j) H Q := .inr (.inl ⟨i, j, rfl, rfl, h, k⟩)
theorem x_mod (h : 0 < j) (k : Q (.int (i % j)) H) : rMod (.int i) (.int j) H Q := ⟨i, j, rfl, rfl, by omega, by show Q (.int (i.fmod j)) H; rw [Int.fmod_eq_emod_of_nonneg _ (by omega)]; exact k⟩
theorem x_fdv (h : 0 < j) (h2 : j < 1073741824) (k : Q (.int (i / j)) H) : rFdv (.int i) (.int j) H Q := .inl ⟨i, j, rfl, rfl, ⟨by omega, by omega⟩, by show Q (.int (i.fdiv j)) H; rw [Int.fdiv_eq_ediv_of_nonneg _ (by omega)]; exact k⟩
theorem x_pow (h : 0 ≤ j ∧ j ≤ 1000000 ∧ i.natAbs < 2 ^ 64) (k : Q (.int (i ^ j.toNat)) H) : rPow (.int i) (.int j) H Q := ⟨i, j, rfl, rfl, h, k⟩
theorem x_eqS (h : scal x y = true) (k : Q (.bl (decide (x = y))) H) : rEqU K x y H Q := .inl ⟨h, k⟩
theorem x_neS (h : scal x y = true) (k : Q (.bl (!decide (x = y))) H) : rNeU K x y H Q := .inl ⟨h, k⟩
theorem x_eqI (k : Q (.bl (decide (i = j))) H) : rEqU K (.int i) (.int j) H Q := .inl ⟨rfl, by rw [show decide (V.int i = V.int j) = decide (i = j) from by simp only [V.int.injEq]]; exact k⟩
theorem x_neI (k : Q (.bl (!decide (i = j))) H) : rNeU K (.int i) (.int j) H Q := .inl ⟨rfl, by rw [show decide (V.int i = V.int j) = decide (i = j) from by simp only [V.int.injEq]]; exact k⟩
theorem x_eqT (k : Q (.bl (decide (s = t))) H) : rEqU K (.str s) (.str t) H Q := .inl ⟨rfl, by rw [show decide (V.str s = V.str t) = decide (s = t) from by simp only [V.str.injEq]]; exact k⟩
theorem x_neT (k : Q (.bl (!decide (s = t))) H) : rNeU K (.str s) (.str t) H Q := .inl ⟨rfl, by rw [show decide (V.str s = V.str t) = decide (s = t) from by simp only [V.str.injEq]]; exact k⟩
theorem x_eqDD {d e : PyData} (h1 : Dp K H x d) (h2 : Dp K H y e) (s1 : SeqAt.shaped d = true) (s2 : SeqAt.shaped e = true) (k : Q (.bl (PyData.eqv d e)) H) : rEqU K x y H Q := .inr ⟨d, e, h1, h2, s1, s2, k⟩
theorem x_neDD {d e : PyData} (h1 : Dp K H x d) (h2 : Dp K H y e) (s1 : SeqAt.shaped d = true) (s2 : SeqAt.shaped e = true) (k : Q (.bl (!PyData.eqv d e)) H) : rNeU K x y H Q := .inr ⟨d, e, h1, h2, s1, s2, k⟩
theorem x_ltI (k : Q (.bl (decide (i < j))) H) : rLtU (.int i) (.int j) H Q := .inl ⟨i, j, rfl, rfl, k⟩
theorem x_leI (k : Q (.bl (decide (i ≤ j))) H) : rLeU (.int i) (.int j) H Q := .inl ⟨i, j, rfl, rfl, k⟩
theorem x_gtI (k : Q (.bl (decide (j < i))) H) : rGtU (.int i) (.int j) H Q := ⟨i, j, rfl, rfl, k⟩
theorem x_geI (k : Q (.bl (decide (j ≤ i))) H) : rGeU (.int i) (.int j) H Q := ⟨i, j, rfl, rfl, k⟩
theorem x_inT (h : SqT K H p xs) (hx : flatV x = true) (ha : xs.all flatV = true) (k : Q (.bl (inV x xs)) H) : rInU K false x (.ref p) H Q := .inl ⟨p, xs, rfl, .inr h, hx, ha, k⟩
theorem x_ninT (h : SqT K H p xs) (hx : flatV x = true) (ha : xs.all flatV = true) (k : Q (.bl (!inV x xs)) H) : rInU K true x (.ref p) H Q := .inl ⟨p, xs, rfl, .inr h, hx, ha, k⟩
theorem x_inL (h : SqL K H p xs) (hx : flatV x = true) (ha : xs.all flatV = true) (k : Q (.bl (inV x xs)) H) : rInU K false x (.ref p) H Q := .inl ⟨p, xs, rfl, .inl h, hx, ha, k⟩
theorem x_ninL (h : SqL K H p xs) (hx : flatV x = true) (ha : xs.all flatV = true) (k : Q (.bl (!inV x xs)) H) : rInU K true x (.ref p) H Q := .inl ⟨p, xs, rfl, .inl h, hx, ha, k⟩
theorem x_inS (k : Q (.bl (!(Builtin.Str.occurrences t s 0 t.length 1).isEmpty)) H) : rInU K false (.str s) (.str t) H Q := .inr ⟨s, t, rfl, rfl, k⟩
theorem x_isN (k : Q (.bl (decide (x = .non))) H) : rIsU false x .non H Q := .inl ⟨rfl, k⟩
theorem x_isnN (k : Q (.bl (!decide (x = .non))) H) : rIsU true x .non H Q := .inl ⟨rfl, k⟩
theorem x_isB (k : Q (.bl (decide (b = c))) H) : rIsU false (.bl b) (.bl c) H Q := .inr ⟨b, c, rfl, rfl, k⟩
theorem x_lenL (h : SqL K H p xs) (k : Q (.int (xs.length : Int)) H) : rLenU K [.ref p] H Q := .inl ⟨_, _, rfl, .inl ⟨_, h, rfl⟩, k⟩
theorem x_lenT' (h : SqT K H p xs) (k : Q (.int (xs.length : Int)) H) : rLenU K [.ref p] H Q := .inl ⟨_, _, rfl, .inr ⟨_, h, rfl⟩, k⟩
theorem x_lenS (h : s.length ≤ 10000) (k : Q (.int (s.length : Int)) H) : rLenU K [.str s] H Q := .inl ⟨_, _, rfl, ⟨Nat.le_trans h (by decide), rfl⟩, k⟩
theorem x_absI (k : Q (.int (if i < 0 then -i else i)) H) : rAbs [.int i] H Q := ⟨i, rfl, k⟩
theorem x_intI (k : Q (.int i) H) : rInt [.int i] H Q := .inl ⟨i, rfl, k⟩
theorem x_intBl (k : Q (.int (if b then 1 else 0)) H) : rInt [.bl b] H Q := .inr ⟨b, rfl, k⟩
theorem x_listL (h : SqL K H p xs) (k : ∀ l, H l = none → Q (.ref l) (upd H l (.lst xs))) : rListU K [.ref p] H Q := ⟨p, xs, rfl, .inl h, k⟩
theorem x_listT (h : SqT K H p xs) (k : ∀ l, H l = none → Q (.ref l) (upd H l (.lst xs))) : rListU K [.ref p] H Q := ⟨p, xs, rfl, .inr h, k⟩
end
end SJ

/-! SJF: defs whose calls run under no guard (repr of containers asks for that), and the law's end over them. -/
namespace SJ
open PySem PySem.Spec PyProof.Rows L2 He
/-- room, and no guard around -/
structure Rm (k : Nat) (A : Around) : Prop where
  r : Room k A
  g : A.guards = some []
theorem Rm.mono {j k : Nat} {A : Around} (h : Rm k A) (l : j ≤ k) : Rm j A := ⟨h.r.mono l, h.g⟩
theorem Rm.in1 {k : Nat} {A : Around} (h : Rm (k + 1) A) : Rm k A.in1 := ⟨h.r.in1, h.g⟩
theorem Rm.deeper {k : Nat} {A : Around} (h : Rm (k + 1) A) (env : Env) : Rm k (A.deeper env) := ⟨h.r.deeper env, h.g⟩
theorem Rm.make {k : Nat} {A : Around} (h : Rm (k + 1) A) (C : Addr) (us : List Value) (kw : List (Str × Value)) : Rm k (A.under (.builtin "type.__call__" ⟨.ref C :: us, kw⟩)) := by
  refine ⟨h.r.make C us kw, ?_⟩
  first | exact h.g | (simp [Around.under, Code.isGuard, guardIds]; exact h.g)
theorem Rm.units {k : Nat} {A : Around} (h : Rm k A) : A.units + 64 < cLine := h.r.units
theorem Rm.units0 {k : Nat} {A : Around} (h : Rm k A) : A.units < cLine := h.r.units0
theorem Rm.hu {k : Nat} {A : Around} (h : Rm k A) : A.units + 1 < cLine := hu_of h.r
structure Fk (P : Program) (w : World) (K : PySem.W.Frag) (mg : Str → Option Value) (base : Heap) (k : Nat) (f : Addr) (fd : FuncData) (ps : List Str) (sp : Sp) : Prop where
  len : ∀ vs H Q E, sp vs H Q E → vs.length = ps.length
  run : ∀ (A : Around) (outer : List Env) (s : Shared) (H : Hp) (args : Args) (us : List Value) (vs : List V) (Q : VK) (E : XK), Rm k A → Env0 P w K mg base A outer s H → BindsTo s fd args (ps.zip us) → Vals vs us → sp vs H Q E →
    codeAny (model P w) A (.call (.ref f) args) (CR (L2.CX P w) outer P w H s Q E) s
theorem Fk.mono {P : Program} {w : World} {K : PySem.W.Frag} {mg : Str → Option Value} {base : Heap} {j k : Nat} {f : Addr} {fd : FuncData} {ps : List Str} {sp : Sp} (F : Fk P w K mg base j f fd ps sp) (h : j ≤ k) : Fk P w K mg base k f fd ps sp :=
  ⟨F.len, fun A outer s H args us vs Q E hr => F.run A outer s H args us vs Q E (hr.mono h)⟩
theorem fk_of {P : Program} {w : World} {K : PySem.W.Frag} {mg : Str → Option Value} {base : Heap} {x qual : Str} {pa : Arguments} {bo : List Stmt} {sc : Scope} {dvs : List V} {kws : List (Str × V)} {f : Addr} {fd : FuncData} {N ps : List Str} {k : Nat} {sp : Sp}
    (F : FunD K x qual pa bo sc dvs kws f fd) (S : FnScope N ps sc) (len : ∀ vs H Q E, sp vs H Q E → vs.length = ps.length)
    (hb : ∀ (cdv : Value) (A : Around) (outer : List Env) (s : Shared) (H : Hp) (vs : List V) (Q : VK) (E : XK), Rm k (A.deeper (envOfC qual sc s.heap.objs.size f cdv)) → sp vs H Q E →
      ∃ t, PSs (cxOf (L2.CX P w) P w K mg base N qual sc f cdv A outer s H E) bo t ∧ t { nx := fun _ H2 => Q .non H2, rt := Q } (start N vs) H) : Fk P w K mg base (k + 1) f fd ps sp := by
  obtain ⟨oc, od, dV, kV, doc, pm, an, cdv, ct, osl, rfl, lk, hcd, _, _⟩ := F.ex
  refine ⟨len, fun A outer s H args us vs Q E hr e0 hbi rv hsp => ?_⟩
  have hl := len _ _ _ _ hsp
  have KX : K.In s.heap := e0.mod.kin.keeps fun b o z => (e0.bs b o z).1
  have lim : s.heap.NoLimit := e0.mod.nolimit.keeps fun b o z => (e0.bs b o z).1
  have kinds : ∀ y ∈ ps.zip us, sc.names.lookup y.1 = some .local ∨ (sc.names.lookup y.1 = some .cell ∧ ((cellsFrom (s.heap.objs.size + 1) sc.names []).lookup y.1).isSome = true) := fun ⟨n, v⟩ hy => by
    rcases S.par n (List.of_mem_zip hy).1 with z | z
    · exact .inl z
    · exact .inr ⟨z, PySem.W.cellsFrom_some _ _ _ (.inl z)⟩
  refine codeAny_call_function hr.r.depth (KX _ _ lk) rfl S.co S.gen rfl (PySem.W.codeRec_of KX hcd) (hbi _ _ _ _ (wpAny_newFunctionEnv_cells S.kind kinds fun env he s1 x1 => ?_))
  subst he
  refine ⟨lim.keeps x1.toInCall.keep, codeAny_func ?_⟩
  obtain ⟨t, ht, hq⟩ := hb cdv A outer s H vs Q E (hr.deeper _) hsp
  have I : Inv (cxOf (L2.CX P w) P w K mg base N qual sc f cdv A outer s H E) [] (start N vs) H s1 := inv_start S hr.r.hd e0 hl rv x1
  refine wpAny_mono (ht.run [] s1 (start N vs) H _ I hq) (fun fl s2 hs => ?_) fun _ _ z => z
  cases fl with
  | ret u => obtain ⟨v, σ2, H2, J, r2, q⟩ := hs; exact ⟨v, H2, J.os, J.bare, J.base, J.hok, r2, q⟩
  | next => obtain ⟨σ2, H2, J, q⟩ := hs; exact ⟨.non, H2, J.os, J.bare, J.base, J.hok, rfl, q⟩
  | brk => obtain ⟨_, _, _, q⟩ := hs; exact q.elim
  | cont => obtain ⟨_, _, _, q⟩ := hs; exact q.elim
/-- the law called behind the top -/
theorem law_at {P : Program} {w : World} {K : PySem.W.Frag} {mg mb : Str → Option Value} {k : Nat} {fa a : Addr} {fd : FuncData} {x : Str} {sp : Sp} {s1 : Shared} {us : List Value} {ns : List Int}
    (KX : K.In s1.heap) (hns : s1.heap.Ns mainGlobals mg) (hbn : s1.heap.Ns builtinsNs mb) (hbb : ∀ x : Str, x ≠ "__name__" → mb x = bootBuiltins x) (hlim : s1.heap.NoLimit) (hg : s1.gens = #[])
    (ha : s1.heap.get? a = some { cls := .type "list", data := .seq us.toArray }) (hi : IntsAre us ns) (hl : ns.length ≤ sizeLine) (hr : Rm k callerA)
    (F : ∀ base : Heap, K.In base → base.Ns mainGlobals mg → Fk P w K mg base k fa fd [x] sp) (hbind : ∀ (s : Shared) (u : Value), BindsTo s fd ⟨[u], []⟩ [(x, u)])
    (hsp : ∀ H : Hp, SqL K H a (ns.map V.int) → sp [.ref a] H (fun v _ => v = .bl true) fun _ _ _ => False) :
    codeAny (model P w) callerA (.call (.ref fa) ⟨[.ref a], []⟩) (fun rr s2 => rr = .ok (.ret (.bool true)) ∧ OldK s1.heap s2.heap ∧ s2.os = s1.os ∧ AllBare s2.gens) s1 := by
  have rv := vals_ints hi
  have go : ∀ H : Hp, Only H → SqL K H a (ns.map V.int) → HOk P w H s1.heap → (∀ b, H b ≠ none → b = a) → (H a ≠ none → K.lookup a = none) →
      codeAny (model P w) callerA (.call (.ref fa) ⟨[.ref a], []⟩) (fun rr s2 => rr = .ok (.ret (.bool true)) ∧ OldK s1.heap s2.heap ∧ s2.os = s1.os ∧ AllBare s2.gens) s1 := by
    intro H hO hS hok only noK
    have free : ∀ {b : Addr} {o : Obj} {es : Array DictEntry} {ep : Nat}, s1.heap.get? b = some o → o.data = .dict es ep → H b = none := fun {b o es ep} eo ed => by
      cases q : H b with
      | none => rfl
      | some u =>
        have eb : b = a := only b (by rw [q]; simp)
        rw [eb, ha] at eo
        cases eo
        exact nomatch (show Data.seq us.toArray _ = Data.dict es ep from ed)
    have nsK : ∀ {b : Addr} {m : Str → Option Value}, s1.heap.Ns b m → (hidT s1.heap H).Ns b m := fun {b m} ⟨o, es, ep, eo, ed, rr⟩ => ⟨o, es, ep, hidT_get eo (free eo ed), ed, rr⟩
    have Kb : K.In (hidT s1.heap H) := fun b o e => hidT_get (KX b o e) (by
      cases q : H b with
      | none => rfl
      | some u =>
        have eb : b = a := only b (by rw [q]; simp)
        rw [eb] at e q
        rw [noK (by rw [q]; simp)] at e
        cases e)
    have M : Mod K mg (hidT s1.heap H) := ⟨Kb, nsK hns, ⟨mb, nsK hbn, hbb⟩, let ⟨mc, z1, z2⟩ := hlim; ⟨mc, nsK z1, z2⟩⟩
    have e0 : Env0 P w K mg (hidT s1.heap H) callerA [] s1 H := ⟨rfl, M, fun b o e => of_hidT e, Nat.le_of_eq (hidT_size _ _), trivial, fun b z => absurd (show b ∈ ([] : List Addr) from z) (by simp), hok, .of_eq hg⟩
    refine codeAny_mono ((F _ Kb (nsK hns)).run callerA [] s1 H ⟨[.ref a], []⟩ [.ref a] [.ref a] _ _ hr e0 (hbind s1 (.ref a)) (.cons rfl .nil) (hsp H hS)) fun rr s2 h => ?_
    cases rr with
    | error e => obtain ⟨_, _, _, _, _, _, _, _, _, _, _, _, z⟩ := h; exact z.elim
    | ok fl =>
      cases fl with
      | next => exact h.elim
      | brk => exact h.elim
      | cont => exact h.elim
      | ret u =>
        obtain ⟨v, H2, os, bare, un, hok2, r2, q⟩ := h
        obtain rfl : v = .bl true := q
        obtain rfl : u = Value.bool true := r2
        refine ⟨rfl, OldK.of_keep fun b o e => ?_, os, bare⟩
        cases q : H b with
        | none => exact un.keep b o e q (fun z => absurd (show b ∈ ([] : List Addr) from z) (by simp)) (by simp)
        | some u =>
          rcases hO b with z | ⟨ob, xs, z⟩
          · rw [q] at z; cases z
          · obtain ⟨z1, _⟩ := hok b _ z
            obtain ⟨z2, _⟩ := hok2 b _ (un.frzs b ob _ z)
            rw [e] at z1; cases z1
            exact z2
  by_cases hk : K.lookup a = none
  · refine go (fun b => if b = a then some (.frz { cls := .type "list", data := .seq us.toArray } (.lst (ns.map V.int))) else none) (fun b => ?_) (.inl (.inr ⟨_, if_pos rfl⟩)) (fun b o e => ?_) (fun b hb => ?_) fun _ => hk
    · by_cases e : b = a
      · exact .inr ⟨_, _, if_pos e⟩
      · exact .inl (if_neg e)
    · by_cases eb : b = a
      · have e2 := (if_pos eb).symm.trans e
        subst eb
        cases e2
        exact ⟨ha, by rw [List.length_map]; exact hl, us, _, rv, ha⟩
      · exact nomatch ((if_neg eb).symm.trans e)
    · by_cases eb : b = a
      · exact eb
      · exact absurd (if_neg eb) hb
  · obtain ⟨o, ho⟩ : ∃ o, K.lookup a = some o := by
      cases q : K.lookup a with
      | none => exact absurd q hk
      | some o => exact ⟨o, rfl⟩
    have eo := KX _ _ ho
    rw [ha] at eo
    cases eo
    refine go (fun _ => none) (fun b => .inl rfl) (.inr ⟨_, us.toArray, _, ho, rfl, rfl, rfl, by rw [List.size_toArray, ← rv.length, List.length_map]; exact hl, rv⟩) (fun b o e => nomatch (show (none : Option HO) = some o from e)) (fun b hb => absurd rfl hb) fun z => absurd rfl z
theorem walk_law {l : PySem.W.OpenLaw} {n k : Nat} {q : Program} {loose : List Str} {XP : (Str → Option Value) → Heap → Prop} {YP : World → Heap → Prop} {d : DefRec} {x : Str}
    (hn : l.most = some n) (hn2 : n ≤ sizeLine) (hdf : d.params.defaults = []) (hr : Rm k callerA)
    (F : ∀ (w : World) (mg : Str → Option Value) (fa : Addr) (h : Heap), YP w h → h.Ns mainGlobals mg → mg d.name = some (.ref fa) →
      ∃ (K : PySem.W.Frag) (fd : FuncData) (sp : Sp), K.In h ∧ (∀ (s : Shared) (u : Value), BindsTo s fd ⟨[u], []⟩ [(x, u)]) ∧
        (∀ (H : Hp) (a : Addr) (ns : List Int), ns.length ≤ n → SqL K H a (ns.map V.int) → sp [.ref a] H (fun v _ => v = .bl true) fun _ _ _ => False) ∧
        ∀ base : Heap, K.In base → base.Ns mainGlobals mg → Fk l.prog w K mg base k fa fd [x] sp) :
    PySem.W.WalkO q loose XP YP l.row.toRowW d [] (fun f vs => PySem.call f vs) := by
  refine Att.attach_call hn hdf fun w s0 s1 mg mb fa o pm cd doc a vs ns G Y ho hd hcd hmg hobj hints hlen hg => ?_
  obtain ⟨K, fd, sp, KX, hb, hsp, hF⟩ := F w mg fa _ Y G.T.g hmg
  exact law_at KX G.T.g G.T.b G.T.builtins G.T.nolimit hg hobj hints (Nat.le_trans hlen hn2) hr hF hb fun H hS => hsp H a ns hlen hS
end SJ

/-! SJC: calls of defs, classes, methods, properties, with what may be raised at the slots. -/
namespace SJ
open PySem PySem.Spec PyProof.Rows L2 He
abbrev W0 : WX := fun _ _ _ _ => False
/-- f(a ..) -/
def tFn (sp : Sp) (dv : List V) (W : WX) (ta : TA) : TE := fun σ H Q => ta σ H fun vs H1 => sp (vs ++ dv) H1 Q (WE W σ)
/-- f(a .., k = b ..) -/
def tFnK (n m : Nat) (sp : Sp) (gV : List V → List V → List V) (W : WX) (ta tk : TA) : TE := fun σ H Q => ta σ H fun vs H1 => tk σ H1 fun zs H2 => vs.length = n ∧ zs.length = m ∧ sp (gV vs zs) H2 Q (WE W σ)
/-- C(a ..) -/
def tNw (C : Addr) (sp : Sp) (dv : List V) (W : WX) (ta : TA) : TE := fun σ H Q => ta σ H fun vs H1 => ∀ x dx, H1 x = none → H1 dx = none → dx ≠ x →
  sp (.ref x :: (vs ++ dv)) (upd (upd H1 dx (.own x)) x (.ins C dx [])) (fun v H2 => v = .non ∧ Q (.ref x) H2) (WE W σ)
def tNwK (C : Addr) (n m : Nat) (sp : Sp) (gV : List V → List V → List V) (W : WX) (ta tk : TA) : TE := fun σ H Q => ta σ H fun vs H1 => tk σ H1 fun zs H2 => vs.length = n ∧ zs.length = m ∧ ∀ x dx, H2 x = none → H2 dx = none → dx ≠ x →
  sp (gV (.ref x :: vs) zs) (upd (upd H2 dx (.own x)) x (.ins C dx [])) (fun v H3 => v = .non ∧ Q (.ref x) H3) (WE W σ)
/-- o.m(a ..): of any class that has the def at g as m -/
def tMt (K : PySem.W.Frag) (m : Str) (g : Addr) (sp : Sp) (dv : List V) (W : WX) (to : TE) (ta : TA) : TE := fun σ H Q => to σ H fun x H1 => ∃ a C dx fs, x = .ref a ∧ H1 a = some (.ins C dx fs) ∧ Cls K C ∧ Meth K C m g ∧ fs.lookup m = none ∧
  ta σ H1 fun vs H2 => sp (x :: (vs ++ dv)) H2 Q (WE W σ)
def tMtK (K : PySem.W.Frag) (m : Str) (g : Addr) (n l : Nat) (sp : Sp) (gV : List V → List V → List V) (W : WX) (to : TE) (ta tk : TA) : TE := fun σ H Q => to σ H fun x H1 => ∃ a C dx fs, x = .ref a ∧ H1 a = some (.ins C dx fs) ∧ Cls K C ∧ Meth K C m g ∧ fs.lookup m = none ∧
  ta σ H1 fun vs H2 => tk σ H2 fun zs H3 => vs.length = n ∧ zs.length = l ∧ sp (gV (x :: vs) zs) H3 Q (WE W σ)
/-- o.f, a property -/
def tPr (K : PySem.W.Frag) (f : Str) (g : Addr) (sp : Sp) (to : TE) : TE := fun σ H Q => to σ H fun x H1 => ∃ a C dx fs pp, x = .ref a ∧ H1 a = some (.ins C dx fs) ∧ Cls K C ∧ PropOf K C f pp g ∧ sp [x] H1 Q E0
/-- how a method's call is read -/
abbrev mcl (X : Cx) (o : Expr) (m : Str) (ap : Pos) (pl : Sem Bool) (pos : Pos) (es : List Expr) (kws : List Keyword) : Sem Value := do
  let w0 ← eval o X.env
  standAt ap.atName
  let (g0, a0) ← holding [w0] (getMethod w0 m pl); callWith pos g0 a0 (backTo pos (starEach es X.env)) (backToKw pos (keywordEach kws X.env))
section
variable {X : Cx} {k n : Nat} {f C : Addr} {fd : FuncData} {ps ks : List Str} {sp : Sp} {dv : List V} {ds : List Value} {W : WX} {x m : Str} {p pos apos : Pos} {e o : Expr} {es : List Expr} {kws : List Keyword} {to : TE} {ta tk : TA} {mm : Nat} {g : List Value → List Value → List Value} {gV : List V → List V → List V}
/-- the callee runs, arguments and keywords bound -/
theorem run_g {pins : List (Addr × Obj)} {σ : L2.St} {H : Hp} {s : Shared} {Q : VK} {args : Args} {us : List Value} {vs : List V} (F : Fk X.prog X.w X.K X.mg X.base k f fd ps sp) (hr : Rm k X.A) (tk : Takes X W)
    (I : Inv X pins σ H s) (hb : BindsTo s fd args (ps.zip us)) (rv : Vals vs us) (h : sp vs H Q (WE W σ)) : wpAny (model X.prog X.w) X.A (call (.ref f) args.pos args.kw) (EP X pins σ Q) X.xe s := by
  refine wpAny_call (codeAny_mono (F.run X.A X.stack s H args us vs Q (WE W σ) hr I.env0 hb rv h) fun rr s2 hq => ?_)
  cases rr with
  | error er => exact passAt tk σ pins H s er s2 I hq
  | ok fl =>
    cases fl with
    | ret u => exact I.after hq
    | next => exact hq.elim
    | brk => exact hq.elim
    | cont => exact hq.elim
/-- .. with the defaults behind -/
theorem run_d {pins : List (Addr × Obj)} {σ : L2.St} {H : Hp} {s : Shared} {Q : VK} {us : List Value} {vs : List V} (F : Fk X.prog X.w X.K X.mg X.base k f fd ps sp) (hr : Rm k X.A) (hb : Binds X.K fd ps ds) (hd : Vals dv ds) (tk : Takes X W)
    (I : Inv X pins σ H s) (rv : Vals vs us) (h : sp (vs ++ dv) H Q (WE W σ)) : wpAny (model X.prog X.w) X.A (call (.ref f) us) (EP X pins σ Q) X.xe s := by
  have r2 : Vals (vs ++ dv) (us ++ ds) := rv.append hd
  exact run_g (args := ⟨us, []⟩) F hr tk I (hb s us I.kIn (by rw [← r2.length]; exact F.len _ _ _ _ h)) r2 h
theorem pe_fn (F : Fk X.prog X.w X.K X.mg X.base k f fd ps sp) (hr : Rm k X.A) (hg : Gl X x) (hm : X.mg x = some (.ref f)) (hk : PySem.W.keepIn X.K (.ref f) = true) (hb : Binds X.K fd ps ds) (hd : Vals dv ds) (tk : Takes X W)
    (ha : PA X (e :: es) ta) (hdb : (x == ("__debug__" : Str)) = false := by decide) (he : starEach (e :: es) X.env = (false, eval e X.env) :: starEach es X.env := by rfl) (hpl : (backTo pos (starEach es X.env)).any (·.1) = false := by rfl) :
    PE X (.Call (.Name x p) (e :: es) [] pos) (tFn sp dv W ta) := by
  refine ⟨fun pins s σ H Q I h => wpAny_Call_Name_kw (ld_glob I hg hm ?_ hdb)⟩
  refine PySem.W.callWith_K (h₀ := X.base) I.ok.mod.kin hk (thn (ha.run pos pins s σ H _ I h) fun us s1 ⟨vs, H1, I1, r1, q1⟩ => ⟨I1.kIn, ?_⟩) he hpl
  exact run_d F hr hb hd tk I1 r1 q1
theorem pe_fn0 (F : Fk X.prog X.w X.K X.mg X.base k f fd ps sp) (hr : Rm k X.A) (hg : Gl X x) (hm : X.mg x = some (.ref f)) (hk : PySem.W.keepIn X.K (.ref f) = true) (hb : Binds X.K fd ps ds) (hd : Vals dv ds) (tk : Takes X W)
    (hdb : (x == ("__debug__" : Str)) = false := by decide) : PE X (.Call (.Name x p) [] [] pos) (tFn sp dv W tNil) := by
  refine ⟨fun pins s σ H Q I h => wpAny_Call_Name_kw (ld_glob I hg hm ?_ hdb)⟩
  exact PySem.W.callWith_K0 I.kIn hk (run_d (us := []) (vs := []) F hr hb hd tk I .nil h)
theorem pe_fnK (F : Fk X.prog X.w X.K X.mg X.base k f fd ps sp) (hr : Rm k X.A) (hg : Gl X x) (hm : X.mg x = some (.ref f)) (hk : PySem.W.keepIn X.K (.ref f) = true) (hb : KBn X.K fd ps n ks g gV) (tks : Takes X W)
    (ha : PA X (e :: es) ta) (hkw : PK X kws tk) (hall : (backToKw pos (keywordEach kws X.env)).all (·.1.isSome) = true := by rfl) (hks : (backToKw pos (keywordEach kws X.env)).filterMap (·.1) = ks := by rfl) (hmm : ks.length = mm := by rfl)
    (hdb : (x == ("__debug__" : Str)) = false := by decide) (he : starEach (e :: es) X.env = (false, eval e X.env) :: starEach es X.env := by rfl)
    (hpl : ((backTo pos (starEach (e :: es) X.env)).any (·.1) || (backToKw pos (keywordEach kws X.env)).any (·.1.isNone)) = false := by rfl) :
    PE X (.Call (.Name x p) (e :: es) kws pos) (tFnK n mm sp gV W ta tk) := by
  refine ⟨fun pins s σ H Q I h => wpAny_Call_Name_kw (ld_glob I hg hm ?_ hdb)⟩
  refine PySem.W.callWith_KW (h₀ := X.base) I.ok.mod.kin hk hall (thn (ha.run pos pins s σ H _ I h) fun us s1 ⟨vs, H1, I1, r1, q1⟩ => ?_) hpl he
  refine thn (hkw.run pos pins s1 σ H1 _ I1 q1) fun ws s2 ⟨zs, H2, I2, rz, l1, l2, q2⟩ => ⟨I2.kIn, ?_⟩
  rw [hks]
  subst hmm
  exact run_g (args := ⟨us, ks.zip ws⟩) F hr tks I2 (hb.to s2 us ws I2.kIn (r1.length.symm.trans l1) (rz.length.symm.trans l2)) (hb.rel r1 rz) q2
theorem pe_fnK0 (F : Fk X.prog X.w X.K X.mg X.base k f fd ps sp) (hr : Rm k X.A) (hg : Gl X x) (hm : X.mg x = some (.ref f)) (hk : PySem.W.keepIn X.K (.ref f) = true) (hb : KBn X.K fd ps 0 ks g gV) (tks : Takes X W)
    (hkw : PK X kws tk) (hall : (backToKw pos (keywordEach kws X.env)).all (·.1.isSome) = true := by rfl) (hks : (backToKw pos (keywordEach kws X.env)).filterMap (·.1) = ks := by rfl) (hmm : ks.length = mm := by rfl)
    (hdb : (x == ("__debug__" : Str)) = false := by decide) (hpl : ((backTo pos (starEach [] X.env)).any (·.1) || (backToKw pos (keywordEach kws X.env)).any (·.1.isNone)) = false := by rfl) :
    PE X (.Call (.Name x p) [] kws pos) (tFnK 0 mm sp gV W tNil tk) := by
  refine ⟨fun pins s σ H Q I h => wpAny_Call_Name_kw (ld_glob I hg hm ?_ hdb)⟩
  refine PySem.W.callWith_KW0 (h₀ := X.base) I.ok.mod.kin hk hall ?_ hpl
  refine thn (hkw.run pos pins s σ H _ I h) fun ws s2 ⟨zs, H2, I2, rz, l1, l2, q2⟩ => ⟨I2.kIn, ?_⟩
  rw [hks]
  subst hmm
  exact run_g (args := ⟨[], ks.zip ws⟩) F hr tks I2 (hb.to s2 [] ws I2.kIn rfl (rz.length.symm.trans l2)) (hb.rel .nil rz) q2
/-- a new instance -/
theorem run_nw {pins : List (Addr × Obj)} {σ : L2.St} {H : Hp} {s : Shared} {Q : VK} {us : List Value} {kw : List (Str × Value)} {bs : Value → List Value} {bv : V → List V} (M : Mk X.K C f) (F : Fk X.prog X.w X.K X.mg X.base k f fd ps sp) (hr : Rm (k + 1) X.A) (tk : Takes X W)
    (I : Inv X pins σ H s) (hb : ∀ (a : Addr) (s2 : Shared), X.K.In s2.heap → BindsTo s2 fd ⟨.ref a :: us, kw⟩ (ps.zip (bs (.ref a)))) (rv : ∀ a : Addr, Vals (bv (.ref a)) (bs (.ref a)))
    (h : ∀ x dx, H x = none → H dx = none → dx ≠ x → sp (bv (.ref x)) (upd (upd H dx (.own x)) x (.ins C dx [])) (fun v H2 => v = .non ∧ Q (.ref x) H2) (WE W σ)) :
    wpAny (model X.prog X.w) X.A (call (.ref C) us kw) (EP X pins σ Q) X.xe s := by
  have hq := h (s.heap.objs.size + 1) s.heap.objs.size (I.hok.fresh (Nat.le_succ _)) (I.hok.fresh (Nat.le_refl _)) (Nat.ne_of_lt (Nat.lt_succ_self _))
  have J := Inv.made (C := C) I
  refine wpAny_call (make_map (f := f) I.kIn M.makes M.init (beq_iff_eq.mp M.fn) (codeAny_mono (F.run _ X.stack _ _ ⟨Value.ref (s.heap.objs.size + 1) :: us, kw⟩ _ _ _ (WE W σ) (hr.make C us kw)
    (J.env0.make C us kw) (hb _ _ J.kIn) (rv _) hq) fun rr s2 hq2 => ?_))
  cases rr with
  | error er => exact passAt tk σ pins _ _ er s2 J hq2
  | ok fl =>
    cases fl with
    | ret u =>
      obtain ⟨v, H3, I3, r3, ev, q3⟩ := J.after hq2
      subst ev
      exact ⟨r3, ⟨V.ref (s.heap.objs.size + 1), H3, I3, rfl, q3⟩⟩
    | next => exact hq2.elim
    | brk => exact hq2.elim
    | cont => exact hq2.elim
theorem pe_nw (M : Mk X.K C f) (F : Fk X.prog X.w X.K X.mg X.base k f fd ps sp) (hr : Rm (k + 1) X.A) (hg : Gl X x) (hm : X.mg x = some (.ref C)) (hb : Binds X.K fd ps ds) (hd : Vals dv ds) (tk : Takes X W)
    (ha : PA X (e :: es) ta) (hdb : (x == ("__debug__" : Str)) = false := by decide) (he : starEach (e :: es) X.env = (false, eval e X.env) :: starEach es X.env := by rfl) (hpl : (backTo pos (starEach es X.env)).any (·.1) = false := by rfl) :
    PE X (.Call (.Name x p) (e :: es) [] pos) (tNw C sp dv W ta) := by
  refine ⟨fun pins s σ H Q I h => wpAny_Call_Name_kw (ld_glob I hg hm ?_ hdb)⟩
  refine PySem.W.callWith_K (h₀ := X.base) I.ok.mod.kin M.kp (thn (ha.run pos pins s σ H _ I h) fun us s1 ⟨vs, H1, I1, r1, q1⟩ => ⟨I1.kIn, ?_⟩) he hpl
  have hz := q1 (s1.heap.objs.size + 1) s1.heap.objs.size (I1.hok.fresh (Nat.le_succ _)) (I1.hok.fresh (Nat.le_refl _)) (Nat.ne_of_lt (Nat.lt_succ_self _))
  have hn := F.len _ _ _ _ hz
  have hu : ∀ a : Addr, (Value.ref a :: us ++ ds).length = ps.length := fun a => by
    rw [← hn]
    show (us ++ ds).length + 1 = (vs ++ dv).length + 1
    rw [List.length_append, List.length_append, r1.length, hd.length]
  exact run_nw (kw := []) (bs := fun z => z :: us ++ ds) (bv := fun z => z :: (vs ++ dv)) M F hr tk I1 (fun a s2 kin => hb s2 (.ref a :: us) kin (hu a)) (fun a => .cons rfl (r1.append hd)) q1
theorem pe_nwK0 (M : Mk X.K C f) (F : Fk X.prog X.w X.K X.mg X.base k f fd ps sp) (hr : Rm (k + 1) X.A) (hg : Gl X x) (hm : X.mg x = some (.ref C)) (hb : KBn X.K fd ps 1 ks g gV) (tks : Takes X W) (hkw : PK X kws tk)
    (hall : (backToKw pos (keywordEach kws X.env)).all (·.1.isSome) = true := by rfl) (hks : (backToKw pos (keywordEach kws X.env)).filterMap (·.1) = ks := by rfl) (hmm : ks.length = mm := by rfl) (hdb : (x == ("__debug__" : Str)) = false := by decide)
    (hpl : ((backTo pos (starEach [] X.env)).any (·.1) || (backToKw pos (keywordEach kws X.env)).any (·.1.isNone)) = false := by rfl) :
    PE X (.Call (.Name x p) [] kws pos) (tNwK C 0 mm sp gV W tNil tk) := by
  refine ⟨fun pins s σ H Q I h => wpAny_Call_Name_kw (ld_glob I hg hm ?_ hdb)⟩
  refine PySem.W.callWith_KW0 (h₀ := X.base) I.ok.mod.kin M.kp hall ?_ hpl
  refine thn (hkw.run pos pins s σ H _ I h) fun ws s2 ⟨zs, H2, I2, rz, l1, l2, q2⟩ => ⟨I2.kIn, ?_⟩
  rw [hks]
  subst hmm
  exact run_nw (us := []) (kw := ks.zip ws) (bs := fun z => g [z] ws) (bv := fun z => gV [z] zs) M F hr tks I2 (fun a s3 kin => hb.to s3 [.ref a] ws kin rfl (rz.length.symm.trans l2)) (fun a => hb.rel (.cons rfl .nil) rz) q2
theorem pe_nwK (M : Mk X.K C f) (F : Fk X.prog X.w X.K X.mg X.base k f fd ps sp) (hr : Rm (k + 1) X.A) (hg : Gl X x) (hm : X.mg x = some (.ref C)) (hb : KBn X.K fd ps (n + 1) ks g gV) (tks : Takes X W) (ha : PA X (e :: es) ta) (hkw : PK X kws tk)
    (hall : (backToKw pos (keywordEach kws X.env)).all (·.1.isSome) = true := by rfl) (hks : (backToKw pos (keywordEach kws X.env)).filterMap (·.1) = ks := by rfl) (hmm : ks.length = mm := by rfl) (hdb : (x == ("__debug__" : Str)) = false := by decide)
    (he : starEach (e :: es) X.env = (false, eval e X.env) :: starEach es X.env := by rfl) (hpl : ((backTo pos (starEach (e :: es) X.env)).any (·.1) || (backToKw pos (keywordEach kws X.env)).any (·.1.isNone)) = false := by rfl) :
    PE X (.Call (.Name x p) (e :: es) kws pos) (tNwK C n mm sp gV W ta tk) := by
  refine ⟨fun pins s σ H Q I h => wpAny_Call_Name_kw (ld_glob I hg hm ?_ hdb)⟩
  refine PySem.W.callWith_KW (h₀ := X.base) I.ok.mod.kin M.kp hall (thn (ha.run pos pins s σ H _ I h) fun us s1 ⟨vs, H1, I1, r1, q1⟩ => ?_) hpl he
  refine thn (hkw.run pos pins s1 σ H1 _ I1 q1) fun ws s2 ⟨zs, H2, I2, rz, l1, l2, q2⟩ => ⟨I2.kIn, ?_⟩
  rw [hks]
  subst hmm
  exact run_nw (us := us) (kw := ks.zip ws) (bs := fun z => g (z :: us) ws) (bv := fun z => gV (z :: vs) zs) M F hr tks I2 (fun a s3 kin => hb.to s3 (.ref a :: us) ws kin (by rw [List.length_cons, ← r1.length, l1]) (rz.length.symm.trans l2)) (fun a => hb.rel (.cons rfl r1) rz) q2
theorem pe_mt {pl : Sem Bool} (ho : PE X o to) (F : Fk X.prog X.w X.K X.mg X.base k f fd ps sp) (hr : Rm k X.A) (hb : Binds X.K fd ps ds) (hd : Vals dv ds) (tk : Takes X W) (ha : PA X (e :: es) ta)
    (hst : starEach (e :: es) X.env = (false, eval e X.env) :: starEach es X.env := by rfl) (hpl : (backTo pos (starEach es X.env)).any (·.1) = false := by rfl)
    (ht : eval (.Call (.Attribute o m apos) (e :: es) [] pos) X.env = mcl X o m apos pl pos (e :: es) [] := by rfl) :
    PE X (.Call (.Attribute o m apos) (e :: es) [] pos) (tMt X.K m f sp dv W to ta) := by
  refine ⟨fun pins s σ H Q I h => ?_⟩
  refine PySem.W.methodCall_KW (pl := pl) (thn (ho.run pins s σ H _ I h) fun u s1 ⟨y, H1, I1, ry, a, C, dx, fs, ey, ea, c, hm, l, q⟩ => ?_) ht
  subst ey
  obtain rfl : u = Value.ref a := ry
  refine getmeth_ok I1 ea c hm l ?_
  refine PySem.W.callWith_K (first := [.ref a]) (h₀ := X.base) I.ok.mod.kin hm.kp (thn (ha.run pos pins s1 σ H1 _ I1 q) fun us s2 ⟨vs, H2, I2, r2, q2⟩ => ⟨I2.kIn, ?_⟩) hst hpl
  exact run_d (us := .ref a :: us) (vs := .ref a :: vs) F hr hb hd tk I2 (.cons rfl r2) q2
theorem pe_mt0 {pl : Sem Bool} (ho : PE X o to) (F : Fk X.prog X.w X.K X.mg X.base k f fd ps sp) (hr : Rm k X.A) (hb : Binds X.K fd ps ds) (hd : Vals dv ds) (tk : Takes X W)
    (ht : eval (.Call (.Attribute o m apos) [] [] pos) X.env = mcl X o m apos pl pos [] [] := by rfl) :
    PE X (.Call (.Attribute o m apos) [] [] pos) (tMt X.K m f sp dv W to tNil) := by
  refine ⟨fun pins s σ H Q I h => ?_⟩
  refine PySem.W.methodCall_KW (pl := pl) (thn (ho.run pins s σ H _ I h) fun u s1 ⟨y, H1, I1, ry, a, C, dx, fs, ey, ea, c, hm, l, q⟩ => ?_) ht
  subst ey
  obtain rfl : u = Value.ref a := ry
  refine getmeth_ok I1 ea c hm l ?_
  exact PySem.W.callWith_K0 (first := [.ref a]) I1.kIn hm.kp (run_d (us := [.ref a]) (vs := [.ref a]) F hr hb hd tk I1 (.cons rfl .nil) q)
theorem pe_mtK {pl : Sem Bool} (ho : PE X o to) (F : Fk X.prog X.w X.K X.mg X.base k f fd ps sp) (hr : Rm k X.A) (hb : KBn X.K fd ps (n + 1) ks g gV) (tks : Takes X W) (ha : PA X (e :: es) ta) (hkw : PK X kws tk)
    (hall : (backToKw pos (keywordEach kws X.env)).all (·.1.isSome) = true := by rfl) (hks : (backToKw pos (keywordEach kws X.env)).filterMap (·.1) = ks := by rfl) (hmm : ks.length = mm := by rfl)
    (hst : starEach (e :: es) X.env = (false, eval e X.env) :: starEach es X.env := by rfl) (hpl : ((backTo pos (starEach (e :: es) X.env)).any (·.1) || (backToKw pos (keywordEach kws X.env)).any (·.1.isNone)) = false := by rfl)
    (ht : eval (.Call (.Attribute o m apos) (e :: es) kws pos) X.env = mcl X o m apos pl pos (e :: es) kws := by rfl) :
    PE X (.Call (.Attribute o m apos) (e :: es) kws pos) (tMtK X.K m f n mm sp gV W to ta tk) := by
  refine ⟨fun pins s σ H Q I h => ?_⟩
  refine PySem.W.methodCall_KW (pl := pl) (thn (ho.run pins s σ H _ I h) fun u s1 ⟨y, H1, I1, ry, a, C, dx, fs, ey, ea, c, hm, l, q⟩ => ?_) ht
  subst ey
  obtain rfl : u = Value.ref a := ry
  refine getmeth_ok I1 ea c hm l ?_
  refine PySem.W.callWith_KW (first := [.ref a]) (h₀ := X.base) I.ok.mod.kin hm.kp hall (thn (ha.run pos pins s1 σ H1 _ I1 q) fun us s2 ⟨vs, H2, I2, r2, q2⟩ => ?_) hpl hst
  refine thn (hkw.run pos pins s2 σ H2 _ I2 q2) fun ws s3 ⟨zs, H3, I3, rz, l1, l2, q3⟩ => ⟨I3.kIn, ?_⟩
  rw [hks]
  subst hmm
  exact run_g (args := ⟨.ref a :: us, ks.zip ws⟩) F hr tks I3 (hb.to s3 (.ref a :: us) ws I3.kIn (by rw [List.length_cons, ← r2.length, l1]) (rz.length.symm.trans l2)) (hb.rel (.cons (show RelV (.ref a) (.ref a) from rfl) r2) rz) q3
theorem pe_mtK0 {pl : Sem Bool} (ho : PE X o to) (F : Fk X.prog X.w X.K X.mg X.base k f fd ps sp) (hr : Rm k X.A) (hb : KBn X.K fd ps 1 ks g gV) (tks : Takes X W) (hkw : PK X kws tk)
    (hall : (backToKw pos (keywordEach kws X.env)).all (·.1.isSome) = true := by rfl) (hks : (backToKw pos (keywordEach kws X.env)).filterMap (·.1) = ks := by rfl) (hmm : ks.length = mm := by rfl)
    (hpl : ((backTo pos (starEach [] X.env)).any (·.1) || (backToKw pos (keywordEach kws X.env)).any (·.1.isNone)) = false := by rfl)
    (ht : eval (.Call (.Attribute o m apos) [] kws pos) X.env = mcl X o m apos pl pos [] kws := by rfl) :
    PE X (.Call (.Attribute o m apos) [] kws pos) (tMtK X.K m f 0 mm sp gV W to tNil tk) := by
  refine ⟨fun pins s σ H Q I h => ?_⟩
  refine PySem.W.methodCall_KW (pl := pl) (thn (ho.run pins s σ H _ I h) fun u s1 ⟨y, H1, I1, ry, a, C, dx, fs, ey, ea, c, hm, l, q⟩ => ?_) ht
  subst ey
  obtain rfl : u = Value.ref a := ry
  refine getmeth_ok I1 ea c hm l ?_
  refine PySem.W.callWith_KW0 (first := [.ref a]) (h₀ := X.base) I.ok.mod.kin hm.kp hall ?_ hpl
  refine thn (hkw.run pos pins s1 σ H1 _ I1 q) fun ws s3 ⟨zs, H3, I3, rz, l1, l2, q3⟩ => ⟨I3.kIn, ?_⟩
  rw [hks]
  subst hmm
  exact run_g (args := ⟨[.ref a], ks.zip ws⟩) F hr tks I3 (hb.to s3 [.ref a] ws I3.kIn rfl (rz.length.symm.trans l2)) (hb.rel (.cons (show RelV (.ref a) (.ref a) from rfl) .nil) rz) q3
/-- a property, nothing raised -/
theorem pe_pr (ho : PE X o to) (F : Fk X.prog X.w X.K X.mg X.base k f fd ps sp) (hr : Rm (k + 1) X.A) (hb : Binds X.K fd ps []) (hab : attributeBase o m X.env (eval o X.env) = eval o X.env) : PE X (.Attribute o m pos) (tPr X.K m f sp to) := by
  refine ⟨fun pins s σ H Q I h => attr_of hab (thn (ho.run pins s σ H _ I h) fun u s1 ⟨y, H1, I1, ry, a, C, dx, fs, pp, ey, ea, c, hp, q⟩ => ?_)⟩
  subst ey
  obtain rfl : u = Value.ref a := ry
  obtain ⟨mA, O, _, _, _, _⟩ := ins_get I1.hok ea
  obtain ⟨od, J, _⟩ := O.look
  obtain ⟨rest, hrec⟩ := hp.rec_
  have I2 := I1.tok (s1.toks + 1)
  have hc : (PySem.W.clsIn X.K C).isSome = true := by
    obtain ⟨cd, hc, _⟩ := PySem.W.any_some c.hd
    rw [hc] <;> rfl
  have hl : [Value.ref a].length = ps.length := (F.len _ _ _ _ q).symm ▸ rfl
  have b := hb { s1 with toks := s1.toks + 1 } [Value.ref a] I2.kIn (by rw [List.append_nil]; exact hl)
  rw [List.append_nil] at b
  have e0 := I2.env0.in1
  refine PySem.W.get_bind I1.kIn J (PySem.W.plainGet_of (c.get m)).1 (PySem.W.findObj_data hc hp.at_ hp.get hp.tak) (PySem.W.plainGet_of (c.get m)).2 (wpAny_call (PySem.W.prop_get (s := { s1 with toks := s1.toks + 1 }) I1.kIn hrec ?_))
  refine codeAny_mono (F.run X.A.in1 X.stack { s1 with toks := s1.toks + 1 } H1 ⟨[.ref a], []⟩ [.ref a] [.ref a] Q E0 hr.in1 e0 b (.cons rfl .nil) q) fun rr s2 hq => ?_
  cases rr with
  | error er => obtain ⟨_, _, _, _, _, _, _, _, _, _, _, _, z⟩ := hq; exact z.elim
  | ok fl =>
    cases fl with
    | ret u2 =>
      obtain ⟨v, H3, I3, rv, q3⟩ := I2.after hq
      show wpAny _ _ (handedOut u2) _ _ _
      rw [PySem.W.handedOut_of (handed_of rv)]
      exact wpAny_pure ⟨v, H3, I3, rv, q3⟩
    | next => exact hq.elim
    | brk => exact hq.elim
    | cont => exact hq.elim
end
end SJ

/-! SJO: the special methods of the text's own classes: ==, !=, str, repr, len. -/
namespace SJ
open PySem PySem.Spec PyProof.Rows L2 He
section
variable {prog : Program} {w : World} {A : Around} {E : Value → Shared → Prop} {s : Shared} {K : PySem.W.Frag} {x y C C2 L f : Addr} {h0 : Heap} {m : Str → Option Value} {ox oy : Obj} {od od2 : Option Obj}
/-- the right operand's class lies below the left one's: it is asked first -/
theorem cmp_below {op : CmpOp} {Q : Value → Shared → Prop} (hu : A.units < cLine) (X : K.In s.heap) (I : PySem.W.InstAt s.heap x ox C od) (J : PySem.W.InstAt s.heap y oy C2 od2) (hne : C2 ≠ C) (hsub : PySem.W.subIn K (.ref C2) (.ref C) = some true)
    (hs : PySem.W.findIn K (.ref C2) (cmpInfo op).2.2 = some (some (.ref f))) (hf : PySem.W.isFn K (.ref f) = true)
    (h : wpAny (model prog w) A (call (.ref f) [.ref y, .ref x]) (PySem.W.CmpBack Q) E s) : wpAny (model prog w) A (richCompare op (.ref x) (.ref y)) Q E s := by
  have one : wpAny (model prog w) A (tryCompare (.ref y) (cmpInfo op).2.2 (.ref x)) (fun rr s2 => ∃ v, rr = some v ∧ Q v s2) E s := by
    unfold tryCompare
    refine wpAny_bind (PySem.W.ifBound_K X J hs hf (wpAny_mono h (fun v s2 hv => ?_) fun _ _ z => z))
    cases v <;> first | exact hv.elim | exact wpAny_pure ⟨_, rfl, hv⟩
  unfold richCompare
  simp only [oneThing_ref]
  refine wpAny_holding (wpAny_bind (wpAny_cRoomFor hu ?_))
  refine wpAny_bind (I.type.here (wpAny_bind (J.type.here ?_)))
  have nb : (Value.ref C != Value.ref C2) = true := by simpa using (Ne.symm hne)
  rw [nb]
  refine wpAny_bind ((PySem.W.looks_subIn X hsub).here ?_)
  refine wpAny_bind (wpAny_mono one (fun rr s2 z => ?_) fun _ _ z => z)
  obtain ⟨v, rfl, hq⟩ := z
  show wpAny _ _ (rule "compare.subclass-reflected-first" >>= fun _ => pure v) _ _ _
  repeat (first | exact wpAny_pure hq | wp_step)
/-- an own class without __ne__: what __eq__ says, turned -/
theorem ifBound_ne {args : List Value} {Q : Option Value → Shared → Prop} (X : K.In s.heap) (I : PySem.W.InstAt s.heap x ox C od) (hs : PySem.W.findIn K (.ref C) "__ne__" = some (some (.builtin "object.__ne__")))
    (h : wpAny (model prog w) A (call (.builtin "object.__ne__") (.ref x :: args)) (fun v => Q (some v)) E s) : wpAny (model prog w) A (callSpecialIfBound? (.ref x) "__ne__" args) Q E s := by
  simp only [callSpecialIfBound?, bindSpecialIfBound?]
  refine wpAny_holding (wpAny_bind (wpAny_bind (wpAny_bind (I.type.here ((PySem.W.looks_findIn X hs).here ?_)))))
  refine wpAny_bind (wpAny_askSetting (wpAny_ite ?_))
  have fin : wpAny (model prog w) A (call (.builtin "object.__ne__") ([.ref x] ++ args) >>= fun v => pure (some v)) Q E s := wpAny_bind (wpAny_mono h (fun v s2 z => wpAny_pure z) fun _ _ z => z)
  have hb : bindSpecial (.builtin "object.__ne__") (.ref x) = pure (.builtin "object.__ne__", [.ref x]) := PySem.F.slot_object_ne.bind _
  split
  · exact wpAny_bind (wpAny_of_eq hb (wpAny_pure (by exact fin)))
  · exact wpAny_tryCatch (wpAny_bind (wpAny_of_eq hb (wpAny_pure (by exact fin))))
theorem call_ne {b : Value} {Q : Value → Shared → Prop} (hu : A.in1.units < cLine) (X : K.In s.heap) (I : PySem.W.InstAt s.heap x ox C od) (hm : PySem.W.mroIn K C (.type "object") = some true)
    (hs : PySem.W.findIn K (.ref C) "__eq__" = some (some (.ref f))) (hf : PySem.W.isFn K (.ref f) = true)
    (h : wpAny (model prog w) A.in1 (call (.ref f) [.ref x, b]) (fun v s2 => ∃ c, v = .bool c ∧ Q (.bool (!c)) s2) E s) : wpAny (model prog w) A (call (.builtin "object.__ne__") [.ref x, b]) Q E s := by
  refine wpAny_call (codeAny_call_builtin PySem.F.slot_object_ne.plain PySem.F.cmpEntry_ne (PySem.W.check_slot (i := "object.__ne__") (owner := "object") (n := "__ne__") PySem.F.cmpKind_ne PySem.F.cmpSplit_ne (I.type.andThen (PySem.W.looks_mroIn X hm)) (PySem.F.cmpArgs_ne _ _) ?_))
  unfold Builtin.«object.__ne__»
  repeat (first
    | with_reducible refine wpAny_cRoomFor hu ?_
    | (refine wpAny_bind (m := callSpecialIfBound? (.ref x) (Str.ofString "__eq__") [b]) (PySem.W.ifBound_K X I hs hf (wpAny_mono h (fun rr s2 hr => by
          obtain ⟨c, rfl, hq⟩ := hr
          repeat (first | exact hq | exact wpAny_pure hq | exact wpAny_truthy_bool hq | (refine wpAny_bind (m := truthy (.bool _)) (wpAny_truthy_bool ?_)) | exact ⟨_, rfl, hq⟩ | wp_step)) fun _ _ z => z)))
    | wp_step)
end

/-! ### over the layer -/
section
variable {X : Cx} {k : Nat} {f : Addr} {fd : FuncData} {ps : List Str} {sp : Sp}
/-- a def run at a deeper place, nothing raised -/
theorem run_at {A : Around} {pins : List (Addr × Obj)} {σ : L2.St} {H : Hp} {s : Shared} {Q : VK} {E : Value → Shared → Prop} {us : List Value} {vs : List V} (F : Fk X.prog X.w X.K X.mg X.base k f fd ps sp) (hr : Rm k A) (fr : A.frames = X.A.frames) (hb : Binds X.K fd ps [])
    (I : Inv X pins σ H s) (rv : Vals vs us) (h : sp vs H Q E0) : wpAny (model X.prog X.w) A (call (.ref f) us) (EP X pins σ Q) E s := by
  have hl : us.length = ps.length := by rw [← rv.length]; exact F.len _ _ _ _ h
  have b := hb s us I.kIn (by rw [List.append_nil]; exact hl)
  rw [List.append_nil] at b
  have e := I.env0
  refine wpAny_call (codeAny_mono (F.run A X.stack s H ⟨us, []⟩ us vs Q E0 hr ⟨by rw [fr]; exact e.frames, e.mod, e.bs, e.bsz, e.funs, e.frf, e.hok, e.bare⟩ b rv h) fun rr s2 hq => ?_)
  cases rr with
  | error er => obtain ⟨_, _, _, _, _, _, _, _, _, _, _, _, z⟩ := hq; exact z.elim
  | ok fl =>
    cases fl with
    | ret u => exact I.after hq
    | next => exact hq.elim
    | brk => exact hq.elim
    | cont => exact hq.elim
def rOwnEq (K : PySem.W.Frag) (g : Addr) (sp : Sp) : R2 := fun x y H Q => ∃ a C dx fs, x = .ref a ∧ H a = some (.ins C dx fs) ∧ PySem.W.findIn K (.ref C) "__eq__" = some (some (.ref g)) ∧
  ((∃ tb, TyX K H y tb ∧ PySem.W.notFirst K C tb = true ∧ sp [x, y] H Q E0) ∨
    ∃ b C2 d2 f2, y = .ref b ∧ H b = some (.ins C2 d2 f2) ∧ C2 ≠ C ∧ PySem.W.subIn K (.ref C2) (.ref C) = some true ∧ PySem.W.findIn K (.ref C2) "__eq__" = some (some (.ref g)) ∧ sp [y, x] H Q E0)
def rOwnNe (K : PySem.W.Frag) (g : Addr) (sp : Sp) : R2 := fun x y H Q => ∃ a C dx fs, x = .ref a ∧ H a = some (.ins C dx fs) ∧ PySem.W.findIn K (.ref C) "__eq__" = some (some (.ref g)) ∧ PySem.W.findIn K (.ref C) "__ne__" = some (some (.builtin "object.__ne__")) ∧ PySem.W.mroIn K C (.type "object") = some true ∧
  ((∃ tb, TyX K H y tb ∧ PySem.W.notFirst K C tb = true ∧ sp [x, y] H (fun v H2 => ∃ c, v = .bl c ∧ Q (.bl (!c)) H2) E0) ∨
    ∃ b C2 d2 f2, y = .ref b ∧ H b = some (.ins C2 d2 f2) ∧ C2 ≠ C ∧ PySem.W.subIn K (.ref C2) (.ref C) = some true ∧ PySem.W.findIn K (.ref C2) "__eq__" = some (some (.ref g)) ∧ PySem.W.findIn K (.ref C2) "__ne__" = some (some (.builtin "object.__ne__")) ∧
      PySem.W.mroIn K C2 (.type "object") = some true ∧ sp [y, x] H (fun v H2 => ∃ c, v = .bl c ∧ Q (.bl (!c)) H2) E0)
theorem back_of {pins : List (Addr × Obj)} {σ : L2.St} {Q : VK} {v : Value} {s : Shared} (h : EP X pins σ Q v s) : PySem.W.CmpBack (EP X pins σ Q) v s := by
  obtain ⟨z, H, I, r, q⟩ := h
  have hh : EP X pins σ Q v s := ⟨z, H, I, r, q⟩
  cases v with
  | notImplemented => cases z <;> first | (cases r; done) | (obtain ⟨_, e⟩ := r; cases e)
  | _ => exact hh
theorem o_ownEq (F : Fk X.prog X.w X.K X.mg X.base k f fd ps sp) (hr : Rm k X.A) (hf : PySem.W.isFn X.K (.ref f) = true) (hb : Binds X.K fd ps []) : OpR X (compareOp .Eq) (rOwnEq X.K f sp) := by
  intro pins s σ H x y v u Q I rx ry h
  obtain ⟨a, C, dx, fs, rfl, ha, he, h⟩ := h
  obtain rfl : v = Value.ref a := rx
  obtain ⟨mA, J, _⟩ := ins_get I.hok ha
  obtain ⟨od, J, _⟩ := J.look
  obtain ⟨m, hF⟩ := I.fr
  show wpAny (model X.prog X.w) X.A (richCompare .Eq (.ref a) u) (EP X pins σ Q) X.xe s
  rcases h with ⟨tb, ty, nf, hs⟩ | ⟨b, C2, d2, f2, rfl, hb2, ne, sub, he2, hs⟩
  · obtain ⟨P, Z, p, _⟩ := kit_of I ry ty
    exact PySem.W.cmp_K (op := .Eq) hr.units0 hF I.ok.mod.kin J (Z.ty _ _ I.kIn p) nf he hf (wpAny_mono (run_at F hr rfl hb I (.cons (show RelV (.ref a) (.ref a) from rfl) (.cons ry .nil)) hs) (fun v s2 q => back_of q) fun _ _ z => z)
  · obtain rfl : u = Value.ref b := ry
    obtain ⟨mB, J2, _⟩ := ins_get I.hok hb2
    obtain ⟨od2, J2, _⟩ := J2.look
    exact cmp_below (op := .Eq) hr.units0 I.kIn J J2 ne sub he2 hf (wpAny_mono (run_at F hr rfl hb I (.cons (show RelV (.ref b) (.ref b) from rfl) (.cons (show RelV (.ref a) (.ref a) from rfl) .nil)) hs) (fun v s2 q => back_of q) fun _ _ z => z)
theorem bool_of {pins : List (Addr × Obj)} {σ : L2.St} {Q : VK} {v : Value} {s : Shared} (h : EP X pins σ (fun v H2 => ∃ c, v = .bl c ∧ Q (.bl (!c)) H2) v s) : ∃ c, v = .bool c ∧ EP X pins σ Q (.bool (!c)) s := by
  obtain ⟨z, H, I, r, c, rfl, q⟩ := h
  exact ⟨c, r, .bl (!c), H, I, rfl, q⟩
theorem o_ownNe (F : Fk X.prog X.w X.K X.mg X.base k f fd ps sp) (hr : Rm (k + 1) X.A) (hf : PySem.W.isFn X.K (.ref f) = true) (hb : Binds X.K fd ps []) : OpR X (compareOp .NotEq) (rOwnNe X.K f sp) := by
  intro pins s σ H x y v u Q I rx ry h
  obtain ⟨a, C, dx, fs, rfl, ha, he, hne, hm, h⟩ := h
  obtain rfl : v = Value.ref a := rx
  obtain ⟨mA, J, _⟩ := ins_get I.hok ha
  obtain ⟨od, J, _⟩ := J.look
  have hu1 : X.A.in1.units < cLine := hr.in1.units0
  have cb : ∀ {c : Bool} {s2 : Shared}, EP X pins σ Q (.bool c) s2 → PySem.W.CmpBack (EP X pins σ Q) (.bool c) s2 := fun z => z
  show wpAny (model X.prog X.w) X.A (richCompare .NotEq (.ref a) u) (EP X pins σ Q) X.xe s
  unfold richCompare
  simp only [oneThing_ref]
  refine wpAny_holding (wpAny_bind (wpAny_cRoomFor hr.units0 ?_))
  rcases h with ⟨tb, ty, nf, hs⟩ | ⟨b, C2, d2, f2, rfl, hb2, ne, sub, he2, hne2, hm2, hs⟩
  · obtain ⟨P, Z, p, _⟩ := kit_of I ry ty
    have one : wpAny (model X.prog X.w) X.A (tryCompare (.ref a) "__ne__" u) (fun rr s2 => ∃ v, rr = some v ∧ EP X pins σ Q v s2) X.xe s := by
      unfold tryCompare
      refine wpAny_bind (ifBound_ne I.kIn J hne (call_ne hu1 I.kIn J hm he hf (wpAny_mono (run_at F hr.in1 rfl hb I (.cons (show RelV (.ref a) (.ref a) from rfl) (.cons ry .nil)) hs) (fun v s2 q => ?_) fun _ _ z => z)))
      obtain ⟨c, rfl, q2⟩ := bool_of q
      exact ⟨c, rfl, wpAny_pure ⟨_, rfl, q2⟩⟩
    refine wpAny_bind (J.type.here (wpAny_bind ((Z.ty _ _ I.kIn p).here ?_)))
    split
    · rename_i q
      have e : PySem.W.subIn X.K tb (.ref C) = some false := by
        rcases Bool.or_eq_true_iff.mp nf with e | e
        · rw [beq_iff_eq.mp e] at q; simp at q
        · exact beq_iff_eq.mp e
      refine wpAny_bind ((PySem.W.looks_subIn I.kIn e).here ?_)
      simp only [Bool.false_eq_true, if_false]
      refine wpAny_bind (wpAny_mono one (fun rr s2 z => ?_) fun _ _ z => z)
      obtain ⟨v, rfl, hq⟩ := z
      exact wpAny_pure hq
    · refine wpAny_bind (wpAny_pure ?_)
      simp only [Bool.false_eq_true, if_false]
      refine wpAny_bind (wpAny_mono one (fun rr s2 z => ?_) fun _ _ z => z)
      obtain ⟨v, rfl, hq⟩ := z
      exact wpAny_pure hq
  · obtain rfl : u = Value.ref b := ry
    obtain ⟨mB, J2, _⟩ := ins_get I.hok hb2
    obtain ⟨od2, J2, _⟩ := J2.look
    have one : wpAny (model X.prog X.w) X.A (tryCompare (.ref b) "__ne__" (.ref a)) (fun rr s2 => ∃ v, rr = some v ∧ EP X pins σ Q v s2) X.xe s := by
      unfold tryCompare
      refine wpAny_bind (ifBound_ne I.kIn J2 hne2 (call_ne hu1 I.kIn J2 hm2 he2 hf (wpAny_mono (run_at F hr.in1 rfl hb I (.cons (show RelV (.ref b) (.ref b) from rfl) (.cons (show RelV (.ref a) (.ref a) from rfl) .nil)) hs) (fun v s2 q => ?_) fun _ _ z => z)))
      obtain ⟨c, rfl, q2⟩ := bool_of q
      exact ⟨c, rfl, wpAny_pure ⟨_, rfl, q2⟩⟩
    refine wpAny_bind (J.type.here (wpAny_bind (J2.type.here ?_)))
    have nb : (Value.ref C != Value.ref C2) = true := by simpa using (Ne.symm ne)
    rw [nb]
    refine wpAny_bind ((PySem.W.looks_subIn I.kIn sub).here ?_)
    refine wpAny_bind (wpAny_mono one (fun rr s2 z => ?_) fun _ _ z => z)
    obtain ⟨v, rfl, hq⟩ := z
    show wpAny _ _ (rule "compare.subclass-reflected-first" >>= fun _ => pure v) _ _ _
    repeat (first | exact wpAny_pure hq | wp_step)
/-! ### str, repr, len of an own instance -/
def rOwn1 (K : PySem.W.Frag) (m : Str) (g : Addr) (sp : Sp) : List V → Hp → VK → Prop := fun xs H Q => ∃ a C dx fs, xs = [.ref a] ∧ H a = some (.ins C dx fs) ∧ PySem.W.findIn K (.ref C) m = some (some (.ref g)) ∧ sp [.ref a] H (fun v H2 => ∃ z, v = .str z ∧ Q v H2) E0
def rOwnLen (K : PySem.W.Frag) (g : Addr) (sp : Sp) : List V → Hp → VK → Prop := fun xs H Q => ∃ a C dx fs, xs = [.ref a] ∧ H a = some (.ins C dx fs) ∧ PySem.W.findIn K (.ref C) "__len__" = some (some (.ref g)) ∧ sp [.ref a] H (fun v H2 => ∃ z : Int, v = .int z ∧ 0 ≤ z ∧ z < 2 ^ 63 ∧ Q v H2) E0
theorem str_back {pins : List (Addr × Obj)} {σ : L2.St} {Q : VK} {v : Value} {s : Shared} (h : EP X pins σ (fun v H2 => ∃ z, v = .str z ∧ Q v H2) v s) : PySem.W.StrBack (EP X pins σ Q) v s := by
  obtain ⟨z, H, I, r, y, rfl, q⟩ := h
  obtain ⟨t, rfl⟩ := r
  exact ⟨.str y, H, I, ⟨t, rfl⟩, q⟩
theorem c_reprOwn (F : Fk X.prog X.w X.K X.mg X.base k f fd ps sp) (hr : Rm (k + 1) X.A) (hf : PySem.W.isFn X.K (.ref f) = true) (hb : Binds X.K fd ps []) : CallR X (.builtin "repr") (rOwn1 X.K "__repr__" f sp) := by
  intro pins s σ H xs us Q I r h
  obtain ⟨a, C, dx, fs, rfl, ha, he, hs⟩ := h
  obtain ⟨u1, rfl, r1⟩ := vals1 r
  obtain rfl : u1 = Value.ref a := r1
  obtain ⟨mA, J, _⟩ := ins_get I.hok ha
  obtain ⟨od, J, _⟩ := J.look
  obtain ⟨m, hF⟩ := I.fr
  exact PySem.W.repr_K hr.in1.units0 hF I.ok.mod.kin J he hf (wpAny_mono (run_at F hr.in1 rfl hb I (.cons (show RelV (.ref a) (.ref a) from rfl) .nil) hs) (fun v s2 q => str_back q) fun _ _ z => z)
theorem c_strOwn (F : Fk X.prog X.w X.K X.mg X.base k f fd ps sp) (hr : Rm (k + 2) X.A) (hf : PySem.W.isFn X.K (.ref f) = true) (hb : Binds X.K fd ps []) : CallR X (.type "str") (rOwn1 X.K "__str__" f sp) := by
  intro pins s σ H xs us Q I r h
  obtain ⟨a, C, dx, fs, rfl, ha, he, hs⟩ := h
  obtain ⟨u1, rfl, r1⟩ := vals1 r
  obtain rfl : u1 = Value.ref a := r1
  obtain ⟨mA, J, _⟩ := ins_get I.hok ha
  obtain ⟨od, J, _⟩ := J.look
  exact PySem.W.kso_call hr.in1.in1.units0 I.kIn J he hf (wpAny_mono (run_at F hr.in1.in1 rfl hb I (.cons (show RelV (.ref a) (.ref a) from rfl) .nil) hs) (fun v s2 q => str_back q) fun _ _ z => z)
theorem c_lenOwn (F : Fk X.prog X.w X.K X.mg X.base k f fd ps sp) (hr : Rm (k + 1) X.A) (hf : PySem.W.isFn X.K (.ref f) = true) (hb : Binds X.K fd ps []) : CallR X (.builtin "len") (rOwnLen X.K f sp) := by
  intro pins s σ H xs us Q I r h
  obtain ⟨a, C, dx, fs, rfl, ha, he, hs⟩ := h
  obtain ⟨u1, rfl, r1⟩ := vals1 r
  obtain rfl : u1 = Value.ref a := r1
  obtain ⟨mA, J, _⟩ := ins_get I.hok ha
  obtain ⟨od, J, _⟩ := J.look
  obtain ⟨m, hF⟩ := I.fr
  refine PySem.W.len_K hF I.ok.mod.kin J he hf (wpAny_mono (run_at F hr.in1 rfl hb I (.cons (show RelV (.ref a) (.ref a) from rfl) .nil) hs) (fun v s2 q => ?_) fun _ _ z => z)
  obtain ⟨z, H2, I2, rz, n, rfl, n0, n1, q2⟩ := q
  obtain ⟨t, rfl⟩ := rz
  exact ⟨⟨n0, n1⟩, .int n, H2, I2.tok _, ⟨_, rfl⟩, q2⟩
end
end SJ

/-! SJP: repr of data (None, bools, ints, texts, lists and tuples of them, nested). -/
namespace SJ
open PySem PySem.Spec PyProof.Rows L2 He
def rRepr (K : PySem.W.Frag) : List V → Hp → VK → Prop := fun xs H Q => ∃ (x : V) (d : PyData), xs = [x] ∧ Dp K H x d ∧ d.showable = true ∧ d.depth ≤ 100 ∧ d.shown.length ≤ sizeLine ∧ Q (.str d.shown) H
mutual
theorem Dp.noDict {K : PySem.W.Frag} {H : Hp} : ∀ (d : PyData) (x : V), Dp K H x d → d.hasDict = false
  | .none, _, _ => by simp only [PyData.hasDict]
  | .bool _, _, _ => by simp only [PyData.hasDict]
  | .int _, _, _ => by simp only [PyData.hasDict]
  | .str _, _, _ => by simp only [PyData.hasDict]
  | .list ds, _, h => by
    cases h with
    | lst _ ha => simp only [PyData.hasDict]; exact DpAll.noDict ds _ ha
  | .tuple ds, _, h => by
    cases h with
    | tup _ ha => simp only [PyData.hasDict]; exact DpAll.noDict ds _ ha
  | .dict _, _, h => by cases h
theorem DpAll.noDict {K : PySem.W.Frag} {H : Hp} : ∀ (ds : List PyData) (xs : List V), DpAll K H xs ds → PyData.hasDictAll ds = false
  | [], _, _ => by simp only [PyData.hasDictAll]
  | d :: ds, _, h => by
    cases h with
    | cons h1 h2 => simp only [PyData.hasDictAll, Dp.noDict d _ h1, DpAll.noDict ds _ h2, Bool.or_false]
end
section
variable {X : Cx} {k : Nat}
theorem c_repr (hr : Rm k X.A) : CallR X (.builtin "repr") (rRepr X.K) := by
  intro pins s σ H xs us Q I r h
  obtain ⟨x, d, rfl, hd, sh, dp, sz, q⟩ := h
  obtain ⟨u1, rfl, r1⟩ := vals1 r
  obtain ⟨as, rd⟩ := Dp.reads I d x u1 hd r1
  have hu : X.A.units + (d.depth + 1) < cLine := by have := hr.r.un; omega
  have fin : ∀ (h2 : Heap) (u : Tok) (tk : Nat), (∀ b o, s.heap.get? b = some o → h2.get? b = some o) → EP X pins σ Q (.str d.shown u) { s with heap := h2, toks := tk } := fun h2 u tk kp => ⟨.str d.shown, H, I.kept kp, ⟨u, rfl⟩, q⟩
  cases hd with
  | non => obtain rfl : u1 = Value.none := r1; exact P.repr_of_none (fin _ _ _ fun _ _ z => z)
  | bl b => obtain rfl : u1 = Value.bool b := r1; exact P.repr_of_bool (fin _ _ _ fun _ _ z => z)
  | int i => obtain ⟨t, rfl⟩ := r1; exact P.repr_of_int (of_decide_eq_true sh) (fin _ _ _ fun _ _ z => z)
  | str z => obtain ⟨t, rfl⟩ := r1; exact P.repr_of_str (fin _ _ _ fun _ _ z => z) (by simpa only [PyData.shown] using sz)
  | @lst a ys ds hs ha => obtain rfl : u1 = Value.ref a := r1; exact repr_of_reads' rd sh (PyData.noDict_hsm (Dp.noDict _ _ (.lst hs ha))) hr.g hu (fun _ _ z => z) fin sz
  | @tup a ys ds hs ha => obtain rfl : u1 = Value.ref a := r1; exact repr_of_reads' rd sh (PyData.noDict_hsm (Dp.noDict _ _ (.tup hs ha))) hr.g hu (fun _ _ z => z) fin sz
end
end SJ

/-! SJE: own exceptions over any of the built-in bases, whose __init__ says super().__init__(..) and stores fields. -/
namespace SJ
open PySem PySem.Spec PyProof.Rows L2 He
/-- of the built-in base -/
structure ExB (B newId initId : String) (bmB : List Value) : Prop where
  fb : ExcBaseFacts B newId initId bmB
  sf : StoreFacts B bmB "object.__setattr__" "object"
  kf : PySem.W.KxsFacts B initId
theorem exb_value : ExB "ValueError" "ValueError.__new__" "ValueError.__init__" [.type "ValueError", .type "Exception", .type "BaseException", .type "object"] := ⟨PySem.F.excBase_ValueError, PySem.F.store_ValueError, PySem.W.kxs_ValueError⟩
theorem exb_lookup : ExB "LookupError" "LookupError.__new__" "LookupError.__init__" [.type "LookupError", .type "Exception", .type "BaseException", .type "object"] := ⟨PySem.F.excBase_LookupError, PySem.F.store_LookupError, PySem.W.kxs_LookupError⟩
theorem exb_over : ExB "OverflowError" "OverflowError.__new__" "OverflowError.__init__" [.type "OverflowError", .type "ArithmeticError", .type "Exception", .type "BaseException", .type "object"] := ⟨PySem.F.excBase_OverflowError, PySem.F.store_OverflowError, PySem.W.kxs_OverflowError⟩
/-- of the own class -/
structure ExG (K : PySem.W.Frag) (C : Addr) (newId : String) (bmB : List Value) : Prop where
  q : PySem.W.excInitIn K C bmB newId = true
  hd : PySem.W.hasDictIn K C = true
  ov : PySem.W.excOver K C bmB = true
  sa : PySem.W.findIn K (.ref C) "__setattr__" = some (some (.builtin "object.__setattr__"))
  exC : PySem.W.subIn K (.ref C) (.type "BaseException") = some true
  tyC : PySem.W.typeIn K (.ref C) = some (.type "type")
  kC : PySem.W.keepIn K (.ref C) = true
section
open Builtin Builtin.ObjectAttr
variable {prog : Program} {w : World} {A : Around} {E : Value → Shared → Prop} {R : Result → Shared → Prop} {hp : Heap} {g : Array GenState} {d : Drawn} {t : Nat} {os : OsState} {K : PySem.W.Frag} {x C : Addr} {B newId initId : String} {bmB : List Value}
theorem ex_first {name : Str} {tk : Tok} {v : Value} {fv : Array Value} (SF : StoreFacts B bmB "object.__setattr__" "object") (T : ExG K C newId bmB) (X : K.In hp) (hx : hp.get? x = some { cls := .ref C, data := .fields fv }) (ha : PySem.W.findIn K (.ref C) name = some none)
    (hq : ∀ h2 tk2 dx, (∀ b o, b ≠ x → hp.get? b = some o → h2.get? b = some o) → hp.objs.size ≤ dx → dx ≠ x → h2.get? x = some { cls := .ref C, dict := some dx, data := .fields fv } →
      h2.Ns1 dx (fun y => if y = name then some v else none) → R (.ok (.ret .none)) ⟨h2, g, d, tk2, os⟩) :
    codeAny (model prog w) A (.call (.builtin "object.__setattr__") ⟨[.ref x, .str name tk, v], []⟩) R ⟨hp, g, d, t, os⟩ := by
  have I : PySem.W.InstAt hp x { cls := .ref C, data := .fields fv } C none := ⟨hx, rfl, rfl, trivial⟩
  have hxs : x ≠ hp.objs.size := Nat.ne_of_lt (Heap.lt_size hx)
  obtain ⟨cd, hcd, hh⟩ := PySem.W.any_some T.hd
  have hcls : PySem.W.Looks (model prog w) hp (classData C) cd := PySem.W.looks_clsIn X hcd
  refine PySem.W.osa_openX (s := ⟨hp, g, d, t, os⟩) SF X I T.ov (NoAttr.taker ha) fun bb => ?_
  show wpAny _ _ (storeInOwnDict (.ref x) (.ref C) (.str name tk) name v bb) _ _ _
  obtain ⟨c1, c2, c3, c4, c5, c6, c7, c8, c9, c10, c11⟩ := cd
  dsimp only at hh
  subst hh
  unfold storeInOwnDict ownDictForStores
  repeat (first | with_reducible refine PySem.HandSPX.store_in_new ?_ ?_ | with_reducible refine wpAny_loadPart_at hx ?_ | with_reducible refine hcls.at ?_ | wp_step)
  · exact ⟨_, #[], _, (Heap.get?_update_ne _ _ _ _ hxs.symm).trans (Heap.get?_push_at rfl rfl), rfl, fun e he => absurd he (by simp), fun _ => rfl⟩
  · intro h2 tk2 hn hs
    have hx1 : (hp.push { cls := .type "dict", data := .dict #[] }).get? x = some { cls := .ref C, data := .fields fv } := Heap.get?_push_of_some _ hx
    refine hq h2 tk2 hp.objs.size (fun b o hb ho => ?_) (Nat.le_refl _) hxs.symm ((hs.2 x hxs).trans (Heap.get?_update_self _ hx1 rfl)) hn
    exact (hs.2 b (Nat.ne_of_lt (Heap.lt_size ho))).trans ((Heap.get?_update_ne _ _ _ _ hb).trans (Heap.get?_push_of_some _ ho))
theorem ex_more {name : Str} {tk : Tok} {v : Value} {dx : Addr} {fv : Array Value} {m0 : Str → Option Value} {nl : List Str} (SF : StoreFacts B bmB "object.__setattr__" "object") (T : ExG K C newId bmB) (X : K.In hp)
    (hx : hp.get? x = some { cls := .ref C, dict := some dx, data := .fields fv }) (hns : hp.Ns1 dx m0) (hw : Within m0 nl) (hz : nl.length ≤ 1000) (ha : PySem.W.findIn K (.ref C) name = some none)
    (hq : ∀ h2 tk2, (∀ b o, b ≠ dx → hp.get? b = some o → h2.get? b = some o) → h2.Ns1 dx (fun y => if y = name then some v else m0 y) → R (.ok (.ret .none)) ⟨h2, g, d, tk2, os⟩) :
    codeAny (model prog w) A (.call (.builtin "object.__setattr__") ⟨[.ref x, .str name tk, v], []⟩) R ⟨hp, g, d, t, os⟩ := by
  obtain ⟨oD, _, _, hoD, _, _⟩ := hns.count hw
  have I : PySem.W.InstAt hp x { cls := .ref C, dict := some dx, data := .fields fv } C (some oD) := ⟨hx, rfl, rfl, hoD⟩
  obtain ⟨cd, hcd, hh⟩ := PySem.W.any_some T.hd
  have hcls : PySem.W.Looks (model prog w) hp (classData C) cd := PySem.W.looks_clsIn X hcd
  refine PySem.W.osa_openX (s := ⟨hp, g, d, t, os⟩) SF X I T.ov (NoAttr.taker ha) fun bb => ?_
  show wpAny _ _ (storeInOwnDict (.ref x) (.ref C) (.str name tk) name v bb) _ _ _
  obtain ⟨c1, c2, c3, c4, c5, c6, c7, c8, c9, c10, c11⟩ := cd
  dsimp only at hh
  subst hh
  unfold storeInOwnDict ownDictForStores
  repeat (first | with_reducible refine PySem.OEX.store_in_old hns hw hz ?_ | with_reducible refine wpAny_loadPart_at hx ?_ | with_reducible refine hcls.at ?_ | wp_step)
  intro h2 tk2 hn hs
  exact hq h2 tk2 (fun b o hb ho => (hs.2 b hb).trans ho) hn
end
section
variable {X : Cx} {pins : List (Addr × Obj)} {σ : L2.St} {H : Hp} {s : Shared} {a C dx : Addr} {f : Str} {y : V} {u : Value} {fs : List (Str × V)} {Q : Unit → Shared → Prop} {E : Value → Shared → Prop} {A : Around} {B newId initId : String} {bmB : List Value}
theorem st_first (SF : StoreFacts B bmB "object.__setattr__" "object") (T : ExG X.K C newId bmB) (I : Inv X pins σ H s) (e : H a = some (exo a C none)) (hno : PySem.W.findIn X.K (.ref C) f = some none) (ry : RelV y u)
    (h : ∀ dx s2, H dx = none → dx ≠ a → Inv X pins σ (upd (upd H dx (exd dx [(f, y)])) a (exo a C (some dx))) s2 → Q () s2) : wpAny (model X.prog X.w) A (setAttr (.ref a) f u) Q E s := by
  obtain ⟨t1, ho⟩ := exo_at I.hok e
  obtain ⟨hp, g, d, t, os⟩ := s
  refine PySem.W.set_plain I.kIn (ox := { cls := .ref C, dict := none, data := .fields #[.ref t1, .none, .none, .none, .bool false, .none] }) (od := none) ⟨ho, rfl, rfl, trivial⟩ T.sa ?_
  refine ex_first SF T I.kIn ho hno (fun h2 tk2 dx k dn dne hx hn => ?_)
  have hnd : H dx = none := I.hok.fresh dn
  have nd : ∀ {b : Addr} {o : Obj}, hp.get? b = some o → b ≠ dx := fun {b o} q => Nat.ne_of_lt (Nat.lt_of_lt_of_le (Heap.lt_size q) dn)
  have na : ∀ {b : Addr}, H b = none → b ≠ a := fun {b} n z => by rw [z, e] at n; cases n
  have U : Un X.fs [] H (upd (upd H dx (exd dx [(f, y)])) a (exo a C (some dx))) hp h2 := {
    keep := fun b o q n _ _ => k b o (na n) q
    slot := fun b o q n _ _ => ⟨o.slots, k b o (na n) q⟩
    free := fun b o q n _ => by rw [upd_ne (na n), upd_ne (nd q)]; exact n
    there := fun b o q _ => by
      by_cases z : b = a
      · subst z; exact ⟨_, hx⟩
      · exact ⟨o, k b o z q⟩
    tups := fun b xs q => by rw [upd_ne (at_ne e q exo_tup), upd_ne (ne_of_none q hnd)]; exact q
    frzs := fun b o v q => by rw [upd_ne (at_ne e q exo_frz), upd_ne (ne_of_none q hnd)]; exact q
    tbls := fun b ps q => ⟨#[], by rw [upd_ne (at_ne e q exo_tbl), upd_ne (ne_of_none q hnd), q]; simp⟩ }
  refine h dx _ hnd dne (I.un (t' := tk2) U fun b o q => ?_)
  by_cases hb : b = a
  · subst hb
    rw [upd_same] at q; cases q
    exact exo_ok hx
  · rw [upd_ne hb] at q
    by_cases hd : b = dx
    · subst hd
      rw [upd_same] at q; cases q
      exact exd_ok hn (relO_put (fs := []) ry fun _ => True.intro)
    · rw [upd_ne hd] at q
      refine (I.hok b o q).stay (fun c v hc z => k c v ?_ z) (fun c hc => by rw [upd_ne (at_ne e hc exo_own), upd_ne (ne_of_none hc hnd)]; exact hc) (fun c xs hc => by rw [upd_ne (at_ne e hc exo_tup), upd_ne (ne_of_none hc hnd)]; exact hc)
      rcases hc with hc | hc
      · rw [hc]; exact hb
      · exact at_ne e hc exo_own
theorem st_more (SF : StoreFacts B bmB "object.__setattr__" "object") (T : ExG X.K C newId bmB) (I : Inv X pins σ H s) (e : H a = some (exo a C (some dx))) (ed : H dx = some (exd dx fs)) (hl : fs.length ≤ 900) (hno : PySem.W.findIn X.K (.ref C) f = some none) (ry : RelV y u)
    (h : ∀ s2, Inv X pins σ (upd H dx (exd dx ((f, y) :: fs))) s2 → Q () s2) : wpAny (model X.prog X.w) A (setAttr (.ref a) f u) Q E s := by
  obtain ⟨t1, ho⟩ := exo_at I.hok e
  obtain ⟨mA, hns, rel⟩ := exd_at I.hok ed
  have hw := within_of rel
  obtain ⟨hp, g, d, t, os⟩ := s
  obtain ⟨oD, _, _, hoD, _, _⟩ := hns.count hw
  refine PySem.W.set_plain I.kIn (ox := { cls := .ref C, dict := some dx, data := .fields #[.ref t1, .none, .none, .none, .bool false, .none] }) (od := some oD) ⟨ho, rfl, rfl, hoD⟩ T.sa ?_
  refine ex_more SF T I.kIn ho hns hw (by rw [List.length_map]; omega) hno (fun h2 tk2 k hn => ?_)
  obtain ⟨o2, _, _, e2, _⟩ := id hn
  exact h _ (I.write (t' := tk2) (x := dx) (e := dx) (o := exd dx ((f, y) :: fs)) (by rw [ed]; exact True.intro) (.inl rfl) k ⟨o2, e2⟩ (exd_ok hn (relO_put ry rel)))
end

theorem lookup_nodup {α : Type} {y : Str} {u : α} : ∀ {l : List (Str × α)}, (l.map (·.1)).Nodup → (y, u) ∈ l → l.lookup y = some u
  | [], _, h => nomatch h
  | (z, v) :: r, nd, h => by
    show (match y == z with | true => some v | false => r.lookup y) = some u
    obtain ⟨n1, n2⟩ := List.nodup_cons.mp nd
    rcases List.mem_cons.mp h with e | e
    · cases e; rw [beq_self_eq_true]
    · have ne : (y == z) = false := beq_eq_false_iff_ne.mpr fun q => n1 (q ▸ List.mem_map_of_mem (f := (·.1)) e)
      rw [ne]; exact lookup_nodup n2 e
/-! ### super().__init__(..), called -/
section
variable {prog : Program} {w : World} {A : Around} {E : Value → Shared → Prop} {h : Heap} {g : Array GenState} {d : Drawn} {tk : Nat} {os : OsState} {K : PySem.W.Frag} {x C u t0 : Addr} {B newId initId : String} {bmB : List Value}
theorem sup_call {rest : List Value} {Q : Value → Shared → Prop} (T : ExB B newId initId bmB) (G : ExG K C newId bmB) (X : K.In h) (hu : h.get? u = some (PySem.W.kxs_mw initId x)) (he : h.get? x = some (PySem.W.excObj C t0 none .none)) (hz : rest.length ≤ sizeLine)
    (hq : ∀ h2 t2, (∀ b o, b ≠ x → h.get? b = some o → h2.get? b = some o) → h2.get? x = some (PySem.W.excObj C t2 none .none) → Q .none ⟨h2, g, d, tk, os⟩) :
    wpAny (model prog w) A (call (.ref u) rest) Q E ⟨h, g, d, tk, os⟩ := by
  obtain ⟨n1, n2, n3, n4, n5, n6, n7, n8, n9, n10, n11, k0, k1, k2, k3, k5, hC, hT⟩ := PySem.W.excInit_of X G.q
  refine wpAny_call (codeAny_of_tree ?_)
  show wpAny _ A.in1 (callAny (.ref u) ⟨rest, []⟩) _ _ _
  simp only [callAny]
  refine wpAny_bind (wpAny_load hu ?_)
  simp only [PySem.W.kxs_mw, show (Value.type "method-wrapper" == Value.type "method" || Value.type "method-wrapper" == Value.type "builtin_function_or_method" || Value.type "method-wrapper" == Value.type "method-wrapper") = true by decide, if_true]
  refine PySem.W.KFB.if_so (by decide) ?_
  refine wpAny_bind (PySem.W.check_bound_init T.fb.toExcCallFacts hC he rfl ?_)
  refine wpAny_bind (wpAny_pure (wpAny_pure ?_))
  refine ⟨plainId_quiet T.fb.init.plain _, codeAny_builtin T.fb.initEntry ?_⟩
  exact PySem.W.exc_init_tree (cls := .ref C) (t0 := t0) (dv := none) (c2 := .none) (c3 := .none) (b4 := .bool false) he hz fun h2 z1 z2 _ => hq h2 _ z1 z2
end
/-! ### a def that closes over __class__ -/
def cxS (P : Program) (w : World) (K : PySem.W.Frag) (mg : Str → Option Value) (base : Heap) (N : List Str) (qual : Str) (sc : Scope) (f : Addr) (cdv : Value) (cc : Addr) (A : Around) (outer : List Env) (s : Shared) (H : Hp) : Cx where
  prog := P
  w := w
  K := K
  mg := mg
  base := base
  A := A.deeper (PySem.W.ksEnv qual sc s.heap.objs.size f cdv cc)
  N := N
  s_0 := s
  H_0 := H
  env := PySem.W.ksEnv qual sc s.heap.objs.size f cdv cc
  outer := outer
  stack := PySem.W.ksEnv qual sc s.heap.objs.size f cdv cc :: outer
  ex := []
  calm := true
  fn := fun _ => false
  pn := []
  xe := fun _ _ => False
/-- what is known of the def: its scope's names, its code, the class that it closes over -/
structure SupFn (K : PySem.W.Frag) (P : Program) (N ps : List Str) (qual : Str) (pa : Arguments) (bo : List Stmt) (sc : Scope) (f cc cda D : Addr) : Prop where
  ex : ∃ (oc : Value) (od : Option Addr) (kV doc pm : Value) (an : Option Addr) (ct : Value) (osl : Array (Option Value)), K.lookup f = some ⟨oc, od, .func (PySem.W.ksFn "__init__" qual pa bo sc .none kV doc pm an (.ref cda) ct cc), osl⟩
  cd : PySem.W.codeIn K (.ref cda) qual = true
  file : ∃ (ccl : Value) (cdd : Option Addr) (vs : Array Value) (ccs : Array (Option Value)) (fi : Str) (tf : Tok), K.lookup cda = some ⟨ccl, cdd, .fields vs, ccs⟩ ∧ vs[2]? = some (.str fi tf) ∧ ((P.main.file : Str) == fi) = true
  cell : ∃ (cl : Value) (cld : Option Addr) (csl : Array (Option Value)), K.lookup cc = some ⟨cl, cld, .cell (some (.ref D)), csl⟩
  top : (P.main.scope.names.lookup ("super" : Str)).isSome = false
  kind : sc.kind = .function
  co : sc.isCoroutine = false
  gen : sc.isGenerator = false
  nd : N.Nodup
  pre : N.take ps.length = ps
  par : ∀ x ∈ ps, sc.names.lookup x = some .local
  nocell : ∀ x ∈ sc.names, x.2 ≠ .cell
  nofree : ∀ x, sc.names.lookup x = some .free → x = "__class__"
  cls : sc.names.lookup ("__class__" : Str) = some .free
  sup : sc.names.lookup ("super" : Str) = some .globalImplicit
  hd : ∃ ar : Arg, (pa.posonlyargs ++ pa.args).head? = some ar ∧ ps[0]? = some ar.arg
theorem inv_sup {P : Program} {w : World} {K : PySem.W.Frag} {mg : Str → Option Value} {base : Heap} {N ps : List Str} {qual : Str} {pa : Arguments} {bo : List Stmt} {sc : Scope} {f cc cda D : Addr} {A : Around} {outer : List Env} {s : Shared} {H : Hp} {us : List Value} {vs : List V} {h1 : Heap} {tk : Nat}
    (S : SupFn K P N ps qual pa bo sc f cc cda D) (hd : A.handled = none) (e0 : Env0 P w K mg base A outer s H) (hl : vs.length = ps.length) (rv : Vals vs us) (hns : h1.Ns s.heap.objs.size (fun x => (ps.zip us).reverse.lookup x)) (hk : ∀ b o, s.heap.get? b = some o → h1.get? b = some o) :
    Inv (cxS P w K mg base N qual sc f (.ref cda) cc A outer s H) [] (start N vs) H { s with heap := h1, toks := tk } := by
  obtain ⟨cl, cld, csl, lc⟩ := S.cell
  have hpl : ps.length ≤ N.length := by have := congrArg List.length S.pre; rw [List.length_take] at this; omega
  have KB : base.get? cc = some ⟨cl, cld, .cell (some (.ref D)), csl⟩ := e0.mod.kin _ _ lc
  have ksz : s.heap.get? cc = some ⟨cl, cld, .cell (some (.ref D)), csl⟩ := (e0.bs _ _ KB).1
  have one : ∀ y c, (PySem.W.ksEnv qual sc s.heap.objs.size f (.ref cda) cc).cells.lookup y = some c → y = "__class__" ∧ c = cc := fun y c z => by
    have z2 : (match y == ("__class__" : Str) with | true => some cc | false => none) = some c := z
    cases q : (y == ("__class__" : Str)) with
    | true => rw [q] at z2; exact ⟨beq_iff_eq.mp q, (Option.some.inj z2).symm⟩
    | false => rw [q] at z2; cases z2
  have noA : ∀ b : Addr, b ∉ (cxS P w K mg base N qual sc f (.ref cda) cc A outer s H).ex := fun b z => absurd (show b ∈ ([] : List Addr) from z) (by simp)
  refine ⟨⟨e0.mod, S.kind, rfl, rfl, Nat.le_refl _, fun y z c q1 q2 => (one y c q1).1.trans (one z c q2).1.symm, fun y hy => ?_, fun y c q _ => (nomatch q), fun _ => hd, Around.frames_deeper e0.frames, .inr ⟨rfl, rfl⟩, fun b z => absurd z (noA b), e0.bs, e0.bsz, fun b _ _ => noA b, fun b z => absurd z (noA b), e0.funs, e0.frf⟩,
    rfl, e0.bare, Un.kept hk, ⟨_, hns, fun i y v q1 q2 q3 => ?_⟩, fun y c q => ?_, e0.hok.fresh (Nat.le_refl _), fun y c q => ?_, fun p hp => absurd (show p ∈ ([] : List (Addr × Obj)) from hp) (by simp), e0.hok.kept hk, ?_⟩
  · have hy : sc.names.lookup y = some .cell ∨ sc.names.lookup y = some .free := hy
    rcases hy with hy | hy
    · exact absurd rfl (S.nocell _ (PySem.mem_of_lookup hy))
    · exact ⟨cc, by rw [S.nofree y hy]; rfl⟩
  · have hi : i < vs.length := by
      unfold L2.start at q2
      by_cases hi : i < vs.length
      · exact hi
      · rw [List.getElem?_append_right (by simpa using hi), List.getElem?_replicate] at q2
        split at q2 <;> cases q2
    have ha : vs[i]? = some v := by
      unfold L2.start at q2
      rw [List.getElem?_append_left (by simpa using hi), List.getElem?_map] at q2
      cases z : vs[i]? with
      | none => rw [z] at q2; cases q2
      | some a => rw [z] at q2; cases q2; rfl
    obtain ⟨u, hu, rr⟩ := rv.get ha
    have hp : ps[i]? = some y := by rw [← S.pre, List.getElem?_take_of_lt (by omega)]; exact q1
    have ndP : ps.Nodup := by rw [← S.pre]; exact S.nd.sublist (List.take_sublist _ _)
    refine ⟨u, rr, .inl ⟨S.par y (List.mem_of_getElem? hp), ?_⟩⟩
    have hz : (y, u) ∈ (ps.zip us).reverse := List.mem_reverse.mpr (List.mem_of_getElem? (i := i) (by rw [List.getElem?_zip_eq_some]; exact ⟨hp, hu⟩))
    have ndz : ((ps.zip us).reverse.map (·.1)).Nodup := by
      rw [List.map_reverse, List.nodup_iff_pairwise_ne, List.pairwise_reverse, List.map_fst_zip (by rw [← rv.length, hl]; exact Nat.le_refl _)]
      exact ndP.imp fun z => Ne.symm z
    exact lookup_nodup ndz hz
  · obtain ⟨_, rfl⟩ := one y c q
    exact ⟨_, _, hk _ _ ksz, rfl⟩
  · obtain ⟨_, rfl⟩ := one y c q
    exact (e0.bs _ _ KB).2
  · unfold L2.start
    rw [List.length_append, List.length_map, List.length_replicate]
    show vs.length + (N.length - vs.length) = N.length
    omega

/-- how super().__init__(..) is read -/
abbrev supEv (p0 p1 p2 p4 : Pos) (es : List Expr) (env : Env) (pl : Sem Bool) : Sem Value := do
  let w0 ← attributeBase (.Call (.Name "super" p0) [] [] p1) "__init__" env (eval (.Call (.Name "super" p0) [] [] p1) env)
  standAt p2.atName
  let (g0, a0) ← holding [w0] (getMethod w0 "__init__" pl); callWith p4 g0 a0 (backTo p4 (starEach es env)) []
/-- such a def keeps its promise: super().__init__(..) ahead, then the rest by the layer's rules -/
theorem fk_sup {P : Program} {w : World} {K : PySem.W.Frag} {mg : Str → Option Value} {base : Heap} {N ps : List Str} {qual : Str} {pa : Arguments} {bo rest : List Stmt} {sc : Scope} {f cc cda C : Addr} {B newId initId : String} {bmB : List Value} {k : Nat} {sp : Sp} {p0 p1 p2 p4 p5 : Pos} {e : Expr} {es : List Expr} {ta : TA} {tr : TS} {pl : Env → Sem Bool}
    (S : SupFn K P N ps qual pa bo sc f cc cda C) (T : ExB B newId initId bmB) (G : ExG K C newId bmB) (hbo : bo = .Expr (.Call (.Attribute (.Call (.Name "super" p0) [] [] p1) "__init__" p2) (e :: es) [] p4) p5 :: rest)
    (hm : PySem.W.ks_superIn K C C "__init__" = some (some (.builtin initId))) (hB : PySem.W.subIn K (.ref C) (.type B) = some true) (hst : PySem.W.nsIn K cStatics "thirdparty.any" = some none) (hsub : PySem.W.mroIn K C (.ref C) = some true) (hsu : mg "super" = none)
    (len : ∀ vs H Q E, sp vs H Q E → vs.length = ps.length)
    (ha : ∀ (A : Around) (outer : List Env) (s : Shared) (H : Hp), PA (cxS P w K mg base N qual sc f (.ref cda) cc A outer s H) (e :: es) ta) (hr : ∀ (A : Around) (outer : List Env) (s : Shared) (H : Hp), PSs (cxS P w K mg base N qual sc f (.ref cda) cc A outer s H) rest tr)
    (hsp : ∀ vs H Q E, sp vs H Q E → ∃ a, vs[0]? = some (.ref a) ∧ H a = some (exo a C none) ∧ ta (start N vs) H (fun ws H1 => ws.length ≤ 1000 ∧ H1 = H ∧ tr { nx := fun _ H2 => Q .non H2, rt := Q } (start N vs) H))
    (hev : ∀ env : Env, eval (.Call (.Attribute (.Call (.Name "super" p0) [] [] p1) "__init__" p2) (e :: es) [] p4) env = supEv p0 p1 p2 p4 (e :: es) env (pl env) := by intro _; rfl)
    (hst1 : ∀ A outer s H, starEach (e :: es) (cxS P w K mg base N qual sc f (.ref cda) cc A outer s H).env = (false, eval e (cxS P w K mg base N qual sc f (.ref cda) cc A outer s H).env) :: starEach es (cxS P w K mg base N qual sc f (.ref cda) cc A outer s H).env := by intros; rfl)
    (hst2 : ∀ A outer s H, (backTo p4 (starEach es (cxS P w K mg base N qual sc f (.ref cda) cc A outer s H).env)).any (·.1) = false := by intros; rfl)
    (hsw : ∀ A outer s H, swapsWith (.Call (.Attribute (.Call (.Name "super" p0) [] [] p1) "__init__" p2) (e :: es) [] p4) none p5.line (cxS P w K mg base N qual sc f (.ref cda) cc A outer s H).env = pure false := by intros; rfl) :
    ∃ fd : FuncData, (∃ (kV doc pm : Value) (an : Option Addr) (ct : Value), fd = PySem.W.ksFn "__init__" qual pa bo sc .none kV doc pm an (.ref cda) ct cc) ∧ Fk P w K mg base (k + 1) f fd ps sp := by
  obtain ⟨oc, od, kV, doc, pm, an, ct, osl, lk⟩ := S.ex
  obtain ⟨ccl, cdd, fvs, ccs, fi, tf, lcd, hvs, hfi⟩ := S.file
  obtain ⟨cl, cld, csl, lc⟩ := S.cell
  obtain ⟨ar, har, hp0⟩ := S.hd
  refine ⟨_, ⟨kV, doc, pm, an, ct, rfl⟩, len, fun A outer s H args us vs Q E rm e0 hb rv hsp0 => ?_⟩
  have hl := len _ _ _ _ hsp0
  have KX : K.In s.heap := e0.mod.kin.keeps fun b o z => (e0.bs b o z).1
  have lim : s.heap.NoLimit := e0.mod.nolimit.keeps fun b o z => (e0.bs b o z).1
  have arl : sc.names.lookup ar.arg = some .local := S.par _ (List.mem_of_getElem? hp0)
  refine PySem.ks_codeAny_call_defAt (fd := PySem.W.ksFn "__init__" qual pa bo sc .none kV doc pm an (.ref cda) ct cc) (body := bo) (binds := ps.zip us) rm.r.depth (KX _ _ lk) rfl lim (PySem.W.codeRec_of KX S.cd) rfl hb S.nocell (fun y hy => S.par _ (List.of_mem_zip hy).1) (fun h1 hns hk1 => ?_) S.co S.gen S.kind
  have I : Inv (cxS P w K mg base N qual sc f (.ref cda) cc A outer s H) [] (start N vs) H { s with heap := h1, toks := s.toks + (ps.zip us).length } := inv_sup S rm.r.hd e0 hl rv hns hk1
  obtain ⟨a, ea, eH, hta⟩ := hsp vs H Q E hsp0
  subst hbo
  have fin : ∀ {σ2 : L2.St} {H2 : Hp} {v : V} {u : Value} {s2 : Shared}, Inv (cxS P w K mg base N qual sc f (.ref cda) cc A outer s H) [] σ2 H2 s2 → RelV v u → Q v H2 → CR (L2.CX P w) outer P w H s Q E (.ok (.ret u)) s2 := fun {σ2 H2 v u s2} J r q => ⟨v, H2, J.os, J.bare, J.base, J.hok, r, q⟩
  obtain ⟨t1, hx⟩ := exo_at I.hok eH
  obtain ⟨mb, hb1, hb2⟩ := I.mod.blt
  have hvx : (ps.zip us).reverse.lookup ar.arg = some (.ref a) := by
    obtain ⟨u, hu, ru⟩ := rv.get ea
    obtain rfl : u = Value.ref a := ru
    have ndP : ps.Nodup := by rw [← S.pre]; exact S.nd.sublist (List.take_sublist _ _)
    refine lookup_nodup ?_ (List.mem_reverse.mpr (List.mem_of_getElem? (i := 0) (by rw [List.getElem?_zip_eq_some]; exact ⟨hp0, hu⟩)))
    rw [List.map_reverse, List.nodup_iff_pairwise_ne, List.pairwise_reverse, List.map_fst_zip (by rw [← rv.length, hl]; exact Nat.le_refl _)]
    exact ndP.imp fun z => Ne.symm z
  obtain ⟨cdC, hcC, _⟩ := PySem.W.any_some G.hd
  have KX1 : K.In h1 := KX.keeps hk1
  obtain ⟨oD, hD1, hD2⟩ : ∃ oD, h1.get? C = some oD ∧ oD.data = .cls cdC := by
    unfold PySem.W.clsIn at hcC
    split at hcC
    · rename_i c d cd2 sl ho
      cases hcC
      exact ⟨_, KX1 _ _ ho, rfl⟩
    · cases hcC
  refine PySem.ks_wpAt_execs_cons (PySem.ks_wpAt_Expr_any (PySem.ks_wpAt_MethodCall (PySem.ks_wpAt_super_base (ar := ar) S.sup S.cls (by decide) rfl (hk1 _ _ (KX _ _ lk)) rfl har rfl (hk1 _ _ (KX _ _ lcd)) rfl hvs hfi S.top ?_) (hev _)) I.quiet (hsw A outer s H))
  refine PySem.W.ks_loadName_global S.kind S.sup (PySem.Calls.loadGlobal_builtin (env := PySem.W.ksEnv qual sc s.heap.objs.size f (.ref cda) cc) (I.mod.glob.keeps I.bk) hsu (hb1.keeps I.bk) ((hb2 _ (by decide +kernel)).trans (by decide +kernel)) ⟨rfl, ?_⟩)
  refine wpAny_loadName_free S.kind S.cls rfl ⟨_, KX1 _ _ lc, rfl⟩ ?_
  refine wpAny_loadName_local S.kind arl hns hvx ?_
  refine PySem.ks_wpAny_isType_cls hD1 hD2 ⟨rfl, ?_⟩
  refine PySem.ks_wpAny_call_super hD1 hD2 hx rfl (fun c z => nomatch z) (PySem.W.looks_mroIn KX1 hsub) (fun h2 hso k2 => ?_)
  have J2 := I.kept (h' := h2) (t' := s.toks + (ps.zip us).length) k2
  have IA : PySem.W.InstAt h2 a { cls := .ref C, dict := none, data := .fields #[.ref t1, .none, .none, .none, .bool false, .none] } C none := ⟨k2 _ _ hx, rfl, rfl, trivial⟩
  have KX2 : K.In h2 := KX1.keeps k2
  have hm2 := hm
  unfold PySem.W.ks_superIn at hm2
  rw [hcC] at hm2
  refine PySem.W.kxs_getMethod T.kf hso (PySem.W.looks_opaque KX2 hst) (l₀ := cdC.mro) (fun A Q E s k q => wpAny_bind ((PySem.W.looks_clsIn KX2 hcC) A _ E s k (wpAny_pure q))) rfl KX2 hm2 (IA.type.andThen (PySem.W.looks_subIn KX2 hB)) (PySem.W.ks_ne KX2 IA hcC) (by decide) ?_
  have fr2 : H h2.objs.size = none := J2.hok.fresh (Nat.le_refl _)
  have k3 : ∀ b o, h2.get? b = some o → (h2.push (PySem.W.kxs_mw initId a)).get? b = some o := fun b o z => Heap.get?_push_of_some _ z
  have J3 := J2.kept (h' := h2.push (PySem.W.kxs_mw initId a)) (t' := s.toks + (ps.zip us).length + 1) k3
  have J4 := J3.pins_of (pins' := [(h2.objs.size, PySem.W.kxs_mw initId a)]) fun p hp => by
    obtain rfl : p = (h2.objs.size, PySem.W.kxs_mw initId a) := by simpa using hp
    exact ⟨Heap.get?_push_at rfl rfl, fr2, Ne.symm (Nat.ne_of_lt J2.lt), J2.nofs (Nat.le_refl _), fun v z => nomatch z⟩
  show wpAny _ _ (callWith p4 (.ref h2.objs.size) [] (backTo p4 (starEach (e :: es) (cxS P w K mg base N qual sc f (.ref cda) cc A outer s H).env)) []) _ _ _
  rw [hst1 A outer s H]
  refine PySem.W.kxs_callWith (i := initId) (x := a) (by show (false || (backTo p4 (starEach es (cxS P w K mg base N qual sc f (.ref cda) cc A outer s H).env)).any (·.1)) = false; rw [hst2 A outer s H]; rfl) ?_
  refine PySem.Calls.evalArgs_plain ?_
  have run := (ha A outer s H).run p4 _ _ _ H _ J4 hta
  rw [hst1 A outer s H] at run
  refine wpAny_mono run (fun ws s4 hw => ?_) fun _ _ z => (z : False).elim
  obtain ⟨zs, H4, J5, r5, hz, eH4, htr⟩ := hw
  subst eH4
  have hu5 := (J5.pin (h2.objs.size, PySem.W.kxs_mw initId a) (by simp)).1
  refine ⟨hu5, ?_⟩
  obtain ⟨t5, hx5⟩ := exo_at J5.hok eH
  obtain ⟨h5, g5, d5, tk5, os5⟩ := s4
  refine sup_call T G J5.kIn hu5 hx5 (by show ws.length ≤ sizeLine; rw [← Paired.length r5, sizeLine_eq]; omega) fun h6 t6 k6 hx6 => ?_
  have J6 := (J5.write (h' := h6) (t' := tk5) (x := a) (e := a) (o := exo a C none) (by rw [eH]; exact True.intro) (.inl rfl) k6 ⟨_, hx6⟩ (exo_ok hx6)).pins_of (pins' := []) fun p hp => absurd hp (by simp)
  have eu : upd H4 a (exo a C none) = H4 := by
    funext b
    by_cases hb : b = a
    · rw [hb, upd_same, eH]
    · rw [upd_ne hb]
  rw [eu] at J6
  refine wpAt_of_wpAny (wpAny_mono ((hr A outer s _).run [] _ _ _ _ J6 htr) (fun fl s7 h7 => ?_) fun _ _ z => (z : False).elim)
  cases fl with
  | ret u => obtain ⟨v, σ7, H7, J7, r7, q7⟩ := h7; exact fin J7 r7 q7
  | next => obtain ⟨σ7, H7, J7, q7⟩ := h7; exact fin (v := .non) (u := .none) J7 rfl q7
  | brk => obtain ⟨_, _, _, q⟩ := h7; exact q.elim
  | cont => obtain ⟨_, _, _, q⟩ := h7; exact q.elim

/-! ### X(e, ..) raised -/
/-- the promise of such an __init__: the fields' names in order -/
def spX (C : Addr) (fs : List Str) : Sp := fun vs H Q _ => ∃ (a : Addr) (ws : List V), vs = .ref a :: ws ∧ ws.length = fs.length ∧ H a = some (exo a C none) ∧
  ∀ (d : Addr) (H2 : Hp), H d = none → d ≠ a → H2 a = some (exo a C (some d)) → H2 d = some (exd d (fs.zip ws).reverse) → (∀ b, b ≠ a → b ≠ d → H2 b = H b) → Q .non H2
/-- an exception is made: its dict is new -/
def tX (C : Addr) (fs : List Str) (ta : TA) : L2.St → Hp → XK → Prop := fun σ H Q => ta σ H fun vs H1 => vs.length = fs.length ∧ ∀ d, H1 d = none → Q (.ref C) (some d) (upd H1 d (.xd (fs.zip vs).reverse))
section
variable {X : Cx} {e : Expr} {es : List Expr} {ta : TA} {p pos : Pos} {x : Str} {C fI : Addr} {k : Nat} {fd : FuncData} {ps fs : List Str} {B newId initId : String} {bmB : List Value}
theorem pmk_x (T : ExB B newId initId bmB) (G : ExG X.K C newId bmB) (iC : PySem.W.findIn X.K (.ref C) "__init__" = some (some (.ref fI))) (tI : PySem.W.typeIn X.K (.ref fI) = some (.type "function"))
    (F1 : Fk X.prog X.w X.K X.mg X.base k fI fd ps (spX C fs)) (hr : Rm (k + 1) X.A) (hb : Binds X.K fd ps []) (hfs : fs.length ≤ 100) (hg : Gl X x) (hm : X.mg x = some (.ref C)) (ha : PA X (e :: es) ta)
    (hdb : (x == ("__debug__" : Str)) = false := by decide) (he : starEach (e :: es) X.env = (false, eval e X.env) :: starEach es X.env := by rfl) (hpl : (backTo pos (starEach es X.env)).any (·.1) = false := by rfl) :
    PMk X (.Call (.Name x p) (e :: es) [] pos) (tX C fs ta) := by
  intro pins s σ H Q I h
  refine wpAny_Call_Name_kw (ld_glob I hg hm ?_ hdb)
  refine PySem.W.callWith_K (h₀ := X.base) I.ok.mod.kin G.kC (thn (ha.run pos pins s σ H _ I h) fun us s1 ⟨vs, H1, I1, r1, hz, q1⟩ => ⟨I1.kIn, ?_⟩) he hpl
  show wpAny _ _ (call (.ref C) us) _ _ _
  obtain ⟨n1, n2, n3, n4, n5, n6, n7, n8, n9, n10, n11, k0, k1, k2, k3, k5, hC, hT⟩ := PySem.W.excInit_of I1.kIn G.q
  obtain ⟨hp, g, dr, tk, os⟩ := s1
  have hn : H1 (hp.objs.size + 1) = none := I1.hok.fresh (Nat.le_succ _)
  have kk : ∀ b o, hp.get? b = some o → ((hp.push (PySem.W.kdv_tup us)).push (PySem.HandSPX.excO C hp.objs.size)).get? b = some o := fun b o z => Heap.get?_push_of_some _ (Heap.get?_push_of_some _ z)
  have hget : ((hp.push (PySem.W.kdv_tup us)).push (PySem.HandSPX.excO C hp.objs.size)).get? (hp.objs.size + 1) = some (PySem.HandSPX.excO C hp.objs.size) := by heap_get
  have I2 := I1.laid (t' := tk) (a := hp.objs.size + 1) (o := exo (hp.objs.size + 1) C none) kk (Nat.le_succ _) (exo_ok hget)
  have r2 : Vals (V.ref (hp.objs.size + 1) :: vs) (Value.ref (hp.objs.size + 1) :: us) := .cons rfl r1
  have hsp : spX C fs (V.ref (hp.objs.size + 1) :: vs) (upd H1 (hp.objs.size + 1) (exo (hp.objs.size + 1) C none)) (fun v H2 => v = .non ∧ ∃ d, H2 (hp.objs.size + 1) = some (exo (hp.objs.size + 1) C (some d)) ∧ H2 d = some (exd d (fs.zip vs).reverse) ∧ H1 d = none ∧ Q (.ref C) (some d) (upd (del H2 (hp.objs.size + 1)) d (.xd (fs.zip vs).reverse))) (fun _ _ _ => False) := by
    refine ⟨_, vs, rfl, hz, upd_same, fun d H2 nd ne e1 e2 e3 => ⟨rfl, d, e1, e2, ?_, ?_⟩⟩
    · rw [upd_ne ne] at nd; exact nd
    · rw [upd_ne ne] at nd
      have eq : upd (del H2 (hp.objs.size + 1)) d (.xd (fs.zip vs).reverse) = upd H1 d (.xd (fs.zip vs).reverse) := by
        funext b
        by_cases hd : b = d
        · rw [hd, upd_same, upd_same]
        · rw [upd_ne hd, upd_ne hd]
          by_cases ha : b = hp.objs.size + 1
          · rw [ha, del_same, hn]
          · rw [del_ne ha, e3 b ha hd, upd_ne ha]
      rw [eq]
      exact q1 d nd
  have hl : (Value.ref (hp.objs.size + 1) :: us).length = ps.length := by
    have z := r2.length
    rw [F1.len _ _ _ _ hsp] at z
    exact z.symm
  have bb := hb ⟨(hp.push (PySem.W.kdv_tup us)).push (PySem.HandSPX.excO C hp.objs.size), g, dr, tk, os⟩ (Value.ref (hp.objs.size + 1) :: us) I2.kIn (by rw [List.append_nil]; exact hl)
  rw [List.append_nil] at bb
  refine wpAny_call (PySem.HandSPX.call_own T.fb hT hC (PySem.W.looks_findIn I1.kIn iC) (fun self => PySem.W.bind_fn I1.kIn self tI) (by rw [← Paired.length r1, hz, sizeLine_eq]; omega)
    (codeAny_mono (F1.run _ X.stack _ _ ⟨Value.ref (hp.objs.size + 1) :: us, []⟩ _ _ _ _ (hr.make C us []) (I2.env0.make C us []) bb r2 hsp) fun rr s2 hq => ?_))
  cases rr with
  | error er => obtain ⟨_, _, _, _, _, _, _, _, _, _, _, _, z⟩ := hq; exact z.elim
  | ok fl =>
    cases fl with
    | ret u =>
      obtain ⟨v, H2, os2, bare2, un2, hok2, r3, ev, d, ea, ed, hd1, q2⟩ := hq
      subst ev
      obtain ⟨h2, g2, d2, t2, os3⟩ := s2
      exact ⟨r3, mk_end (raises_own G.exC G.tyC) I1 (Nat.le_succ _) kk un2 hok2 os2 bare2 ea ed hd1 q2⟩
    | next => exact hq.elim
    | brk => exact hq.elim
    | cont => exact hq.elim
/-- self.f = e in such an __init__ -/
def tSt (K : PySem.W.Frag) (newId : String) (bmB : List Value) (f : Str) (to te : TE) : TS := fun D σ H => te σ H fun y H1 => to σ H1 fun z H2 => ∃ a C : Addr, z = .ref a ∧ ExG K C newId bmB ∧ PySem.W.findIn K (.ref C) f = some none ∧
  ((H2 a = some (exo a C none) ∧ ∀ dx, H2 dx = none → dx ≠ a → D.nx σ (upd (upd H2 dx (exd dx [(f, y)])) a (exo a C (some dx)))) ∨
    ∃ (dx : Addr) (fs : List (Str × V)), H2 a = some (exo a C (some dx)) ∧ H2 dx = some (exd dx fs) ∧ fs.length ≤ 900 ∧ D.nx σ (upd H2 dx (exd dx ((f, y) :: fs))))
theorem ps_xst {o : Expr} {to te : TE} {f : Str} {q : Pos} (SF : StoreFacts B bmB "object.__setattr__" "object") (ho : PE X o to) (he : PE X e te) (hs : swapsWith e (some (.Attribute o f q)) pos.line X.env = pure false := by rfl) : PS X (.Assign [.Attribute o f q] e pos) (tSt X.K newId bmB f to te) := by
  refine ⟨fun pins s σ H D I h => plainObj_wpAny_Assign_Attribute (thn (he.run pins s σ H _ I h) fun v s1 ⟨y, H1, I1, r1, q1⟩ => thn (ho.run pins s1 σ H1 _ I1 q1) fun u s2 ⟨z, H2, I2, r2, a, C, ex, T, hno, qq⟩ => ?_) hs⟩
  subst ex
  obtain rfl : u = Value.ref a := r2
  rcases qq with ⟨ea, qq⟩ | ⟨dx, fs, ea, ed, hl, qq⟩
  · exact st_first SF T I2 ea hno r1 fun dx s3 n ne J => ⟨σ, _, J, qq dx n ne⟩
  · exact st_more SF T I2 ea ed hl hno r1 fun s3 J => ⟨σ, _, J, qq⟩
end
end SJ

/-! SJH: what the top has left, read by one observation: tests over the written part, plain defs, __init__s that close over their class. -/
namespace SJ
open PySem PySem.Spec PyProof.Rows L2 He
/-- an __init__ with super(): its class's name, qualified name, parameters, body, scope -/
structure XD where
  cls : Str
  qual : Str
  params : Arguments
  body : List Stmt
  scope : Scope
abbrev FnX : Type := Option (Str × Str × Arguments × FuncBody × Scope × Addr × List Str × Addr)
def XD.ad (d : XD) (K : PySem.W.Frag) : Addr := ma K (ga K d.cls) "__init__"
def fnXA (K : PySem.W.Frag) (a : Addr) : FnX := match K.lookup a with
  | some ⟨_, _, .func fd, _⟩ => some (fd.name, fd.qualname, fd.params, fd.body, fd.scope, fd.globals, fd.closure.map (·.1), fd.builtins)
  | _ => none
def XD.val (d : XD) : FnX := some ("__init__", d.qual, d.params, .stmts d.body, d.scope, mainGlobals, ["__class__"], builtinsNs)
def isNoneV : Value → Bool
  | .none => true
  | _ => false
def ccA (K : PySem.W.Frag) (a : Addr) : Addr := match K.lookup a with
  | some ⟨_, _, .func fd, _⟩ => (match fd.closure with
    | [(_, c)] => c
    | _ => 0)
  | _ => 0
def cdaA (K : PySem.W.Frag) (a : Addr) : Addr := match K.lookup a with
  | some ⟨_, _, .func fd, _⟩ => (match fd.code with
    | .ref c => c
    | _ => 0)
  | _ => 0
def XD.ok (file : Str) (K : PySem.W.Frag) (d : XD) : Bool := match K.lookup (d.ad K) with
  | some ⟨_, _, .func fd, _⟩ => isNoneV fd.defaults && (decide (fd.code = .ref (cdaA K (d.ad K))) && (PySem.W.codeIn K fd.code d.qual && ((match K.lookup (cdaA K (d.ad K)) with
    | some ⟨_, _, .fields vs, _⟩ => (match (vs[2]? : Option Value) with
      | some (.str fi _) => file == fi
      | _ => false)
    | _ => false) && (match fd.closure with
      | [(_, c)] => (match K.lookup c with
        | some ⟨_, _, .cell (some (.ref D)), _⟩ => D == ga K d.cls
        | _ => false)
      | _ => false))))
  | _ => false
theorem XD.facts {K : PySem.W.Frag} {d : XD} {file : Str} (e : fnXA K (d.ad K) = d.val) (c : d.ok file K = true) :
    (∃ (oc : Value) (od : Option Addr) (kV doc pm : Value) (an : Option Addr) (ct : Value) (osl : Array (Option Value)), K.lookup (d.ad K) = some ⟨oc, od, .func (PySem.W.ksFn "__init__" d.qual d.params d.body d.scope .none kV doc pm an (.ref (cdaA K (d.ad K))) ct (ccA K (d.ad K))), osl⟩) ∧
    PySem.W.codeIn K (.ref (cdaA K (d.ad K))) d.qual = true ∧
    (∃ (ccl : Value) (cdd : Option Addr) (vs : Array Value) (ccs : Array (Option Value)) (fi : Str) (tf : Tok), K.lookup (cdaA K (d.ad K)) = some ⟨ccl, cdd, .fields vs, ccs⟩ ∧ vs[2]? = some (.str fi tf) ∧ (file == fi) = true) ∧
    ∃ (cl : Value) (cld : Option Addr) (csl : Array (Option Value)), K.lookup (ccA K (d.ad K)) = some ⟨cl, cld, .cell (some (.ref (ga K d.cls))), csl⟩ := by
  unfold fnXA at e
  unfold XD.ok at c
  have ecc : ccA K (d.ad K) = ccA K (d.ad K) := rfl
  cases q : K.lookup (d.ad K) with
  | none => rw [q] at c; cases c
  | some o =>
    obtain ⟨oc, od, dt, osl⟩ := o
    rw [q] at c e
    cases dt with
    | func fd =>
      obtain ⟨m1, m2, m3, m4, m5, m6, m7, m8, m9, m10, m11, m12, m13, m14, m15⟩ := fd
      have e2 : (some (m1, m2, m3, m4, m5, m6, m7.map (·.1), m15) : FnX) = d.val := e
      unfold XD.val at e2
      simp only [Option.some.injEq, Prod.mk.injEq] at e2
      obtain ⟨g1, g2, g3, g4, g5, g6, g7, g8⟩ := e2
      subst g1 g2 g3 g4 g5 g6 g8
      obtain ⟨c1, c⟩ := ba c
      obtain ⟨c2, c⟩ := ba c
      obtain ⟨c3, c⟩ := ba c
      obtain ⟨c4, c5⟩ := ba c
      have e13 : m13 = .ref (cdaA K (d.ad K)) := of_decide_eq_true c2
      have e8 : m8 = .none := by cases m8 <;> first | rfl | cases c1
      obtain ⟨q0, rfl⟩ : ∃ q0 : Addr, m7 = [(("__class__" : Str), q0)] := by
        cases m7 with
        | nil => cases g7
        | cons p r =>
          cases r with
          | nil => obtain ⟨a, b⟩ := p; exact ⟨b, by rw [show a = "__class__" from (List.cons.inj g7).1]⟩
          | cons p2 r2 => exact nomatch (List.cons.inj g7).2
      have ec : ccA K (d.ad K) = q0 := by unfold ccA; rw [q]
      refine ⟨⟨oc, od, m9, m10, m11, m12, m14, osl, ?_⟩, by rw [← e13]; exact c3, ?_, ?_⟩
      · rw [← e13, ec, e8]
      · cases q2 : K.lookup (cdaA K (d.ad K)) with
        | none => rw [q2] at c4; cases c4
        | some o2 =>
          obtain ⟨a1, a2, a3, a4⟩ := o2
          rw [q2] at c4
          cases a3 with
          | fields vs =>
            have c6 : (match (vs[2]? : Option Value) with | some (.str fi _) => file == fi | _ => false) = true := c4
            cases q3 : vs[2]? with
            | none => rw [q3] at c6; cases c6
            | some v =>
              rw [q3] at c6
              cases v with
              | str fi tf => exact ⟨a1, a2, vs, a4, fi, tf, rfl, q3, c6⟩
              | _ => cases c6
          | _ => cases c4
      · rw [ec]
        have c6 : (match K.lookup q0 with | some ⟨_, _, .cell (some (.ref D)), _⟩ => D == ga K d.cls | _ => false) = true := c5
        cases q2 : K.lookup q0 with
        | none => rw [q2] at c6; cases c6
        | some o2 =>
          obtain ⟨a1, a2, a3, a4⟩ := o2
          rw [q2] at c6
          cases a3 with
          | cell z =>
            cases z with
            | none => cases c6
            | some v =>
              cases v with
              | ref D => exact ⟨a1, a2, a4, by rw [show D = ga K d.cls from beq_iff_eq.mp c6]⟩
              | _ => cases c6
          | _ => cases c6
    | _ => cases c
/-! ### the observation -/
def asS (g : Addr → Option Obj) : Nat → List Addr
  | 0 => [mainGlobals, cStatics]
  | n + 1 => growD g (asS g n)
abbrev AlZ : Type := Bool × List FnW × List FnX
def obsZ (file : Str) (fa : List Tst) (fn : List DD) (fx : List XD) (K : PySem.W.Frag) : AlZ := ((fa.all fun f => f K) && ((fn.all fun d => d.ok K) && fx.all fun d => d.ok file K), fn.map (fun d => fnA K (d.ad K)), fx.map fun d => fnXA K (d.ad K))
def valZ (fn : List DD) (fx : List XD) : AlZ := (true, fn.map DD.val, fx.map XD.val)
def SaysZ (file : Str) (fa : List Tst) (fn : List DD) (fx : List XD) (K : PySem.W.Frag) : Prop := obsZ file fa fn fx K = valZ fn fx
def obsZG (n : Nat) (file : Str) (fa : List Tst) (fn : List DD) (fx : List XD) (g : Addr → Option Obj) : AlZ := obsZ file fa fn fx (frG g (asS g n))
def hookZ (n : Nat) (file : Str) (fa : List Tst) (fn : List DD) (fx : List XD) : PySem.W.Hook where
  α := AlZ
  obs := fun s => obsZG n file fa fn fx s.heap.get?
  val := fun _ => valZ fn fx
  says := fun _ h => ∃ K : PySem.W.Frag, K.In h ∧ SaysZ file fa fn fx K
  of := fun _ _ e => ⟨_, frG_in, e⟩
  keeps := fun _ _ _ ⟨K, hK, c⟩ k => ⟨K, PySem.W.Frag.In.keeps hK k, c⟩
theorem obsZG_eq {n : Nat} {file : Str} {fa : List Tst} {fn : List DD} {fx : List XD} {g : Addr → Option Obj} {s : Shared} (h : ∀ a, g a = s.heap.get? a) : obsZG n file fa fn fx g = (hookZ n file fa fn fx).obs s := by
  have e : g = s.heap.get? := funext h
  rw [e] <;> rfl
section
variable {file : Str} {fa : List Tst} {fn : List DD} {fx : List XD} {K : PySem.W.Frag}
theorem SaysZ.b (c : SaysZ file fa fn fx K) : (fa.all fun f => f K) = true ∧ (fn.all fun d => d.ok K) = true ∧ (fx.all fun d => d.ok file K) = true := by
  obtain ⟨h1, h2⟩ := ba (show ((fa.all fun f => f K) && ((fn.all fun d => d.ok K) && fx.all fun d => d.ok file K)) = true from congrArg (fun z : AlZ => z.1) c)
  obtain ⟨h3, h4⟩ := ba h2
  exact ⟨h1, h3, h4⟩
theorem SaysZ.fact (c : SaysZ file fa fn fx K) (i : Nat) {f : Tst} (h : fa[i]? = some f := by rfl) : f K = true := List.all_eq_true.mp c.b.1 f (List.mem_of_getElem? h)
theorem SaysZ.def_ (c : SaysZ file fa fn fx K) (i : Nat) {d : DD} (h : fn[i]? = some d := by rfl) : ∃ fd, FunD K d.name d.qual d.params d.body d.scope (d.dvs K) [] (d.ad K) fd := by
  have e : fn.map (fun d => fnA K (d.ad K)) = fn.map DD.val := congrArg (fun z : AlZ => z.2.1) c
  have e2 : (fn.map fun d => fnA K (d.ad K))[i]? = (fn.map DD.val)[i]? := by rw [e]
  rw [List.getElem?_map, List.getElem?_map, h] at e2
  exact DD.funD (Option.some.inj e2) (List.all_eq_true.mp c.b.2.1 d (List.mem_of_getElem? h))
theorem SaysZ.exc (c : SaysZ file fa fn fx K) (i : Nat) {d : XD} (h : fx[i]? = some d := by rfl) : fnXA K (d.ad K) = d.val ∧ d.ok file K = true := by
  have e : fx.map (fun d => fnXA K (d.ad K)) = fx.map XD.val := congrArg (fun z : AlZ => z.2.2) c
  have e2 : (fx.map fun d => fnXA K (d.ad K))[i]? = (fx.map XD.val)[i]? := by rw [e]
  rw [List.getElem?_map, List.getElem?_map, h] at e2
  exact ⟨Option.some.inj e2, List.all_eq_true.mp c.b.2.2 d (List.mem_of_getElem? h)⟩
end
/-! ### tests of classes -/
/-- an own exception class over the built-in B -/
structure ExT (K : PySem.W.Frag) (x : Str) (B newId initId : String) (bmB : List Value) (fs : List Str) : Prop where
  g : ExG K (ga K x) newId bmB
  iC : PySem.W.findIn K (.ref (ga K x)) "__init__" = some (some (.ref (ma K (ga K x) "__init__")))
  tI : PySem.W.typeIn K (.ref (ma K (ga K x) "__init__")) = some (.type "function")
  sup : PySem.W.ks_superIn K (ga K x) (ga K x) "__init__" = some (some (.builtin initId))
  sB : PySem.W.subIn K (.ref (ga K x)) (.type B) = some true
  stat : PySem.W.nsIn K cStatics "thirdparty.any" = some none
  mro : PySem.W.mroIn K (ga K x) (.ref (ga K x)) = some true
  xf : XfC K (ga K x)
  nof : ∀ f ∈ fs, PySem.W.findIn K (.ref (ga K x)) f = some none
def exT (x : Str) (B newId initId : String) (bmB : List Value) (fs : List Str) : Tst := fun K => PySem.W.excInitIn K (ga K x) bmB newId && (PySem.W.hasDictIn K (ga K x) && (PySem.W.excOver K (ga K x) bmB && (eqO (PySem.W.findIn K (.ref (ga K x)) "__setattr__") (some (some (.builtin "object.__setattr__"))) &&
  (decide (PySem.W.subIn K (.ref (ga K x)) (.type "BaseException") = some true) && (decide (PySem.W.typeIn K (.ref (ga K x)) = some (.type "type")) && (PySem.W.keepIn K (.ref (ga K x)) &&
  (eqO (PySem.W.findIn K (.ref (ga K x)) "__init__") (some (some (.ref (ma K (ga K x) "__init__")))) && (decide (PySem.W.typeIn K (.ref (ma K (ga K x) "__init__")) = some (.type "function")) && (eqO (PySem.W.ks_superIn K (ga K x) (ga K x) "__init__") (some (some (.builtin initId))) &&
  (decide (PySem.W.subIn K (.ref (ga K x)) (.type B) = some true) && (eqO (PySem.W.nsIn K cStatics "thirdparty.any") (some none) && (decide (PySem.W.mroIn K (ga K x) (.ref (ga K x)) = some true) && (xfB K (ga K x) && fs.all fun f => eqO (PySem.W.findIn K (.ref (ga K x)) f) (some none))))))))))))))
theorem exT_ok {K : PySem.W.Frag} {x : Str} {B newId initId : String} {bmB : List Value} {fs : List Str} (c : exT x B newId initId bmB fs K = true) : ExT K x B newId initId bmB fs := by
  obtain ⟨c1, c⟩ := ba c
  obtain ⟨c2, c⟩ := ba c
  obtain ⟨c3, c⟩ := ba c
  obtain ⟨c4, c⟩ := ba c
  obtain ⟨c5, c⟩ := ba c
  obtain ⟨c6, c⟩ := ba c
  obtain ⟨c7, c⟩ := ba c
  obtain ⟨c8, c⟩ := ba c
  obtain ⟨c9, c⟩ := ba c
  obtain ⟨c10, c⟩ := ba c
  obtain ⟨c11, c⟩ := ba c
  obtain ⟨c12, c⟩ := ba c
  obtain ⟨c13, c⟩ := ba c
  obtain ⟨c14, c15⟩ := ba c
  exact ⟨⟨c1, c2, c3, eqO_ok c4, of_decide_eq_true c5, of_decide_eq_true c6, c7⟩, eqO_ok c8, of_decide_eq_true c9, eqO_ok c10, of_decide_eq_true c11, eqO_ok c12, of_decide_eq_true c13, xfB_ok c14, fun f hf => eqO_ok (List.all_eq_true.mp c15 f hf)⟩
/-- the class of an own instance for isinstance -/
structure InT (K : PySem.W.Frag) (C : Addr) : Prop where
  cl : Cls K C
  ha : PySem.W.findIn K (.ref C) "__class__" = some (some (.builtin "object.__class__"))
  hn : PySem.W.specialIn K (.builtin "object.__class__") "__get__" = some (some (.builtin "getset_descriptor.__get__"))
  htk : PySem.W.takesIn K (.builtin "object.__class__") = some true
  hm : PySem.W.mroIn K C (.type "object") = some true
  kp : PySem.W.keepIn K (.ref C) = true
def inT (x : Str) : Tst := fun K => (Fa.cls x).ok K && (eqO (PySem.W.findIn K (.ref (ga K x)) "__class__") (some (some (.builtin "object.__class__"))) && (eqO (PySem.W.specialIn K (.builtin "object.__class__") "__get__") (some (some (.builtin "getset_descriptor.__get__"))) &&
  (decide (PySem.W.takesIn K (.builtin "object.__class__") = some true) && (decide (PySem.W.mroIn K (ga K x) (.type "object") = some true) && PySem.W.keepIn K (.ref (ga K x))))))
theorem inT_ok {K : PySem.W.Frag} {x : Str} (c : inT x K = true) : InT K (ga K x) := by
  obtain ⟨c1, c⟩ := ba c
  obtain ⟨c2, c⟩ := ba c
  obtain ⟨c3, c⟩ := ba c
  obtain ⟨c4, c⟩ := ba c
  obtain ⟨c5, c6⟩ := ba c
  exact ⟨cls_ok c1, eqO_ok c2, eqO_ok c3, of_decide_eq_true c4, of_decide_eq_true c5, c6⟩
theorem InT.ty {K : PySem.W.Frag} {C : Addr} (T : InT K C) {H : Hp} {a dx : Addr} {fs : List (Str × V)} (e : H a = some (.ins C dx fs)) : TyX K H (.ref a) (.ref C) := .base (.ins e T.cl T.ha T.hn T.htk T.hm)
/-- a text constant of a class -/
def conT (x f z : Str) : Tst := fun K => (match PySem.W.findIn K (.ref (ga K x)) f with
  | some (some (.str y t)) => decide (y = z) && eqO (PySem.W.specialIn K (.str y t) "__get__") (some none)
  | _ => false) && !PySem.W.copiedNames.contains f
theorem conT_ok {K : PySem.W.Frag} {x f z : Str} (c : conT x f z K = true) : ∃ t, Con K (ga K x) f (.str z) (.str z t) := by
  obtain ⟨c1, c2⟩ := ba c
  cases q : PySem.W.findIn K (.ref (ga K x)) f with
  | none => rw [q] at c1; cases c1
  | some o =>
    rw [q] at c1
    cases o with
    | none => cases c1
    | some v =>
      cases v with
      | str y t =>
        obtain ⟨c3, c4⟩ := ba c1
        obtain rfl : y = z := of_decide_eq_true c3
        exact ⟨t, q, ⟨t, rfl⟩, eqO_ok c4, by simpa using c2⟩
      | _ => cases c1
/-- x's method m is the def at a -/
def methT (x m : Str) (a : PySem.W.Frag → Addr) : Tst := fun K => eqO (PySem.W.findIn K (.ref (ga K x)) m) (some (some (.ref (a K)))) && (PySem.W.isFn K (.ref (a K)) && PySem.W.keepIn K (.ref (a K)))
theorem methT_ok {K : PySem.W.Frag} {x m : Str} {a : PySem.W.Frag → Addr} (c : methT x m a K = true) : Meth K (ga K x) m (a K) := by
  obtain ⟨c1, c⟩ := ba c
  obtain ⟨c2, c3⟩ := ba c
  exact ⟨eqO_ok c1, c2, c3⟩
/-- C(..) by the __init__ at a -/
def mkT (x : Str) (a : PySem.W.Frag → Addr) : Tst := fun K => PySem.W.makesIn K (ga K x) && (eqO (PySem.W.findIn K (.ref (ga K x)) "__init__") (some (some (.ref (a K)))) && (PySem.W.isFn K (.ref (a K)) && PySem.W.keepIn K (.ref (ga K x))))
theorem mkT_ok {K : PySem.W.Frag} {x : Str} {a : PySem.W.Frag → Addr} (c : mkT x a K = true) : Mk K (ga K x) (a K) := by
  obtain ⟨c1, c⟩ := ba c
  obtain ⟨c2, c⟩ := ba c
  obtain ⟨c3, c4⟩ := ba c
  exact ⟨c1, eqO_ok c2, c3, c4⟩
/-- x's f is the property whose getter stands at a -/
def prT (x f : Str) (a : PySem.W.Frag → Addr) : Tst := fun K => propB x f K && decide (pgA x f K = a K)
theorem prT_ok {K : PySem.W.Frag} {x f : Str} {a : PySem.W.Frag → Addr} (c : prT x f a K = true) : PropOf K (ga K x) f (ma K (ga K x) f) (a K) := by
  obtain ⟨c1, c2⟩ := ba c
  have h := prop_ok c1
  rw [of_decide_eq_true c2] at h
  exact h
/-- an answer of isinstance, of a subclass, of an except clause -/
def kitT (t c : PySem.W.Frag → Value) (b : Bool) : Tst := fun K => decide (PySem.W.kitOne K (t K) (c K) = some b)
theorem kitT_ok {K : PySem.W.Frag} {t c : PySem.W.Frag → Value} {b : Bool} (h : kitT t c b K = true) : PySem.W.kitOne K (t K) (c K) = some b := of_decide_eq_true h
def subT (t c : PySem.W.Frag → Value) (b : Bool) : Tst := fun K => decide (PySem.W.subIn K (t K) (c K) = some b)
theorem subT_ok {K : PySem.W.Frag} {t c : PySem.W.Frag → Value} {b : Bool} (h : subT t c b K = true) : PySem.W.subIn K (t K) (c K) = some b := of_decide_eq_true h
def exmT (t c : PySem.W.Frag → Value) (b : Bool) : Tst := fun K => decide (PySem.W.exmOne K (t K) (c K) = some b)
theorem exmT_ok {K : PySem.W.Frag} {t c : PySem.W.Frag → Value} {b : Bool} (h : exmT t c b K = true) : PySem.W.exmOne K (t K) (c K) = some b := of_decide_eq_true h
def finT (x f : Str) (v : PySem.W.Frag → Option Value) : Tst := fun K => eqO (PySem.W.findIn K (.ref (ga K x)) f) (some (v K))
theorem finT_ok {K : PySem.W.Frag} {x f : Str} {v : PySem.W.Frag → Option Value} (h : finT x f v K = true) : PySem.W.findIn K (.ref (ga K x)) f = some (v K) := eqO_ok h
def neT (x y : Str) : Tst := fun K => decide (ga K x ≠ ga K y)
theorem neT_ok {K : PySem.W.Frag} {x y : Str} (h : neT x y K = true) : ga K x ≠ ga K y := of_decide_eq_true h
def nfT (x : Str) (t : PySem.W.Frag → Value) : Tst := fun K => PySem.W.notFirst K (ga K x) (t K)
/-! ### keywords at a def without defaults -/
theorem kw_of {K : PySem.W.Frag} {x qual : Str} {pa : Arguments} {bo : List Stmt} {sc : Scope} {f : Addr} {fd : FuncData} {ps ks : List Str} {n : Nat} {g : List Value → List Value → List Value} {gV : List V → List V → List V} (F : FunD K x qual pa bo sc [] [] f fd)
    (h : ∀ (kV doc pm : Value) (an : Option Addr) (cdv ct : Value) (us ws : List Value), us.length = n → ws.length = ks.length → bindArgs (PySem.W.fnOf x qual pa bo sc .none kV doc pm an cdv ct) ⟨us, ks.zip ws⟩ = pure (ps.zip (g us ws)))
    (rel : ∀ {vs : List V} {us : List Value} {zs : List V} {ws : List Value}, Vals vs us → Vals zs ws → Vals (gV vs zs) (g us ws)) : KBn K fd ps n ks g gV := by
  obtain ⟨oc, od, dV, kV, doc, pm, an, cdv, ct, osl, rfl, lk, hcd, hD, hK⟩ := F.ex
  rcases hD with ⟨_, rfl⟩ | ⟨e, _⟩
  · exact ⟨fun s us ws _ l1 l2 => .of_eq (h kV doc pm an cdv ct us ws l1 l2), rel⟩
  · exact absurd rfl e
end SJ

/-! SJK: readings of raise, try, f-strings, keywords; steps of them; loops. -/
namespace SJ
open PySem PySem.Spec PyProof.Rows L2 He
abbrev WO (E : XK) : WX := fun cls d _ H => E cls d H
def tRz (C : Addr) (fs : List Str) (W : WX) (ta : TA) : TS := fun _ σ H => tX C fs ta σ H fun cls d H2 => W cls d σ H2
def tTryAs (K : PySem.W.Frag) (c : Addr) (i : Nat) (tb : WX → TS) (ts : Addr → Value → Option Addr → TS) (Wout : WX) : TS := fun D σ H => tb (wAs K (.ref c) i ts Wout D) D σ H
def tTryOnly (K : PySem.W.Frag) (c : Addr) (tb : WX → TS) (ts : Addr → Value → Option Addr → TS) (Wout : WX) : TS := fun D σ H => tb (wOnly K (.ref c) ts Wout D) D σ H
section
variable {X : Cx} {x n : Str} {c : Addr} {i : Nat} {body suite : List Stmt} {b0 : Stmt} {np pos pos2 : Pos} {tb : WX → TS} {ts : Addr → Value → Option Addr → TS} {Wo : WX}
theorem ps_tryAs (hs : X.stack = X.env :: X.outer) (hf : X.env.frame = some X.env.locals) (hN : X.N.Nodup) (hi : X.N[i]? = some n) (hln : X.env.kindOf n = some .local) (hg : Gl X x) (hm : X.mg x = some (.ref c)) (tk : Takes X Wo)
    (hb : ∀ (W : WX) (pn : List (Addr × Obj)) (xe : Value → Shared → Prop), Takes (X.tr pn xe) W → PassesOwn (model X.prog X.w) X.A X.env xe → PSs (X.tr pn xe) body (tb W))
    (hsu : ∀ (a : Addr) (oe : Obj) (cls : Value) (d : Option Addr) (pn : List (Addr × Obj)), Zc cls d oe → (∃ vs, oe.data = .fields vs) → PSs (X.suite a ((a, oe) :: pn)) (b0 :: suite) (ts a cls d)) (hd : (x == ("__debug__" : Str)) = false := by decide) :
    PS X (.Try body [.ExceptHandler (some (.Name x np)) (some n) (b0 :: suite) pos2] [] [] pos) (tTryAs X.K c i tb ts Wo) := ps_try_as hs hf hN hi hln ⟨hg, hd, .inl hm⟩ tk hb hsu
theorem ps_tryOnly (hs : X.stack = X.env :: X.outer) (hf : X.env.frame = some X.env.locals) (hg : Gl X x) (hm : X.mg x = some (.ref c)) (tk : Takes X Wo)
    (hb : ∀ (W : WX) (pn : List (Addr × Obj)) (xe : Value → Shared → Prop), Takes (X.tr pn xe) W → PassesOwn (model X.prog X.w) X.A X.env xe → PSs (X.tr pn xe) body (tb W))
    (hsu : ∀ (a : Addr) (oe : Obj) (cls : Value) (d : Option Addr) (pn : List (Addr × Obj)), Zc cls d oe → (∃ vs, oe.data = .fields vs) → PSs (X.suite a ((a, oe) :: pn)) (b0 :: suite) (ts a cls d)) (hd : (x == ("__debug__" : Str)) = false := by decide) :
    PS X (.Try body [.ExceptHandler (some (.Name x np)) none (b0 :: suite) pos2] [] [] pos) (tTryOnly X.K c tb ts Wo) := ps_try_only hs hf ⟨hg, hd, .inl hm⟩ tk hb hsu
end
def tFS (ts : List TE) : TE := fun σ H Q => tJs ts Str.empty σ H fun out H1 => Q (.str out) H1
def rCap : V → List V → Hp → VK → Prop := fun x xs H Q => ∃ a, x = .str a ∧ xs = [] ∧ PySem.Builtin.Str.tooLong (Txt.capitalized a).length = false ∧ Q (.str (Txt.capitalize a)) H
theorem mt_cap {X : Cx} : MtR X "str.capitalize" rCap := mt0 (C := fun a => PySem.Builtin.Str.tooLong (Txt.capitalized a).length = false) (g := fun a => .str (Txt.capitalize a)) fun _ _ _ _ hc h => PySem.SC.capitalize hc fun t2 k => h _ k ⟨t2, rfl⟩
/-! ### keywords: the parameters' values by places -/
def kwV (ix : List Nat) : List V → List V → List V := fun vs zs => ix.map fun i => (vs ++ zs).getD i .non
def kwW (ix : List Nat) : List Value → List Value → List Value := fun us ws => ix.map fun i => (us ++ ws).getD i .none
theorem kw_rel {ix : List Nat} {vs : List V} {us : List Value} {zs : List V} {ws : List Value} (r1 : Vals vs us) (r2 : Vals zs ws) : Vals (kwV ix vs zs) (kwW ix us ws) := by
  have r := r1.append r2
  unfold kwV kwW
  induction ix with
  | nil => exact .nil
  | cons i ix ih =>
    refine .cons ?_ ih
    show RelV ((vs ++ zs).getD i .non) ((us ++ ws).getD i .none)
    rw [List.getD_eq_getElem?_getD, List.getD_eq_getElem?_getD]
    cases q : (vs ++ zs)[i]? with
    | none => rw [r.none_of q]; rfl
    | some v => obtain ⟨u, e, rv⟩ := r.get q; rw [e]; exact rv
/-! ### own exceptions' __init__ -/
theorem nofree_of {l : List (Str × NameKind)} {x : Str} (h : (l.all fun y => (y.2 != .free) || (y.1 == ("__class__" : Str))) = true) (e : l.lookup x = some .free) : x = "__class__" := by
  have z := List.all_eq_true.mp h _ (PySem.mem_of_lookup e)
  rcases Bool.or_eq_true_iff.mp z with z | z
  · exact nomatch (show (NameKind.free != NameKind.free) = true from z)
  · exact beq_iff_eq.mp z
theorem spX_len {C : Addr} {fs : List Str} {vs : List V} {H : Hp} {Q : VK} {E : XK} (h : spX C fs vs H Q E) : vs.length = fs.length + 1 := by
  obtain ⟨a, ws, rfl, hl, _⟩ := h
  rw [List.length_cons, hl]
theorem exd_ne {a C d : Addr} {o : Option Addr} {fs : List (Str × V)} : exo a C o ≠ exd d fs → True := fun _ => trivial
theorem spX_1 {K : PySem.W.Frag} {C : Addr} {f : Str} {newId : String} {bmB : List Value} {vs : List V} {H : Hp} {Q : VK} {E : XK} {n1 n2 : Str} (G : ExG K C newId bmB) (nf : PySem.W.findIn K (.ref C) f = some none) (h : spX C [f] vs H Q E) :
    ∃ a, vs[0]? = some (.ref a) ∧ H a = some (exo a C none) ∧ tCons (tVar 1) tNil (start [n1, n2] vs) H (fun ws H1 => ws.length ≤ 1000 ∧ H1 = H ∧ tSt K newId bmB f (tVar 0) (tVar 1) { nx := fun _ H2 => Q .non H2, rt := Q } (start [n1, n2] vs) H) := by
  obtain ⟨a, ws, rfl, hl, ha, k⟩ := h
  match ws, hl with
  | [v], _ =>
    refine ⟨a, rfl, ha, v, rfl, by show 1 ≤ 1000; decide, rfl, v, rfl, .ref a, rfl, a, C, rfl, G, nf, .inl ⟨ha, fun dx hd hne => ?_⟩⟩
    exact k dx _ hd hne upd_same (by rw [upd_ne hne, upd_same]; rfl) fun b b1 b2 => by rw [upd_ne b1, upd_ne b2]
theorem spX_2 {K : PySem.W.Frag} {C : Addr} {f g : Str} {newId : String} {bmB : List Value} {vs : List V} {H : Hp} {Q : VK} {E : XK} {n1 n2 n3 : Str} (G : ExG K C newId bmB) (nf : PySem.W.findIn K (.ref C) f = some none) (ng : PySem.W.findIn K (.ref C) g = some none) (h : spX C [f, g] vs H Q E) :
    ∃ a, vs[0]? = some (.ref a) ∧ H a = some (exo a C none) ∧ tCons (tVar 1) (tCons (tVar 2) tNil) (start [n1, n2, n3] vs) H (fun ws H1 => ws.length ≤ 1000 ∧ H1 = H ∧
      tSeq (tSt K newId bmB f (tVar 0) (tVar 1)) (tSt K newId bmB g (tVar 0) (tVar 2)) { nx := fun _ H2 => Q .non H2, rt := Q } (start [n1, n2, n3] vs) H) := by
  obtain ⟨a, ws, rfl, hl, ha, k⟩ := h
  match ws, hl with
  | [v, u], _ =>
    refine ⟨a, rfl, ha, v, rfl, u, rfl, by show 2 ≤ 1000; decide, rfl, v, rfl, .ref a, rfl, a, C, rfl, G, nf, .inl ⟨ha, fun dx hd hne => ?_⟩⟩
    refine ⟨u, rfl, .ref a, rfl, a, C, rfl, G, ng, .inr ⟨dx, _, upd_same, by rw [upd_ne hne, upd_same], by show 1 ≤ 900; decide, ?_⟩⟩
    exact k dx _ hd hne (by rw [upd_ne (Ne.symm hne), upd_same]) upd_same fun b b1 b2 => by rw [upd_ne b2, upd_ne b1, upd_ne b2]
/-! ### steps -/
section
variable {K : PySem.W.Frag} {σ : L2.St} {H : Hp} {Q : VK} {QT : Bool → Hp → Prop} {ta tk : TA} {te to : TE} {D : Ends} {ts tu : TS} {sp : Sp} {dv : List V} {W : WX} {v : V} {a C dx p g : Addr} {fs : List (Str × V)} {f m : Str} {n : Nat} {b : Bool}
theorem x_fn (k : ta σ H fun vs H1 => sp (vs ++ dv) H1 Q (WE W σ)) : tFn sp dv W ta σ H Q := k
theorem x_nw (k : ta σ H fun vs H1 => ∀ x dx, H1 x = none → H1 dx = none → dx ≠ x → sp (.ref x :: (vs ++ dv)) (upd (upd H1 dx (.own x)) x (.ins C dx [])) (fun v H2 => v = .non ∧ Q (.ref x) H2) (WE W σ)) : tNw C sp dv W ta σ H Q := k
theorem x_fld (h : H a = some (.ins C dx fs)) (cl : Cls K C) (na : NoAttr K C f) (l : fs.lookup f = some v) (k : Q v H) (e : te σ H = fun Q => Q (.ref a) H) : tFld K te f σ H Q := by
  show te σ H _
  rw [e]
  exact ⟨a, C, dx, fs, v, rfl, h, cl, na, l, k⟩
theorem x_rz {C : Addr} {fs : List Str} (k : ta σ H fun vs H1 => vs.length = fs.length ∧ ∀ d, H1 d = none → W (.ref C) (some d) σ (upd H1 d (.xd (fs.zip vs).reverse))) : tRz C fs W ta D σ H := k
theorem x_bm {T : String} {r : V → List V → Hp → VK → Prop} (k : to σ H fun x H1 => tyV K T x H1 ∧ ta σ H1 fun xs H2 => r x xs H2 Q) : tBM K T r to ta σ H Q := k
theorem x_par {i j : Nat} (k : ta σ H fun vs H1 => ∃ v w, vs = [v, w] ∧ D.nx ((σ.set i (some v)).set j (some w)) H1) : tPar i j ta D σ H := k
theorem x_par2 {i j : Nat} {v w : V} (k : D.nx ((σ.set i (some v)).set j (some w)) H) : ∃ v1 w1, [v, w] = [v1, w1] ∧ D.nx ((σ.set i (some v1)).set j (some w1)) H := ⟨v, w, rfl, k⟩
/-- for k in range(n) -/
theorem x_forR {j : Nat} {n : Int} {tb : TS} (h0 : 0 ≤ n ∧ n ≤ 1000000) (Pv : Nat → L2.St → Hp → Prop) (hi : Pv 0 σ H)
    (hs : ∀ (i : Nat) s2 H2, (i : Int) < n → Pv i s2 H2 → tb { D with nx := Pv (i + 1), ct := Pv (i + 1), bk := D.nx } (s2.set j (some (.int (i : Int)))) H2) (hd : ∀ s2 H2, Pv n.toNat s2 H2 → D.nx s2 H2) : tFor (iRng1 (tCons (tC (.int n)) tNil)) (gName j) tb D σ H :=
  ⟨n, rfl, by omega, by omega, for_range (lo := 0) (n := n.toNat) Pv hi (fun i s2 H2 hi2 p => by
    have e : (0 : Int) + (i : Int) = (i : Int) := Int.zero_add _
    show tb _ (s2.set j (some (.int ((0 : Int) + (i : Int))))) H2
    rw [e]
    exact hs i s2 H2 (by omega) p) hd⟩
theorem x_forL {xs : List V} {tl : TE} {tg : TG} {tb : TS} {a : Addr} (he : ∀ Q : VK, Q (.ref a) H → tl σ H Q) (hx : SqL K H a xs) (Pv : Nat → L2.St → Hp → Prop) (hi : Pv 0 σ H) (hl : ∀ i s2 H2, i ≤ xs.length → Pv i s2 H2 → SqL K H2 a xs)
    (hs : ∀ i x s2 H2, xs[i]? = some x → Pv i s2 H2 → tg x s2 H2 fun s3 H3 => tb { D with nx := Pv (i + 1), ct := Pv (i + 1), bk := D.nx } s3 H3) (hd : ∀ s2 H2, Pv xs.length s2 H2 → D.nx s2 H2) : tFor (iList K tl) tg tb D σ H := by
  show tl σ H _
  refine he _ ?_
  exact ⟨a, rfl, ⟨xs, hx⟩, for_list (K := K) (a := a) (xs := xs) Pv hi hl hs hd⟩
end

/-! ### C.NAME -/
def cvT (x f z : Str) : Tst := fun K => PySem.W.readsIn K (ga K x) (.type "type") && (eqO (PySem.W.specialIn K (.ref (ga K x)) "__getattribute__") (some (some (.builtin "type.__getattribute__"))) && (match PySem.W.findCls K (.ref (ga K x)) (.type "type") f with
  | some (.val (.str y _)) => decide (y = z)
  | _ => false))
theorem cvT_ok {K : PySem.W.Frag} {x f z : Str} (c : cvT x f z K = true) : ∃ mc v, ClX.CRead K (ga K x) mc ∧ ClX.CVal K (ga K x) mc f (.str z) v := by
  obtain ⟨c1, c⟩ := ba c
  obtain ⟨c2, c3⟩ := ba c
  refine ⟨.type "type", ?_⟩
  cases q : PySem.W.findCls K (.ref (ga K x)) (.type "type") f with
  | none => rw [q] at c3; cases c3
  | some o =>
    rw [q] at c3
    cases o with
    | val v =>
      cases v with
      | str y t => exact ⟨_, ⟨c1, eqO_ok c2⟩, q, t, by rw [show y = z from of_decide_eq_true c3]⟩
      | _ => cases c3
    | _ => cases c3
end SJ

/-! SJS: further steps of readings. -/
namespace SJ
open PySem PySem.Spec PyProof.Rows L2 He
def gFld (K : PySem.W.Frag) (f : Str) (x : V) (H : Hp) (Q : VK) : Prop := ∃ a C dx fs v, x = .ref a ∧ H a = some (.ins C dx fs) ∧ Cls K C ∧ NoAttr K C f ∧ fs.lookup f = some v ∧ Q v H
def gCon (K : PySem.W.Frag) (f : Str) (x : V) (H : Hp) (Q : VK) : Prop := ∃ a C dx fs v u, x = .ref a ∧ H a = some (.ins C dx fs) ∧ Cls K C ∧ Con K C f v u ∧ fs.lookup f = none ∧ Q v H
def gPr (K : PySem.W.Frag) (f : Str) (g : Addr) (sp : Sp) (x : V) (H : Hp) (Q : VK) : Prop := ∃ a C dx fs pp, x = .ref a ∧ H a = some (.ins C dx fs) ∧ Cls K C ∧ PropOf K C f pp g ∧ sp [x] H Q E0
def gSt (K : PySem.W.Frag) (f : Str) (y x : V) (H : Hp) (N : Hp → Prop) : Prop := ∃ a C dx fs, x = .ref a ∧ H a = some (.ins C dx fs) ∧ Cls K C ∧ NoAttr K C f ∧ fs.length < 1000 ∧ N (upd H a (.ins C dx (putF f y fs)))
def gMt (K : PySem.W.Frag) (m : Str) (g : Addr) (x : V) (H : Hp) (R : Hp → Prop) : Prop := ∃ a C dx fs, x = .ref a ∧ H a = some (.ins C dx fs) ∧ Cls K C ∧ Meth K C m g ∧ fs.lookup m = none ∧ R H
section
variable {K : PySem.W.Frag} {σ : L2.St} {H : Hp} {Q : VK} {QT : Bool → Hp → Prop} {QA : List V → Hp → Prop} {ta tk : TA} {te to tb tc : TE} {D : Ends} {ts tu : TS} {sp : Sp} {dv : List V} {W : WX} {v x y c : V} {a C dx p g : Addr} {fs : List (Str × V)} {f m : Str} {n : Nat} {b : Bool} {r r2 : R2} {t u : Value}
theorem x_fld0 (k : te σ H fun x H1 => gFld K f x H1 Q) : tFld K te f σ H Q := k
theorem x_con0 (k : te σ H fun x H1 => gCon K f x H1 Q) : tCon K te f σ H Q := k
theorem x_pr0 (k : te σ H fun x H1 => gPr K f g sp x H1 Q) : tPr K f g sp te σ H Q := k
theorem x_sfld (k : te σ H fun y H1 => to σ H1 fun x H2 => gSt K f y x H2 (D.nx σ)) : sFld K to te f D σ H := k
theorem x_mt0 (k : to σ H fun x H1 => ∃ a C dx fs, x = .ref a ∧ H1 a = some (.ins C dx fs) ∧ Cls K C ∧ Meth K C m g ∧ fs.lookup m = none ∧ ta σ H1 fun vs H2 => sp (x :: (vs ++ dv)) H2 Q (WE W σ)) : tMt K m g sp dv W to ta σ H Q := k
theorem x_chain (k : te σ H fun x H1 => tb σ H1 fun y H2 => r x y H2 fun z H3 => ∃ k, z = .bl k ∧ (if k = true then tc σ H3 fun w H4 => r2 y w H4 Q else Q (.bl false) H3)) : tChain r r2 te tb tc σ H Q := k
theorem x_isi {b : Bool} (hc : ClsV c u) (ht : TyX K H x t) (hk : PySem.W.kitOne K t u = some b) (k : Q (.bl b) H) : rIsi K [x, c] H Q := ⟨x, c, t, u, b, rfl, hc, ht, hk, k⟩
theorem x_all {bs : List Bool} (h : SqL K H a (bs.map V.bl)) (k : Q (.bl (bs.all id)) H) : rAll K [.ref a] H Q := ⟨a, bs, rfl, h, k⟩
theorem x_inSg {c : Nat} {z : Str} (k : Q (.bl (decide (c ∈ z.cps.toList))) H) : rInS (.str ⟨#[c]⟩) (.str z) H Q := ⟨c, z, rfl, rfl, k⟩
theorem x_yes (k : QT true H) : tYes σ H QT := k
theorem x_fs {l : List TE} (k : tJs l Str.empty σ H fun out H1 => Q (.str out) H1) : tFS l σ H Q := k
theorem x_js {l : List TE} {acc : Str} {R : Str → Hp → Prop} (k : te σ H fun x H1 => ∃ y : Str, x = .str y ∧ (acc ++ y).length ≤ sizeLine ∧ tJs l (acc ++ y) σ H1 R) : tJs (te :: l) acc σ H R := k
theorem x_js0 {acc : Str} {R : Str → Hp → Prop} (k : R acc H) : tJs [] acc σ H R := k
theorem x_fmt {z : Str} (hl : z.length ≤ 10000) (k : Q (.str z) H) : (∃ y : Str, V.str z = .str y ∧ y.length ≤ sizeLine ∧ Q (.str y) H) ∨ ∃ i : Int, V.str z = .int i ∧ i.natAbs.log2 < 1920 ∧ Q (.str (toString i)) H := .inl ⟨z, rfl, Nat.le_trans hl (by decide), k⟩
theorem x_fmt0 (k : te σ H fun x H1 => (∃ y : Str, x = .str y ∧ y.length ≤ sizeLine ∧ Q (.str y) H1) ∨ ∃ i : Int, x = .int i ∧ i.natAbs.log2 < 1920 ∧ Q (.str (toString i)) H1) : tFmt te σ H Q := k
theorem x_tup0 {xs : List V} (h : xs.length ≤ 1000) (k : ∀ p, H p = none → Q (.ref p) (upd H p (.tup xs))) : xs.length ≤ sizeLine ∧ ∀ p, H p = none → Q (.ref p) (upd H p (.tup xs)) := ⟨Nat.le_trans h (by decide), k⟩
theorem x_lst0 {xs : List V} (h : xs.length ≤ 1000) (k : ∀ p, H p = none → Q (.ref p) (upd H p (.lst xs))) : xs.length ≤ sizeLine ∧ ∀ p, H p = none → Q (.ref p) (upd H p (.lst xs)) := ⟨Nat.le_trans h (by decide), k⟩
/-- a comprehension over a text, each element told at once -/
theorem x_lcS {z : Str} {j : Nat} {F : Nat → V} (he : ∀ Q : VK, Q (.str z) H → te σ H Q) (hz : z.length ≤ 10000) (hw : ∀ x, wipe ((wipe σ [j]).set j (some x)) [j] = wipe σ [j]) (hel : ∀ c H2 (Q2 : VK), Q2 (F c) H2 → tb ((wipe σ [j]).set j (some (.str ⟨#[c]⟩))) H2 Q2)
    (k : ∀ l, H l = none → Q (.ref l) (upd H l (.lst (z.cps.toList.map F)))) : tLc (iStr te) (gName j) tYes tb [j] σ H Q := by
  show te σ H _
  refine he _ ?_
  refine ⟨z, rfl, fun l hl => ?_⟩
  have hsz : z.cps.size ≤ 10000 := hz
  refine ⟨fun i m H2 => m = z.cps.size - i ∧ i ≤ z.cps.size ∧ H2 = upd H l (.lst ((z.cps.toList.take i).map F)), ⟨z.cps.size, rfl, Nat.zero_le _, by rw [List.take_zero, List.map_nil]⟩, ?_⟩
  rintro i m H2 ⟨rfl, hi, rfl⟩
  by_cases hlt : i < z.cps.size
  · refine .inr ⟨hlt, fun H3 => H3 = upd H l (.lst ((z.cps.toList.take (i + 1)).map F)), fun H3 e => ⟨z.cps.size - (i + 1), by omega, rfl, hlt, e⟩, fun x H3 yy => ?_⟩
    obtain ⟨rfl, c, hc, rfl⟩ := yy
    refine ⟨hw _, ?_⟩
    show tb _ _ _
    refine hel c _ _ ⟨_, upd_same, ?_, ?_⟩
    · rw [List.length_map, List.length_take]
      exact Nat.lt_of_le_of_lt (Nat.le_trans (Nat.min_le_left _ _) (by omega : i ≤ 10000)) (by decide)
    · have hc2 : z.cps.toList[i]? = some c := by rw [Array.getElem?_toList]; exact hc
      rw [upd_upd, List.take_add_one, hc2, List.map_append]
      rfl
  · have e : i = z.cps.size := by omega
    subst e
    refine .inl ⟨Nat.le_refl _, ?_⟩
    have ht : z.cps.toList.take z.cps.size = z.cps.toList := List.take_of_length_le (by rw [Array.length_toList]; exact Nat.le_refl _)
    rw [ht]
    exact k l hl
/-- a comprehension over a list that stays, by an invariant -/
theorem x_lcL {xs : List V} {tg : TG} {tt : TT} {vs : List Nat} (he : ∀ Q : VK, Q (.ref a) H → te σ H Q) (hx : SqL K H a xs) (Pv : Addr → Nat → Hp → Prop) (h0 : ∀ l, H l = none → Pv l 0 (upd H l (.lst []))) (hl : ∀ l i H2, i ≤ xs.length → Pv l i H2 → SqL K H2 a xs)
    (hs : ∀ l i x H2, H l = none → xs[i]? = some x → Pv l i H2 → tg x (wipe σ vs) H2 fun s3 H3 => wipe s3 vs = wipe σ vs ∧ tt s3 H3 fun b H4 => if b = true then tb s3 H4 fun y H5 => ∃ acc, H5 l = some (.lst acc) ∧ acc.length < sizeLine ∧ Pv l (i + 1) (upd H5 l (.lst (acc ++ [y]))) else Pv l (i + 1) H4)
    (hd : ∀ l H2, H l = none → Pv l xs.length H2 → Q (.ref l) H2) : tLc (iList K te) tg tt tb vs σ H Q := by
  show te σ H _
  refine he _ ?_
  exact ⟨a, rfl, ⟨xs, hx⟩, fun l hl0 => lc_list (K := K) (a := a) (xs := xs) (Pv l) (h0 l hl0) (hl l) (fun i x H2 hx2 p => hs l i x H2 hl0 hx2 p) fun H2 p => hd l H2 hl0 p⟩
/-- .. over range(n) -/
theorem x_lcR {n : Int} {tg : TG} {tt : TT} {vs : List Nat} (he : ∀ Q : VK, Q (.int n) H → te σ H Q) (h0 : 0 ≤ n ∧ n ≤ 1000000) (Pv : Addr → Nat → Hp → Prop) (hi : ∀ l, H l = none → Pv l 0 (upd H l (.lst [])))
    (hs : ∀ l i H2, H l = none → i < n.toNat → Pv l i H2 → tg (.int i) (wipe σ vs) H2 fun s3 H3 => wipe s3 vs = wipe σ vs ∧ tt s3 H3 fun b H4 => if b = true then tb s3 H4 fun y H5 => ∃ acc, H5 l = some (.lst acc) ∧ acc.length < sizeLine ∧ Pv l (i + 1) (upd H5 l (.lst (acc ++ [y]))) else Pv l (i + 1) H4)
    (hd : ∀ l H2, H l = none → Pv l n.toNat H2 → Q (.ref l) H2) : tLc (iRng1 (tCons te tNil)) tg tt tb vs σ H Q := by
  show te σ H _
  refine he _ ?_
  refine ⟨n, rfl, by omega, by omega, fun l hl0 => lc_range (lo := 0) (n := n.toNat) (Pv l) (hi l hl0) (fun i H2 hi2 p => ?_) fun H2 p => hd l H2 hl0 p⟩
  have e : (0 : Int) + (i : Int) = (i : Int) := Int.zero_add _
  rw [e]
  exact hs l i H2 hl0 hi2 p
/-- .. over a tuple that stays -/
theorem x_lcT {xs : List V} {tg : TG} {tt : TT} {vs : List Nat} {Q0 : VK} (hx : SqT K H a xs) (Pv : Addr → Nat → Hp → Prop) (h0 : ∀ l, H l = none → Pv l 0 (upd H l (.lst []))) (hl : ∀ l i H2, i ≤ xs.length → Pv l i H2 → SqT K H2 a xs)
    (hs : ∀ l i x H2, H l = none → xs[i]? = some x → Pv l i H2 → tg x (wipe σ vs) H2 fun s3 H3 => wipe s3 vs = wipe σ vs ∧ tt s3 H3 fun b H4 => if b = true then tb s3 H4 fun y H5 => ∃ acc, H5 l = some (.lst acc) ∧ acc.length < sizeLine ∧ Pv l (i + 1) (upd H5 l (.lst (acc ++ [y]))) else Pv l (i + 1) H4)
    (hd : ∀ l H2, H l = none → Pv l xs.length H2 → Q (.ref l) H2) : (fun x H1 => ∃ a2, x = V.ref a2 ∧ (∃ ys, SqT K H1 a2 ys) ∧ ∀ l, H1 l = none → ∃ Wn : Nat → Nat → Hp → Prop, (∃ m, Wn 0 m (upd H1 l (.lst []))) ∧ ∀ i m H2, Wn i m H2 →
      ((Itt K a2).stop i H2 ∧ Q (.ref l) H2) ∨ ((Itt K a2).go i H2 ∧ ∃ Nx : Hp → Prop, (∀ H3, Nx H3 → ∃ m2, m2 < m ∧ Wn (i + 1) m2 H3) ∧ ∀ x H3, (Itt K a2).yld i H2 x H3 → tg x (wipe σ vs) H3 fun s2 H4 => wipe s2 vs = wipe σ vs ∧ tt s2 H4 fun b H5 =>
        if b = true then tb s2 H5 fun y H6 => ∃ acc, H6 l = some (.lst acc) ∧ acc.length < sizeLine ∧ Nx (upd H6 l (.lst (acc ++ [y]))) else Nx H5)) (V.ref a) H :=
  ⟨a, rfl, ⟨xs, hx⟩, fun l hl0 => lc_tup (K := K) (a := a) (xs := xs) (Pv l) (h0 l hl0) (hl l) (fun i x H2 hx2 p => hs l i x H2 hl0 hx2 p) fun H2 p => hd l H2 hl0 p⟩
end
end SJ

/-! SJT: choices in readings. -/
namespace SJ
open PySem PySem.Spec PyProof.Rows L2 He
theorem ite_t {A B : Prop} (h : A) : if (true : Bool) = true then A else B := by rw [if_pos rfl]; exact h
theorem ite_f {A B : Prop} (h : B) : if (false : Bool) = true then A else B := by rw [if_neg Bool.false_ne_true]; exact h
theorem ite_n {A B : Prop} {b : Bool} (h : if b = true then B else A) : if (!b) = true then A else B := by cases b <;> exact h
theorem ite_e {A B : Prop} {b c : Bool} (e : b = c) (h : if c = true then A else B) : if b = true then A else B := by rw [e]; exact h
theorem x_bl2 {P : Bool → Prop} {b : Bool} (k : P b) : ∃ c, V.bl b = .bl c ∧ P c := ⟨b, rfl, k⟩
theorem x_st2 {P : Str → Prop} {b : Str} (k : P b) : ∃ c, V.str b = .str c ∧ P c := ⟨b, rfl, k⟩
theorem Same.tr {A B C : Hp} (h : Same A B) (k : Same B C) : Same A C := fun b u q => k b u (h b u q)
def gFmt (x : V) (H1 : Hp) (Q : VK) : Prop := (∃ y : Str, x = .str y ∧ y.length ≤ sizeLine ∧ Q (.str y) H1) ∨ ∃ i : Int, x = .int i ∧ i.natAbs.log2 < 1920 ∧ Q (.str (toString i)) H1
section
variable {K : PySem.W.Frag} {σ : L2.St} {H : Hp} {Q : VK} {te : TE}
theorem x_fmtE (k : te σ H fun x H1 => gFmt x H1 Q) : tFmt te σ H Q := k
theorem x_fmtS {z : Str} (hl : z.length ≤ 10000) (k : Q (.str z) H) : gFmt (.str z) H Q := .inl ⟨z, rfl, Nat.le_trans hl (by decide), k⟩
def gM0 (r : V → List V → Hp → VK → Prop) (x : V) (H : Hp) (Q : VK) : Prop := (∃ a, x = .str a) ∧ r x [] H Q
theorem x_m0 {r : V → List V → Hp → VK → Prop} (k : te σ H fun x H1 => gM0 r x H1 Q) : tM0 r te σ H Q := k
theorem x_ap {a b : Str} {P : Prop} (h : a.length + b.length ≤ 10000) (k : P) : (a ++ b).length ≤ sizeLine ∧ P := ⟨by rw [PySem.Str.length_append]; exact Nat.le_trans h (by decide), k⟩
end
end SJ

/-! SJD: the laws' own pen: drawing numbers. -/
namespace SJ
open PySem PySem.Spec PyProof.Rows L2 He
local macro_rules | `(tactic| walk_at "go") => `(tactic| (repeat (first
  | with_reducible apply x_seq | with_reducible apply x_asg | with_reducible apply x_ret | with_reducible apply x_if | with_reducible apply x_test | with_reducible apply x_B | with_reducible apply x_op | (with_reducible apply x_var rfl) | with_reducible apply x_c
  | with_reducible apply x_cb | with_reducible apply x_cons | with_reducible apply x_nil | with_reducible apply x_bl2 | with_reducible apply x_st2 | with_reducible apply ite_t | with_reducible apply ite_f | with_reducible apply ite_n | with_reducible apply x_and | with_reducible apply x_or | with_reducible apply x_not | with_reducible apply x_andV | with_reducible apply x_orV | with_reducible apply x_notV
  | with_reducible apply x_addI | with_reducible apply x_sub' | with_reducible apply x_eqI | with_reducible apply x_neI | with_reducible apply x_eqT | with_reducible apply x_neT | with_reducible apply x_ltI | with_reducible apply x_leI | with_reducible apply x_gtI | with_reducible apply x_geI
  | with_reducible apply x_intI | with_reducible apply x_intBl | with_reducible apply x_absI | with_reducible apply x_asgG | with_reducible apply x_sub | with_reducible apply x_lst | with_reducible apply x_tup | with_reducible apply x_next | with_reducible apply x_drop
  | with_reducible apply x_ife | with_reducible apply x_chain | with_reducible apply x_inSg | with_reducible apply x_yes | with_reducible apply x_fs | with_reducible apply x_js | with_reducible apply x_js0 | with_reducible apply x_fmtE | with_reducible apply x_m0 | with_reducible apply x_fld0 | with_reducible apply x_con0 | with_reducible apply x_pr0 | with_reducible apply x_sfld
  | (with_reducible refine x_new ?_ ?_; · exact Nat.le_of_ble_eq_true rfl)
  | with_reducible apply x_fn | with_reducible apply x_nw | with_reducible apply x_bm | with_reducible apply x_par | with_reducible apply x_rz | with_reducible apply x_retN | with_reducible apply x_un | with_reducible apply x_U)))

/-! ### data -/
theorem dp_ints {K : PySem.W.Frag} {H : Hp} : ∀ ns : List Int, DpAll K H (ns.map V.int) (ns.map PyData.int)
  | [] => .nil
  | n :: ns => .cons (.int n) (dp_ints ns)
theorem dp_strs {K : PySem.W.Frag} {H : Hp} : ∀ ns : List Str, DpAll K H (ns.map V.str) (ns.map PyData.str)
  | [] => .nil
  | n :: ns => .cons (.str n) (dp_strs ns)
theorem lay_all : ∀ ds : List PyData, (∀ d ∈ ds, d.canLay0 = true) → PyData.canLayAll0 ds = true
  | [], _ => by simp only [PyData.canLayAll0]
  | d :: ds, h => by
    simp only [PyData.canLayAll0]
    rw [h d (List.mem_cons_self ..), lay_all ds fun e q => h e (List.mem_cons_of_mem _ q)]
    rfl
theorem dep_all {n : Nat} : ∀ ds : List PyData, (∀ d ∈ ds, d.depth ≤ n) → PyData.depthAll ds ≤ n
  | [], _ => by simp only [PyData.depthAll]; exact Nat.zero_le _
  | d :: ds, h => by
    simp only [PyData.depthAll]
    exact Nat.max_le.mpr ⟨h d (List.mem_cons_self ..), dep_all ds fun e q => h e (List.mem_cons_of_mem _ q)⟩
/-- may lie in an equation -/
def Lay (n : Nat) (d : PyData) : Prop := d.canLay0 = true ∧ d.depth ≤ n
theorem Lay.sh {n : Nat} {d : PyData} (h : Lay n d) (l : n ≤ 64) : SeqAt.shaped d = true := by
  unfold SeqAt.shaped
  rw [h.1, decide_eq_true (Nat.le_trans h.2 l)]
  rfl
theorem Lay.int {n : Nat} {i : Int} : Lay n (.int i) := ⟨by simp only [PyData.canLay0], by simp only [PyData.depth]; exact Nat.zero_le _⟩
theorem Lay.bl {n : Nat} {i : Bool} : Lay n (.bool i) := ⟨by simp only [PyData.canLay0], by simp only [PyData.depth]; exact Nat.zero_le _⟩
theorem Lay.non {n : Nat} : Lay n .none := ⟨by simp only [PyData.canLay0], by simp only [PyData.depth]; exact Nat.zero_le _⟩
theorem Lay.str {n : Nat} {z : Str} (h : PyData.strOk z = true) : Lay n (.str z) := ⟨by simp only [PyData.canLay0]; exact h, by simp only [PyData.depth]; exact Nat.zero_le _⟩
theorem Lay.lst {n : Nat} {ds : List PyData} (h : ∀ d ∈ ds, Lay n d) : Lay (n + 1) (.list ds) := ⟨by simp only [PyData.canLay0]; exact lay_all ds fun d q => (h d q).1, by simp only [PyData.depth]; exact Nat.succ_le_succ (dep_all ds fun d q => (h d q).2)⟩
theorem Lay.tup {n : Nat} {ds : List PyData} (h : ∀ d ∈ ds, Lay n d) : Lay (n + 1) (.tuple ds) := ⟨by simp only [PyData.canLay0]; exact lay_all ds fun d q => (h d q).1, by simp only [PyData.depth]; exact Nat.succ_le_succ (dep_all ds fun d q => (h d q).2)⟩
theorem lay_ints {n : Nat} {ns : List Int} : Lay (n + 1) (.list (ns.map PyData.int)) := .lst fun d q => by
  obtain ⟨i, _, rfl⟩ := List.mem_map.mp q
  exact .int
/-- xs != [] -/
theorem x_sl {K : PySem.W.Frag} {σ : L2.St} {H : Hp} {Q : VK} {te : TE} {tl th : TO} {r : V → Option Int → Option Int → Hp → VK → Prop} (k : te σ H fun x H1 => tl σ H1 fun l H2 => th σ H2 fun u H3 => r x l u H3 Q) : tSl r te tl th σ H Q := k
theorem x_noPart {σ : L2.St} {H : Hp} {P : Option Int → Hp → Prop} (k : P none H) : tNoPart σ H P := k
theorem x_part {σ : L2.St} {H : Hp} {te : TE} {P : Option Int → Hp → Prop} (k : te σ H fun x H1 => ∃ i, x = .int i ∧ P (some i) H1) : tPart te σ H P := k
theorem x_in2 {P : Int → Prop} {b : Int} (k : P b) : ∃ c, V.int b = .int c ∧ P c := ⟨b, rfl, k⟩
theorem x_neNil {K : PySem.W.Frag} {H : Hp} {a b : Addr} {xs : List V} {ds : List PyData} {Q : VK} (h : SqL K H a xs) (hd : DpAll K H xs ds) (hl : Lay 64 (.list ds)) (hb : H b = some (.lst [])) (k : Q (.bl (!decide (ds = []))) H) : rNeU K (.ref a) (.ref b) H Q := by
  refine x_neDD (.lst h hd) (.lst (SqL.of hb) .nil) (hl.sh (Nat.le_refl _)) rfl ?_
  have e : PyData.eqv (.list ds) (.list []) = decide (ds = []) := by
    cases ds with
    | nil => rfl
    | cons d ds => rfl
  rw [e]
  exact k
theorem del_le {H : Hp} {p : Addr} : Same (L2.del H p) H := fun b u q => del_sub q
theorem del_ne_of {H : Hp} {p a : Addr} {o : HO} (h : L2.del H p a = some o) : a ≠ p := del_some h
theorem atI_in {α : Type} {xs : List α} {i : Int} (h0 : 0 ≤ i) (h1 : i < xs.length) : ∃ v, xs[i.toNat]? = some v ∧ atI xs i = some v := by
  have h2 : i.toNat < xs.length := by omega
  refine ⟨xs[i.toNat], List.getElem?_eq_getElem h2, ?_⟩
  unfold atI ixN
  rw [if_pos h0, if_pos h1]
  exact List.getElem?_eq_getElem h2
/-! ### the pen -/
structure Pen where
  p : Addr
  c : Addr
  ns : List Int
/-- the pen P: at most n draws so far -/
def PenAt (H : Hp) (P : Pen) (n : Nat) : Prop := ∃ (a r : Int), H P.p = some (.lst [.ref P.c, .int a, .int r]) ∧ L2.del H P.p P.c = some (.lst (P.ns.map V.int)) ∧ 0 ≤ a ∧ a ≤ n ∧ 0 ≤ r ∧ P.ns.length ≤ 1000
def spPen (K : PySem.W.Frag) : Sp := fun vs H Q _ => ∃ (a : Addr) (ns : List Int), vs = [.ref a] ∧ SqL K H a (ns.map V.int) ∧ ns.length ≤ 63 ∧ ∀ P H2, H P.p = none → Same H H2 → PenAt H2 P 0 → Q (.ref P.p) H2
def spDraw : Sp := fun vs H Q _ => ∃ (P : Pen) (m : Int) (n : Nat), vs = [.ref P.p, .int m] ∧ PenAt H P n ∧ n < 100000 ∧ 0 < m ∧ m < 1073741824 ∧
  ∀ (H2 : Hp) (r : Int), 0 ≤ r → r < m → PenAt H2 P (n + 1) → Same (L2.del H P.p) (L2.del H2 P.p) → Q (.int r) H2
def spPick (K : PySem.W.Frag) : Sp := fun vs H Q _ => ∃ (P : Pen) (l : Addr) (n : Nat) (xs : List V), vs = [.ref P.p, .ref l] ∧ PenAt H P n ∧ n < 100000 ∧ (SqL K (L2.del H P.p) l xs ∨ SqT K (L2.del H P.p) l xs) ∧ xs ≠ [] ∧ xs.length ≤ 1000 ∧
  ∀ (H2 : Hp) (i : Nat) (v : V), xs[i]? = some v → PenAt H2 P (n + 1) → Same (L2.del H P.p) (L2.del H2 P.p) → Q v H2
theorem PenAt.at {H : Hp} {P : Pen} {n : Nat} (h : PenAt H P n) : ∃ xs, H P.p = some (.lst xs) := by
  obtain ⟨a, r, h, _⟩ := h
  exact ⟨_, h⟩
theorem PenAt.cell {H : Hp} {P : Pen} {n : Nat} (h : PenAt H P n) : L2.del H P.p P.c = some (.lst (P.ns.map V.int)) := by
  obtain ⟨a, r, _, h, _⟩ := h
  exact h
theorem PenAt.ne {H : Hp} {P : Pen} {n : Nat} {l : Addr} (h : PenAt H P n) (e : H l = none) : l ≠ P.p ∧ l ≠ P.c := by
  obtain ⟨a, r, h1, h2, _⟩ := h
  exact ⟨(fun q => by rw [q, h1] at e; cases e), (fun q => by rw [q, del_sub h2] at e; cases e)⟩
theorem PenAt.mono {H H2 : Hp} {P : Pen} {n m : Nat} (h : PenAt H P n) (s : Same H H2) (l : n ≤ m) : PenAt H2 P m := by
  obtain ⟨a, r, h1, h2, h3, h4, h5, h6⟩ := h
  exact ⟨a, r, s _ _ h1, Same.del s _ _ h2, h3, by omega, h5, h6⟩
theorem PenAt.upd {H : Hp} {P : Pen} {l : Addr} {n : Nat} {o : HO} (h : PenAt H P n) (e : l ≠ P.p ∧ l ≠ P.c) : PenAt (L2.upd H l o) P n := by
  obtain ⟨a, r, h1, h2, h3, h4, h5, h6⟩ := h
  refine ⟨a, r, by rw [upd_ne (Ne.symm e.1)]; exact h1, ?_, h3, h4, h5, h6⟩
  rw [del_upd_ne e.1, upd_ne (Ne.symm e.2)]
  exact h2
def tPen (K : PySem.W.Frag) : TS := (tRet (tLst (tCons (tCB (rListU K) (tCons (tSl (rSlU K) (tVar 0) tNoPart (tPart (tC (.int 63)))) tNil)) (tCons (tC (.int 0)) (tCons (tC (.int 0)) tNil)))))
def drawTail (K : PySem.W.Frag) (m1 c3 c4 m2 c5 c6 c7 m3 : Int) : TS := (tSeq (tIfS (tAnd (tTest (tOp rLtU (tVar 3) (tCB (rLenU K) (tCons (tOp (rIx K) (tVar 0) (tC (.int 0))) tNil)))) (tTest (tOp rGeU (tCB rAbs (tCons (tVar 4) tNil)) (tOp rPow (tC (.int 10)) (tC (.int 18)))))) (tSeq (tAsg (tOp (rAdd K) (tOp (rMul K) (tC (.int 2)) (tCB rAbs (tCons (tVar 4) tNil))) (tCB rInt (tCons (tOp rLtU (tVar 4) (tC (.int 0))) tNil))) (gName 5)) (tSeq (tAsg (tOp rFdv (tCB rInt (tCons (tVar 5) tNil)) (tVar 1)) (gSub (tVar 0) (tC (.int 2)) rSetL)) (tRet (tOp rMod (tCB rInt (tCons (tVar 5) tNil)) (tVar 1))))) tNext) (tSeq (tAsg (tOp rMod (tOp rPow (tCB rInt (tCons (tOp (rAdd K) (tOp (rAdd K) (tOp rMod (tCB rInt (tCons (tVar 4) tNil)) (tC (.int m1))) (tOp (rMul K) (tC (.int c3)) (tVar 3))) (tC (.int c4))) tNil)) (tC (.int 5))) (tC (.int m2))) (gName 6)) (tSeq (tAsg (tOp rMod (tOp rPow (tCB rInt (tCons (tOp (rAdd K) (tOp (rAdd K) (tOp (rMul K) (tVar 6) (tOp (rAdd K) (tOp (rMul K) (tC (.int 2)) (tVar 3)) (tC (.int c5)))) (tOp (rMul K) (tOp (rMul K) (tC (.int c6)) (tVar 3)) (tVar 3))) (tC (.int c7))) tNil)) (tC (.int 3))) (tC (.int m3))) (gName 6)) (tRet (tOp rMod (tCB rInt (tCons (tOp rFdv (tVar 6) (tC (.int 16))) tNil)) (tVar 1))))))
def tDrawA (K : PySem.W.Frag) (c1 c2 m1 c3 c4 m2 c5 c6 c7 m3 : Int) : TS := (tSeq (tIfS (tTest (tOp rGtU (tOp (rIx K) (tVar 0) (tC (.int 2))) (tC (.int 0)))) (tSeq (tAsg (tOp rMod (tCB rInt (tCons (tOp (rIx K) (tVar 0) (tC (.int 2))) tNil)) (tVar 1)) (gName 2)) (tSeq (tAsg (tOp rFdv (tCB rInt (tCons (tOp (rIx K) (tVar 0) (tC (.int 2))) tNil)) (tVar 1)) (gSub (tVar 0) (tC (.int 2)) rSetL)) (tRet (tVar 2)))) tNext) (tSeq (tAsg (tOp (rIx K) (tVar 0) (tC (.int 1))) (gName 3)) (tSeq (tAsg (tOp (rAdd K) (tVar 3) (tC (.int 1))) (gSub (tVar 0) (tC (.int 1)) rSetL)) (tSeq (tAsg (tOp (rAdd K) (tOp (rMul K) (tC (.int c1)) (tVar 3)) (tC (.int c2))) (gName 4)) (tSeq (tIfS (tTest (tOp (rNeU K) (tOp (rIx K) (tVar 0) (tC (.int 0))) (tLst tNil))) (tAsg (tOp (rIx K) (tOp (rIx K) (tVar 0) (tC (.int 0))) (tOp rMod (tCB rInt (tCons (tVar 3) tNil)) (tCB (rLenU K) (tCons (tOp (rIx K) (tVar 0) (tC (.int 0))) tNil)))) (gName 4)) tNext) (drawTail K m1 c3 c4 m2 c5 c6 c7 m3))))))
section
variable {K : PySem.W.Frag} {vs : List V} {H : Hp} {Q : VK} {E : XK} {n0 n1 n2 n3 n4 n5 n6 : Str} {D : Ends}
theorem len_pen (h : spPen K vs H Q E) : vs.length = 1 := by obtain ⟨a, ns, rfl, _⟩ := h; rfl
theorem len_draw (h : spDraw vs H Q E) : vs.length = 2 := by obtain ⟨p, m, n, rfl, _⟩ := h; rfl
theorem len_pick (h : spPick K vs H Q E) : vs.length = 2 := by obtain ⟨p, l, n, xs, rfl, _⟩ := h; rfl
theorem mul_bd {a b A B : Int} (h0 : 0 ≤ a) (h1 : a ≤ A) (h2 : 0 ≤ b) (h3 : b ≤ B) : 0 ≤ a * b ∧ a * b ≤ A * B := ⟨Int.mul_nonneg h0 h2, Int.mul_le_mul h1 h3 h2 (by omega)⟩
theorem draw_tail {p c : Addr} {m a x r : Int} {ns : List Int} {n : Nat} {m1 c3 c4 m2 c5 c6 c7 m3 : Int} {H0 : Hp} {v2 v5 v6 : Option V} (hp : H p = some (.lst [.ref c, .int (a + 1), .int r])) (hc : L2.del H p c = some (.lst (ns.map V.int))) (ha : 0 ≤ a) (han : a ≤ n) (hr : 0 ≤ r) (hn : n < 100000) (hns : ns.length ≤ 1000)
    (hm : 0 < m) (hm2 : m < 1073741824) (b1 : 0 < m1 ∧ m1 < 2147483648) (b2 : 0 < m2 ∧ m2 < 2147483648) (b3 : 0 < m3 ∧ m3 < 2147483648) (d3 : 0 ≤ c3 ∧ c3 ≤ 100000) (d4 : 0 ≤ c4 ∧ c4 ≤ 100000) (d5 : 0 ≤ c5 ∧ c5 ≤ 100000) (d6 : 0 ≤ c6 ∧ c6 ≤ 100000) (d7 : 0 ≤ c7 ∧ c7 ≤ 100000)
    (s : Same (L2.del H0 p) (L2.del H p)) (k : ∀ (H2 : Hp) (r : Int), 0 ≤ r → r < m → PenAt H2 ⟨p, c, ns⟩ (n + 1) → Same (L2.del H0 p) (L2.del H2 p) → D.rt (.int r) H2) :
    drawTail K m1 c3 c4 m2 c5 c6 c7 m3 D [some (.ref p), some (.int m), v2, some (.int a), some (.int x), v5, v6] H := by
  unfold drawTail
  have hc2 := del_sub hc
  have fin : ∀ i : Int, D.rt (.int (i % m)) H := fun i => k H _ (Int.emod_nonneg _ (by omega)) (Int.emod_lt_of_pos _ hm) ⟨a + 1, r, hp, hc, by omega, by omega, hr, hns⟩ s
  have rest : (tSeq (tAsg (tOp rMod (tOp rPow (tCB rInt (tCons (tOp (rAdd K) (tOp (rAdd K) (tOp rMod (tCB rInt (tCons (tVar 4) tNil)) (tC (.int m1))) (tOp (rMul K) (tC (.int c3)) (tVar 3))) (tC (.int c4))) tNil)) (tC (.int 5))) (tC (.int m2))) (gName 6)) (tSeq (tAsg (tOp rMod (tOp rPow (tCB rInt (tCons (tOp (rAdd K) (tOp (rAdd K) (tOp (rMul K) (tVar 6) (tOp (rAdd K) (tOp (rMul K) (tC (.int 2)) (tVar 3)) (tC (.int c5)))) (tOp (rMul K) (tOp (rMul K) (tC (.int c6)) (tVar 3)) (tVar 3))) (tC (.int c7))) tNil)) (tC (.int 3))) (tC (.int m3))) (gName 6)) (tRet (tOp rMod (tCB rInt (tCons (tOp rFdv (tVar 6) (tC (.int 16))) tNil)) (tVar 1))))) D [some (.ref p), some (.int m), v2, some (.int a), some (.int x), v5, v6] H := by
    have h0 := Int.emod_nonneg x (by omega : m1 ≠ 0)
    have h1 := Int.emod_lt_of_pos x b1.1
    have h2 := mul_bd d3.1 d3.2 ha (by omega : a ≤ 100000)
    have h3 := mul_bd d6.1 d6.2 ha (by omega : a ≤ 100000)
    have h4 := mul_bd h3.1 h3.2 ha (by omega : a ≤ 100000)
    walk_at "go"
    refine x_mod b1.1 ?_
    walk_at "go"
    refine x_mulI (.inl ⟨by omega, by omega⟩) ?_
    walk_at "go"
    refine x_pow ⟨by omega, by omega, by omega⟩ ?_
    walk_at "go"
    refine x_mod b2.1 ?_
    walk_at "go"
    have h5 := Int.emod_nonneg ((x % m1 + c3 * a + c4) ^ (5 : Int).toNat) (by omega : m2 ≠ 0)
    have h6 := Int.emod_lt_of_pos ((x % m1 + c3 * a + c4) ^ (5 : Int).toNat) b2.1
    generalize (x % m1 + c3 * a + c4) ^ (5 : Int).toNat % m2 = y at h5 h6
    have h7 := mul_bd h5 (by omega : y ≤ 2147483648) (by omega : 0 ≤ 2 * a + c5) (by omega : 2 * a + c5 ≤ 300000)
    refine x_mulI (.inl ⟨by omega, by omega⟩) ?_
    walk_at "go"
    refine x_mulI (.inl ⟨by omega, by omega⟩) ?_
    walk_at "go"
    refine x_mulI (.inl ⟨by omega, by omega⟩) ?_
    walk_at "go"
    refine x_mulI (.inr ⟨by omega, by omega⟩) ?_
    walk_at "go"
    refine x_pow ⟨by omega, by omega, by omega⟩ ?_
    walk_at "go"
    refine x_mod b3.1 ?_
    walk_at "go"
    refine x_fdv (by omega) (by omega) ?_
    walk_at "go"
    refine x_mod hm ?_
    exact fin _
  walk_at "go"
  refine x_ixL (SqL.of hp) rfl ?_
  walk_at "go"
  refine x_lenL (SqL.of hc2) ?_
  walk_at "go"
  cases decide (a < ((ns.map V.int).length : Int)) with
  | false => exact ite_f (ite_f rest)
  | true =>
    walk_at "go"
    refine x_pow ⟨by omega, by omega, by omega⟩ ?_
    walk_at "go"
    cases decide ((10 : Int) ^ (18 : Int).toNat ≤ if x < 0 then -x else x) with
    | false => exact ite_f rest
    | true =>
      walk_at "go"
      refine x_mulI (.inl ⟨by omega, by omega⟩) ?_
      walk_at "go"
      refine x_fdv hm hm2 ?_
      walk_at "go"
      refine x_setL hp rfl ?_
      walk_at "go"
      refine x_mod hm ?_
      have hg : 0 ≤ (2 * (if x < 0 then -x else x) + if decide (x < 0) = true then 1 else 0) := by
        by_cases e : x < 0
        · rw [if_pos e]; split <;> omega
        · rw [if_neg e]; split <;> omega
      refine k _ _ (Int.emod_nonneg _ (by omega)) (Int.emod_lt_of_pos _ hm) ⟨a + 1, _, upd_same, by rw [del_upd]; exact hc, by omega, by omega, Int.ediv_nonneg hg (by omega), hns⟩ ?_
      rw [del_upd]
      exact s
theorem cut_ints {j : Int} {ns : List Int} (h : 0 ≤ j) : cutV (ns.map V.int) none (some j) = (ns.take (min j.toNat ns.length)).map V.int := by
  have e : ¬ j < 0 := by omega
  show ((ns.map V.int).drop 0).take ((if j < 0 then (j + ((ns.map V.int).length : Int)).toNat else min j.toNat (ns.map V.int).length) - 0) = _
  rw [if_neg e, List.drop_zero, List.length_map, Nat.sub_zero, List.map_take]
theorem pen_ok (h : spPen K vs H Q E) : tPen K { nx := fun _ H2 => Q .non H2, rt := Q } (start [n0] vs) H := by
  obtain ⟨a, ns, rfl, ha, hns, k⟩ := h
  unfold tPen
  walk_at "go"
  refine ⟨_, rfl, ?_⟩
  refine ⟨_, rfl, .inl ⟨a, _, rfl, ha, fun q hq => ?_⟩⟩
  rw [cut_ints (by omega)]
  walk_at "go"
  refine x_listL (SqL.of upd_same) fun q2 hq2 => ?_
  walk_at "go"
  intro p hp
  have e1 : q2 ≠ q := fun e => by rw [e, upd_same] at hq2; cases hq2
  have e2 : q2 ≠ p := fun e => by rw [← e, upd_same] at hp; cases hp
  have hp1 := hp
  rw [upd_ne (Ne.symm e2)] at hp1
  have e3 : p ≠ q := fun e => by rw [e, upd_same] at hp1; cases hp1
  have s1 : Same H (upd H q (.lst ((ns.take (min (Int.toNat 63) ns.length)).map V.int))) := Same.upd (Same.refl _) hq
  refine k ⟨p, q2, ns.take (min (Int.toNat 63) ns.length)⟩ _ (by rw [upd_ne e3] at hp1; exact hp1) (Same.upd (Same.upd s1 hq2) hp) ⟨0, 0, upd_same, ?_, by omega, by omega, by omega, ?_⟩
  · show L2.del _ p q2 = _; rw [del_ne e2, upd_ne e2, upd_same]
  · show (ns.take _).length ≤ 1000; rw [List.length_take]; omega
def tPick (K : PySem.W.Frag) (sp : Sp) : TS := (tRet (tOp (rIx K) (tVar 1) (tFn sp [] W0 (tCons (tVar 0) (tCons (tCB (rLenU K) (tCons (tVar 1) tNil)) tNil)))))
theorem sq_len {l : Addr} {xs : List V} (h : SqL K H l xs ∨ SqT K H l xs) (k : Q (.int (xs.length : Int)) H) : rLenU K [.ref l] H Q := by
  rcases h with h | h
  · exact x_lenL h k
  · exact x_lenT' h k
theorem sq_ix {l : Addr} {xs : List V} {i : Int} {v : V} (h : SqL K H l xs ∨ SqT K H l xs) (e : atI xs i = some v) (k : Q v H) : rIx K (.ref l) (.int i) H Q := by
  rcases h with h | h
  · exact x_ixL h e k
  · exact x_ixT h e k
theorem same_sq {H2 : Hp} {l : Addr} {xs : List V} (s : Same H H2) (h : SqL K H l xs ∨ SqT K H l xs) : SqL K H2 l xs ∨ SqT K H2 l xs := by
  rcases h with h | h
  · exact .inl (Same.seq s h)
  · refine .inr ?_
    rcases h with (h | ⟨o, h⟩) | h
    · exact .inl (.inl (s _ _ h))
    · exact .inl (.inr ⟨o, s _ _ h⟩)
    · exact .inr h
theorem pick_ok (h : spPick K vs H Q E) : tPick K spDraw { nx := fun _ H2 => Q .non H2, rt := Q } (start [n0, n1] vs) H := by
  obtain ⟨p, l, n, xs, rfl, hp, hn, hl, hne, hz, k⟩ := h
  unfold tPick
  walk_at "go"
  refine sq_len (same_sq del_le hl) ?_
  walk_at "go"
  have h0 : 0 < xs.length := List.length_pos_iff.mpr hne
  refine ⟨p, _, n, rfl, hp, hn, by omega, by omega, fun H2 r h1 h2 hp2 s => ?_⟩
  obtain ⟨v, hv, hv2⟩ := atI_in h1 h2
  exact sq_ix (same_sq del_le (same_sq s hl)) hv2 (k H2 _ v hv hp2 s)
theorem draw_ok {c1 c2 m1 c3 c4 m2 c5 c6 c7 m3 : Int} (h : spDraw vs H Q E) (d1 : 0 ≤ c1 ∧ c1 ≤ 100000) (b1 : 0 < m1 ∧ m1 < 2147483648) (b2 : 0 < m2 ∧ m2 < 2147483648) (b3 : 0 < m3 ∧ m3 < 2147483648) (d3 : 0 ≤ c3 ∧ c3 ≤ 100000) (d4 : 0 ≤ c4 ∧ c4 ≤ 100000) (d5 : 0 ≤ c5 ∧ c5 ≤ 100000) (d6 : 0 ≤ c6 ∧ c6 ≤ 100000) (d7 : 0 ≤ c7 ∧ c7 ≤ 100000) :
    tDrawA K c1 c2 m1 c3 c4 m2 c5 c6 c7 m3 { nx := fun _ H2 => Q .non H2, rt := Q } (start [n0, n1, n2, n3, n4, n5, n6] vs) H := by
  obtain ⟨⟨p, c, ns⟩, m, n, rfl, ⟨a, r, hp, hc, ha, han, hr, hns⟩, hn, hm, hm2, k⟩ := h
  have hc2 := del_sub hc
  have hcp := del_some hc
  unfold tDrawA
  walk_at "go"
  refine x_ixL (SqL.of hp) rfl ?_
  walk_at "go"
  cases decide ((0 : Int) < r) with
  | true =>
    walk_at "go"
    refine x_ixL (SqL.of hp) rfl ?_
    walk_at "go"
    refine x_mod hm ?_
    walk_at "go"
    refine x_ixL (SqL.of hp) rfl ?_
    walk_at "go"
    refine x_fdv hm hm2 ?_
    walk_at "go"
    refine x_setL hp rfl ?_
    walk_at "go"
    refine k _ _ (Int.emod_nonneg _ (by omega)) (Int.emod_lt_of_pos _ hm) ⟨a, _, upd_same, by rw [del_upd]; exact hc, by omega, by omega, Int.ediv_nonneg hr (by omega), hns⟩ ?_
    rw [del_upd]
    exact Same.refl _
  | false =>
    walk_at "go"
    refine x_ixL (SqL.of hp) rfl ?_
    walk_at "go"
    refine x_setL hp rfl ?_
    walk_at "go"
    refine x_mulI (.inl ⟨by omega, by omega⟩) ?_
    walk_at "go"
    refine x_ixL (SqL.of upd_same) rfl ?_
    walk_at "go"
    intro q hq
    have hqp : q ≠ p := fun e => by rw [e, upd_same] at hq; cases hq
    have hqc : c ≠ q := fun e => by rw [← e, upd_ne hcp, hc2] at hq; cases hq
    refine x_neNil (xs := ns.map V.int) (SqL.of (by rw [upd_ne hqc, upd_ne hcp]; exact hc2)) (dp_ints ns) (lay_ints (n := 63)) upd_same ?_
    walk_at "go"
    have hp2 : (upd (upd H p (.lst [.ref c, .int (a + 1), .int r])) q (.lst [])) p = some (.lst [.ref c, .int (a + 1), .int r]) := by rw [upd_ne (Ne.symm hqp), upd_same]
    have hc3 : L2.del (upd (upd H p (.lst [.ref c, .int (a + 1), .int r])) q (.lst [])) p c = some (.lst (ns.map V.int)) := by rw [del_ne hcp, upd_ne hqc, upd_ne hcp]; exact hc2
    have s : Same (L2.del H p) (L2.del (upd (upd H p (.lst [.ref c, .int (a + 1), .int r])) q (.lst [])) p) := by
      rw [del_upd_ne hqp, del_upd]
      exact Same.upd (Same.refl _) (del_none (by rw [upd_ne hqp] at hq; exact hq))
    cases e : decide (ns.map PyData.int = []) with
    | true =>
      walk_at "go"
      exact draw_tail hp2 hc3 ha han hr hn hns hm hm2 b1 b2 b3 d3 d4 d5 d6 d7 s k
    | false =>
      have hne : 0 < ns.length := by
        cases ns with
        | nil => exact nomatch (of_decide_eq_false e)  rfl
        | cons i ns => exact Nat.succ_pos _
      walk_at "go"
      refine x_ixL (SqL.of hp2) rfl ?_
      walk_at "go"
      refine x_ixL (SqL.of hp2) rfl ?_
      walk_at "go"
      refine x_lenL (SqL.of (del_sub hc3)) ?_
      have hl : ((ns.map V.int).length : Int) = ns.length := by rw [List.length_map]
      refine x_mod (by omega) ?_
      obtain ⟨v, hv, hv2⟩ := atI_in (xs := ns.map V.int) (i := a % ((ns.map V.int).length : Int)) (Int.emod_nonneg _ (by omega)) (Int.emod_lt_of_pos _ (by omega))
      rw [List.getElem?_map] at hv
      obtain ⟨i, _, rfl⟩ := Option.map_eq_some_iff.mp hv
      refine x_ixL (SqL.of (del_sub hc3)) hv2 ?_
      exact draw_tail hp2 hc3 ha han hr hn hns hm hm2 b1 b2 b3 d3 d4 d5 d6 d7 s k
/-! ### tags: drawn off a pool -/
def spTags (pool : List Str) : Sp := fun vs H Q _ => ∃ (P : Pen) (m n : Nat), vs = [.ref P.p, .int m] ∧ PenAt H P n ∧ n + m < 100000 ∧ m ≤ pool.length ∧
  ∀ (H2 : Hp) (l : Addr) (ts rest : List Str), H l = none → H2 l = some (.lst (ts.map V.str)) → ts.length = m → (ts ++ rest).Perm pool → PenAt H2 P (n + m) → Same (L2.del H P.p) (L2.del H2 P.p) → Q (.ref l) H2
theorem len_tags {pool : List Str} (h : spTags pool vs H Q E) : vs.length = 2 := by obtain ⟨p, m, n, rfl, _⟩ := h; rfl
def tTagsLc (K : PySem.W.Frag) (i j : Nat) : TE := tLc (iRng1 (tCons (tVar 1) tNil)) (gName j) tYes (tBM K "list" rPopAt (tVar i) (tCons (tFn spDraw [] W0 (tCons (tVar 0) (tCons (tCB (rLenU K) (tCons (tVar i) tNil)) tNil))) tNil)) [j]
theorem erase_map {α β : Type} (f : α → β) : ∀ (xs : List α) (k : Nat), (xs.map f).eraseIdx k = (xs.eraseIdx k).map f
  | [], _ => rfl
  | _ :: _, 0 => rfl
  | x :: xs, k + 1 => by
    show f x :: (xs.map f).eraseIdx k = f x :: (xs.eraseIdx k).map f
    rw [erase_map f xs k]
theorem erase_perm {α : Type} : ∀ (xs : List α) (k : Nat) (x : α), xs[k]? = some x → (x :: xs.eraseIdx k).Perm xs
  | [], _, _, h => nomatch h
  | y :: ys, 0, x, h => by cases (Option.some.inj h : y = x); exact List.Perm.refl _
  | y :: ys, k + 1, x, h => (List.Perm.swap y x (ys.eraseIdx k)).trans ((erase_perm ys k x h).cons y)
theorem perm_pop {ts rest pool : List Str} {i : Nat} {t : Str} (h : (ts ++ rest).Perm pool) (e : rest[i]? = some t) : (ts ++ [t] ++ rest.eraseIdx i).Perm pool := by
  refine List.Perm.trans ?_ h
  rw [List.append_assoc]
  exact List.Perm.append_left ts (erase_perm rest i t e)
theorem tags_lc {P : Pen} {m n : Nat} {q : Addr} {pool : List Str} {H0 : Hp} (hp : PenAt H P n) (hn : n + m < 100000) (hm : m ≤ pool.length) (hz : pool.length ≤ 1000) (hq : H q = some (.lst (pool.map V.str))) (hq0 : H0 q = none) (s0 : Same H0 H) (hp0 : ∃ o, H0 P.p = some o) (hc0 : ∃ o, H0 P.c = some o)
    (k : ∀ (H2 : Hp) (l : Addr) (ts rest : List Str), H0 l = none → H2 l = some (.lst (ts.map V.str)) → ts.length = m → (ts ++ rest).Perm pool → PenAt H2 P (n + m) → Same (L2.del H0 P.p) (L2.del H2 P.p) → Q (.ref l) H2) :
    tTagsLc K 2 3 [some (.ref P.p), some (.int m), some (.ref q), none] H Q := by
  unfold tTagsLc
  obtain ⟨op, hp0⟩ := hp0
  obtain ⟨oc, hc0⟩ := hc0
  have nq : q ≠ P.p ∧ q ≠ P.c := ⟨(fun e => by rw [e, hp0] at hq0; cases hq0), (fun e => by rw [e, hc0] at hq0; cases hq0)⟩
  refine x_lcR (n := (m : Int)) (fun _ q => ⟨_, rfl, q⟩) ⟨by omega, by omega⟩ (fun l i H2 => l ≠ q ∧ l ≠ P.p ∧ l ≠ P.c ∧ ∃ ts rest : List Str, H2 l = some (.lst (ts.map V.str)) ∧ H2 q = some (.lst (rest.map V.str)) ∧ ts.length = i ∧ (ts ++ rest).Perm pool ∧ PenAt H2 P (n + i) ∧ Same (L2.del H0 P.p) (L2.del H2 P.p))
    (fun l hl => ?_) (fun l i H2 hl hi hv => ?_) (fun l H2 hl hv => ?_)
  · have nl := hp.ne hl
    have lq : l ≠ q := fun e => by rw [e, hq] at hl; cases hl
    refine ⟨lq, nl.1, nl.2, [], pool, upd_same, by rw [upd_ne (Ne.symm lq)]; exact hq, rfl, List.Perm.refl _, hp.upd nl, ?_⟩
    rw [del_upd_ne nl.1]
    exact Same.upd (Same.del s0) (del_none hl)
  · obtain ⟨lq, lp, lc, ts, rest, h1, h2, h3, h4, h5, h6⟩ := hv
    refine ⟨rfl, ?_⟩
    walk_at "go"
    refine ⟨.inl ⟨rfl, _, SqL.of h2⟩, ?_⟩
    have hlen : ts.length + rest.length = pool.length := by rw [← List.length_append]; exact h4.length_eq
    walk_at "go"
    refine x_lenL (SqL.of h2) ?_
    walk_at "go"
    rw [List.length_map]
    refine ⟨P, _, n + i, rfl, h5, by omega, by omega, by omega, fun H3 r r0 r1 hp3 s3 => ?_⟩
    have hq3 : H3 q = some (.lst (rest.map V.str)) := del_sub (s3 _ _ (by rw [del_ne nq.1]; exact h2))
    have hl3 : H3 l = some (.lst (ts.map V.str)) := del_sub (s3 _ _ (by rw [del_ne lp]; exact h1))
    have hr : r.toNat < rest.length := by omega
    have hix : seqIndex? r (rest.map V.str).length = some r.toNat := by
      refine (ixN_seq ?_).1
      unfold ixN
      rw [if_pos r0, List.length_map, if_pos r1]
    refine ⟨q, rest.map V.str, r, r.toNat, .str rest[r.toNat], rfl, rfl, hq3, by omega, by omega, hix, by rw [List.getElem?_map, List.getElem?_eq_getElem hr]; rfl, ?_⟩
    have em : (rest.map V.str).eraseIdx r.toNat = (rest.eraseIdx r.toNat).map V.str := erase_map ..
    rw [em]
    refine ⟨ts.map V.str, by rw [upd_ne lq]; exact hl3, by rw [List.length_map]; exact Nat.lt_of_le_of_lt (by omega : ts.length ≤ 1000) (by decide), lq, lp, lc, ts ++ [rest[r.toNat]], rest.eraseIdx r.toNat, ?_, ?_, ?_, ?_, ?_, ?_⟩
    · rw [upd_same, List.map_append]; rfl
    · rw [upd_ne (Ne.symm lq), upd_same]
    · rw [List.length_append, h3]; rfl
    · exact perm_pop h4 (List.getElem?_eq_getElem hr)
    · exact (hp3.upd nq).upd ⟨lp, lc⟩
    · rw [del_upd_ne lp, del_upd_ne nq.1]
      refine Same.mut (Same.mut (Same.trans h6 s3) ?_) ?_
      · exact del_none hq0
      · exact del_none (Same.free s0 hl)
  · obtain ⟨lq, lp, lc, ts, rest, h1, h2, h3, h4, h5, h6⟩ := hv
    have em : (m : Int).toNat = m := by omega
    rw [em] at h3 h5
    exact k H2 l ts rest (Same.free s0 hl) h1 h3 h4 h5 h6
end
end SJ

/-! SJV: what stays when a heap grows; more steps. -/
namespace SJ
open PySem PySem.Spec PyProof.Rows L2 He
section
variable {K : PySem.W.Frag} {H H2 : Hp}
theorem ty_same (s : Same H H2) {x : V} {t : Value} (h : TyX K H x t) : TyX K H2 x t := by
  cases h with
  | base b =>
    cases b with
    | non => exact .base .non
    | bl y => exact .base (.bl y)
    | int y => exact .base (.int y)
    | str y => exact .base (.str y)
    | flt y => exact .base (.flt y)
    | lst e => exact .base (.lst (s _ _ e))
    | frz e => exact .base (.frz (s _ _ e))
    | tup e => exact .base (.tup (s _ _ e))
    | dK e => exact .base (.dK (s _ _ e))
    | dT e => exact .base (.dT (s _ _ e))
    | ins e c1 c2 c3 c4 c5 => exact .base (.ins (s _ _ e) c1 c2 c3 c4 c5)
  | byt b => exact .byt b
  | set e => exact .set (s _ _ e)
  | kList e c => exact .kList e c
  | kTuple e c => exact .kTuple e c
  | kDict e c => exact .kDict e c
  | fTuple e => exact .fTuple (s _ _ e)
  | fDict e => exact .fDict (s _ _ e)
theorem sqt_same (s : Same H H2) {l : Addr} {xs : List V} (h : SqT K H l xs) : SqT K H2 l xs := by
  rcases h with (h | ⟨o, h⟩) | h
  · exact .inl (.inl (s _ _ h))
  · exact .inl (.inr ⟨o, s _ _ h⟩)
  · exact .inr h
mutual
theorem dp_same (s : Same H H2) : ∀ (d : PyData) (v : V), Dp K H v d → Dp K H2 v d
  | .none, _, h => by cases h; exact .non
  | .bool b, _, h => by cases h; exact .bl b
  | .int i, _, h => by cases h; exact .int i
  | .str x, _, h => by cases h; exact .str x
  | .list ds, _, h => by
    cases h with
    | lst q a => exact .lst (Same.seq s q) (dpa_same s ds _ a)
  | .tuple ds, _, h => by
    cases h with
    | tup q a => exact .tup (sqt_same s q) (dpa_same s ds _ a)
  | .dict _, _, h => by cases h
theorem dpa_same (s : Same H H2) : ∀ (ds : List PyData) (vs : List V), DpAll K H vs ds → DpAll K H2 vs ds
  | [], _, h => by cases h; exact .nil
  | d :: ds, _, h => by
    cases h with
    | cons a b => exact .cons (dp_same s d _ a) (dpa_same s ds _ b)
end
end
section
variable {K : PySem.W.Frag} {σ : L2.St} {H : Hp} {Q : VK} {ta tk : TA} {te : TE} {D : Ends}
theorem x_tryAs {c : Addr} {i : Nat} {tb : WX → TS} {ts : Addr → Value → Option Addr → TS} {Wo : WX} (k : tb (wAs K (.ref c) i ts Wo D) D σ H) : tTryAs K c i tb ts Wo D σ H := k
theorem x_tryOnly {c : Addr} {tb : WX → TS} {ts : Addr → Value → Option Addr → TS} {Wo : WX} (k : tb (wOnly K (.ref c) ts Wo D) D σ H) : tTryOnly K c tb ts Wo D σ H := k
theorem x_nwK {C : Addr} {n m : Nat} {sp : Sp} {gV : List V → List V → List V} {W : WX} (k : ta σ H fun vs H1 => tk σ H1 fun zs H2 => vs.length = n ∧ zs.length = m ∧ ∀ x dx, H2 x = none → H2 dx = none → dx ≠ x →
  sp (gV (.ref x :: vs) zs) (upd (upd H2 dx (.own x)) x (.ins C dx [])) (fun v H3 => v = .non ∧ Q (.ref x) H3) (WE W σ)) : tNwK C n m sp gV W ta tk σ H Q := k
theorem x_xf {a : Addr} {cls : Value} {d : Option Addr} {C : Addr} {f : Str} (k : te σ H fun x H1 => x = .ref a ∧ cls = .ref C ∧ ∃ (dd : Addr) (fs : List (Str × V)) (v : V), d = some dd ∧ H1 dd = some (.xd fs) ∧ fs.lookup f = some v ∧ Q v H1) : tXf a cls d C f te σ H Q := k
/-- new objects: what was there stays -/
theorem same_new {x dx C : Addr} {H2 : Hp} (hx : H x = none) (hd : H dx = none) (s : Same (L2.del (upd (upd H dx (.own x)) x (.ins C dx [])) x) (L2.del H2 x)) : Same H H2 := fun b o e => by
  have n1 := ne_of_none e hx
  have n2 := ne_of_none e hd
  exact del_sub (s b o (by rw [del_ne n1, upd_ne n1, upd_ne n2]; exact e))
theorem same_new2 {x dx C : Addr} {H2 : Hp} (hx : H x = none) (hd : H dx = none) (s : Same (upd (upd H dx (.own x)) x (.ins C dx [])) H2) : Same H H2 := fun b o e => by
  have n1 := ne_of_none e hx
  have n2 := ne_of_none e hd
  exact s b o (by rw [upd_ne n1, upd_ne n2]; exact e)
theorem new_le {x dx C : Addr} (hx : H x = none) (hd : H dx = none) : Same H (upd (upd H dx (.own x)) x (.ins C dx [])) := same_new2 hx hd (Same.refl _)
end
/-! ### data that may be compared -/
theorem ok_str {z : Str} (h : (z.cps.toList.all fun c => decide (c < 0x110000)) = true) : PyData.strOk z = true := by
  unfold PyData.strOk
  rw [← Array.all_toList]
  exact h
theorem lays_nil {n : Nat} : ∀ d ∈ ([] : List PyData), Lay n d := fun _ m => nomatch m
theorem lays_cons {n : Nat} {d : PyData} {ds : List PyData} (h : Lay n d) (t : ∀ e ∈ ds, Lay n e) : ∀ e ∈ d :: ds, Lay n e := fun e m => by
  rcases List.mem_cons.mp m with rfl | m
  · exact h
  · exact t e m
/-! ### new objects, the heap at once named anew -/
def gNewT (xs : List V) (H : Hp) (Q : VK) : Prop := xs.length ≤ sizeLine ∧ ∀ p, H p = none → Q (.ref p) (upd H p (.tup xs))
def gNewL (xs : List V) (H : Hp) (Q : VK) : Prop := xs.length ≤ sizeLine ∧ ∀ p, H p = none → Q (.ref p) (upd H p (.lst xs))
section
variable {K : PySem.W.Frag} {σ : L2.St} {H : Hp} {Q : VK} {tA : TA} {xs ys : List V} {p q : Addr}
theorem x_tupG (k : tA σ H fun xs H1 => gNewT xs H1 Q) : tTup tA σ H Q := k
theorem x_lstG (k : tA σ H fun xs H1 => gNewL xs H1 Q) : tLst tA σ H Q := k
theorem x_newT (h : xs.length ≤ 1000) (k : ∀ p H2, H p = none → Same H H2 → H2 p = some (.tup xs) → Q (.ref p) H2) : gNewT xs H Q := ⟨Nat.le_trans h (by decide), fun p hp => k p _ hp (Same.upd (Same.refl _) hp) upd_same⟩
theorem x_newL (h : xs.length ≤ 1000) (k : ∀ p H2, H p = none → Same H H2 → H2 p = some (.lst xs) → Q (.ref p) H2) : gNewL xs H Q := ⟨Nat.le_trans h (by decide), fun p hp => k p _ hp (Same.upd (Same.refl _) hp) upd_same⟩
theorem x_dnew (k : ∀ p H2, H p = none → Same H H2 → H2 p = some (.dK []) → Q (.ref p) H2) : tDNewK σ H Q := fun p hp => k p _ hp (Same.upd (Same.refl _) hp) upd_same
theorem x_catG (h1 : H p = some (.lst xs)) (h2 : H q = some (.lst ys)) (h : xs.length + ys.length ≤ 10000) (k : ∀ l H2, H l = none → Same H H2 → H2 l = some (.lst (xs ++ ys)) → Q (.ref l) H2) : rAdd K (.ref p) (.ref q) H Q :=
  x_addL h1 h2 h fun l hl => k l _ hl (Same.upd (Same.refl _) hl) upd_same
theorem x_repG {i : Int} (h1 : H p = some (.lst xs)) (h0 : 0 ≤ i ∧ i ≤ 1000) (h : xs.length ≤ 10) (k : ∀ l H2, H l = none → Same H H2 → H2 l = some (.lst (List.replicate i.toNat xs).flatten) → Q (.ref l) H2) : rMul K (.ref p) (.int i) H Q := by
  have hz : xs.length * i.toNat ≤ 10 * 1000 := Nat.mul_le_mul h (by omega)
  exact .inr (.inr (.inl ⟨p, i, xs, rfl, rfl, h1, by omega, by omega, Nat.le_trans hz (by decide), fun l hl => k l _ hl (Same.upd (Same.refl _) hl) upd_same⟩))
/-- a comprehension over a tuple just made -/
def gLcT (K : PySem.W.Frag) (tg : TG) (tt : TT) (tb : TE) (vs : List Nat) (σ : L2.St) (Q : VK) (x : V) (H1 : Hp) : Prop := ∃ a2, x = V.ref a2 ∧ (∃ ys, SqT K H1 a2 ys) ∧ ∀ l, H1 l = none → ∃ Wn : Nat → Nat → Hp → Prop, (∃ m, Wn 0 m (upd H1 l (.lst []))) ∧ ∀ i m H2, Wn i m H2 →
      ((Itt K a2).stop i H2 ∧ Q (.ref l) H2) ∨ ((Itt K a2).go i H2 ∧ ∃ Nx : Hp → Prop, (∀ H3, Nx H3 → ∃ m2, m2 < m ∧ Wn (i + 1) m2 H3) ∧ ∀ x H3, (Itt K a2).yld i H2 x H3 → tg x (wipe σ vs) H3 fun s2 H4 => wipe s2 vs = wipe σ vs ∧ tt s2 H4 fun b H5 =>
        if b = true then tb s2 H5 fun y H6 => ∃ acc, H6 l = some (.lst acc) ∧ acc.length < sizeLine ∧ Nx (upd H6 l (.lst (acc ++ [y]))) else Nx H5)
theorem x_lcT0 {te tb : TE} {tg : TG} {tt : TT} {vs : List Nat} (k : te σ H fun x H1 => gLcT K tg tt tb vs σ Q x H1) : tLc (iTup K te) tg tt tb vs σ H Q := k
theorem x_lcT1 {tb : TE} {xs : List V} {tg : TG} {tt : TT} {vs : List Nat} {a : Addr} (hx : SqT K H a xs) (Pv : Addr → Nat → Hp → Prop) (h0 : ∀ l, H l = none → Pv l 0 (upd H l (.lst []))) (hl : ∀ l i H2, i ≤ xs.length → Pv l i H2 → SqT K H2 a xs)
    (hs : ∀ l i x H2, H l = none → xs[i]? = some x → Pv l i H2 → tg x (wipe σ vs) H2 fun s3 H3 => wipe s3 vs = wipe σ vs ∧ tt s3 H3 fun b H4 => if b = true then tb s3 H4 fun y H5 => ∃ acc, H5 l = some (.lst acc) ∧ acc.length < sizeLine ∧ Pv l (i + 1) (upd H5 l (.lst (acc ++ [y]))) else Pv l (i + 1) H4)
    (hd : ∀ l H2, H l = none → Pv l xs.length H2 → Q (.ref l) H2) : gLcT K tg tt tb vs σ Q (.ref a) H := x_lcT (Q0 := Q) hx Pv h0 hl hs hd
theorem x_andB {b1 b2 : Bool} {P : Bool → Prop} (k : P (b1 && b2)) : ∃ c, V.bl b1 = .bl c ∧ if c = true then P b2 else P false := by
  refine ⟨b1, rfl, ?_⟩
  cases b1 <;> exact k
theorem ite_d {p : Prop} [Decidable p] {A B : Prop} (e : p) (h : A) : if (decide p) = true then A else B := by rw [decide_eq_true e]; exact ite_t h
theorem ne_some {a b : Addr} {o : HO} (h1 : H a = some o) (h2 : H b = none) : a ≠ b := fun e => by rw [e, h2] at h1; cases h1
theorem ne_obj {a b : Addr} {o u : HO} (h1 : H a = some o) (h2 : H b = some u) (n : o ≠ u) : a ≠ b := fun e => n (by rw [e, h2] at h1; exact (Option.some.inj h1).symm)
end
end SJ

namespace K02
open PySem PySem.Spec PyProof.Rows L2 He SJ
def top (i : Nat) : Stmt := PySem.Challenge.pw_strayjoins_k02_legs.main.body.getD i (.Pass ⟨0, 0, 0, 0⟩)
abbrev s_InvalidFrame_init : Stmt := inClass (top 2) 0
abbrev s_is_name : Stmt := top 9
abbrev s_Leg_init : Stmt := inClass (top 11) 1
abbrev s_Leg_drives : Stmt := inClass (top 11) 2
abbrev s_Leg_eq : Stmt := inClass (top 11) 3
abbrev s_Leg_str : Stmt := inClass (top 11) 4
abbrev s_Leg_repr : Stmt := inClass (top 11) 5
abbrev s_Lpen : Stmt := top 15
abbrev s_Ldraw : Stmt := top 16
abbrev s_Lpick : Stmt := top 17
abbrev s_Ltags : Stmt := top 18
abbrev s_Lmade : Stmt := top 19
abbrev s_Ltold_right : Stmt := top 20
abbrev s_law : Stmt := top 21
def a_is_name : PySem.W.Frag → Addr := fun K => ga K "is_name"
def a_Leg_init : PySem.W.Frag → Addr := fun K => ma K (ga K "Leg") "__init__"
def a_Leg_drives : PySem.W.Frag → Addr := pgA "Leg" "drives"
def a_Leg_eq : PySem.W.Frag → Addr := fun K => ma K (ga K "Leg") "__eq__"
def a_Leg_str : PySem.W.Frag → Addr := fun K => ma K (ga K "Leg") "__str__"
def a_Leg_repr : PySem.W.Frag → Addr := fun K => ma K (ga K "Leg") "__repr__"
def a_Lpen : PySem.W.Frag → Addr := fun K => ga K "_law_pen"
def a_Ldraw : PySem.W.Frag → Addr := fun K => ga K "_law_draw"
def a_Lpick : PySem.W.Frag → Addr := fun K => ga K "_law_pick"
def a_Ltags : PySem.W.Frag → Addr := fun K => ga K "_law_tags"
def a_Lmade : PySem.W.Frag → Addr := fun K => ga K "_law_made"
def a_Ltold_right : PySem.W.Frag → Addr := fun K => ga K "_law_told_right"
def a_law : PySem.W.Frag → Addr := fun K => ga K "law"
theorem sc_is_name : FnScope ["value", "letter"] ["value"] (defScope s_is_name) := ⟨rfl, rfl, rfl, by decide +kernel, rfl, by decide +kernel, by decide +kernel⟩
theorem sc_Leg_init : FnScope ["self", "name"] ["self", "name"] (defScope s_Leg_init) := ⟨rfl, rfl, rfl, by decide +kernel, rfl, by decide +kernel, by decide +kernel⟩
theorem sc_Leg_drives : FnScope ["self"] ["self"] (defScope s_Leg_drives) := ⟨rfl, rfl, rfl, by decide +kernel, rfl, by decide +kernel, by decide +kernel⟩
theorem sc_Leg_eq : FnScope ["self", "other"] ["self", "other"] (defScope s_Leg_eq) := ⟨rfl, rfl, rfl, by decide +kernel, rfl, by decide +kernel, by decide +kernel⟩
theorem sc_Leg_str : FnScope ["self"] ["self"] (defScope s_Leg_str) := ⟨rfl, rfl, rfl, by decide +kernel, rfl, by decide +kernel, by decide +kernel⟩
theorem sc_Leg_repr : FnScope ["self"] ["self"] (defScope s_Leg_repr) := ⟨rfl, rfl, rfl, by decide +kernel, rfl, by decide +kernel, by decide +kernel⟩
theorem sc_Lpen : FnScope ["_law_script"] ["_law_script"] (defScope s_Lpen) := ⟨rfl, rfl, rfl, by decide +kernel, rfl, by decide +kernel, by decide +kernel⟩
theorem sc_Ldraw : FnScope ["_law_pen_here", "_law_many", "_law_digit", "_law_at", "_law_cell", "_law_great", "_law_mixed"] ["_law_pen_here", "_law_many"] (defScope s_Ldraw) := ⟨rfl, rfl, rfl, by decide +kernel, rfl, by decide +kernel, by decide +kernel⟩
theorem sc_Lpick : FnScope ["_law_pen_here", "_law_some"] ["_law_pen_here", "_law_some"] (defScope s_Lpick) := ⟨rfl, rfl, rfl, by decide +kernel, rfl, by decide +kernel, by decide +kernel⟩
theorem sc_Ltags : FnScope ["_law_pen_here", "_law_many", "_law_pool", "_law_turn"] ["_law_pen_here", "_law_many"] (defScope s_Ltags) := ⟨rfl, rfl, rfl, by decide +kernel, rfl, by decide +kernel, by decide +kernel⟩
theorem sc_Lmade : FnScope ["_law_kind", "_law_tag", "error"] ["_law_kind", "_law_tag"] (defScope s_Lmade) := ⟨rfl, rfl, rfl, by decide +kernel, rfl, by decide +kernel, by decide +kernel⟩
theorem sc_Ltold_right : FnScope ["_law_kind", "_law_tag", "_law_leg", "_law_face", "_law_flags"] ["_law_kind", "_law_tag", "_law_leg"] (defScope s_Ltold_right) := ⟨rfl, rfl, rfl, by decide +kernel, rfl, by decide +kernel, by decide +kernel⟩
theorem sc_law : FnScope ["_law_script", "_law_pen_here", "_law_kinds_so", "_law_rows", "_law_turn", "_law_kind", "_law_tag", "_law_leg", "_law_some", "_law_odd", "_law_one", "_law_sort", "_law_label", "_law_other", "_law_is_alike"] ["_law_script"] (defScope s_law) := ⟨rfl, rfl, rfl, by decide +kernel, rfl, by decide +kernel, by decide +kernel⟩
def d_is_name : DD := ⟨a_is_name, "is_name", "is_name", defArgs s_is_name, defBody s_is_name, defScope s_is_name, []⟩
abbrev Fn_is_name (K : PySem.W.Frag) (fd : FuncData) : Prop := FunD K "is_name" "is_name" (defArgs s_is_name) (defBody s_is_name) (defScope s_is_name) [] [] (a_is_name K) fd
def d_Leg_init : DD := ⟨a_Leg_init, "__init__", "Leg.__init__", defArgs s_Leg_init, defBody s_Leg_init, defScope s_Leg_init, []⟩
abbrev Fn_Leg_init (K : PySem.W.Frag) (fd : FuncData) : Prop := FunD K "__init__" "Leg.__init__" (defArgs s_Leg_init) (defBody s_Leg_init) (defScope s_Leg_init) [] [] (a_Leg_init K) fd
def d_Leg_drives : DD := ⟨a_Leg_drives, "drives", "Leg.drives", defArgs s_Leg_drives, defBody s_Leg_drives, defScope s_Leg_drives, []⟩
abbrev Fn_Leg_drives (K : PySem.W.Frag) (fd : FuncData) : Prop := FunD K "drives" "Leg.drives" (defArgs s_Leg_drives) (defBody s_Leg_drives) (defScope s_Leg_drives) [] [] (a_Leg_drives K) fd
def d_Leg_eq : DD := ⟨a_Leg_eq, "__eq__", "Leg.__eq__", defArgs s_Leg_eq, defBody s_Leg_eq, defScope s_Leg_eq, []⟩
abbrev Fn_Leg_eq (K : PySem.W.Frag) (fd : FuncData) : Prop := FunD K "__eq__" "Leg.__eq__" (defArgs s_Leg_eq) (defBody s_Leg_eq) (defScope s_Leg_eq) [] [] (a_Leg_eq K) fd
def d_Leg_str : DD := ⟨a_Leg_str, "__str__", "Leg.__str__", defArgs s_Leg_str, defBody s_Leg_str, defScope s_Leg_str, []⟩
abbrev Fn_Leg_str (K : PySem.W.Frag) (fd : FuncData) : Prop := FunD K "__str__" "Leg.__str__" (defArgs s_Leg_str) (defBody s_Leg_str) (defScope s_Leg_str) [] [] (a_Leg_str K) fd
def d_Leg_repr : DD := ⟨a_Leg_repr, "__repr__", "Leg.__repr__", defArgs s_Leg_repr, defBody s_Leg_repr, defScope s_Leg_repr, []⟩
abbrev Fn_Leg_repr (K : PySem.W.Frag) (fd : FuncData) : Prop := FunD K "__repr__" "Leg.__repr__" (defArgs s_Leg_repr) (defBody s_Leg_repr) (defScope s_Leg_repr) [] [] (a_Leg_repr K) fd
def d_Lpen : DD := ⟨a_Lpen, "_law_pen", "_law_pen", defArgs s_Lpen, defBody s_Lpen, defScope s_Lpen, []⟩
abbrev Fn_Lpen (K : PySem.W.Frag) (fd : FuncData) : Prop := FunD K "_law_pen" "_law_pen" (defArgs s_Lpen) (defBody s_Lpen) (defScope s_Lpen) [] [] (a_Lpen K) fd
def d_Ldraw : DD := ⟨a_Ldraw, "_law_draw", "_law_draw", defArgs s_Ldraw, defBody s_Ldraw, defScope s_Ldraw, []⟩
abbrev Fn_Ldraw (K : PySem.W.Frag) (fd : FuncData) : Prop := FunD K "_law_draw" "_law_draw" (defArgs s_Ldraw) (defBody s_Ldraw) (defScope s_Ldraw) [] [] (a_Ldraw K) fd
def d_Lpick : DD := ⟨a_Lpick, "_law_pick", "_law_pick", defArgs s_Lpick, defBody s_Lpick, defScope s_Lpick, []⟩
abbrev Fn_Lpick (K : PySem.W.Frag) (fd : FuncData) : Prop := FunD K "_law_pick" "_law_pick" (defArgs s_Lpick) (defBody s_Lpick) (defScope s_Lpick) [] [] (a_Lpick K) fd
def d_Ltags : DD := ⟨a_Ltags, "_law_tags", "_law_tags", defArgs s_Ltags, defBody s_Ltags, defScope s_Ltags, []⟩
abbrev Fn_Ltags (K : PySem.W.Frag) (fd : FuncData) : Prop := FunD K "_law_tags" "_law_tags" (defArgs s_Ltags) (defBody s_Ltags) (defScope s_Ltags) [] [] (a_Ltags K) fd
def d_Lmade : DD := ⟨a_Lmade, "_law_made", "_law_made", defArgs s_Lmade, defBody s_Lmade, defScope s_Lmade, []⟩
abbrev Fn_Lmade (K : PySem.W.Frag) (fd : FuncData) : Prop := FunD K "_law_made" "_law_made" (defArgs s_Lmade) (defBody s_Lmade) (defScope s_Lmade) [] [] (a_Lmade K) fd
def d_Ltold_right : DD := ⟨a_Ltold_right, "_law_told_right", "_law_told_right", defArgs s_Ltold_right, defBody s_Ltold_right, defScope s_Ltold_right, []⟩
abbrev Fn_Ltold_right (K : PySem.W.Frag) (fd : FuncData) : Prop := FunD K "_law_told_right" "_law_told_right" (defArgs s_Ltold_right) (defBody s_Ltold_right) (defScope s_Ltold_right) [] [] (a_Ltold_right K) fd
def d_law : DD := ⟨a_law, "law", "law", defArgs s_law, defBody s_law, defScope s_law, []⟩
abbrev Fn_law (K : PySem.W.Frag) (fd : FuncData) : Prop := FunD K "law" "law" (defArgs s_law) (defBody s_law) (defScope s_law) [] [] (a_law K) fd
def d_InvalidFrame_init : XD := ⟨"InvalidFrame", "InvalidFrame.__init__", defArgs s_InvalidFrame_init, defBody s_InvalidFrame_init, defScope s_InvalidFrame_init⟩
def a_InvalidFrame_init : PySem.W.Frag → Addr := fun K => ma K (ga K "InvalidFrame") "__init__"
def fn : List DD := [d_is_name, d_Leg_init, d_Leg_drives, d_Leg_eq, d_Leg_str, d_Leg_repr, d_Lpen, d_Ldraw, d_Lpick, d_Ltags, d_Lmade, d_Ltold_right, d_law]
def fx : List XD := [d_InvalidFrame_init]
structure Tx (K : PySem.W.Frag) (mg : Str → Option Value) : Prop where
  f_ValueError : mg "ValueError" = none
  f_abs : mg "abs" = none
  f_all : mg "all" = none
  f_int : mg "int" = none
  f_isinstance : mg "isinstance" = none
  f_len : mg "len" = none
  f_list : mg "list" = none
  f_range : mg "range" = none
  f_repr : mg "repr" = none
  f_str : mg "str" = none
  f_super : mg "super" = none
  g_JoinError : mg "JoinError" = some (.ref (ga K "JoinError"))
  g_InvalidFrame : mg "InvalidFrame" = some (.ref (ga K "InvalidFrame"))
  g_LETTERS : ∃ t, mg "LETTERS" = some (.str "abcdefghijklmnopqrstuvwxyz" t)
  g_MOST_LETTERS : ∃ t, mg "MOST_LETTERS" = some (.int 8 t)
  g_GROUND : ∃ t, mg "GROUND" = some (.str "ground" t)
  g_POWER : ∃ t, mg "POWER" = some (.str "power" t)
  g_NOTHING : ∃ t, mg "NOTHING" = some (.str "nothing" t)
  g_is_name : mg "is_name" = some (.ref (ga K "is_name"))
  g_Leg : mg "Leg" = some (.ref (ga K "Leg"))
  g_Driver : mg "Driver" = some (.ref (ga K "Driver"))
  g_Listener : mg "Listener" = some (.ref (ga K "Listener"))
  g_Lpen : mg "_law_pen" = some (.ref (ga K "_law_pen"))
  g_Ldraw : mg "_law_draw" = some (.ref (ga K "_law_draw"))
  g_Lpick : mg "_law_pick" = some (.ref (ga K "_law_pick"))
  g_Ltags : mg "_law_tags" = some (.ref (ga K "_law_tags"))
  g_Lmade : mg "_law_made" = some (.ref (ga K "_law_made"))
  g_Ltold_right : mg "_law_told_right" = some (.ref (ga K "_law_told_right"))
  g_law : mg "law" = some (.ref (ga K "law"))
  x_InvalidFrame : ExT K "InvalidFrame" "ValueError" "ValueError.__new__" "ValueError.__init__" [.type "ValueError", .type "Exception", .type "BaseException", .type "object"] ["reason"]
  in_Leg : InT K (ga K "Leg")
  mk_Leg : Mk K (ga K "Leg") (a_Leg_init K)
  in_Driver : InT K (ga K "Driver")
  mk_Driver : Mk K (ga K "Driver") (a_Leg_init K)
  in_Listener : InT K (ga K "Listener")
  mk_Listener : Mk K (ga K "Listener") (a_Leg_init K)
  fn_Leg_init : PySem.W.isFn K (.ref (a_Leg_init K)) = true
  fn_Leg_eq : PySem.W.isFn K (.ref (a_Leg_eq K)) = true
  fn_Leg_str : PySem.W.isFn K (.ref (a_Leg_str K)) = true
  fn_Leg_repr : PySem.W.isFn K (.ref (a_Leg_repr K)) = true
  k_Leg : ∃ t, Con K (ga K "Leg") "KIND" (.str "leg") (.str "leg" t)
  n_Leg : NoAttr K (ga K "Leg") "name"
  eq_Leg : PySem.W.findIn K (.ref (ga K "Leg")) "__eq__" = some (some (.ref (a_Leg_eq K)))
  ne_Leg : PySem.W.findIn K (.ref (ga K "Leg")) "__ne__" = some (some (.builtin "object.__ne__"))
  str_Leg : PySem.W.findIn K (.ref (ga K "Leg")) "__str__" = some (some (.ref (a_Leg_str K)))
  repr_Leg : PySem.W.findIn K (.ref (ga K "Leg")) "__repr__" = some (some (.ref (a_Leg_repr K)))
  pr_Leg : PropOf K (ga K "Leg") "drives" (ma K (ga K "Leg") "drives") (a_Leg_drives K)
  kit_Leg_Leg : PySem.W.kitOne K (.ref (ga K "Leg")) (.ref (ga K "Leg")) = some true
  sub_Leg_Leg : PySem.W.subIn K (.ref (ga K "Leg")) (.ref (ga K "Leg")) = some true
  kit_Leg_Driver : PySem.W.kitOne K (.ref (ga K "Leg")) (.ref (ga K "Driver")) = some false
  sub_Leg_Driver : PySem.W.subIn K (.ref (ga K "Leg")) (.ref (ga K "Driver")) = some false
  dif_Leg_Driver : ga K "Leg" ≠ ga K "Driver"
  kit_Leg_Listener : PySem.W.kitOne K (.ref (ga K "Leg")) (.ref (ga K "Listener")) = some false
  sub_Leg_Listener : PySem.W.subIn K (.ref (ga K "Leg")) (.ref (ga K "Listener")) = some false
  dif_Leg_Listener : ga K "Leg" ≠ ga K "Listener"
  nf_Leg_str : PySem.W.notFirst K (ga K "Leg") (.type "str") = true
  nf_Leg_NoneType : PySem.W.notFirst K (ga K "Leg") (.type "NoneType") = true
  nf_Leg_tuple : PySem.W.notFirst K (ga K "Leg") (.type "tuple") = true
  k_Driver : ∃ t, Con K (ga K "Driver") "KIND" (.str "driver") (.str "driver" t)
  n_Driver : NoAttr K (ga K "Driver") "name"
  eq_Driver : PySem.W.findIn K (.ref (ga K "Driver")) "__eq__" = some (some (.ref (a_Leg_eq K)))
  ne_Driver : PySem.W.findIn K (.ref (ga K "Driver")) "__ne__" = some (some (.builtin "object.__ne__"))
  str_Driver : PySem.W.findIn K (.ref (ga K "Driver")) "__str__" = some (some (.ref (a_Leg_str K)))
  repr_Driver : PySem.W.findIn K (.ref (ga K "Driver")) "__repr__" = some (some (.ref (a_Leg_repr K)))
  pr_Driver : PropOf K (ga K "Driver") "drives" (ma K (ga K "Driver") "drives") (a_Leg_drives K)
  kit_Driver_Leg : PySem.W.kitOne K (.ref (ga K "Driver")) (.ref (ga K "Leg")) = some true
  sub_Driver_Leg : PySem.W.subIn K (.ref (ga K "Driver")) (.ref (ga K "Leg")) = some true
  dif_Driver_Leg : ga K "Driver" ≠ ga K "Leg"
  kit_Driver_Driver : PySem.W.kitOne K (.ref (ga K "Driver")) (.ref (ga K "Driver")) = some true
  sub_Driver_Driver : PySem.W.subIn K (.ref (ga K "Driver")) (.ref (ga K "Driver")) = some true
  kit_Driver_Listener : PySem.W.kitOne K (.ref (ga K "Driver")) (.ref (ga K "Listener")) = some false
  sub_Driver_Listener : PySem.W.subIn K (.ref (ga K "Driver")) (.ref (ga K "Listener")) = some false
  dif_Driver_Listener : ga K "Driver" ≠ ga K "Listener"
  nf_Driver_str : PySem.W.notFirst K (ga K "Driver") (.type "str") = true
  nf_Driver_NoneType : PySem.W.notFirst K (ga K "Driver") (.type "NoneType") = true
  nf_Driver_tuple : PySem.W.notFirst K (ga K "Driver") (.type "tuple") = true
  k_Listener : ∃ t, Con K (ga K "Listener") "KIND" (.str "listener") (.str "listener" t)
  n_Listener : NoAttr K (ga K "Listener") "name"
  eq_Listener : PySem.W.findIn K (.ref (ga K "Listener")) "__eq__" = some (some (.ref (a_Leg_eq K)))
  ne_Listener : PySem.W.findIn K (.ref (ga K "Listener")) "__ne__" = some (some (.builtin "object.__ne__"))
  str_Listener : PySem.W.findIn K (.ref (ga K "Listener")) "__str__" = some (some (.ref (a_Leg_str K)))
  repr_Listener : PySem.W.findIn K (.ref (ga K "Listener")) "__repr__" = some (some (.ref (a_Leg_repr K)))
  pr_Listener : PropOf K (ga K "Listener") "drives" (ma K (ga K "Listener") "drives") (a_Leg_drives K)
  kit_Listener_Leg : PySem.W.kitOne K (.ref (ga K "Listener")) (.ref (ga K "Leg")) = some true
  sub_Listener_Leg : PySem.W.subIn K (.ref (ga K "Listener")) (.ref (ga K "Leg")) = some true
  dif_Listener_Leg : ga K "Listener" ≠ ga K "Leg"
  kit_Listener_Driver : PySem.W.kitOne K (.ref (ga K "Listener")) (.ref (ga K "Driver")) = some false
  sub_Listener_Driver : PySem.W.subIn K (.ref (ga K "Listener")) (.ref (ga K "Driver")) = some false
  dif_Listener_Driver : ga K "Listener" ≠ ga K "Driver"
  kit_Listener_Listener : PySem.W.kitOne K (.ref (ga K "Listener")) (.ref (ga K "Listener")) = some true
  sub_Listener_Listener : PySem.W.subIn K (.ref (ga K "Listener")) (.ref (ga K "Listener")) = some true
  nf_Listener_str : PySem.W.notFirst K (ga K "Listener") (.type "str") = true
  nf_Listener_NoneType : PySem.W.notFirst K (ga K "Listener") (.type "NoneType") = true
  nf_Listener_tuple : PySem.W.notFirst K (ga K "Listener") (.type "tuple") = true
  kity_str : PySem.W.kitOne K (.type "str") (.ref (ga K "Leg")) = some false
  kity_NoneType : PySem.W.kitOne K (.type "NoneType") (.ref (ga K "Leg")) = some false
  kity_tuple : PySem.W.kitOne K (.type "tuple") (.ref (ga K "Leg")) = some false
  exm : PySem.W.exmOne K (.ref (ga K "InvalidFrame")) (.ref (ga K "InvalidFrame")) = some true
  cv_Leg : ∃ mc v, ClX.CRead K (ga K "Leg") mc ∧ ClX.CVal K (ga K "Leg") mc "KIND" (.str "leg") v
  cv_Driver : ∃ mc v, ClX.CRead K (ga K "Driver") mc ∧ ClX.CVal K (ga K "Driver") mc "KIND" (.str "driver") v
  cv_Listener : ∃ mc v, ClX.CRead K (ga K "Listener") mc ∧ ClX.CVal K (ga K "Listener") mc "KIND" (.str "listener") v
  d_is_name : ∃ fd, Fn_is_name K fd
  d_Leg_init : ∃ fd, Fn_Leg_init K fd
  d_Leg_drives : ∃ fd, Fn_Leg_drives K fd
  d_Leg_eq : ∃ fd, Fn_Leg_eq K fd
  d_Leg_str : ∃ fd, Fn_Leg_str K fd
  d_Leg_repr : ∃ fd, Fn_Leg_repr K fd
  d_Lpen : ∃ fd, Fn_Lpen K fd
  d_Ldraw : ∃ fd, Fn_Ldraw K fd
  d_Lpick : ∃ fd, Fn_Lpick K fd
  d_Ltags : ∃ fd, Fn_Ltags K fd
  d_Lmade : ∃ fd, Fn_Lmade K fd
  d_Ltold_right : ∃ fd, Fn_Ltold_right K fd
  d_law : ∃ fd, Fn_law K fd
  e_InvalidFrame_init : fnXA K (d_InvalidFrame_init.ad K) = d_InvalidFrame_init.val ∧ d_InvalidFrame_init.ok PySem.Challenge.pw_strayjoins_k02_legs.main.file K = true
def fa : List Tst := [fun K => (Fa.free "ValueError").ok K,
  fun K => (Fa.free "abs").ok K,
  fun K => (Fa.free "all").ok K,
  fun K => (Fa.free "int").ok K,
  fun K => (Fa.free "isinstance").ok K,
  fun K => (Fa.free "len").ok K,
  fun K => (Fa.free "list").ok K,
  fun K => (Fa.free "range").ok K,
  fun K => (Fa.free "repr").ok K,
  fun K => (Fa.free "str").ok K,
  fun K => (Fa.free "super").ok K,
  fun K => (Fa.glo "JoinError").ok K,
  fun K => (Fa.glo "InvalidFrame").ok K,
  fun K => (Fa.str "LETTERS" "abcdefghijklmnopqrstuvwxyz").ok K,
  fun K => (Fa.int "MOST_LETTERS" 8).ok K,
  fun K => (Fa.str "GROUND" "ground").ok K,
  fun K => (Fa.str "POWER" "power").ok K,
  fun K => (Fa.str "NOTHING" "nothing").ok K,
  fun K => (Fa.glo "is_name").ok K,
  fun K => (Fa.glo "Leg").ok K,
  fun K => (Fa.glo "Driver").ok K,
  fun K => (Fa.glo "Listener").ok K,
  fun K => (Fa.glo "_law_pen").ok K,
  fun K => (Fa.glo "_law_draw").ok K,
  fun K => (Fa.glo "_law_pick").ok K,
  fun K => (Fa.glo "_law_tags").ok K,
  fun K => (Fa.glo "_law_made").ok K,
  fun K => (Fa.glo "_law_told_right").ok K,
  fun K => (Fa.glo "law").ok K,
  exT "InvalidFrame" "ValueError" "ValueError.__new__" "ValueError.__init__" [.type "ValueError", .type "Exception", .type "BaseException", .type "object"] ["reason"],
  inT "Leg",
  mkT "Leg" a_Leg_init,
  inT "Driver",
  mkT "Driver" a_Leg_init,
  inT "Listener",
  mkT "Listener" a_Leg_init,
  fun K => PySem.W.isFn K (.ref (a_Leg_init K)),
  fun K => PySem.W.isFn K (.ref (a_Leg_eq K)),
  fun K => PySem.W.isFn K (.ref (a_Leg_str K)),
  fun K => PySem.W.isFn K (.ref (a_Leg_repr K)),
  conT "Leg" "KIND" "leg",
  finT "Leg" "name" (fun _ => none),
  finT "Leg" "__eq__" (fun K => some (.ref (a_Leg_eq K))),
  finT "Leg" "__ne__" (fun _ => some (.builtin "object.__ne__")),
  finT "Leg" "__str__" (fun K => some (.ref (a_Leg_str K))),
  finT "Leg" "__repr__" (fun K => some (.ref (a_Leg_repr K))),
  prT "Leg" "drives" a_Leg_drives,
  kitT (fun K => .ref (ga K "Leg")) (fun K => .ref (ga K "Leg")) true,
  subT (fun K => .ref (ga K "Leg")) (fun K => .ref (ga K "Leg")) true,
  kitT (fun K => .ref (ga K "Leg")) (fun K => .ref (ga K "Driver")) false,
  subT (fun K => .ref (ga K "Leg")) (fun K => .ref (ga K "Driver")) false,
  neT "Leg" "Driver",
  kitT (fun K => .ref (ga K "Leg")) (fun K => .ref (ga K "Listener")) false,
  subT (fun K => .ref (ga K "Leg")) (fun K => .ref (ga K "Listener")) false,
  neT "Leg" "Listener",
  nfT "Leg" (fun _ => .type "str"),
  nfT "Leg" (fun _ => .type "NoneType"),
  nfT "Leg" (fun _ => .type "tuple"),
  conT "Driver" "KIND" "driver",
  finT "Driver" "name" (fun _ => none),
  finT "Driver" "__eq__" (fun K => some (.ref (a_Leg_eq K))),
  finT "Driver" "__ne__" (fun _ => some (.builtin "object.__ne__")),
  finT "Driver" "__str__" (fun K => some (.ref (a_Leg_str K))),
  finT "Driver" "__repr__" (fun K => some (.ref (a_Leg_repr K))),
  prT "Driver" "drives" a_Leg_drives,
  kitT (fun K => .ref (ga K "Driver")) (fun K => .ref (ga K "Leg")) true,
  subT (fun K => .ref (ga K "Driver")) (fun K => .ref (ga K "Leg")) true,
  neT "Driver" "Leg",
  kitT (fun K => .ref (ga K "Driver")) (fun K => .ref (ga K "Driver")) true,
  subT (fun K => .ref (ga K "Driver")) (fun K => .ref (ga K "Driver")) true,
  kitT (fun K => .ref (ga K "Driver")) (fun K => .ref (ga K "Listener")) false,
  subT (fun K => .ref (ga K "Driver")) (fun K => .ref (ga K "Listener")) false,
  neT "Driver" "Listener",
  nfT "Driver" (fun _ => .type "str"),
  nfT "Driver" (fun _ => .type "NoneType"),
  nfT "Driver" (fun _ => .type "tuple"),
  conT "Listener" "KIND" "listener",
  finT "Listener" "name" (fun _ => none),
  finT "Listener" "__eq__" (fun K => some (.ref (a_Leg_eq K))),
  finT "Listener" "__ne__" (fun _ => some (.builtin "object.__ne__")),
  finT "Listener" "__str__" (fun K => some (.ref (a_Leg_str K))),
  finT "Listener" "__repr__" (fun K => some (.ref (a_Leg_repr K))),
  prT "Listener" "drives" a_Leg_drives,
  kitT (fun K => .ref (ga K "Listener")) (fun K => .ref (ga K "Leg")) true,
  subT (fun K => .ref (ga K "Listener")) (fun K => .ref (ga K "Leg")) true,
  neT "Listener" "Leg",
  kitT (fun K => .ref (ga K "Listener")) (fun K => .ref (ga K "Driver")) false,
  subT (fun K => .ref (ga K "Listener")) (fun K => .ref (ga K "Driver")) false,
  neT "Listener" "Driver",
  kitT (fun K => .ref (ga K "Listener")) (fun K => .ref (ga K "Listener")) true,
  subT (fun K => .ref (ga K "Listener")) (fun K => .ref (ga K "Listener")) true,
  nfT "Listener" (fun _ => .type "str"),
  nfT "Listener" (fun _ => .type "NoneType"),
  nfT "Listener" (fun _ => .type "tuple"),
  kitT (fun _ => .type "str") (fun K => .ref (ga K "Leg")) false,
  kitT (fun _ => .type "NoneType") (fun K => .ref (ga K "Leg")) false,
  kitT (fun _ => .type "tuple") (fun K => .ref (ga K "Leg")) false,
  exmT (fun K => .ref (ga K "InvalidFrame")) (fun K => .ref (ga K "InvalidFrame")) true,
  cvT "Leg" "KIND" "leg",
  cvT "Driver" "KIND" "driver",
  cvT "Listener" "KIND" "listener"]
theorem tx_of {K : PySem.W.Frag} {h : Heap} {mg : Str → Option Value} (X : K.In h) (G : h.Ns mainGlobals mg) (c : SaysZ PySem.Challenge.pw_strayjoins_k02_legs.main.file fa fn fx K) : Tx K mg where
  f_ValueError := free_ok X G (c.fact 0)
  f_abs := free_ok X G (c.fact 1)
  f_all := free_ok X G (c.fact 2)
  f_int := free_ok X G (c.fact 3)
  f_isinstance := free_ok X G (c.fact 4)
  f_len := free_ok X G (c.fact 5)
  f_list := free_ok X G (c.fact 6)
  f_range := free_ok X G (c.fact 7)
  f_repr := free_ok X G (c.fact 8)
  f_str := free_ok X G (c.fact 9)
  f_super := free_ok X G (c.fact 10)
  g_JoinError := glo_ok X G (c.fact 11)
  g_InvalidFrame := glo_ok X G (c.fact 12)
  g_LETTERS := str_ok X G (c.fact 13)
  g_MOST_LETTERS := int_ok X G (c.fact 14)
  g_GROUND := str_ok X G (c.fact 15)
  g_POWER := str_ok X G (c.fact 16)
  g_NOTHING := str_ok X G (c.fact 17)
  g_is_name := glo_ok X G (c.fact 18)
  g_Leg := glo_ok X G (c.fact 19)
  g_Driver := glo_ok X G (c.fact 20)
  g_Listener := glo_ok X G (c.fact 21)
  g_Lpen := glo_ok X G (c.fact 22)
  g_Ldraw := glo_ok X G (c.fact 23)
  g_Lpick := glo_ok X G (c.fact 24)
  g_Ltags := glo_ok X G (c.fact 25)
  g_Lmade := glo_ok X G (c.fact 26)
  g_Ltold_right := glo_ok X G (c.fact 27)
  g_law := glo_ok X G (c.fact 28)
  x_InvalidFrame := exT_ok (c.fact 29)
  in_Leg := inT_ok (c.fact 30)
  mk_Leg := mkT_ok (c.fact 31)
  in_Driver := inT_ok (c.fact 32)
  mk_Driver := mkT_ok (c.fact 33)
  in_Listener := inT_ok (c.fact 34)
  mk_Listener := mkT_ok (c.fact 35)
  fn_Leg_init := id (c.fact 36)
  fn_Leg_eq := id (c.fact 37)
  fn_Leg_str := id (c.fact 38)
  fn_Leg_repr := id (c.fact 39)
  k_Leg := conT_ok (c.fact 40)
  n_Leg := finT_ok (v := fun _ => none) (c.fact 41)
  eq_Leg := finT_ok (v := fun K => some (.ref (a_Leg_eq K))) (c.fact 42)
  ne_Leg := finT_ok (v := fun _ => some (.builtin "object.__ne__")) (c.fact 43)
  str_Leg := finT_ok (v := fun K => some (.ref (a_Leg_str K))) (c.fact 44)
  repr_Leg := finT_ok (v := fun K => some (.ref (a_Leg_repr K))) (c.fact 45)
  pr_Leg := prT_ok (c.fact 46)
  kit_Leg_Leg := kitT_ok (t := fun K => .ref (ga K "Leg")) (c := fun K => .ref (ga K "Leg")) (c.fact 47)
  sub_Leg_Leg := subT_ok (t := fun K => .ref (ga K "Leg")) (c := fun K => .ref (ga K "Leg")) (c.fact 48)
  kit_Leg_Driver := kitT_ok (t := fun K => .ref (ga K "Leg")) (c := fun K => .ref (ga K "Driver")) (c.fact 49)
  sub_Leg_Driver := subT_ok (t := fun K => .ref (ga K "Leg")) (c := fun K => .ref (ga K "Driver")) (c.fact 50)
  dif_Leg_Driver := neT_ok (c.fact 51)
  kit_Leg_Listener := kitT_ok (t := fun K => .ref (ga K "Leg")) (c := fun K => .ref (ga K "Listener")) (c.fact 52)
  sub_Leg_Listener := subT_ok (t := fun K => .ref (ga K "Leg")) (c := fun K => .ref (ga K "Listener")) (c.fact 53)
  dif_Leg_Listener := neT_ok (c.fact 54)
  nf_Leg_str := id (c.fact 55)
  nf_Leg_NoneType := id (c.fact 56)
  nf_Leg_tuple := id (c.fact 57)
  k_Driver := conT_ok (c.fact 58)
  n_Driver := finT_ok (v := fun _ => none) (c.fact 59)
  eq_Driver := finT_ok (v := fun K => some (.ref (a_Leg_eq K))) (c.fact 60)
  ne_Driver := finT_ok (v := fun _ => some (.builtin "object.__ne__")) (c.fact 61)
  str_Driver := finT_ok (v := fun K => some (.ref (a_Leg_str K))) (c.fact 62)
  repr_Driver := finT_ok (v := fun K => some (.ref (a_Leg_repr K))) (c.fact 63)
  pr_Driver := prT_ok (c.fact 64)
  kit_Driver_Leg := kitT_ok (t := fun K => .ref (ga K "Driver")) (c := fun K => .ref (ga K "Leg")) (c.fact 65)
  sub_Driver_Leg := subT_ok (t := fun K => .ref (ga K "Driver")) (c := fun K => .ref (ga K "Leg")) (c.fact 66)
  dif_Driver_Leg := neT_ok (c.fact 67)
  kit_Driver_Driver := kitT_ok (t := fun K => .ref (ga K "Driver")) (c := fun K => .ref (ga K "Driver")) (c.fact 68)
  sub_Driver_Driver := subT_ok (t := fun K => .ref (ga K "Driver")) (c := fun K => .ref (ga K "Driver")) (c.fact 69)
  kit_Driver_Listener := kitT_ok (t := fun K => .ref (ga K "Driver")) (c := fun K => .ref (ga K "Listener")) (c.fact 70)
  sub_Driver_Listener := subT_ok (t := fun K => .ref (ga K "Driver")) (c := fun K => .ref (ga K "Listener")) (c.fact 71)
  dif_Driver_Listener := neT_ok (c.fact 72)
  nf_Driver_str := id (c.fact 73)
  nf_Driver_NoneType := id (c.fact 74)
  nf_Driver_tuple := id (c.fact 75)
  k_Listener := conT_ok (c.fact 76)
  n_Listener := finT_ok (v := fun _ => none) (c.fact 77)
  eq_Listener := finT_ok (v := fun K => some (.ref (a_Leg_eq K))) (c.fact 78)
  ne_Listener := finT_ok (v := fun _ => some (.builtin "object.__ne__")) (c.fact 79)
  str_Listener := finT_ok (v := fun K => some (.ref (a_Leg_str K))) (c.fact 80)
  repr_Listener := finT_ok (v := fun K => some (.ref (a_Leg_repr K))) (c.fact 81)
  pr_Listener := prT_ok (c.fact 82)
  kit_Listener_Leg := kitT_ok (t := fun K => .ref (ga K "Listener")) (c := fun K => .ref (ga K "Leg")) (c.fact 83)
  sub_Listener_Leg := subT_ok (t := fun K => .ref (ga K "Listener")) (c := fun K => .ref (ga K "Leg")) (c.fact 84)
  dif_Listener_Leg := neT_ok (c.fact 85)
  kit_Listener_Driver := kitT_ok (t := fun K => .ref (ga K "Listener")) (c := fun K => .ref (ga K "Driver")) (c.fact 86)
  sub_Listener_Driver := subT_ok (t := fun K => .ref (ga K "Listener")) (c := fun K => .ref (ga K "Driver")) (c.fact 87)
  dif_Listener_Driver := neT_ok (c.fact 88)
  kit_Listener_Listener := kitT_ok (t := fun K => .ref (ga K "Listener")) (c := fun K => .ref (ga K "Listener")) (c.fact 89)
  sub_Listener_Listener := subT_ok (t := fun K => .ref (ga K "Listener")) (c := fun K => .ref (ga K "Listener")) (c.fact 90)
  nf_Listener_str := id (c.fact 91)
  nf_Listener_NoneType := id (c.fact 92)
  nf_Listener_tuple := id (c.fact 93)
  kity_str := kitT_ok (t := fun _ => .type "str") (c := fun K => .ref (ga K "Leg")) (c.fact 94)
  kity_NoneType := kitT_ok (t := fun _ => .type "NoneType") (c := fun K => .ref (ga K "Leg")) (c.fact 95)
  kity_tuple := kitT_ok (t := fun _ => .type "tuple") (c := fun K => .ref (ga K "Leg")) (c.fact 96)
  exm := exmT_ok (t := fun K => .ref (ga K "InvalidFrame")) (c := fun K => .ref (ga K "InvalidFrame")) (c.fact 97)
  cv_Leg := cvT_ok (c.fact 98)
  cv_Driver := cvT_ok (c.fact 99)
  cv_Listener := cvT_ok (c.fact 100)
  d_is_name := c.def_ 0
  d_Leg_init := c.def_ 1
  d_Leg_drives := c.def_ 2
  d_Leg_eq := c.def_ 3
  d_Leg_str := c.def_ 4
  d_Leg_repr := c.def_ 5
  d_Lpen := c.def_ 6
  d_Ldraw := c.def_ 7
  d_Lpick := c.def_ 8
  d_Ltags := c.def_ 9
  d_Lmade := c.def_ 10
  d_Ltold_right := c.def_ 11
  d_law := c.def_ 12
  e_InvalidFrame_init := c.exc 0
/-! ### the data -/
inductive Kd where
  | drv | lis | leg
  deriving DecidableEq
def Kd.txt : Kd → Str
  | .drv => "driver"
  | .lis => "listener"
  | .leg => "leg"
def Kd.face : Kd → Str
  | .drv => "Driver"
  | .lis => "Listener"
  | .leg => "Leg"
def Kd.cls (K : PySem.W.Frag) : Kd → Addr
  | .drv => ga K "Driver"
  | .lis => ga K "Listener"
  | .leg => ga K "Leg"
def letters : List Nat := ("abcdefghijklmnopqrstuvwxyz" : Str).cps.toList
/-- is the text a name -/
def nameB (z : Str) : Bool := decide (1 ≤ z.length) && (decide (z.length ≤ 8) && ((z.cps.toList.all fun c => decide (c ∈ letters)) && !(inV (.str z) [.str "ground", .str "power", .str "nothing"])))
def nameV : V → Bool
  | .str z => nameB z
  | _ => false
def isStrV : V → Bool
  | .str _ => true
  | _ => false
/-- a value of which isinstance can tell whether it is a text; texts are short -/
def Val0 (K : PySem.W.Frag) (H : Hp) (x : V) : Prop := ∃ t, TyX K H x t ∧ PySem.W.kitOne K t (.type "str") = some (isStrV x) ∧ ∀ z, x = .str z → z.length ≤ 1000
def LegAt (K : PySem.W.Frag) (H : Hp) (a : Addr) (k : Kd) (t : Str) : Prop := ∃ dx, H a = some (.ins (k.cls K) dx [("name", .str t)])
def pool : List Str := ["a", "frame", "b", "rest", "self", "c", "zzzzzzzz", "word", "d", "e", "reads", "leg", "x", "grounds", "q", "cls"]
/-! ### promises -/
def sp_is_name (K : PySem.W.Frag) : Sp := fun vs H Q _ => ∃ x, vs = [x] ∧ Val0 K H x ∧ ∀ H2, Same H H2 → Q (.bl (nameV x)) H2
def sp_Leg_init (K : PySem.W.Frag) : Sp := fun vs H Q E => ∃ (a dx : Addr) (k : Kd) (x : V), vs = [.ref a, x] ∧ H a = some (.ins (k.cls K) dx []) ∧ Val0 K H x ∧
  (nameV x = true → ∀ H2, Same (L2.del H a) (L2.del H2 a) → H2 a = some (.ins (k.cls K) dx [("name", x)]) → Q .non H2) ∧
  (nameV x = false → ∀ d H2, H d = none → Same H H2 → H2 d = some (.xd [("reason", .str "name")]) → E (.ref (ga K "InvalidFrame")) (some d) H2)
def sp_Leg_drives (K : PySem.W.Frag) : Sp := fun vs H Q _ => ∃ a k t, vs = [.ref a] ∧ LegAt K H a k t ∧ Q (.bl (decide (k = .drv))) H
def sp_Leg_eq (K : PySem.W.Frag) : Sp := fun vs H Q _ => ∃ (a : Addr) (k : Kd) (t : Str) (y : V), vs = [.ref a, y] ∧ LegAt K H a k t ∧
  ((∃ b k2 t2, y = .ref b ∧ LegAt K H b k2 t2 ∧ Q (.bl (decide (k = k2) && decide (t = t2))) H) ∨ ∃ u, TyX K H y u ∧ PySem.W.kitOne K u (.ref (ga K "Leg")) = some false ∧ Q (.bl false) H)
def sp_Leg_str (K : PySem.W.Frag) : Sp := fun vs H Q _ => ∃ a k t, vs = [.ref a] ∧ LegAt K H a k t ∧ t.length ≤ 100 ∧ Q (.str (k.txt ++ " " ++ t)) H
def sp_Leg_repr (K : PySem.W.Frag) : Sp := fun vs H Q _ => ∃ a k t, vs = [.ref a] ∧ LegAt K H a k t ∧ t.length ≤ 100 ∧ Q (.str (k.face ++ "(" ++ t ++ ")")) H
def sp_Lpen (K : PySem.W.Frag) : Sp := spPen K
def sp_Ldraw (_ : PySem.W.Frag) : Sp := spDraw
def sp_Lpick (K : PySem.W.Frag) : Sp := spPick K
def sp_Ltags (_ : PySem.W.Frag) : Sp := spTags pool
def sp_Lmade (K : PySem.W.Frag) : Sp := fun vs H Q _ => ∃ (k : Kd) (x : V), vs = [.str k.txt, x] ∧ Val0 K H x ∧
  (∀ z, x = .str z → nameB z = true → ∀ a H2, H a = none → Same H H2 → LegAt K H2 a k z → Q (.ref a) H2) ∧
  (nameV x = false → ∀ a H2, H a = none → Same H H2 → H2 a = some (.tup [.str "name"]) → Q (.ref a) H2)
def sp_Ltold_right (K : PySem.W.Frag) : Sp := fun vs H Q _ => ∃ (a : Addr) (k : Kd) (t : Str), vs = [.str k.txt, .str t, .ref a] ∧ LegAt K H a k t ∧ t.length ≤ 100 ∧ ∀ H2, Same H H2 → Q (.bl true) H2
def sp_law (K : PySem.W.Frag) : Sp := fun vs H Q _ => ∃ (a : Addr) (ns : List Int), vs = [.ref a] ∧ SqL K H a (ns.map V.int) ∧ ns.length ≤ 63 ∧ ∀ H2, Q (.bl true) H2
abbrev gkb_Leg_init_1_name : List V → List V → List V := kwV [0, 1]
theorem kb_Leg_init_1_name {K : PySem.W.Frag} {fd : FuncData} (F : Fn_Leg_init K fd) : KBn K fd ["self", "name"] 1 ["name"] (kwW [0, 1]) (kwV [0, 1]) := kw_of F (fun _ _ _ _ _ _ us ws h1 h2 => match us, ws, h1, h2 with | [_], [_], _, _ => rfl) kw_rel
def t_is_name (K : PySem.W.Frag) : TS := (tSeq (tIfS (tOr (tNot (tB (tCB (rIsi K) (tCons (tVar 0) (tCons (tC (.ty "str")) tNil))))) (tNot (tTest (tChain rLeU rLeU (tC (.int 1)) (tCB (rLenU K) (tCons (tVar 0) tNil)) (tC (.int 8)))))) (tRet (tC (.bl false))) tNext) (tRet (tAndV (tCB (rAll K) (tCons (tLc (iStr (tVar 0)) (gName 1) tYes (tOp rInS (tVar 1) (tC (.str "abcdefghijklmnopqrstuvwxyz"))) [1]) tNil)) (tOp (rInU K true) (tVar 0) (tTup (tCons (tC (.str "ground")) (tCons (tC (.str "power")) (tCons (tC (.str "nothing")) tNil))))))))
def t_Leg_init (K : PySem.W.Frag) (E : XK) : TS := (tSeq (tIfS (tNot (tB (tFn (sp_is_name K) [] (WO E) (tCons (tVar 1) tNil)))) (tRz (ga K "InvalidFrame") ["reason"] (WO E) (tCons (tC (.str "name")) tNil)) tNext) (sFld K (tVar 0) (tVar 1) "name"))
def t_Leg_drives (K : PySem.W.Frag) : TS := (tRet (tOp (rEqU K) (tCon K (tVar 0) "KIND") (tC (.str "driver"))))
def t_Leg_eq (K : PySem.W.Frag) : TS := (tRet (tAndV (tCB (rIsi K) (tCons (tVar 1) (tCons (tC (.ref (ga K "Leg"))) tNil))) (tAndV (tOp (rEqU K) (tCon K (tVar 0) "KIND") (tCon K (tVar 1) "KIND")) (tOp (rEqU K) (tFld K (tVar 0) "name") (tFld K (tVar 1) "name")))))
def t_Leg_str (K : PySem.W.Frag) : TS := (tRet (tFS [(tFmt (tCon K (tVar 0) "KIND")), (tC (.str " ")), (tFmt (tFld K (tVar 0) "name"))]))
def t_Leg_repr (K : PySem.W.Frag) : TS := (tRet (tFS [(tFmt (tM0 rCap (tCon K (tVar 0) "KIND"))), (tC (.str "(")), (tFmt (tFld K (tVar 0) "name")), (tC (.str ")"))]))
def t_Lpen (K : PySem.W.Frag) : TS := (tRet (tLst (tCons (tCB (rListU K) (tCons (tSl (rSlU K) (tVar 0) tNoPart (tPart (tC (.int 63)))) tNil)) (tCons (tC (.int 0)) (tCons (tC (.int 0)) tNil)))))
def t_Ldraw (K : PySem.W.Frag) : TS := (tSeq (tIfS (tTest (tOp rGtU (tOp (rIx K) (tVar 0) (tC (.int 2))) (tC (.int 0)))) (tSeq (tAsg (tOp rMod (tCB rInt (tCons (tOp (rIx K) (tVar 0) (tC (.int 2))) tNil)) (tVar 1)) (gName 2)) (tSeq (tAsg (tOp rFdv (tCB rInt (tCons (tOp (rIx K) (tVar 0) (tC (.int 2))) tNil)) (tVar 1)) (gSub (tVar 0) (tC (.int 2)) rSetL)) (tRet (tVar 2)))) tNext) (tSeq (tAsg (tOp (rIx K) (tVar 0) (tC (.int 1))) (gName 3)) (tSeq (tAsg (tOp (rAdd K) (tVar 3) (tC (.int 1))) (gSub (tVar 0) (tC (.int 1)) rSetL)) (tSeq (tAsg (tOp (rAdd K) (tOp (rMul K) (tC (.int 51031)) (tVar 3)) (tC (.int 103))) (gName 4)) (tSeq (tIfS (tTest (tOp (rNeU K) (tOp (rIx K) (tVar 0) (tC (.int 0))) (tLst tNil))) (tAsg (tOp (rIx K) (tOp (rIx K) (tVar 0) (tC (.int 0))) (tOp rMod (tCB rInt (tCons (tVar 3) tNil)) (tCB (rLenU K) (tCons (tOp (rIx K) (tVar 0) (tC (.int 0))) tNil)))) (gName 4)) tNext) (tSeq (tIfS (tAnd (tTest (tOp rLtU (tVar 3) (tCB (rLenU K) (tCons (tOp (rIx K) (tVar 0) (tC (.int 0))) tNil)))) (tTest (tOp rGeU (tCB rAbs (tCons (tVar 4) tNil)) (tOp rPow (tC (.int 10)) (tC (.int 18)))))) (tSeq (tAsg (tOp (rAdd K) (tOp (rMul K) (tC (.int 2)) (tCB rAbs (tCons (tVar 4) tNil))) (tCB rInt (tCons (tOp rLtU (tVar 4) (tC (.int 0))) tNil))) (gName 5)) (tSeq (tAsg (tOp rFdv (tCB rInt (tCons (tVar 5) tNil)) (tVar 1)) (gSub (tVar 0) (tC (.int 2)) rSetL)) (tRet (tOp rMod (tCB rInt (tCons (tVar 5) tNil)) (tVar 1))))) tNext) (tSeq (tAsg (tOp rMod (tOp rPow (tCB rInt (tCons (tOp (rAdd K) (tOp (rAdd K) (tOp rMod (tCB rInt (tCons (tVar 4) tNil)) (tC (.int 2147483563))) (tOp (rMul K) (tC (.int 48049)) (tVar 3))) (tC (.int 11))) tNil)) (tC (.int 5))) (tC (.int 2147483579))) (gName 6)) (tSeq (tAsg (tOp rMod (tOp rPow (tCB rInt (tCons (tOp (rAdd K) (tOp (rAdd K) (tOp (rMul K) (tVar 6) (tOp (rAdd K) (tOp (rMul K) (tC (.int 2)) (tVar 3)) (tC (.int 9)))) (tOp (rMul K) (tOp (rMul K) (tC (.int 50051)) (tVar 3)) (tVar 3))) (tC (.int 13))) tNil)) (tC (.int 3))) (tC (.int 2147483629))) (gName 6)) (tRet (tOp rMod (tCB rInt (tCons (tOp rFdv (tVar 6) (tC (.int 16))) tNil)) (tVar 1)))))))))))
def t_Lpick (K : PySem.W.Frag) : TS := (tRet (tOp (rIx K) (tVar 1) (tFn (sp_Ldraw K) [] W0 (tCons (tVar 0) (tCons (tCB (rLenU K) (tCons (tVar 1) tNil)) tNil)))))
def t_Ltags (K : PySem.W.Frag) : TS := (tSeq (tAsg (tLst (tCons (tC (.str "a")) (tCons (tC (.str "frame")) (tCons (tC (.str "b")) (tCons (tC (.str "rest")) (tCons (tC (.str "self")) (tCons (tC (.str "c")) (tCons (tC (.str "zzzzzzzz")) (tCons (tC (.str "word")) (tCons (tC (.str "d")) tNil)))))))))) (gName 2)) (tSeq (tAsg (tOp (rAdd K) (tVar 2) (tLst (tCons (tC (.str "e")) (tCons (tC (.str "reads")) (tCons (tC (.str "leg")) (tCons (tC (.str "x")) (tCons (tC (.str "grounds")) (tCons (tC (.str "q")) (tCons (tC (.str "cls")) tNil))))))))) (gName 2)) (tRet (tLc (iRng1 (tCons (tVar 1) tNil)) (gName 3) tYes (tBM K "list" rPopAt (tVar 2) (tCons (tFn (sp_Ldraw K) [] W0 (tCons (tVar 0) (tCons (tCB (rLenU K) (tCons (tVar 2) tNil)) tNil))) tNil)) [3]))))
def t_Lmade (K : PySem.W.Frag) : TS := (tTryAs K (ga K "InvalidFrame") 2 (fun W => (tSeq (tIfS (tTest (tOp (rEqU K) (tVar 0) (tC (.str "driver")))) (tRet (tNwK (ga K "Driver") 0 1 (sp_Leg_init K) gkb_Leg_init_1_name W tNil (tCons (tVar 1) tNil))) tNext) (tRet (tIf (tTest (tOp (rEqU K) (tVar 0) (tC (.str "listener")))) (tNwK (ga K "Listener") 0 1 (sp_Leg_init K) gkb_Leg_init_1_name W tNil (tCons (tVar 1) tNil)) (tNwK (ga K "Leg") 0 1 (sp_Leg_init K) gkb_Leg_init_1_name W tNil (tCons (tVar 1) tNil)))))) (fun a cls d => (tRet (tTup (tCons (tXf a cls d (ga K "InvalidFrame") "reason" (tVar 2)) tNil)))) W0)
def t_Ltold_right (K : PySem.W.Frag) : TS := (tSeq (tIfS (tOr (tTest (tOp (rNeU K) (tFld K (tVar 2) "name") (tVar 1))) (tOr (tTest (tOp (rNeU K) (tCon K (tVar 2) "KIND") (tVar 0))) (tTest (tOp (rNeU K) (tCB (rRepr K) (tCons (tPr K "drives" (a_Leg_drives K) (sp_Leg_drives K) (tVar 2)) tNil)) (tCB (rRepr K) (tCons (tOp (rEqU K) (tVar 0) (tC (.str "driver"))) tNil)))))) (tRet (tC (.bl false))) tNext) (tSeq (tAsg (tDGet (tDisp [((tC (.str "driver")), (tC (.str "Driver"))), ((tC (.str "listener")), (tC (.str "Listener"))), ((tC (.str "leg")), (tC (.str "Leg")))]) (tVar 0)) (gName 3)) (tSeq (tIfS (tOr (tTest (tOp (rNeU K) (tCB (rOwn1 K "__str__" (a_Leg_str K) (sp_Leg_str K)) (tCons (tVar 2) tNil)) (tOp (rAdd K) (tOp (rAdd K) (tVar 0) (tC (.str " "))) (tVar 1)))) (tTest (tOp (rNeU K) (tCB (rOwn1 K "__repr__" (a_Leg_repr K) (sp_Leg_repr K)) (tCons (tVar 2) tNil)) (tOp (rAdd K) (tOp (rAdd K) (tOp (rAdd K) (tVar 3) (tC (.str "("))) (tVar 1)) (tC (.str ")")))))) (tRet (tC (.bl false))) tNext) (tSeq (tAsg (tLst (tCons (tCB (rIsi K) (tCons (tVar 2) (tCons (tC (.ref (ga K "Leg"))) tNil))) (tCons (tCB (rIsi K) (tCons (tVar 2) (tCons (tC (.ref (ga K "Driver"))) tNil))) (tCons (tCB (rIsi K) (tCons (tVar 2) (tCons (tC (.ref (ga K "Listener"))) tNil))) tNil)))) (gName 4)) (tRet (tOp (rEqU K) (tVar 4) (tLst (tCons (tC (.bl true)) (tCons (tOp (rEqU K) (tVar 0) (tC (.str "driver"))) (tCons (tOp (rEqU K) (tVar 0) (tC (.str "listener"))) tNil))))))))))
def t_law (K : PySem.W.Frag) : TS := (tSeq (tAsg (tFn (sp_Lpen K) [] W0 (tCons (tVar 0) tNil)) (gName 1)) (tSeq (tPar 2 3 (tCons (tLst (tCons (tC (.str "driver")) (tCons (tC (.str "listener")) (tCons (tC (.str "leg")) tNil)))) (tCons (tLst tNil) tNil))) (tSeq (tFor (iRng1 (tCons (tC (.int 6)) tNil)) (gName 4) (tSeq (tPar 5 6 (tCons (tFn (sp_Lpick K) [] W0 (tCons (tVar 1) (tCons (tVar 2) tNil))) (tCons (tOp (rIx K) (tFn (sp_Ltags K) [] W0 (tCons (tVar 1) (tCons (tC (.int 1)) tNil))) (tC (.int 0))) tNil))) (tSeq (tAsg (tFn (sp_Lmade K) [] W0 (tCons (tVar 5) (tCons (tVar 6) tNil))) (gName 7)) (tSeq (tIfS (tOr (tNot (tB (tCB (rIsi K) (tCons (tVar 7) (tCons (tC (.ref (ga K "Leg"))) tNil))))) (tNot (tB (tFn (sp_Ltold_right K) [] W0 (tCons (tVar 5) (tCons (tVar 6) (tCons (tVar 7) tNil))))))) (tRet (tC (.bl false))) tNext) (tSeq (tDrop (tBM K "list" rAppend (tVar 3) (tCons (tTup (tCons (tVar 5) (tCons (tVar 6) (tCons (tVar 7) tNil)))) tNil))) (tSeq (tAsg (tLst (tCons (tC (.str "")) (tCons (tC (.str "A")) (tCons (tC (.str "a1")) (tCons (tC (.str "abcdefghi")) (tCons (tC (.str "ground")) (tCons (tC (.str "power")) (tCons (tC (.str "nothing")) (tCons (tC .non) (tCons (tC (.int 1)) (tCons (tC (.bl true)) tNil))))))))))) (gName 8)) (tSeq (tAsg (tFn (sp_Lpick K) [] W0 (tCons (tVar 1) (tCons (tOp (rAdd K) (tVar 8) (tLst (tCons (tTup (tCons (tC (.str "a")) tNil)) (tCons (tLst tNil) (tCons tDNewK tNil))))) tNil))) (gName 9)) (tIfS (tTest (tOp (rNeU K) (tLc (iList K (tVar 2)) (gName 10) tYes (tFn (sp_Lmade K) [] W0 (tCons (tVar 10) (tCons (tVar 9) tNil))) [10]) (tOp (rMul K) (tLst (tCons (tTup (tCons (tC (.str "name")) tNil)) tNil)) (tC (.int 3))))) (tRet (tC (.bl false))) tNext)))))))) (tSeq (tFor (iList K (tVar 3)) (gTup K 3 (gCons (gName 5) (gCons (gName 6) (gCons (gName 7) gNil)))) (tSeq (tFor (iList K (tVar 3)) (gTup K 3 (gCons (gName 11) (gCons (gName 12) (gCons (gName 13) gNil)))) (tSeq (tAsg (tAndV (tOp (rEqU K) (tVar 5) (tVar 11)) (tOp (rEqU K) (tVar 6) (tVar 12))) (gName 14)) (tIfS (tTest (tOp (rNeU K) (tCB (rRepr K) (tCons (tLst (tCons (tOp (rOwnEq K (a_Leg_eq K) (sp_Leg_eq K)) (tVar 7) (tVar 13)) (tCons (tOp (rOwnNe K (a_Leg_eq K) (sp_Leg_eq K)) (tVar 7) (tVar 13)) tNil))) tNil)) (tCB (rRepr K) (tCons (tLst (tCons (tVar 14) (tCons (tNotV (tVar 14)) tNil))) tNil)))) (tRet (tC (.bl false))) tNext))) (tIfS (tTest (tOp (rNeU K) (tLc (iTup K (tTup (tCons (tVar 6) (tCons (tVar 5) (tCons (tC .non) (tCons (tCB (rOwn1 K "__str__" (a_Leg_str K) (sp_Leg_str K)) (tCons (tVar 7) tNil)) (tCons (tTup (tCons (tVar 7) tNil)) tNil))))))) (gName 10) (tTest (tOp (rOwnEq K (a_Leg_eq K) (sp_Leg_eq K)) (tVar 7) (tVar 10))) (tVar 10) [10]) (tLst tNil))) (tRet (tC (.bl false))) tNext))) (tSeq (tIfS (tOr (tTest (tOp (rOwnNe K (a_Leg_eq K) (sp_Leg_eq K)) (tNw (ga K "Driver") (sp_Leg_init K) [] W0 (tCons (tC (.str "a")) tNil)) (tNwK (ga K "Driver") 0 1 (sp_Leg_init K) gkb_Leg_init_1_name W0 tNil (tCons (tC (.str "a")) tNil)))) (tTest (tOp (rOwnNe K (a_Leg_eq K) (sp_Leg_eq K)) (tNw (ga K "Listener") (sp_Leg_init K) [] W0 (tCons (tC (.str "b")) tNil)) (tNwK (ga K "Listener") 0 1 (sp_Leg_init K) gkb_Leg_init_1_name W0 tNil (tCons (tC (.str "b")) tNil))))) (tRet (tC (.bl false))) tNext) (tRet (tOp (rEqU K) (tLst (tCons (ClX.tCVal K (tC (.ref (ga K "Leg"))) "KIND") (tCons (ClX.tCVal K (tC (.ref (ga K "Driver"))) "KIND") (tCons (ClX.tCVal K (tC (.ref (ga K "Listener"))) "KIND") tNil)))) (tLst (tCons (tC (.str "leg")) (tCons (tC (.str "driver")) (tCons (tC (.str "listener")) tNil)))))))))))
end K02

namespace K02
open PySem PySem.Spec PyProof.Rows L2 He SJ
local macro_rules | `(tactic| walk_at "go") => `(tactic| (repeat (first
  | with_reducible apply x_seq | with_reducible apply x_asg | with_reducible apply x_ret | with_reducible apply x_if | with_reducible apply x_test | with_reducible apply x_B | with_reducible apply x_op | (with_reducible apply x_var rfl) | with_reducible apply x_c
  | with_reducible apply x_cb | with_reducible apply x_cons | with_reducible apply x_nil | with_reducible apply x_bl2 | with_reducible apply x_st2 | with_reducible apply ite_t | with_reducible apply ite_f | with_reducible apply ite_n | with_reducible apply x_and | with_reducible apply x_or | with_reducible apply x_not | with_reducible apply x_andV | with_reducible apply x_orV | with_reducible apply x_notV
  | with_reducible apply x_addI | with_reducible apply x_sub' | with_reducible apply x_eqI | with_reducible apply x_neI | with_reducible apply x_eqT | with_reducible apply x_neT | with_reducible apply x_ltI | with_reducible apply x_leI | with_reducible apply x_gtI | with_reducible apply x_geI
  | with_reducible apply x_intI | with_reducible apply x_intBl | with_reducible apply x_absI | with_reducible apply x_asgG | with_reducible apply x_sub | with_reducible apply x_lst | with_reducible apply x_tup | with_reducible apply x_next | with_reducible apply x_drop
  | with_reducible apply x_ife | with_reducible apply x_chain | with_reducible apply x_inSg | with_reducible apply x_yes | with_reducible apply x_sl | with_reducible apply x_noPart | with_reducible apply x_part | with_reducible apply x_in2 | with_reducible apply x_fs | with_reducible apply x_js | with_reducible apply x_js0 | with_reducible apply x_fmtE | with_reducible apply x_m0 | with_reducible apply x_fld0 | with_reducible apply x_con0 | with_reducible apply x_pr0 | with_reducible apply x_sfld
  | (with_reducible refine x_new ?_ ?_; · exact Nat.le_of_ble_eq_true rfl)
  | with_reducible apply x_fn | with_reducible apply x_nw | with_reducible apply x_bm | with_reducible apply x_par | with_reducible apply x_rz | with_reducible apply x_retN | with_reducible apply x_un | with_reducible apply x_U)))
local macro_rules | `(tactic| walk_at "gp") => `(tactic| (repeat (first
  | with_reducible apply x_seq | with_reducible apply x_asg | with_reducible apply x_ret | with_reducible apply x_if | with_reducible apply x_test | with_reducible apply x_B | with_reducible apply x_op | (with_reducible apply x_var rfl) | with_reducible apply x_c
  | with_reducible apply x_cb | with_reducible apply x_cons | with_reducible apply x_nil | with_reducible apply x_bl2 | with_reducible apply x_st2 | with_reducible apply ite_t | with_reducible apply ite_f | with_reducible apply ite_n | with_reducible apply x_and | with_reducible apply x_or | with_reducible apply x_not | with_reducible apply x_andV | with_reducible apply x_orV | with_reducible apply x_notV
  | with_reducible apply x_addI | with_reducible apply x_sub' | with_reducible apply x_eqI | with_reducible apply x_neI | with_reducible apply x_eqT | with_reducible apply x_neT | with_reducible apply x_ltI | with_reducible apply x_leI | with_reducible apply x_gtI | with_reducible apply x_geI
  | with_reducible apply x_intI | with_reducible apply x_intBl | with_reducible apply x_absI | with_reducible apply x_asgG | with_reducible apply x_sub | with_reducible apply x_lstG | with_reducible apply x_tupG | with_reducible apply x_next | with_reducible apply x_drop
  | with_reducible apply x_ife | with_reducible apply x_chain | with_reducible apply x_inSg | with_reducible apply x_yes | with_reducible apply x_sl | with_reducible apply x_noPart | with_reducible apply x_part | with_reducible apply x_in2 | with_reducible apply x_fs | with_reducible apply x_js | with_reducible apply x_js0 | with_reducible apply x_fmtE | with_reducible apply x_m0 | with_reducible apply x_fld0 | with_reducible apply x_con0 | with_reducible apply x_pr0 | with_reducible apply x_sfld
  | with_reducible apply x_fn | with_reducible apply x_bm | with_reducible apply x_par | with_reducible apply x_rz | with_reducible apply x_retN | with_reducible apply x_un | with_reducible apply x_U)))
section
variable {K : PySem.W.Frag} {mg : Str → Option Value} {vs : List V} {H : Hp} {Q : VK} {E : XK}
theorem len_is_name (h : sp_is_name K vs H Q E) : vs.length = 1 := by obtain ⟨x, rfl, _⟩ := h; rfl
theorem pure_is_name (T : Tx K mg) (h : sp_is_name K vs H Q E) : t_is_name K { nx := fun _ H2 => Q .non H2, rt := Q } (start ["value", "letter"] vs) H := by
  obtain ⟨x, rfl, ⟨t, ht, hk, hz⟩, k⟩ := h
  unfold t_is_name
  walk_at "go"
  refine x_isi (.ty "str") ht hk ?_
  walk_at "go"
  by_cases hs : isStrV x = true
  · obtain ⟨z, rfl⟩ : ∃ z, x = .str z := by cases x <;> first | exact ⟨_, rfl⟩ | cases hs
    have hz0 := hz z rfl
    refine ite_t ?_
    walk_at "go"
    refine x_lenS (by omega) ?_
    walk_at "go"
    by_cases h1 : (1 : Int) ≤ (z.length : Int)
    · rw [decide_eq_true h1]
      walk_at "go"
      by_cases h2 : (z.length : Int) ≤ 8
      · rw [decide_eq_true h2]
        walk_at "go"
        refine x_lcS (z := z) (F := fun c => .bl (decide (c ∈ letters))) (fun _ q => ⟨_, rfl, q⟩) (by omega) (fun x => rfl) (fun c H2 Q2 q => ?_) (fun l hl => ?_)
        · walk_at "go"; exact q
        · walk_at "go"
          refine x_all (bs := z.cps.toList.map fun c => decide (c ∈ letters)) (by rw [List.map_map]; exact SqL.of upd_same) ?_
          have eall : ((z.cps.toList.map fun c => decide (c ∈ letters)).all id) = z.cps.toList.all fun c => decide (c ∈ letters) := by rw [List.all_map]; rfl
          rw [eall]
          have nm : ∀ {b : Bool}, (z.cps.toList.all fun c => decide (c ∈ letters)) = b → nameB z = (b && !(inV (.str z) [.str "ground", .str "power", .str "nothing"])) := fun {b} e => by
            unfold nameB
            rw [e, decide_eq_true (by omega : 1 ≤ z.length), decide_eq_true (by omega : z.length ≤ 8), Bool.true_and, Bool.true_and]
          cases e : z.cps.toList.all fun c => decide (c ∈ letters) with
          | false =>
            walk_at "go"
            have := k _ (Same.upd (o := .lst (z.cps.toList.map fun c => V.bl (decide (c ∈ letters)))) (Same.refl H) hl)
            rw [show nameV (.str z) = nameB z from rfl, nm e] at this
            exact this
          | true =>
            walk_at "go"
            intro p hp
            refine x_ninT (SqT.of upd_same) rfl rfl ?_
            have := k _ (Same.upd (o := .tup [.str "ground", .str "power", .str "nothing"]) (Same.upd (o := .lst (z.cps.toList.map fun c => V.bl (decide (c ∈ letters)))) (Same.refl H) hl) hp)
            rw [show nameV (.str z) = nameB z from rfl, nm e] at this
            exact this
      · rw [decide_eq_false h2]
        walk_at "go"
        have e : nameV (.str z) = false := by
          show nameB z = false
          unfold nameB
          rw [decide_eq_false (by omega : ¬ z.length ≤ 8), Bool.false_and, Bool.and_false]
        have := k _ (Same.refl H)
        rw [e] at this
        exact this
    · rw [decide_eq_false h1]
      walk_at "go"
      have e : nameV (.str z) = false := by
        show nameB z = false
        unfold nameB
        rw [decide_eq_false (by omega : ¬ 1 ≤ z.length), Bool.false_and]
      have := k _ (Same.refl H)
      rw [e] at this
      exact this
  · have hs2 : isStrV x = false := by cases q : isStrV x with | true => exact absurd q hs | false => rfl
    rw [hs2]
    walk_at "go"
    have e : nameV x = false := by cases x <;> first | rfl | (cases hs2)
    have := k _ (Same.refl H)
    rw [e] at this
    exact this
end

end K02

namespace K02
open PySem PySem.Spec PyProof.Rows L2 He SJ
local macro_rules | `(tactic| walk_at "go") => `(tactic| (repeat (first
  | with_reducible apply x_seq | with_reducible apply x_asg | with_reducible apply x_ret | with_reducible apply x_if | with_reducible apply x_test | with_reducible apply x_B | with_reducible apply x_op | (with_reducible apply x_var rfl) | with_reducible apply x_c
  | with_reducible apply x_cb | with_reducible apply x_cons | with_reducible apply x_nil | with_reducible apply x_bl2 | with_reducible apply x_st2 | with_reducible apply ite_t | with_reducible apply ite_f | with_reducible apply ite_n | with_reducible apply x_and | with_reducible apply x_or | with_reducible apply x_not | with_reducible apply x_andV | with_reducible apply x_orV | with_reducible apply x_notV
  | with_reducible apply x_addI | with_reducible apply x_sub' | with_reducible apply x_eqI | with_reducible apply x_neI | with_reducible apply x_eqT | with_reducible apply x_neT | with_reducible apply x_ltI | with_reducible apply x_leI | with_reducible apply x_gtI | with_reducible apply x_geI
  | with_reducible apply x_intI | with_reducible apply x_intBl | with_reducible apply x_absI | with_reducible apply x_asgG | with_reducible apply x_sub | with_reducible apply x_lst | with_reducible apply x_tup | with_reducible apply x_next | with_reducible apply x_drop
  | with_reducible apply x_ife | with_reducible apply x_chain | with_reducible apply x_inSg | with_reducible apply x_yes | with_reducible apply x_sl | with_reducible apply x_noPart | with_reducible apply x_part | with_reducible apply x_in2 | with_reducible apply x_fs | with_reducible apply x_js | with_reducible apply x_js0 | with_reducible apply x_fmtE | with_reducible apply x_m0 | with_reducible apply x_fld0 | with_reducible apply x_con0 | with_reducible apply x_pr0 | with_reducible apply x_sfld
  | (with_reducible refine x_new ?_ ?_; · exact Nat.le_of_ble_eq_true rfl)
  | with_reducible apply x_fn | with_reducible apply x_nw | with_reducible apply x_bm | with_reducible apply x_par | with_reducible apply x_rz | with_reducible apply x_retN | with_reducible apply x_un | with_reducible apply x_U)))
local macro_rules | `(tactic| walk_at "gp") => `(tactic| (repeat (first
  | with_reducible apply x_seq | with_reducible apply x_asg | with_reducible apply x_ret | with_reducible apply x_if | with_reducible apply x_test | with_reducible apply x_B | with_reducible apply x_op | (with_reducible apply x_var rfl) | with_reducible apply x_c
  | with_reducible apply x_cb | with_reducible apply x_cons | with_reducible apply x_nil | with_reducible apply x_bl2 | with_reducible apply x_st2 | with_reducible apply ite_t | with_reducible apply ite_f | with_reducible apply ite_n | with_reducible apply x_and | with_reducible apply x_or | with_reducible apply x_not | with_reducible apply x_andV | with_reducible apply x_orV | with_reducible apply x_notV
  | with_reducible apply x_addI | with_reducible apply x_sub' | with_reducible apply x_eqI | with_reducible apply x_neI | with_reducible apply x_eqT | with_reducible apply x_neT | with_reducible apply x_ltI | with_reducible apply x_leI | with_reducible apply x_gtI | with_reducible apply x_geI
  | with_reducible apply x_intI | with_reducible apply x_intBl | with_reducible apply x_absI | with_reducible apply x_asgG | with_reducible apply x_sub | with_reducible apply x_lstG | with_reducible apply x_tupG | with_reducible apply x_next | with_reducible apply x_drop
  | with_reducible apply x_ife | with_reducible apply x_chain | with_reducible apply x_inSg | with_reducible apply x_yes | with_reducible apply x_sl | with_reducible apply x_noPart | with_reducible apply x_part | with_reducible apply x_in2 | with_reducible apply x_fs | with_reducible apply x_js | with_reducible apply x_js0 | with_reducible apply x_fmtE | with_reducible apply x_m0 | with_reducible apply x_fld0 | with_reducible apply x_con0 | with_reducible apply x_pr0 | with_reducible apply x_sfld
  | with_reducible apply x_fn | with_reducible apply x_bm | with_reducible apply x_par | with_reducible apply x_rz | with_reducible apply x_retN | with_reducible apply x_un | with_reducible apply x_U)))
section
variable {K : PySem.W.Frag} {mg : Str → Option Value} {vs : List V} {H : Hp} {Q : VK} {E : XK}
theorem Tx.inn (T : Tx K mg) (k : Kd) : InT K (k.cls K) := match k with | .drv => T.in_Driver | .lis => T.in_Listener | .leg => T.in_Leg
theorem Tx.cl (T : Tx K mg) (k : Kd) : Cls K (k.cls K) := (T.inn k).cl
theorem Tx.nm (T : Tx K mg) (k : Kd) : NoAttr K (k.cls K) "name" := match k with | .drv => T.n_Driver | .lis => T.n_Listener | .leg => T.n_Leg
theorem Tx.kd (T : Tx K mg) (k : Kd) : ∃ t, Con K (k.cls K) "KIND" (.str k.txt) (.str k.txt t) := match k with | .drv => T.k_Driver | .lis => T.k_Listener | .leg => T.k_Leg
theorem Tx.eq (T : Tx K mg) (k : Kd) : PySem.W.findIn K (.ref (k.cls K)) "__eq__" = some (some (.ref (a_Leg_eq K))) := match k with | .drv => T.eq_Driver | .lis => T.eq_Listener | .leg => T.eq_Leg
theorem Tx.ne (T : Tx K mg) (k : Kd) : PySem.W.findIn K (.ref (k.cls K)) "__ne__" = some (some (.builtin "object.__ne__")) := match k with | .drv => T.ne_Driver | .lis => T.ne_Listener | .leg => T.ne_Leg
theorem Tx.strF (T : Tx K mg) (k : Kd) : PySem.W.findIn K (.ref (k.cls K)) "__str__" = some (some (.ref (a_Leg_str K))) := match k with | .drv => T.str_Driver | .lis => T.str_Listener | .leg => T.str_Leg
theorem Tx.reprF (T : Tx K mg) (k : Kd) : PySem.W.findIn K (.ref (k.cls K)) "__repr__" = some (some (.ref (a_Leg_repr K))) := match k with | .drv => T.repr_Driver | .lis => T.repr_Listener | .leg => T.repr_Leg
theorem Tx.pr (T : Tx K mg) (k : Kd) : PropOf K (k.cls K) "drives" (ma K (k.cls K) "drives") (a_Leg_drives K) := match k with | .drv => T.pr_Driver | .lis => T.pr_Listener | .leg => T.pr_Leg
theorem Tx.kleg (T : Tx K mg) (k : Kd) : PySem.W.kitOne K (.ref (k.cls K)) (.ref (ga K "Leg")) = some true := match k with | .drv => T.kit_Driver_Leg | .lis => T.kit_Listener_Leg | .leg => T.kit_Leg_Leg
theorem Tx.kdrv (T : Tx K mg) (k : Kd) : PySem.W.kitOne K (.ref (k.cls K)) (.ref (ga K "Driver")) = some (decide (k = .drv)) := match k with | .drv => T.kit_Driver_Driver | .lis => T.kit_Listener_Driver | .leg => T.kit_Leg_Driver
theorem Tx.klis (T : Tx K mg) (k : Kd) : PySem.W.kitOne K (.ref (k.cls K)) (.ref (ga K "Listener")) = some (decide (k = .lis)) := match k with | .drv => T.kit_Driver_Listener | .lis => T.kit_Listener_Listener | .leg => T.kit_Leg_Listener
theorem len_Leg_init (h : sp_Leg_init K vs H Q E) : vs.length = 2 := by obtain ⟨a, dx, k, x, rfl, _⟩ := h; rfl
theorem pure_Leg_init (T : Tx K mg) (h : sp_Leg_init K vs H Q E) : t_Leg_init K E { nx := fun _ H2 => Q .non H2, rt := Q } (start ["self", "name"] vs) H := by
  obtain ⟨a, dx, k, x, rfl, ha, hv, k1, k2⟩ := h
  unfold t_Leg_init
  walk_at "go"
  refine ⟨x, rfl, hv, fun H2 s => ?_⟩
  walk_at "go"
  cases e : nameV x with
  | true =>
    walk_at "go"
    refine ⟨a, k.cls K, dx, [], rfl, s _ _ ha, T.cl k, T.nm k, by show 0 < 1000; decide, ?_⟩
    refine k1 e _ ?_ upd_same
    rw [del_upd]
    exact Same.del s
  | false =>
    walk_at "go"
    refine ⟨rfl, fun d hd => ?_⟩
    exact k2 e d _ (Same.free s hd) (Same.upd s hd) upd_same
theorem len_Leg_drives (h : sp_Leg_drives K vs H Q E) : vs.length = 1 := by obtain ⟨a, k, t, rfl, _⟩ := h; rfl
theorem pure_Leg_drives (T : Tx K mg) (h : sp_Leg_drives K vs H Q E) : t_Leg_drives K { nx := fun _ H2 => Q .non H2, rt := Q } (start ["self"] vs) H := by
  obtain ⟨a, k, t, rfl, ⟨dx, ha⟩, q⟩ := h
  unfold t_Leg_drives
  walk_at "go"
  obtain ⟨u, hu⟩ := T.kd k
  refine ⟨a, _, dx, _, _, _, rfl, ha, T.cl k, hu, rfl, ?_⟩
  walk_at "go"
  have e : decide (k.txt = "driver") = decide (k = .drv) := by cases k <;> rfl
  rw [e]
  exact q
theorem len_Leg_eq (h : sp_Leg_eq K vs H Q E) : vs.length = 2 := by obtain ⟨a, k, t, y, rfl, _⟩ := h; rfl
theorem txt_inj (k k2 : Kd) : decide (k.txt = k2.txt) = decide (k = k2) := by cases k <;> cases k2 <;> rfl
theorem pure_Leg_eq (T : Tx K mg) (h : sp_Leg_eq K vs H Q E) : t_Leg_eq K { nx := fun _ H2 => Q .non H2, rt := Q } (start ["self", "other"] vs) H := by
  obtain ⟨a, k, t, y, rfl, ⟨dx, ha⟩, h⟩ := h
  unfold t_Leg_eq
  walk_at "go"
  rcases h with ⟨b, k2, t2, rfl, ⟨d2, hb⟩, q⟩ | ⟨u, hu, hk, q⟩
  · refine x_isi (.own _) ((T.inn k2).ty hb) (T.kleg k2) ?_
    walk_at "go"
    obtain ⟨u, hu⟩ := T.kd k
    refine ⟨a, _, dx, _, _, _, rfl, ha, T.cl k, hu, rfl, ?_⟩
    walk_at "go"
    obtain ⟨u, hu⟩ := T.kd k2
    refine ⟨b, _, d2, _, _, _, rfl, hb, T.cl k2, hu, rfl, ?_⟩
    walk_at "go"
    rw [txt_inj]
    cases e : decide (k = k2) with
    | false =>
      walk_at "go"
      rw [e] at q
      exact q
    | true =>
      walk_at "go"
      refine ⟨a, _, dx, _, _, rfl, ha, T.cl k, T.nm k, rfl, ?_⟩
      walk_at "go"
      refine ⟨b, _, d2, _, _, rfl, hb, T.cl k2, T.nm k2, rfl, ?_⟩
      walk_at "go"
      rw [e] at q
      exact q
  · refine x_isi (.own _) hu hk ?_
    walk_at "go"
    exact q
theorem len_Leg_str (h : sp_Leg_str K vs H Q E) : vs.length = 1 := by obtain ⟨a, k, t, rfl, _⟩ := h; rfl
theorem txt_len (k : Kd) : k.txt.length ≤ 8 := by cases k <;> exact Nat.le_of_ble_eq_true rfl
theorem join3 {a b c : Str} : Str.empty ++ a ++ b ++ c = a ++ b ++ c := by rw [PySem.Str.empty_append]
theorem pure_Leg_str (T : Tx K mg) (h : sp_Leg_str K vs H Q E) : t_Leg_str K { nx := fun _ H2 => Q .non H2, rt := Q } (start ["self"] vs) H := by
  obtain ⟨a, k, t, rfl, ⟨dx, ha⟩, ht, q⟩ := h
  unfold t_Leg_str
  walk_at "go"
  obtain ⟨u, hu⟩ := T.kd k
  refine ⟨a, _, dx, _, _, _, rfl, ha, T.cl k, hu, rfl, ?_⟩
  have := txt_len k
  refine x_fmtS (by omega) ?_
  walk_at "go"
  refine x_ap (by rw [show Str.empty.length = 0 from rfl]; omega) ?_
  rw [PySem.Str.empty_append]
  walk_at "go"
  refine x_ap (by rw [show (Str.ofString " ").length = 1 from rfl]; omega) ?_
  walk_at "go"
  refine ⟨a, _, dx, _, _, rfl, ha, T.cl k, T.nm k, rfl, ?_⟩
  refine x_fmtS (by omega) ?_
  walk_at "go"
  refine x_ap (by rw [PySem.Str.length_append, show (Str.ofString " ").length = 1 from rfl]; omega) ?_
  walk_at "go"
  exact q
theorem len_Leg_repr (h : sp_Leg_repr K vs H Q E) : vs.length = 1 := by obtain ⟨a, k, t, rfl, _⟩ := h; rfl
theorem face_len (k : Kd) : k.face.length ≤ 8 := by cases k <;> exact Nat.le_of_ble_eq_true rfl
theorem cap_txt (k : Kd) : PySem.Builtin.Str.tooLong (Txt.capitalized k.txt).length = false ∧ Txt.capitalize k.txt = k.face := by cases k <;> exact ⟨by rfl, by rfl⟩
theorem pure_Leg_repr (T : Tx K mg) (h : sp_Leg_repr K vs H Q E) : t_Leg_repr K { nx := fun _ H2 => Q .non H2, rt := Q } (start ["self"] vs) H := by
  obtain ⟨a, k, t, rfl, ⟨dx, ha⟩, ht, q⟩ := h
  unfold t_Leg_repr
  walk_at "go"
  obtain ⟨u, hu⟩ := T.kd k
  refine ⟨a, _, dx, _, _, _, rfl, ha, T.cl k, hu, rfl, ?_⟩
  refine ⟨⟨_, rfl⟩, _, rfl, rfl, (cap_txt k).1, ?_⟩
  rw [(cap_txt k).2]
  have := face_len k
  refine x_fmtS (by omega) ?_
  walk_at "go"
  refine x_ap (by rw [show Str.empty.length = 0 from rfl]; omega) ?_
  rw [PySem.Str.empty_append]
  walk_at "go"
  refine x_ap (by rw [show (Str.ofString "(").length = 1 from rfl]; omega) ?_
  walk_at "go"
  refine ⟨a, _, dx, _, _, rfl, ha, T.cl k, T.nm k, rfl, ?_⟩
  refine x_fmtS (by omega) ?_
  walk_at "go"
  refine x_ap (by rw [PySem.Str.length_append, show (Str.ofString "(").length = 1 from rfl]; omega) ?_
  walk_at "go"
  refine x_ap (by rw [PySem.Str.length_append, PySem.Str.length_append, show (Str.ofString "(").length = 1 from rfl, show (Str.ofString ")").length = 1 from rfl]; omega) ?_
  walk_at "go"
  exact q
end

end K02

namespace K02
open PySem PySem.Spec PyProof.Rows L2 He SJ
local macro_rules | `(tactic| walk_at "go") => `(tactic| (repeat (first
  | with_reducible apply x_seq | with_reducible apply x_asg | with_reducible apply x_ret | with_reducible apply x_if | with_reducible apply x_test | with_reducible apply x_B | with_reducible apply x_op | (with_reducible apply x_var rfl) | with_reducible apply x_c
  | with_reducible apply x_cb | with_reducible apply x_cons | with_reducible apply x_nil | with_reducible apply x_bl2 | with_reducible apply x_st2 | with_reducible apply ite_t | with_reducible apply ite_f | with_reducible apply ite_n | with_reducible apply x_and | with_reducible apply x_or | with_reducible apply x_not | with_reducible apply x_andV | with_reducible apply x_orV | with_reducible apply x_notV
  | with_reducible apply x_addI | with_reducible apply x_sub' | with_reducible apply x_eqI | with_reducible apply x_neI | with_reducible apply x_eqT | with_reducible apply x_neT | with_reducible apply x_ltI | with_reducible apply x_leI | with_reducible apply x_gtI | with_reducible apply x_geI
  | with_reducible apply x_intI | with_reducible apply x_intBl | with_reducible apply x_absI | with_reducible apply x_asgG | with_reducible apply x_sub | with_reducible apply x_lst | with_reducible apply x_tup | with_reducible apply x_next | with_reducible apply x_drop
  | with_reducible apply x_ife | with_reducible apply x_chain | with_reducible apply x_inSg | with_reducible apply x_yes | with_reducible apply x_sl | with_reducible apply x_noPart | with_reducible apply x_part | with_reducible apply x_in2 | with_reducible apply x_fs | with_reducible apply x_js | with_reducible apply x_js0 | with_reducible apply x_fmtE | with_reducible apply x_m0 | with_reducible apply x_fld0 | with_reducible apply x_con0 | with_reducible apply x_pr0 | with_reducible apply x_sfld
  | (with_reducible refine x_new ?_ ?_; · exact Nat.le_of_ble_eq_true rfl)
  | with_reducible apply x_fn | with_reducible apply x_nw | with_reducible apply x_bm | with_reducible apply x_par | with_reducible apply x_rz | with_reducible apply x_retN | with_reducible apply x_un | with_reducible apply x_U)))
local macro_rules | `(tactic| walk_at "gp") => `(tactic| (repeat (first
  | with_reducible apply x_seq | with_reducible apply x_asg | with_reducible apply x_ret | with_reducible apply x_if | with_reducible apply x_test | with_reducible apply x_B | with_reducible apply x_op | (with_reducible apply x_var rfl) | with_reducible apply x_c
  | with_reducible apply x_cb | with_reducible apply x_cons | with_reducible apply x_nil | with_reducible apply x_bl2 | with_reducible apply x_st2 | with_reducible apply ite_t | with_reducible apply ite_f | with_reducible apply ite_n | with_reducible apply x_and | with_reducible apply x_or | with_reducible apply x_not | with_reducible apply x_andV | with_reducible apply x_orV | with_reducible apply x_notV
  | with_reducible apply x_addI | with_reducible apply x_sub' | with_reducible apply x_eqI | with_reducible apply x_neI | with_reducible apply x_eqT | with_reducible apply x_neT | with_reducible apply x_ltI | with_reducible apply x_leI | with_reducible apply x_gtI | with_reducible apply x_geI
  | with_reducible apply x_intI | with_reducible apply x_intBl | with_reducible apply x_absI | with_reducible apply x_asgG | with_reducible apply x_sub | with_reducible apply x_lstG | with_reducible apply x_tupG | with_reducible apply x_next | with_reducible apply x_drop
  | with_reducible apply x_ife | with_reducible apply x_chain | with_reducible apply x_inSg | with_reducible apply x_yes | with_reducible apply x_sl | with_reducible apply x_noPart | with_reducible apply x_part | with_reducible apply x_in2 | with_reducible apply x_fs | with_reducible apply x_js | with_reducible apply x_js0 | with_reducible apply x_fmtE | with_reducible apply x_m0 | with_reducible apply x_fld0 | with_reducible apply x_con0 | with_reducible apply x_pr0 | with_reducible apply x_sfld
  | with_reducible apply x_fn | with_reducible apply x_bm | with_reducible apply x_par | with_reducible apply x_rz | with_reducible apply x_retN | with_reducible apply x_un | with_reducible apply x_U)))
section
variable {K : PySem.W.Frag} {mg : Str → Option Value} {vs : List V} {H : Hp} {Q : VK} {E : XK}
theorem len_Lpen (h : sp_Lpen K vs H Q E) : vs.length = 1 := len_pen h
theorem pure_Lpen (T : Tx K mg) (h : sp_Lpen K vs H Q E) : t_Lpen K { nx := fun _ H2 => Q .non H2, rt := Q } (start ["_law_script"] vs) H := pen_ok h
theorem len_Ldraw (h : sp_Ldraw K vs H Q E) : vs.length = 2 := len_draw h
theorem pure_Ldraw (T : Tx K mg) (h : sp_Ldraw K vs H Q E) : t_Ldraw K { nx := fun _ H2 => Q .non H2, rt := Q } (start ["_law_pen_here", "_law_many", "_law_digit", "_law_at", "_law_cell", "_law_great", "_law_mixed"] vs) H := by
  show tDrawA K 51031 103 2147483563 48049 11 2147483579 9 50051 13 2147483629 _ _ _
  exact draw_ok h (by omega) (by omega) (by omega) (by omega) (by omega) (by omega) (by omega) (by omega) (by omega)
theorem len_Lpick (h : sp_Lpick K vs H Q E) : vs.length = 2 := len_pick h
theorem pure_Lpick (T : Tx K mg) (h : sp_Lpick K vs H Q E) : t_Lpick K { nx := fun _ H2 => Q .non H2, rt := Q } (start ["_law_pen_here", "_law_some"] vs) H := pick_ok h
theorem len_Ltags (h : sp_Ltags K vs H Q E) : vs.length = 2 := len_tags h
theorem pure_Ltags (T : Tx K mg) (h : sp_Ltags K vs H Q E) : t_Ltags K { nx := fun _ H2 => Q .non H2, rt := Q } (start ["_law_pen_here", "_law_many", "_law_pool", "_law_turn"] vs) H := by
  obtain ⟨P, m, n, rfl, hp, hn, hm, k⟩ := h
  unfold t_Ltags
  walk_at "go"
  intro q1 h1
  walk_at "go"
  intro q2 h2
  walk_at "go"
  have e12 : q1 ≠ q2 := fun e => by rw [← e, upd_same] at h2; cases h2
  refine x_addL (by rw [upd_ne e12]; exact upd_same) upd_same (Nat.le_of_ble_eq_true rfl) fun q3 h3 => ?_
  have s1 := Same.upd (o := .lst [.str "a", .str "frame", .str "b", .str "rest", .str "self", .str "c", .str "zzzzzzzz", .str "word", .str "d"]) (Same.refl H) h1
  have s2 := Same.upd (o := .lst [.str "e", .str "reads", .str "leg", .str "x", .str "grounds", .str "q", .str "cls"]) s1 h2
  have s3 := Same.upd (o := .lst (pool.map V.str)) s2 h3
  exact tags_lc (hp.mono s3 (Nat.le_refl _)) hn hm (Nat.le_of_ble_eq_true rfl) upd_same (Same.free s2 h3) s3 (hp.at.elim fun _ h => ⟨_, h⟩) ⟨_, del_sub hp.cell⟩ k
end

end K02

namespace K02
open PySem PySem.Spec PyProof.Rows L2 He SJ
local macro_rules | `(tactic| walk_at "go") => `(tactic| (repeat (first
  | with_reducible apply x_seq | with_reducible apply x_asg | with_reducible apply x_ret | with_reducible apply x_if | with_reducible apply x_test | with_reducible apply x_B | with_reducible apply x_op | (with_reducible apply x_var rfl) | with_reducible apply x_c
  | with_reducible apply x_cb | with_reducible apply x_cons | with_reducible apply x_nil | with_reducible apply x_bl2 | with_reducible apply x_st2 | with_reducible apply ite_t | with_reducible apply ite_f | with_reducible apply ite_n | with_reducible apply x_and | with_reducible apply x_or | with_reducible apply x_not | with_reducible apply x_andV | with_reducible apply x_orV | with_reducible apply x_notV
  | with_reducible apply x_addI | with_reducible apply x_sub' | with_reducible apply x_eqI | with_reducible apply x_neI | with_reducible apply x_eqT | with_reducible apply x_neT | with_reducible apply x_ltI | with_reducible apply x_leI | with_reducible apply x_gtI | with_reducible apply x_geI
  | with_reducible apply x_intI | with_reducible apply x_intBl | with_reducible apply x_absI | with_reducible apply x_asgG | with_reducible apply x_sub | with_reducible apply x_lst | with_reducible apply x_tup | with_reducible apply x_next | with_reducible apply x_drop
  | with_reducible apply x_ife | with_reducible apply x_chain | with_reducible apply x_inSg | with_reducible apply x_yes | with_reducible apply x_sl | with_reducible apply x_noPart | with_reducible apply x_part | with_reducible apply x_in2 | with_reducible apply x_fs | with_reducible apply x_js | with_reducible apply x_js0 | with_reducible apply x_fmtE | with_reducible apply x_m0 | with_reducible apply x_fld0 | with_reducible apply x_con0 | with_reducible apply x_pr0 | with_reducible apply x_sfld
  | (with_reducible refine x_new ?_ ?_; · exact Nat.le_of_ble_eq_true rfl)
  | with_reducible apply x_fn | with_reducible apply x_nw | with_reducible apply x_bm | with_reducible apply x_par | with_reducible apply x_rz | with_reducible apply x_retN | with_reducible apply x_un | with_reducible apply x_U)))
local macro_rules | `(tactic| walk_at "gp") => `(tactic| (repeat (first
  | with_reducible apply x_seq | with_reducible apply x_asg | with_reducible apply x_ret | with_reducible apply x_if | with_reducible apply x_test | with_reducible apply x_B | with_reducible apply x_op | (with_reducible apply x_var rfl) | with_reducible apply x_c
  | with_reducible apply x_cb | with_reducible apply x_cons | with_reducible apply x_nil | with_reducible apply x_bl2 | with_reducible apply x_st2 | with_reducible apply ite_t | with_reducible apply ite_f | with_reducible apply ite_n | with_reducible apply x_and | with_reducible apply x_or | with_reducible apply x_not | with_reducible apply x_andV | with_reducible apply x_orV | with_reducible apply x_notV
  | with_reducible apply x_addI | with_reducible apply x_sub' | with_reducible apply x_eqI | with_reducible apply x_neI | with_reducible apply x_eqT | with_reducible apply x_neT | with_reducible apply x_ltI | with_reducible apply x_leI | with_reducible apply x_gtI | with_reducible apply x_geI
  | with_reducible apply x_intI | with_reducible apply x_intBl | with_reducible apply x_absI | with_reducible apply x_asgG | with_reducible apply x_sub | with_reducible apply x_lstG | with_reducible apply x_tupG | with_reducible apply x_next | with_reducible apply x_drop
  | with_reducible apply x_ife | with_reducible apply x_chain | with_reducible apply x_inSg | with_reducible apply x_yes | with_reducible apply x_sl | with_reducible apply x_noPart | with_reducible apply x_part | with_reducible apply x_in2 | with_reducible apply x_fs | with_reducible apply x_js | with_reducible apply x_js0 | with_reducible apply x_fmtE | with_reducible apply x_m0 | with_reducible apply x_fld0 | with_reducible apply x_con0 | with_reducible apply x_pr0 | with_reducible apply x_sfld
  | with_reducible apply x_fn | with_reducible apply x_bm | with_reducible apply x_par | with_reducible apply x_rz | with_reducible apply x_retN | with_reducible apply x_un | with_reducible apply x_U)))
section
variable {K : PySem.W.Frag} {mg : Str → Option Value} {vs : List V} {H : Hp} {Q : VK} {E : XK}
theorem Val0.same {H2 : Hp} {x : V} (h : Val0 K H x) (s : Same H H2) : Val0 K H2 x := by
  obtain ⟨t, h1, h2, h3⟩ := h
  exact ⟨t, ty_same s h1, h2, h3⟩
theorem LegAt.same {H2 : Hp} {a : Addr} {k : Kd} {t : Str} (h : LegAt K H a k t) (s : Same H H2) : LegAt K H2 a k t := by
  obtain ⟨dx, h⟩ := h
  exact ⟨dx, s _ _ h⟩
theorem leg_new {k : Kd} {x : V} (hv : Val0 K H x) (q1 : ∀ z, x = .str z → nameB z = true → ∀ a H2, H a = none → Same H H2 → LegAt K H2 a k z → Q (.ref a) H2) (q2 : nameV x = false → ∀ d H2, H d = none → Same H H2 → H2 d = some (.xd [("reason", .str "name")]) → E (.ref (ga K "InvalidFrame")) (some d) H2) :
    ∀ a dx, H a = none → H dx = none → dx ≠ a → sp_Leg_init K [.ref a, x] (upd (upd H dx (.own a)) a (.ins (k.cls K) dx [])) (fun v H3 => v = .non ∧ Q (.ref a) H3) E := by
  intro a dx ha hd hne
  refine ⟨a, dx, k, x, rfl, upd_same, hv.same (new_le ha hd), fun e H2 s h => ⟨rfl, ?_⟩, fun e d H2 hd2 s h => ?_⟩
  · obtain ⟨z, rfl⟩ : ∃ z, x = .str z := by cases x <;> first | exact ⟨_, rfl⟩ | cases e
    exact q1 z rfl e a H2 ha (same_new ha hd s) ⟨dx, h⟩
  · exact q2 e d H2 (Same.free (new_le ha hd) hd2) (same_new2 ha hd s) h
theorem len_Lmade (h : sp_Lmade K vs H Q E) : vs.length = 2 := by obtain ⟨k, x, rfl, _⟩ := h; rfl
theorem pure_Lmade (T : Tx K mg) (h : sp_Lmade K vs H Q E) : t_Lmade K { nx := fun _ H2 => Q .non H2, rt := Q } (start ["_law_kind", "_law_tag", "error"] vs) H := by
  obtain ⟨k, x, rfl, hv, q1, q2⟩ := h
  have bad : ∀ (D : Ends), D.rt = Q → nameV x = false → ∀ d H2, H d = none → Same H H2 → H2 d = some (.xd [("reason", .str "name")]) →
      wAs K (.ref (ga K "InvalidFrame")) 2 (fun a cls d => (tRet (tTup (tCons (tXf a cls d (ga K "InvalidFrame") "reason" (tVar 2)) tNil)))) W0 D (.ref (ga K "InvalidFrame")) (some d) (start ["_law_kind", "_law_tag", "error"] [.str k.txt, x]) H2 := by
    intro D hD e d H2 hd s h
    refine ⟨true, T.exm, fun _ a ha => ?_, fun z => nomatch z⟩
    walk_at "go"
    refine ⟨_, rfl, rfl, rfl, d, _, _, rfl, h, rfl, ?_⟩
    walk_at "go"
    intro p hp
    rw [hD]
    exact q2 e p _ (Same.free s hp) (Same.upd s hp) upd_same
  unfold t_Lmade
  refine x_tryAs ?_
  walk_at "go"
  have fin : ∀ (k2 : Kd), k2 = k → ∀ W : WX, (nameV x = false → ∀ d H2, H d = none → Same H H2 → H2 d = some (.xd [("reason", .str "name")]) → W (.ref (ga K "InvalidFrame")) (some d) (start ["_law_kind", "_law_tag", "error"] [.str k.txt, x]) H2) → tNwK (k2.cls K) 0 1 (sp_Leg_init K) gkb_Leg_init_1_name W tNil (tCons (tVar 1) tNil) (start ["_law_kind", "_law_tag", "error"] [.str k.txt, x]) H Q := by
    intro k2 e W b
    subst e
    refine x_nwK ?_
    walk_at "go"
    exact ⟨rfl, rfl, leg_new hv q1 b⟩
  cases k with
  | drv => exact ite_t (fin .drv rfl _ (bad _ rfl))
  | lis =>
    refine ite_f ?_
    walk_at "go"
    exact ite_t (fin .lis rfl _ (bad _ rfl))
  | leg =>
    refine ite_f ?_
    walk_at "go"
    exact ite_f (fin .leg rfl _ (bad _ rfl))
end

end K02

namespace K02
open PySem PySem.Spec PyProof.Rows L2 He SJ
local macro_rules | `(tactic| walk_at "go") => `(tactic| (repeat (first
  | with_reducible apply x_seq | with_reducible apply x_asg | with_reducible apply x_ret | with_reducible apply x_if | with_reducible apply x_test | with_reducible apply x_B | with_reducible apply x_op | (with_reducible apply x_var rfl) | with_reducible apply x_c
  | with_reducible apply x_cb | with_reducible apply x_cons | with_reducible apply x_nil | with_reducible apply x_bl2 | with_reducible apply x_st2 | with_reducible apply ite_t | with_reducible apply ite_f | with_reducible apply ite_n | with_reducible apply x_and | with_reducible apply x_or | with_reducible apply x_not | with_reducible apply x_andV | with_reducible apply x_orV | with_reducible apply x_notV
  | with_reducible apply x_addI | with_reducible apply x_sub' | with_reducible apply x_eqI | with_reducible apply x_neI | with_reducible apply x_eqT | with_reducible apply x_neT | with_reducible apply x_ltI | with_reducible apply x_leI | with_reducible apply x_gtI | with_reducible apply x_geI
  | with_reducible apply x_intI | with_reducible apply x_intBl | with_reducible apply x_absI | with_reducible apply x_asgG | with_reducible apply x_sub | with_reducible apply x_lst | with_reducible apply x_tup | with_reducible apply x_next | with_reducible apply x_drop
  | with_reducible apply x_ife | with_reducible apply x_chain | with_reducible apply x_inSg | with_reducible apply x_yes | with_reducible apply x_sl | with_reducible apply x_noPart | with_reducible apply x_part | with_reducible apply x_in2 | with_reducible apply x_fs | with_reducible apply x_js | with_reducible apply x_js0 | with_reducible apply x_fmtE | with_reducible apply x_m0 | with_reducible apply x_fld0 | with_reducible apply x_con0 | with_reducible apply x_pr0 | with_reducible apply x_sfld
  | (with_reducible refine x_new ?_ ?_; · exact Nat.le_of_ble_eq_true rfl)
  | with_reducible apply x_fn | with_reducible apply x_nw | with_reducible apply x_bm | with_reducible apply x_par | with_reducible apply x_rz | with_reducible apply x_retN | with_reducible apply x_un | with_reducible apply x_U)))
local macro_rules | `(tactic| walk_at "gp") => `(tactic| (repeat (first
  | with_reducible apply x_seq | with_reducible apply x_asg | with_reducible apply x_ret | with_reducible apply x_if | with_reducible apply x_test | with_reducible apply x_B | with_reducible apply x_op | (with_reducible apply x_var rfl) | with_reducible apply x_c
  | with_reducible apply x_cb | with_reducible apply x_cons | with_reducible apply x_nil | with_reducible apply x_bl2 | with_reducible apply x_st2 | with_reducible apply ite_t | with_reducible apply ite_f | with_reducible apply ite_n | with_reducible apply x_and | with_reducible apply x_or | with_reducible apply x_not | with_reducible apply x_andV | with_reducible apply x_orV | with_reducible apply x_notV
  | with_reducible apply x_addI | with_reducible apply x_sub' | with_reducible apply x_eqI | with_reducible apply x_neI | with_reducible apply x_eqT | with_reducible apply x_neT | with_reducible apply x_ltI | with_reducible apply x_leI | with_reducible apply x_gtI | with_reducible apply x_geI
  | with_reducible apply x_intI | with_reducible apply x_intBl | with_reducible apply x_absI | with_reducible apply x_asgG | with_reducible apply x_sub | with_reducible apply x_lstG | with_reducible apply x_tupG | with_reducible apply x_next | with_reducible apply x_drop
  | with_reducible apply x_ife | with_reducible apply x_chain | with_reducible apply x_inSg | with_reducible apply x_yes | with_reducible apply x_sl | with_reducible apply x_noPart | with_reducible apply x_part | with_reducible apply x_in2 | with_reducible apply x_fs | with_reducible apply x_js | with_reducible apply x_js0 | with_reducible apply x_fmtE | with_reducible apply x_m0 | with_reducible apply x_fld0 | with_reducible apply x_con0 | with_reducible apply x_pr0 | with_reducible apply x_sfld
  | with_reducible apply x_fn | with_reducible apply x_bm | with_reducible apply x_par | with_reducible apply x_rz | with_reducible apply x_retN | with_reducible apply x_un | with_reducible apply x_U)))
section
variable {K : PySem.W.Frag} {mg : Str → Option Value} {vs : List V} {H : Hp} {Q : VK} {E : XK}
theorem x_reprB {b : Bool} (k : Q (.str (PyData.bool b).shown) H) : rRepr K [.bl b] H Q := ⟨_, _, rfl, .bl b, by cases b <;> rfl, by simp only [PyData.depth]; omega, by cases b <;> exact Nat.le_of_ble_eq_true rfl, k⟩
def faces : List (Key × V) := [(.inr "driver", .str "Driver"), (.inr "listener", .str "Listener"), (.inr "leg", .str "Leg")]
theorem len_Ltold_right (h : sp_Ltold_right K vs H Q E) : vs.length = 3 := by obtain ⟨k, x, t, rfl, _⟩ := h; rfl
theorem pure_Ltold_right (T : Tx K mg) (h : sp_Ltold_right K vs H Q E) : t_Ltold_right K { nx := fun _ H2 => Q .non H2, rt := Q } (start ["_law_kind", "_law_tag", "_law_leg", "_law_face", "_law_flags"] vs) H := by
  obtain ⟨a, k, t, rfl, hleg, ht, q⟩ := h
  obtain ⟨dx, ha⟩ := hleg
  obtain ⟨u, hu⟩ := T.kd k
  unfold t_Ltold_right
  walk_at "go"
  refine ⟨a, _, dx, _, _, rfl, ha, T.cl k, T.nm k, rfl, ?_⟩
  walk_at "go"
  refine ite_d rfl ?_
  walk_at "go"
  refine ⟨a, _, dx, _, _, _, rfl, ha, T.cl k, hu, rfl, ?_⟩
  walk_at "go"
  refine ite_d rfl ?_
  walk_at "go"
  refine ⟨a, _, dx, _, _, rfl, ha, T.cl k, T.pr k, a, k, t, rfl, ⟨dx, ha⟩, ?_⟩
  walk_at "go"
  refine x_reprB ?_
  walk_at "go"
  have ed : decide (k.txt = "driver") = decide (k = .drv) := by cases k <;> rfl
  have el : decide (k.txt = "listener") = decide (k = .lis) := by cases k <;> rfl
  rw [ed]
  refine x_reprB ?_
  walk_at "go"
  refine ite_d rfl ?_
  walk_at "go"
  intro p hp
  refine ⟨upd_same, faces, rfl, Nat.le_of_ble_eq_true rfl, ?_⟩
  walk_at "go"
  refine ⟨p, .str k.face, rfl, ?_, ?_⟩
  · have e : some (V.str k.face) = valV (mergeK [] faces) (.inr k.txt) := by cases k <;> rfl
    rw [e]
    exact DGet.k (k := .inr k.txt) upd_same
  have e1 : upd (upd H p (.dK [])) p (.dK (mergeK [] faces)) = upd H p (.dK (mergeK [] faces)) := upd_upd
  rw [e1]
  have s1 : Same H (upd H p (.dK (mergeK [] faces))) := Same.upd (Same.refl _) hp
  generalize upd H p (.dK (mergeK [] faces)) = H1 at s1
  have ha1 := s1 _ _ ha
  walk_at "go"
  have lt := txt_len k
  have lf := face_len k
  refine ⟨a, _, dx, _, rfl, ha1, T.strF k, a, k, t, rfl, ⟨dx, ha1⟩, ht, _, rfl, ?_⟩
  walk_at "go"
  refine x_addS (by rw [show (Str.ofString " ").length = 1 from rfl]; omega) ?_
  walk_at "go"
  refine x_addS (by rw [PySem.Str.length_append, show (Str.ofString " ").length = 1 from rfl]; omega) ?_
  walk_at "go"
  refine ite_d rfl ?_
  walk_at "go"
  refine ⟨a, _, dx, _, rfl, ha1, T.reprF k, a, k, t, rfl, ⟨dx, ha1⟩, ht, _, rfl, ?_⟩
  walk_at "go"
  refine x_addS (by rw [show (Str.ofString "(").length = 1 from rfl]; omega) ?_
  walk_at "go"
  refine x_addS (by rw [PySem.Str.length_append, show (Str.ofString "(").length = 1 from rfl]; omega) ?_
  walk_at "go"
  refine x_addS (by rw [PySem.Str.length_append, PySem.Str.length_append, show (Str.ofString "(").length = 1 from rfl, show (Str.ofString ")").length = 1 from rfl]; omega) ?_
  walk_at "go"
  refine ite_d rfl ?_
  walk_at "go"
  refine x_isi (.own _) ((T.inn k).ty ha1) (T.kleg k) ?_
  walk_at "go"
  refine x_isi (.own _) ((T.inn k).ty ha1) (T.kdrv k) ?_
  walk_at "go"
  refine x_isi (.own _) ((T.inn k).ty ha1) (T.klis k) ?_
  walk_at "go"
  intro p1 hp1
  walk_at "go"
  rw [ed, el]
  intro p2 hp2
  have n12 : p1 ≠ p2 := fun e => by rw [← e, upd_same] at hp2; cases hp2
  refine x_eqDD (.lst (SqL.of (by rw [upd_ne n12]; exact upd_same)) (.cons (.bl _) (.cons (.bl _) (.cons (.bl _) .nil)))) (.lst (SqL.of upd_same) (.cons (.bl _) (.cons (.bl _) (.cons (.bl _) .nil)))) rfl rfl ?_
  have e2 : PyData.eqv (.list [.bool true, .bool (decide (k = .drv)), .bool (decide (k = .lis))]) (.list [.bool true, .bool (decide (k = .drv)), .bool (decide (k = .lis))]) = true := by cases k <;> rfl
  rw [e2]
  exact q _ (Same.upd (Same.upd s1 hp1) hp2)
end

end K02

namespace K02
open PySem PySem.Spec PyProof.Rows L2 He SJ
local macro_rules | `(tactic| walk_at "go") => `(tactic| (repeat (first
  | with_reducible apply x_seq | with_reducible apply x_asg | with_reducible apply x_ret | with_reducible apply x_if | with_reducible apply x_test | with_reducible apply x_B | with_reducible apply x_op | (with_reducible apply x_var rfl) | with_reducible apply x_c
  | with_reducible apply x_cb | with_reducible apply x_cons | with_reducible apply x_nil | with_reducible apply x_bl2 | with_reducible apply x_st2 | with_reducible apply ite_t | with_reducible apply ite_f | with_reducible apply ite_n | with_reducible apply x_and | with_reducible apply x_or | with_reducible apply x_not | with_reducible apply x_andV | with_reducible apply x_orV | with_reducible apply x_notV
  | with_reducible apply x_addI | with_reducible apply x_sub' | with_reducible apply x_eqI | with_reducible apply x_neI | with_reducible apply x_eqT | with_reducible apply x_neT | with_reducible apply x_ltI | with_reducible apply x_leI | with_reducible apply x_gtI | with_reducible apply x_geI
  | with_reducible apply x_intI | with_reducible apply x_intBl | with_reducible apply x_absI | with_reducible apply x_asgG | with_reducible apply x_sub | with_reducible apply x_lst | with_reducible apply x_tup | with_reducible apply x_next | with_reducible apply x_drop
  | with_reducible apply x_ife | with_reducible apply x_chain | with_reducible apply x_inSg | with_reducible apply x_yes | with_reducible apply x_sl | with_reducible apply x_noPart | with_reducible apply x_part | with_reducible apply x_in2 | with_reducible apply x_fs | with_reducible apply x_js | with_reducible apply x_js0 | with_reducible apply x_fmtE | with_reducible apply x_m0 | with_reducible apply x_fld0 | with_reducible apply x_con0 | with_reducible apply x_pr0 | with_reducible apply x_sfld
  | (with_reducible refine x_new ?_ ?_; · exact Nat.le_of_ble_eq_true rfl)
  | with_reducible apply x_fn | with_reducible apply x_nw | with_reducible apply x_bm | with_reducible apply x_par | with_reducible apply x_rz | with_reducible apply x_retN | with_reducible apply x_un | with_reducible apply x_U)))
local macro_rules | `(tactic| walk_at "gp") => `(tactic| (repeat (first
  | with_reducible apply x_seq | with_reducible apply x_asg | with_reducible apply x_ret | with_reducible apply x_if | with_reducible apply x_test | with_reducible apply x_B | with_reducible apply x_op | (with_reducible apply x_var rfl) | with_reducible apply x_c
  | with_reducible apply x_cb | with_reducible apply x_cons | with_reducible apply x_nil | with_reducible apply x_bl2 | with_reducible apply x_st2 | with_reducible apply ite_t | with_reducible apply ite_f | with_reducible apply ite_n | with_reducible apply x_and | with_reducible apply x_or | with_reducible apply x_not | with_reducible apply x_andV | with_reducible apply x_orV | with_reducible apply x_notV
  | with_reducible apply x_addI | with_reducible apply x_sub' | with_reducible apply x_eqI | with_reducible apply x_neI | with_reducible apply x_eqT | with_reducible apply x_neT | with_reducible apply x_ltI | with_reducible apply x_leI | with_reducible apply x_gtI | with_reducible apply x_geI
  | with_reducible apply x_intI | with_reducible apply x_intBl | with_reducible apply x_absI | with_reducible apply x_asgG | with_reducible apply x_sub | with_reducible apply x_lstG | with_reducible apply x_tupG | with_reducible apply x_next | with_reducible apply x_drop
  | with_reducible apply x_ife | with_reducible apply x_chain | with_reducible apply x_inSg | with_reducible apply x_yes | with_reducible apply x_sl | with_reducible apply x_noPart | with_reducible apply x_part | with_reducible apply x_in2 | with_reducible apply x_fs | with_reducible apply x_js | with_reducible apply x_js0 | with_reducible apply x_fmtE | with_reducible apply x_m0 | with_reducible apply x_fld0 | with_reducible apply x_con0 | with_reducible apply x_pr0 | with_reducible apply x_sfld
  | with_reducible apply x_fn | with_reducible apply x_bm | with_reducible apply x_par | with_reducible apply x_rz | with_reducible apply x_retN | with_reducible apply x_un | with_reducible apply x_U)))
section
variable {K : PySem.W.Frag} {mg : Str → Option Value} {vs : List V} {H : Hp} {Q : VK} {E : XK}
theorem nf_self {C : Addr} : PySem.W.notFirst K C (.ref C) = true := by unfold PySem.W.notFirst; rw [beq_self_eq_true, Bool.true_or]
theorem nf_sub {C : Addr} {t : Value} (h : PySem.W.subIn K t (.ref C) = some false) : PySem.W.notFirst K C t = true := by unfold PySem.W.notFirst; rw [h, beq_self_eq_true, Bool.or_true]
/-- who is asked first -/
theorem Tx.first (T : Tx K mg) (k k2 : Kd) : PySem.W.notFirst K (k.cls K) (.ref (k2.cls K)) = true ∨ (k2.cls K ≠ k.cls K ∧ PySem.W.subIn K (.ref (k2.cls K)) (.ref (k.cls K)) = some true) := by
  cases k with
  | drv => cases k2 with
    | drv => exact .inl nf_self
    | lis => exact .inl (nf_sub T.sub_Listener_Driver)
    | leg => exact .inl (nf_sub T.sub_Leg_Driver)
  | lis => cases k2 with
    | drv => exact .inl (nf_sub T.sub_Driver_Listener)
    | lis => exact .inl nf_self
    | leg => exact .inl (nf_sub T.sub_Leg_Listener)
  | leg => cases k2 with
    | drv => exact .inr ⟨T.dif_Driver_Leg, T.sub_Driver_Leg⟩
    | lis => exact .inr ⟨T.dif_Listener_Leg, T.sub_Listener_Leg⟩
    | leg => exact .inl nf_self
theorem dec_comm {α : Type} [DecidableEq α] (a b : α) : decide (a = b) = decide (b = a) := by
  by_cases h : a = b
  · rw [h]
  · rw [decide_eq_false h, decide_eq_false (Ne.symm h)]
theorem own_eq (T : Tx K mg) {a b : Addr} {k k2 : Kd} {t t2 : Str} (ha : LegAt K H a k t) (hb : LegAt K H b k2 t2) (q : Q (.bl (decide (k = k2) && decide (t = t2))) H) : rOwnEq K (a_Leg_eq K) (sp_Leg_eq K) (.ref a) (.ref b) H Q := by
  obtain ⟨dx, ha0⟩ := ha
  obtain ⟨dy, hb0⟩ := hb
  refine ⟨a, _, dx, _, rfl, ha0, T.eq k, ?_⟩
  rcases T.first k k2 with h | ⟨h1, h2⟩
  · exact .inl ⟨_, (T.inn k2).ty hb0, h, a, k, t, _, rfl, ⟨dx, ha0⟩, .inl ⟨b, k2, t2, rfl, ⟨dy, hb0⟩, q⟩⟩
  · refine .inr ⟨b, _, dy, _, rfl, hb0, h1, h2, T.eq k2, b, k2, t2, _, rfl, ⟨dy, hb0⟩, .inl ⟨a, k, t, rfl, ⟨dx, ha0⟩, ?_⟩⟩
    rw [dec_comm k2 k, dec_comm t2 t]
    exact q
theorem own_ne (T : Tx K mg) {a b : Addr} {k k2 : Kd} {t t2 : Str} (ha : LegAt K H a k t) (hb : LegAt K H b k2 t2) (q : Q (.bl (!(decide (k = k2) && decide (t = t2)))) H) : rOwnNe K (a_Leg_eq K) (sp_Leg_eq K) (.ref a) (.ref b) H Q := by
  obtain ⟨dx, ha0⟩ := ha
  obtain ⟨dy, hb0⟩ := hb
  refine ⟨a, _, dx, _, rfl, ha0, T.eq k, T.ne k, (T.inn k).hm, ?_⟩
  rcases T.first k k2 with h | ⟨h1, h2⟩
  · exact .inl ⟨_, (T.inn k2).ty hb0, h, a, k, t, _, rfl, ⟨dx, ha0⟩, .inl ⟨b, k2, t2, rfl, ⟨dy, hb0⟩, _, rfl, q⟩⟩
  · refine .inr ⟨b, _, dy, _, rfl, hb0, h1, h2, T.eq k2, T.ne k2, (T.inn k2).hm, b, k2, t2, _, rfl, ⟨dy, hb0⟩, .inl ⟨a, k, t, rfl, ⟨dx, ha0⟩, _, rfl, ?_⟩⟩
    rw [dec_comm k2 k, dec_comm t2 t]
    exact q
/-- a leg beside something else -/
theorem own_eq_no (T : Tx K mg) {a : Addr} {k : Kd} {t : Str} {y : V} {u : Value} (ha : LegAt K H a k t) (hy : TyX K H y u) (hk : PySem.W.kitOne K u (.ref (ga K "Leg")) = some false) (hn : PySem.W.notFirst K (k.cls K) u = true) (q : Q (.bl false) H) : rOwnEq K (a_Leg_eq K) (sp_Leg_eq K) (.ref a) y H Q := by
  obtain ⟨dx, ha0⟩ := ha
  exact ⟨a, _, dx, _, rfl, ha0, T.eq k, .inl ⟨u, hy, hn, a, k, t, y, rfl, ⟨dx, ha0⟩, .inr ⟨u, hy, hk, q⟩⟩⟩
theorem Tx.nfs (T : Tx K mg) (k : Kd) : PySem.W.notFirst K (k.cls K) (.type "str") = true := match k with | .drv => T.nf_Driver_str | .lis => T.nf_Listener_str | .leg => T.nf_Leg_str
theorem Tx.nfn (T : Tx K mg) (k : Kd) : PySem.W.notFirst K (k.cls K) (.type "NoneType") = true := match k with | .drv => T.nf_Driver_NoneType | .lis => T.nf_Listener_NoneType | .leg => T.nf_Leg_NoneType
theorem Tx.nft (T : Tx K mg) (k : Kd) : PySem.W.notFirst K (k.cls K) (.type "tuple") = true := match k with | .drv => T.nf_Driver_tuple | .lis => T.nf_Listener_tuple | .leg => T.nf_Leg_tuple
theorem pool_ok : ∀ t ∈ pool, nameB t = true ∧ t.length ≤ 8 := by
  have h : pool.all (fun t => nameB t && decide (t.length ≤ 8)) = true := by rfl
  intro t ht
  have := List.all_eq_true.mp h t ht
  obtain ⟨h1, h2⟩ := Bool.and_eq_true_iff.mp this
  exact ⟨h1, of_decide_eq_true h2⟩
theorem val_str {z : Str} (h : z.length ≤ 1000) : Val0 K H (.str z) := ⟨.type "str", .base (.str z), rfl, fun y e => by cases e; exact h⟩
structure Row where
  p : Addr
  k : Kd
  t : Str
  l : Addr
def RowOk (K : PySem.W.Frag) (G : Hp) (r : Row) : Prop := G r.p = some (.tup [.str r.k.txt, .str r.t, .ref r.l]) ∧ LegAt K G r.l r.k r.t ∧ r.t.length ≤ 8
theorem RowOk.same {G G2 : Hp} {r : Row} (h : RowOk K G r) (s : Same G G2) : RowOk K G2 r := ⟨s _ _ h.1, h.2.1.same s, h.2.2⟩
def kinds : List Kd := [.drv, .lis, .leg]
def kindsV : List V := kinds.map fun k => .str k.txt
/-- the odd ones that are no heap's -/
def oddV : List V := [.str "", .str "A", .str "a1", .str "abcdefghi", .str "ground", .str "power", .str "nothing", .non, .int 1, .bl true]
theorem odd_ok {v : V} (h : v ∈ oddV) : Val0 K H v ∧ nameV v = false := by
  unfold oddV at h
  repeat (rcases List.mem_cons.mp h with rfl | h; focus first | exact ⟨val_str (Nat.le_of_ble_eq_true rfl), rfl⟩ | exact ⟨⟨_, .base .non, rfl, fun _ e => nomatch e⟩, rfl⟩ | exact ⟨⟨_, .base (.int _), rfl, fun _ e => nomatch e⟩, rfl⟩ | exact ⟨⟨_, .base (.bl _), rfl, fun _ e => nomatch e⟩, rfl⟩)
  cases h
end

end K02

namespace K02
open PySem PySem.Spec PyProof.Rows L2 He SJ
local macro_rules | `(tactic| walk_at "go") => `(tactic| (repeat (first
  | with_reducible apply x_seq | with_reducible apply x_asg | with_reducible apply x_ret | with_reducible apply x_if | with_reducible apply x_test | with_reducible apply x_B | with_reducible apply x_op | (with_reducible apply x_var rfl) | with_reducible apply x_c
  | with_reducible apply x_cb | with_reducible apply x_cons | with_reducible apply x_nil | with_reducible apply x_bl2 | with_reducible apply x_st2 | with_reducible apply ite_t | with_reducible apply ite_f | with_reducible apply ite_n | with_reducible apply x_and | with_reducible apply x_or | with_reducible apply x_not | with_reducible apply x_andV | with_reducible apply x_orV | with_reducible apply x_notV
  | with_reducible apply x_addI | with_reducible apply x_sub' | with_reducible apply x_eqI | with_reducible apply x_neI | with_reducible apply x_eqT | with_reducible apply x_neT | with_reducible apply x_ltI | with_reducible apply x_leI | with_reducible apply x_gtI | with_reducible apply x_geI
  | with_reducible apply x_intI | with_reducible apply x_intBl | with_reducible apply x_absI | with_reducible apply x_asgG | with_reducible apply x_sub | with_reducible apply x_lst | with_reducible apply x_tup | with_reducible apply x_next | with_reducible apply x_drop
  | with_reducible apply x_ife | with_reducible apply x_chain | with_reducible apply x_inSg | with_reducible apply x_yes | with_reducible apply x_sl | with_reducible apply x_noPart | with_reducible apply x_part | with_reducible apply x_in2 | with_reducible apply x_fs | with_reducible apply x_js | with_reducible apply x_js0 | with_reducible apply x_fmtE | with_reducible apply x_m0 | with_reducible apply x_fld0 | with_reducible apply x_con0 | with_reducible apply x_pr0 | with_reducible apply x_sfld
  | (with_reducible refine x_new ?_ ?_; · exact Nat.le_of_ble_eq_true rfl)
  | with_reducible apply x_fn | with_reducible apply x_nw | with_reducible apply x_bm | with_reducible apply x_par | with_reducible apply x_rz | with_reducible apply x_retN | with_reducible apply x_un | with_reducible apply x_U)))
local macro_rules | `(tactic| walk_at "gp") => `(tactic| (repeat (first
  | with_reducible apply x_seq | with_reducible apply x_asg | with_reducible apply x_ret | with_reducible apply x_if | with_reducible apply x_test | with_reducible apply x_B | with_reducible apply x_op | (with_reducible apply x_var rfl) | with_reducible apply x_c
  | with_reducible apply x_cb | with_reducible apply x_cons | with_reducible apply x_nil | with_reducible apply x_bl2 | with_reducible apply x_st2 | with_reducible apply ite_t | with_reducible apply ite_f | with_reducible apply ite_n | with_reducible apply x_and | with_reducible apply x_or | with_reducible apply x_not | with_reducible apply x_andV | with_reducible apply x_orV | with_reducible apply x_notV
  | with_reducible apply x_addI | with_reducible apply x_sub' | with_reducible apply x_eqI | with_reducible apply x_neI | with_reducible apply x_eqT | with_reducible apply x_neT | with_reducible apply x_ltI | with_reducible apply x_leI | with_reducible apply x_gtI | with_reducible apply x_geI
  | with_reducible apply x_intI | with_reducible apply x_intBl | with_reducible apply x_absI | with_reducible apply x_asgG | with_reducible apply x_sub | with_reducible apply x_lstG | with_reducible apply x_tupG | with_reducible apply x_next | with_reducible apply x_drop
  | with_reducible apply x_ife | with_reducible apply x_chain | with_reducible apply x_inSg | with_reducible apply x_yes | with_reducible apply x_sl | with_reducible apply x_noPart | with_reducible apply x_part | with_reducible apply x_in2 | with_reducible apply x_fs | with_reducible apply x_js | with_reducible apply x_js0 | with_reducible apply x_fmtE | with_reducible apply x_m0 | with_reducible apply x_fld0 | with_reducible apply x_con0 | with_reducible apply x_pr0 | with_reducible apply x_sfld
  | with_reducible apply x_fn | with_reducible apply x_bm | with_reducible apply x_par | with_reducible apply x_rz | with_reducible apply x_retN | with_reducible apply x_un | with_reducible apply x_U)))
def tTurn (K : PySem.W.Frag) : TS := (tSeq (tPar 5 6 (tCons (tFn (sp_Lpick K) [] W0 (tCons (tVar 1) (tCons (tVar 2) tNil))) (tCons (tOp (rIx K) (tFn (sp_Ltags K) [] W0 (tCons (tVar 1) (tCons (tC (.int 1)) tNil))) (tC (.int 0))) tNil))) (tSeq (tAsg (tFn (sp_Lmade K) [] W0 (tCons (tVar 5) (tCons (tVar 6) tNil))) (gName 7)) (tSeq (tIfS (tOr (tNot (tB (tCB (rIsi K) (tCons (tVar 7) (tCons (tC (.ref (ga K "Leg"))) tNil))))) (tNot (tB (tFn (sp_Ltold_right K) [] W0 (tCons (tVar 5) (tCons (tVar 6) (tCons (tVar 7) tNil))))))) (tRet (tC (.bl false))) tNext) (tSeq (tDrop (tBM K "list" rAppend (tVar 3) (tCons (tTup (tCons (tVar 5) (tCons (tVar 6) (tCons (tVar 7) tNil)))) tNil))) (tSeq (tAsg (tLst (tCons (tC (.str "")) (tCons (tC (.str "A")) (tCons (tC (.str "a1")) (tCons (tC (.str "abcdefghi")) (tCons (tC (.str "ground")) (tCons (tC (.str "power")) (tCons (tC (.str "nothing")) (tCons (tC .non) (tCons (tC (.int 1)) (tCons (tC (.bl true)) tNil))))))))))) (gName 8)) (tSeq (tAsg (tFn (sp_Lpick K) [] W0 (tCons (tVar 1) (tCons (tOp (rAdd K) (tVar 8) (tLst (tCons (tTup (tCons (tC (.str "a")) tNil)) (tCons (tLst tNil) (tCons tDNewK tNil))))) tNil))) (gName 9)) (tIfS (tTest (tOp (rNeU K) (tLc (iList K (tVar 2)) (gName 10) tYes (tFn (sp_Lmade K) [] W0 (tCons (tVar 10) (tCons (tVar 9) tNil))) [10]) (tOp (rMul K) (tLst (tCons (tTup (tCons (tC (.str "name")) tNil)) tNil)) (tC (.int 3))))) (tRet (tC (.bl false))) tNext)))))))
def tPairB (K : PySem.W.Frag) : TS := (tSeq (tAsg (tAndV (tOp (rEqU K) (tVar 5) (tVar 11)) (tOp (rEqU K) (tVar 6) (tVar 12))) (gName 14)) (tIfS (tTest (tOp (rNeU K) (tCB (rRepr K) (tCons (tLst (tCons (tOp (rOwnEq K (a_Leg_eq K) (sp_Leg_eq K)) (tVar 7) (tVar 13)) (tCons (tOp (rOwnNe K (a_Leg_eq K) (sp_Leg_eq K)) (tVar 7) (tVar 13)) tNil))) tNil)) (tCB (rRepr K) (tCons (tLst (tCons (tVar 14) (tCons (tNotV (tVar 14)) tNil))) tNil)))) (tRet (tC (.bl false))) tNext))
def tOneB (K : PySem.W.Frag) : TS := (tSeq (tFor (iList K (tVar 3)) (gTup K 3 (gCons (gName 11) (gCons (gName 12) (gCons (gName 13) gNil)))) (tPairB K)) (tIfS (tTest (tOp (rNeU K) (tLc (iTup K (tTup (tCons (tVar 6) (tCons (tVar 5) (tCons (tC .non) (tCons (tCB (rOwn1 K "__str__" (a_Leg_str K) (sp_Leg_str K)) (tCons (tVar 7) tNil)) (tCons (tTup (tCons (tVar 7) tNil)) tNil))))))) (gName 10) (tTest (tOp (rOwnEq K (a_Leg_eq K) (sp_Leg_eq K)) (tVar 7) (tVar 10))) (tVar 10) [10]) (tLst tNil))) (tRet (tC (.bl false))) tNext))
def tLast (K : PySem.W.Frag) : TS := (tSeq (tIfS (tOr (tTest (tOp (rOwnNe K (a_Leg_eq K) (sp_Leg_eq K)) (tNw (ga K "Driver") (sp_Leg_init K) [] W0 (tCons (tC (.str "a")) tNil)) (tNwK (ga K "Driver") 0 1 (sp_Leg_init K) gkb_Leg_init_1_name W0 tNil (tCons (tC (.str "a")) tNil)))) (tTest (tOp (rOwnNe K (a_Leg_eq K) (sp_Leg_eq K)) (tNw (ga K "Listener") (sp_Leg_init K) [] W0 (tCons (tC (.str "b")) tNil)) (tNwK (ga K "Listener") 0 1 (sp_Leg_init K) gkb_Leg_init_1_name W0 tNil (tCons (tC (.str "b")) tNil))))) (tRet (tC (.bl false))) tNext) (tRet (tOp (rEqU K) (tLst (tCons (ClX.tCVal K (tC (.ref (ga K "Leg"))) "KIND") (tCons (ClX.tCVal K (tC (.ref (ga K "Driver"))) "KIND") (tCons (ClX.tCVal K (tC (.ref (ga K "Listener"))) "KIND") tNil)))) (tLst (tCons (tC (.str "leg")) (tCons (tC (.str "driver")) (tCons (tC (.str "listener")) tNil)))))))
section
variable {K : PySem.W.Frag} {mg : Str → Option Value} {vs : List V} {H : Hp} {Q : VK} {E : XK}
structure LI (K : PySem.W.Frag) (P : Pen) (kl rl : Addr) (H : Hp) (n : Nat) (rows : List Row) : Prop where
  hk : L2.del H P.p kl = some (.lst kindsV)
  hr : L2.del H P.p rl = some (.lst (rows.map fun r => .ref r.p))
  rs : ∀ r ∈ rows, RowOk K (L2.del H P.p) r
  pen : PenAt H P n
  nr : rl ≠ P.c
  nk : kl ≠ rl
theorem LI.step {P : Pen} {kl rl : Addr} {H2 : Hp} {n n2 : Nat} {rows : List Row} (h : LI K P kl rl H n rows) (s : Same (L2.del H P.p) (L2.del H2 P.p)) (hp : PenAt H2 P n2) : LI K P kl rl H2 n2 rows :=
  ⟨s _ _ h.hk, s _ _ h.hr, fun r hr => (h.rs r hr).same s, hp, h.nr, h.nk⟩
theorem LI.grow {P : Pen} {kl rl : Addr} {H2 : Hp} {n : Nat} {rows : List Row} (h : LI K P kl rl H n rows) (s : Same H H2) : LI K P kl rl H2 n rows := h.step (Same.del s) (h.pen.mono s (Nat.le_refl _))
theorem LI.add {P : Pen} {kl rl : Addr} {n : Nat} {rows : List Row} {r : Row} (h : LI K P kl rl H n rows) (hr : RowOk K (L2.del H P.p) r) : LI K P kl rl (upd H rl (.lst ((rows.map fun r => V.ref r.p) ++ [.ref r.p]))) n (rows ++ [r]) := by
  have np := del_some h.hr
  have s : ∀ b o, L2.del H P.p b = some o → b ≠ rl → L2.del (upd H rl (.lst ((rows.map fun r => V.ref r.p) ++ [.ref r.p]))) P.p b = some o := fun b o e n => by rw [del_upd_ne np, upd_ne n]; exact e
  have rk : ∀ r2, RowOk K (L2.del H P.p) r2 → RowOk K (L2.del (upd H rl (.lst ((rows.map fun r => V.ref r.p) ++ [.ref r.p]))) P.p) r2 := fun r2 q => by
    obtain ⟨q1, ⟨dx, q2⟩, q3⟩ := q
    exact ⟨s _ _ q1 (fun e => by rw [e, h.hr] at q1; cases q1), ⟨dx, s _ _ q2 (fun e => by rw [e, h.hr] at q2; cases q2)⟩, q3⟩
  refine ⟨s _ _ h.hk h.nk, ?_, fun r2 m => ?_, h.pen.upd ⟨np, h.nr⟩, h.nr, h.nk⟩
  · rw [del_upd_ne np, upd_same, List.map_append]; rfl
  · rcases List.mem_append.mp m with m | m
    · exact rk r2 (h.rs r2 m)
    · cases List.mem_singleton.mp m; exact rk r hr
theorem kinds_at {i : Nat} {v : V} (h : kindsV[i]? = some v) : ∃ k : Kd, v = .str k.txt := by
  unfold kindsV at h
  rw [List.getElem?_map] at h
  obtain ⟨k, _, rfl⟩ := Option.map_eq_some_iff.mp h
  exact ⟨k, rfl⟩
theorem turn_ok (T : Tx K mg) {P : Pen} {kl rl : Addr} {n : Nat} {rows : List Row} {D : Ends} {v0 v4 v5 v6 v7 v8 v9 v10 v11 v12 v13 v14 : Option V} (L : LI K P kl rl H n rows) (hn : n + 3 < 100000) (hl : rows.length ≤ 100)
    (k : ∀ H2 r v5 v6 v7 v8 v9, LI K P kl rl H2 (n + 3) (rows ++ [r]) → D.nx [v0, some (.ref P.p), some (.ref kl), some (.ref rl), v4, v5, v6, v7, v8, v9, v10, v11, v12, v13, v14] H2) :
    tTurn K D [v0, some (.ref P.p), some (.ref kl), some (.ref rl), v4, v5, v6, v7, v8, v9, v10, v11, v12, v13, v14] H := by
  unfold tTurn
  walk_at "gp"
  refine ⟨P, kl, n, kindsV, rfl, L.pen, by omega, .inl (SqL.of L.hk), (fun e => nomatch e), Nat.le_of_ble_eq_true rfl, fun H3 i v hv hp3 s3 => ?_⟩
  obtain ⟨kd, rfl⟩ := kinds_at hv
  have L3 := L.step s3 hp3
  walk_at "gp"
  refine ⟨P, 1, n + 1, rfl, hp3, by omega, Nat.le_of_ble_eq_true rfl, fun H4 l ts rest hl4 h4 hlen hperm hp4 s4 => ?_⟩
  have L4 := L3.step s4 hp4
  match ts, hlen with
  | [t], _ =>
  obtain ⟨hnm, ht8⟩ := pool_ok t (hperm.subset (List.mem_append_left _ (List.mem_singleton.mpr rfl)))
  walk_at "gp"
  refine x_ixL (SqL.of h4) rfl ?_
  walk_at "gp"
  refine ⟨_, _, rfl, ?_⟩
  walk_at "gp"
  refine ⟨kd, .str t, rfl, val_str (by omega), fun z e hz leg H5 hleg0 s5 hleg => ?_, fun e => (by rw [show nameV (.str t) = nameB t from rfl, hnm] at e; cases e)⟩
  cases e
  have L5 := L4.grow s5
  walk_at "gp"
  obtain ⟨dx, hleg1⟩ := hleg
  refine x_isi (.own _) ((T.inn kd).ty hleg1) (T.kleg kd) ?_
  walk_at "gp"
  refine ⟨leg, kd, t, rfl, ⟨dx, hleg1⟩, by omega, fun H6 s6 => ?_⟩
  have L6 := L5.grow s6
  have hleg6 := s6 _ _ hleg1
  walk_at "gp"
  refine ⟨.inl ⟨rfl, _, SqL.of (del_sub L6.hr)⟩, ?_⟩
  walk_at "gp"
  refine x_newT (Nat.le_of_ble_eq_true rfl) fun tp H7 htp s7 htp7 => ?_
  have L7 := L6.grow s7
  have nlp : leg ≠ P.p := (L6.pen.at).elim fun _ q => ne_obj hleg6 q (fun e => nomatch e)
  have ntp := (L6.pen.ne htp).1
  have hrow : RowOk K (L2.del H7 P.p) ⟨tp, kd, t, leg⟩ := ⟨by rw [del_ne ntp]; exact htp7, ⟨dx, by rw [del_ne nlp]; exact s7 _ _ hleg6⟩, ht8⟩
  have L8 := L7.add hrow
  walk_at "gp"
  refine ⟨rl, _, _, rfl, rfl, del_sub L7.hr, by rw [List.length_map]; exact Nat.lt_of_le_of_lt hl (by decide), ?_⟩
  generalize upd H7 rl (.lst ((rows.map fun r => V.ref r.p) ++ [.ref tp])) = H8 at L8
  walk_at "gp"
  refine x_newL (Nat.le_of_ble_eq_true rfl) fun q8 G1 h8 r1 b8 => ?_
  walk_at "gp"
  refine x_newT (Nat.le_of_ble_eq_true rfl) fun t1 G2 g1 r2 b1 => ?_
  walk_at "gp"
  refine x_newL (Nat.le_of_ble_eq_true rfl) fun t2 G3 g2 r3 b2 => ?_
  walk_at "gp"
  refine x_dnew fun t3 G4 g3 r4 b3 => ?_
  walk_at "gp"
  refine x_newL (Nat.le_of_ble_eq_true rfl) fun t4 G5 g4 r5 b4 => ?_
  walk_at "gp"
  refine x_catG (xs := oddV) (ys := [.ref t1, .ref t2, .ref t3]) (r5 _ _ (r4 _ _ (r3 _ _ (r2 _ _ b8)))) b4 (Nat.le_of_ble_eq_true rfl) fun q9 G6 g9 r6 b9 => ?_
  have sA := Same.trans r1 (Same.trans r2 (Same.trans r3 (Same.trans r4 r5)))
  have L9 := L8.grow (Same.trans sA r6)
  have nq9 : q9 ≠ P.p := ((L8.pen.mono sA (Nat.le_refl _)).ne g9).1
  have c1 := r6 _ _ (r5 _ _ (r4 _ _ (r3 _ _ b1)))
  have c2 := r6 _ _ (r5 _ _ (r4 _ _ b2))
  have c3 := r6 _ _ (r5 _ _ b3)
  have nt1 : t1 ≠ P.p := (L9.pen.at).elim fun _ q => ne_obj c1 q (fun e => nomatch e)
  have nt2 : t2 ≠ P.p := ((L8.pen.mono (Same.trans r1 r2) (Nat.le_refl _)).ne g2).1
  have nt3 : t3 ≠ P.p := (L9.pen.at).elim fun _ q => ne_obj c3 q (fun e => nomatch e)
  walk_at "gp"
  refine ⟨P, q9, n + 2, oddV ++ [.ref t1, .ref t2, .ref t3], rfl, L9.pen, by omega, .inl (SqL.of (by rw [del_ne nq9]; exact b9)), (fun e => nomatch e), Nat.le_of_ble_eq_true rfl, fun H10 i2 v hv2 hp10 s10 => ?_⟩
  have L10 := L9.step s10 hp10
  have hodd : Val0 K H10 v ∧ nameV v = false := by
    rcases List.mem_append.mp (List.mem_of_getElem? hv2) with m | m
    · exact odd_ok m
    · rcases List.mem_cons.mp m with rfl | m
      · exact ⟨⟨_, .base (.tup (del_sub (s10 _ _ (by rw [del_ne nt1]; exact c1)))), rfl, fun _ e => nomatch e⟩, rfl⟩
      · rcases List.mem_cons.mp m with rfl | m
        · exact ⟨⟨_, .base (.lst (del_sub (s10 _ _ (by rw [del_ne nt2]; exact c2)))), rfl, fun _ e => nomatch e⟩, rfl⟩
        · rcases List.mem_cons.mp m with rfl | m
          · exact ⟨⟨_, .base (.dK (del_sub (s10 _ _ (by rw [del_ne nt3]; exact c3)))), rfl, fun _ e => nomatch e⟩, rfl⟩
          · cases m
  walk_at "gp"
  refine x_lcL (xs := kindsV) (fun _ q => ⟨_, rfl, q⟩) (SqL.of (del_sub L10.hk)) (fun l i H2 => ∃ ps : List Addr, ps.length = i ∧ H2 l = some (.lst (ps.map V.ref)) ∧ (∀ p ∈ ps, H2 p = some (.tup [.str "name"])) ∧ Same H10 H2)
    (fun l hl => ⟨[], rfl, upd_same, (fun _ m => nomatch m), Same.upd (Same.refl _) hl⟩) (fun l i H2 hi hv => by obtain ⟨_, _, _, _, h⟩ := hv; exact Same.seq h (SqL.of (del_sub L10.hk))) (fun l i x H2 hl hx hv => ?_) (fun l H2 hl hv => ?_)
  · obtain ⟨ps, h1, h2, h3, h4⟩ := hv
    obtain ⟨k3, rfl⟩ := kinds_at hx
    have hi : i < 3 := (List.getElem?_eq_some_iff.mp hx).1
    refine ⟨rfl, ?_⟩
    walk_at "gp"
    refine ⟨k3, v, rfl, hodd.1.same h4, fun z e hz => ?_, fun _ b H3 hb s3 h5 => ?_⟩
    · have := hodd.2
      rw [e, show nameV (.str z) = nameB z from rfl, hz] at this
      cases this
    · have hbl : b ≠ l := Ne.symm (ne_some h2 hb)
      refine ⟨ps.map V.ref, s3 _ _ h2, by rw [List.length_map, h1]; exact Nat.lt_of_lt_of_le hi (by decide), ps ++ [b], by rw [List.length_append, h1]; rfl, by rw [upd_same, List.map_append]; rfl, fun p m => ?_, Same.mut (Same.trans h4 s3) hl⟩
      rcases List.mem_append.mp m with m | m
      · have hp := s3 _ _ (h3 p m)
        rw [upd_ne (ne_obj (h3 p m) h2 (fun e => nomatch e))]
        exact hp
      · cases List.mem_singleton.mp m
        rw [upd_ne hbl]
        exact h5
  · obtain ⟨ps, h1, h2, h3, h4⟩ := hv
    match ps, h1 with
    | [p1, p2, p3], _ =>
    walk_at "gp"
    refine x_newT (Nat.le_of_ble_eq_true rfl) fun u1 F1 e1 w1 d1 => ?_
    walk_at "gp"
    refine x_newL (Nat.le_of_ble_eq_true rfl) fun u2 F2 e2 w2 d2 => ?_
    walk_at "gp"
    refine x_repG d2 (by omega) (Nat.le_of_ble_eq_true rfl) fun u3 F3 e3 w3 d3 => ?_
    have wA := Same.trans w1 (Same.trans w2 w3)
    have nm : ∀ p, F3 p = some (.tup [.str "name"]) → Dp K F3 (.ref p) (.tuple [.str "name"]) := fun p e => .tup (SqT.of e) (.cons (.str _) .nil)
    have sh1 : Lay 1 (.tuple [.str "name"]) := .tup (lays_cons (.str (ok_str rfl)) lays_nil)
    have sh : SeqAt.shaped (.list [.tuple [.str "name"], .tuple [.str "name"], .tuple [.str "name"]]) = true := (Lay.lst (lays_cons sh1 (lays_cons sh1 (lays_cons sh1 lays_nil)))).sh (by omega)
    have du := nm u1 (w3 _ _ (w2 _ _ d1))
    refine x_neDD (.lst (SqL.of (wA _ _ h2)) (.cons (nm p1 (wA _ _ (h3 p1 (.head _)))) (.cons (nm p2 (wA _ _ (h3 p2 (.tail _ (.head _))))) (.cons (nm p3 (wA _ _ (h3 p3 (.tail _ (.tail _ (.head _)))))) .nil)))) (.lst (SqL.of d3) (.cons du (.cons du (.cons du .nil)))) sh sh ?_
    walk_at "gp"
    refine ite_e (c := true) (by rfl) (ite_t ?_)
    exact k F3 ⟨tp, kd, t, leg⟩ _ _ _ _ _ (L10.grow (Same.trans h4 wA))
end

end K02

namespace K02
open PySem PySem.Spec PyProof.Rows L2 He SJ
local macro_rules | `(tactic| walk_at "go") => `(tactic| (repeat (first
  | with_reducible apply x_seq | with_reducible apply x_asg | with_reducible apply x_ret | with_reducible apply x_if | with_reducible apply x_test | with_reducible apply x_B | with_reducible apply x_op | (with_reducible apply x_var rfl) | with_reducible apply x_c
  | with_reducible apply x_cb | with_reducible apply x_cons | with_reducible apply x_nil | with_reducible apply x_bl2 | with_reducible apply x_st2 | with_reducible apply ite_t | with_reducible apply ite_f | with_reducible apply ite_n | with_reducible apply x_and | with_reducible apply x_or | with_reducible apply x_not | with_reducible apply x_andV | with_reducible apply x_orV | with_reducible apply x_notV
  | with_reducible apply x_addI | with_reducible apply x_sub' | with_reducible apply x_eqI | with_reducible apply x_neI | with_reducible apply x_eqT | with_reducible apply x_neT | with_reducible apply x_ltI | with_reducible apply x_leI | with_reducible apply x_gtI | with_reducible apply x_geI
  | with_reducible apply x_intI | with_reducible apply x_intBl | with_reducible apply x_absI | with_reducible apply x_asgG | with_reducible apply x_sub | with_reducible apply x_lst | with_reducible apply x_tup | with_reducible apply x_next | with_reducible apply x_drop
  | with_reducible apply x_ife | with_reducible apply x_chain | with_reducible apply x_inSg | with_reducible apply x_yes | with_reducible apply x_sl | with_reducible apply x_noPart | with_reducible apply x_part | with_reducible apply x_in2 | with_reducible apply x_fs | with_reducible apply x_js | with_reducible apply x_js0 | with_reducible apply x_fmtE | with_reducible apply x_m0 | with_reducible apply x_fld0 | with_reducible apply x_con0 | with_reducible apply x_pr0 | with_reducible apply x_sfld
  | (with_reducible refine x_new ?_ ?_; · exact Nat.le_of_ble_eq_true rfl)
  | with_reducible apply x_fn | with_reducible apply x_nw | with_reducible apply x_bm | with_reducible apply x_par | with_reducible apply x_rz | with_reducible apply x_retN | with_reducible apply x_un | with_reducible apply x_U)))
local macro_rules | `(tactic| walk_at "gp") => `(tactic| (repeat (first
  | with_reducible apply x_seq | with_reducible apply x_asg | with_reducible apply x_ret | with_reducible apply x_if | with_reducible apply x_test | with_reducible apply x_B | with_reducible apply x_op | (with_reducible apply x_var rfl) | with_reducible apply x_c
  | with_reducible apply x_cb | with_reducible apply x_cons | with_reducible apply x_nil | with_reducible apply x_bl2 | with_reducible apply x_st2 | with_reducible apply ite_t | with_reducible apply ite_f | with_reducible apply ite_n | with_reducible apply x_and | with_reducible apply x_or | with_reducible apply x_not | with_reducible apply x_andV | with_reducible apply x_orV | with_reducible apply x_notV
  | with_reducible apply x_addI | with_reducible apply x_sub' | with_reducible apply x_eqI | with_reducible apply x_neI | with_reducible apply x_eqT | with_reducible apply x_neT | with_reducible apply x_ltI | with_reducible apply x_leI | with_reducible apply x_gtI | with_reducible apply x_geI
  | with_reducible apply x_intI | with_reducible apply x_intBl | with_reducible apply x_absI | with_reducible apply x_asgG | with_reducible apply x_sub | with_reducible apply x_lstG | with_reducible apply x_tupG | with_reducible apply x_next | with_reducible apply x_drop
  | with_reducible apply x_ife | with_reducible apply x_chain | with_reducible apply x_inSg | with_reducible apply x_yes | with_reducible apply x_sl | with_reducible apply x_noPart | with_reducible apply x_part | with_reducible apply x_in2 | with_reducible apply x_fs | with_reducible apply x_js | with_reducible apply x_js0 | with_reducible apply x_fmtE | with_reducible apply x_m0 | with_reducible apply x_fld0 | with_reducible apply x_con0 | with_reducible apply x_pr0 | with_reducible apply x_sfld
  | with_reducible apply x_fn | with_reducible apply x_bm | with_reducible apply x_par | with_reducible apply x_rz | with_reducible apply x_retN | with_reducible apply x_un | with_reducible apply x_U)))
section
variable {K : PySem.W.Frag} {mg : Str → Option Value} {vs : List V} {H : Hp} {Q : VK} {E : XK}
theorem x_reprBB {a : Addr} {b c : Bool} (h : H a = some (.lst [.bl b, .bl c])) (k : Q (.str (PyData.list [.bool b, .bool c]).shown) H) : rRepr K [.ref a] H Q :=
  ⟨_, .list [.bool b, .bool c], rfl, .lst (SqL.of h) (.cons (.bl b) (.cons (.bl c) .nil)), by cases b <;> cases c <;> rfl, by cases b <;> cases c <;> exact Nat.le_of_ble_eq_true rfl, by cases b <;> cases c <;> exact Nat.le_of_ble_eq_true rfl, k⟩
theorem pair_ok (T : Tx K mg) {D : Ends} {a b : Addr} {k k2 : Kd} {t t2 : Str} {v0 v1 v2 v3 v4 v8 v9 v10 v14 : Option V} (ha : LegAt K H a k t) (hb : LegAt K H b k2 t2)
    (q : ∀ v14 H2, Same H H2 → D.nx [v0, v1, v2, v3, v4, some (.str k.txt), some (.str t), some (.ref a), v8, v9, v10, some (.str k2.txt), some (.str t2), some (.ref b), v14] H2) :
    tPairB K D [v0, v1, v2, v3, v4, some (.str k.txt), some (.str t), some (.ref a), v8, v9, v10, some (.str k2.txt), some (.str t2), some (.ref b), v14] H := by
  unfold tPairB
  apply x_seq
  apply x_asg
  apply x_andV
  walk_at "gp"
  rw [txt_inj]
  have mid : ∀ c : Bool, c = (decide (k = k2) && decide (t = t2)) → (tIfS (tTest (tOp (rNeU K) (tCB (rRepr K) (tCons (tLst (tCons (tOp (rOwnEq K (a_Leg_eq K) (sp_Leg_eq K)) (tVar 7) (tVar 13)) (tCons (tOp (rOwnNe K (a_Leg_eq K) (sp_Leg_eq K)) (tVar 7) (tVar 13)) tNil))) tNil)) (tCB (rRepr K) (tCons (tLst (tCons (tVar 14) (tCons (tNotV (tVar 14)) tNil))) tNil)))) (tRet (tC (.bl false))) tNext) D
      [v0, v1, v2, v3, v4, some (.str k.txt), some (.str t), some (.ref a), v8, v9, v10, some (.str k2.txt), some (.str t2), some (.ref b), some (.bl c)] H := by
    intro c hc
    walk_at "gp"
    refine own_eq T ha hb ?_
    walk_at "gp"
    refine own_ne T ha hb ?_
    walk_at "gp"
    rw [← hc]
    refine x_newL (Nat.le_of_ble_eq_true rfl) fun p1 F1 e1 w1 d1 => ?_
    walk_at "gp"
    refine x_reprBB d1 ?_
    walk_at "gp"
    refine x_newL (Nat.le_of_ble_eq_true rfl) fun p2 F2 e2 w2 d2 => ?_
    walk_at "gp"
    refine x_reprBB d2 ?_
    walk_at "gp"
    refine ite_d rfl ?_
    exact q _ F2 (Same.trans w1 w2)
  cases e : decide (k = k2) with
  | true =>
    rw [e] at mid
    refine ite_t ?_
    apply x_op
    apply x_var rfl
    apply x_var rfl
    refine x_eqT ?_
    exact mid _ rfl
  | false =>
    rw [e] at mid
    refine ite_f ?_
    exact mid _ rfl
theorem one_ok (T : Tx K mg) {D : Ends} {r : Row} {rows : List Row} {rl : Addr} {v0 v1 v2 v4 v8 v9 v10 v11 v12 v13 v14 : Option V} (hr : RowOk K H r) (hl : H rl = some (.lst (rows.map fun r => .ref r.p))) (hrs : ∀ r ∈ rows, RowOk K H r)
    (q : ∀ v11 v12 v13 v14 H2, Same H H2 → D.nx [v0, v1, v2, some (.ref rl), v4, some (.str r.k.txt), some (.str r.t), some (.ref r.l), v8, v9, v10, v11, v12, v13, v14] H2) :
    tOneB K D [v0, v1, v2, some (.ref rl), v4, some (.str r.k.txt), some (.str r.t), some (.ref r.l), v8, v9, v10, v11, v12, v13, v14] H := by
  unfold tOneB
  walk_at "gp"
  refine x_forL (xs := rows.map fun r => .ref r.p) (fun _ q => ⟨_, rfl, q⟩) (SqL.of hl) (fun i s2 H2 => ∃ v11 v12 v13 v14, s2 = [v0, v1, v2, some (.ref rl), v4, some (.str r.k.txt), some (.str r.t), some (.ref r.l), v8, v9, v10, v11, v12, v13, v14] ∧ Same H H2)
    ⟨_, _, _, _, rfl, Same.refl _⟩ (fun i s2 H2 _ hv => by obtain ⟨_, _, _, _, _, s⟩ := hv; exact SqL.of (s _ _ hl)) (fun i x s2 H2 hx hv => ?_) (fun s2 H2 hv => ?_)
  · obtain ⟨w11, w12, w13, w14, rfl, s⟩ := hv
    rw [List.getElem?_map] at hx
    obtain ⟨r2, hr2, rfl⟩ := Option.map_eq_some_iff.mp hx
    have h2 := (hrs r2 (List.mem_of_getElem? hr2)).same s
    refine ⟨r2.p, _, rfl, SqT.of h2.1, rfl, _, _, rfl, _, _, rfl, _, _, rfl, rfl, ?_⟩
    exact pair_ok T (hr.same s).2.1 h2.2.1 fun v14 H3 s3 => ⟨_, _, _, _, rfl, Same.trans s s3⟩
  · obtain ⟨w11, w12, w13, w14, rfl, s⟩ := hv
    have hr2 := hr.same s
    walk_at "gp"
    refine x_lcT0 ?_
    walk_at "gp"
    obtain ⟨dx, hleg⟩ := hr2.2.1
    have h8 := hr2.2.2
    refine ⟨r.l, _, dx, _, rfl, hleg, T.strF r.k, r.l, r.k, r.t, rfl, ⟨dx, hleg⟩, by omega, _, rfl, ?_⟩
    walk_at "gp"
    refine x_newT (Nat.le_of_ble_eq_true rfl) fun t1 F1 e1 w1 d1 => ?_
    walk_at "gp"
    refine x_newT (Nat.le_of_ble_eq_true rfl) fun t2 F2 e2 w2 d2 => ?_
    have hr3 := hr2.same (Same.trans w1 w2)
    refine x_lcT1 (SqT.of d2) (fun l i H3 => H3 l = some (.lst []) ∧ Same F2 H3) (fun l hl => ⟨upd_same, Same.upd (Same.refl _) hl⟩) (fun l i H3 _ hv => SqT.of (hv.2 _ _ d2)) (fun l i x H3 hl hx hv => ?_) (fun l H3 hl hv => ?_)
    · refine ⟨rfl, ?_⟩
      walk_at "gp"
      have ty : ∃ u, TyX K H3 x u ∧ PySem.W.kitOne K u (.ref (ga K "Leg")) = some false ∧ PySem.W.notFirst K (r.k.cls K) u = true := by
        have m := List.mem_of_getElem? hx
        rcases List.mem_cons.mp m with rfl | m
        · exact ⟨_, .base (.str _), T.kity_str, T.nfs r.k⟩
        rcases List.mem_cons.mp m with rfl | m
        · exact ⟨_, .base (.str _), T.kity_str, T.nfs r.k⟩
        rcases List.mem_cons.mp m with rfl | m
        · exact ⟨_, .base .non, T.kity_NoneType, T.nfn r.k⟩
        rcases List.mem_cons.mp m with rfl | m
        · exact ⟨_, .base (.str _), T.kity_str, T.nfs r.k⟩
        rcases List.mem_cons.mp m with rfl | m
        · exact ⟨_, .base (.tup (hv.2 _ _ (w2 _ _ d1))), T.kity_tuple, T.nft r.k⟩
        cases m
      obtain ⟨u, u1, u2, u3⟩ := ty
      refine own_eq_no T ((hr3.2.1).same hv.2) u1 u2 u3 ?_
      walk_at "gp"
      exact hv
    · walk_at "gp"
      refine x_newL (Nat.le_of_ble_eq_true rfl) fun p3 F3 e3 w3 d3 => ?_
      refine x_neNil (ds := []) (SqL.of (w3 _ _ hv.1)) .nil (Lay.lst (n := 63) lays_nil) d3 ?_
      walk_at "gp"
      refine ite_d rfl ?_
      exact q _ _ _ _ F3 (Same.trans s (Same.trans w1 (Same.trans w2 (Same.trans hv.2 w3))))
end

end K02

namespace K02
open PySem PySem.Spec PyProof.Rows L2 He SJ
local macro_rules | `(tactic| walk_at "go") => `(tactic| (repeat (first
  | with_reducible apply x_seq | with_reducible apply x_asg | with_reducible apply x_ret | with_reducible apply x_if | with_reducible apply x_test | with_reducible apply x_B | with_reducible apply x_op | (with_reducible apply x_var rfl) | with_reducible apply x_c
  | with_reducible apply x_cb | with_reducible apply x_cons | with_reducible apply x_nil | with_reducible apply x_bl2 | with_reducible apply x_st2 | with_reducible apply ite_t | with_reducible apply ite_f | with_reducible apply ite_n | with_reducible apply x_and | with_reducible apply x_or | with_reducible apply x_not | with_reducible apply x_andV | with_reducible apply x_orV | with_reducible apply x_notV
  | with_reducible apply x_addI | with_reducible apply x_sub' | with_reducible apply x_eqI | with_reducible apply x_neI | with_reducible apply x_eqT | with_reducible apply x_neT | with_reducible apply x_ltI | with_reducible apply x_leI | with_reducible apply x_gtI | with_reducible apply x_geI
  | with_reducible apply x_intI | with_reducible apply x_intBl | with_reducible apply x_absI | with_reducible apply x_asgG | with_reducible apply x_sub | with_reducible apply x_lst | with_reducible apply x_tup | with_reducible apply x_next | with_reducible apply x_drop
  | with_reducible apply x_ife | with_reducible apply x_chain | with_reducible apply x_inSg | with_reducible apply x_yes | with_reducible apply x_sl | with_reducible apply x_noPart | with_reducible apply x_part | with_reducible apply x_in2 | with_reducible apply x_fs | with_reducible apply x_js | with_reducible apply x_js0 | with_reducible apply x_fmtE | with_reducible apply x_m0 | with_reducible apply x_fld0 | with_reducible apply x_con0 | with_reducible apply x_pr0 | with_reducible apply x_sfld
  | (with_reducible refine x_new ?_ ?_; · exact Nat.le_of_ble_eq_true rfl)
  | with_reducible apply x_fn | with_reducible apply x_nw | with_reducible apply x_bm | with_reducible apply x_par | with_reducible apply x_rz | with_reducible apply x_retN | with_reducible apply x_un | with_reducible apply x_U)))
local macro_rules | `(tactic| walk_at "gp") => `(tactic| (repeat (first
  | with_reducible apply x_seq | with_reducible apply x_asg | with_reducible apply x_ret | with_reducible apply x_if | with_reducible apply x_test | with_reducible apply x_B | with_reducible apply x_op | (with_reducible apply x_var rfl) | with_reducible apply x_c
  | with_reducible apply x_cb | with_reducible apply x_cons | with_reducible apply x_nil | with_reducible apply x_bl2 | with_reducible apply x_st2 | with_reducible apply ite_t | with_reducible apply ite_f | with_reducible apply ite_n | with_reducible apply x_and | with_reducible apply x_or | with_reducible apply x_not | with_reducible apply x_andV | with_reducible apply x_orV | with_reducible apply x_notV
  | with_reducible apply x_addI | with_reducible apply x_sub' | with_reducible apply x_eqI | with_reducible apply x_neI | with_reducible apply x_eqT | with_reducible apply x_neT | with_reducible apply x_ltI | with_reducible apply x_leI | with_reducible apply x_gtI | with_reducible apply x_geI
  | with_reducible apply x_intI | with_reducible apply x_intBl | with_reducible apply x_absI | with_reducible apply x_asgG | with_reducible apply x_sub | with_reducible apply x_lstG | with_reducible apply x_tupG | with_reducible apply x_next | with_reducible apply x_drop
  | with_reducible apply x_ife | with_reducible apply x_chain | with_reducible apply x_inSg | with_reducible apply x_yes | with_reducible apply x_sl | with_reducible apply x_noPart | with_reducible apply x_part | with_reducible apply x_in2 | with_reducible apply x_fs | with_reducible apply x_js | with_reducible apply x_js0 | with_reducible apply x_fmtE | with_reducible apply x_m0 | with_reducible apply x_fld0 | with_reducible apply x_con0 | with_reducible apply x_pr0 | with_reducible apply x_sfld
  | with_reducible apply x_fn | with_reducible apply x_bm | with_reducible apply x_par | with_reducible apply x_rz | with_reducible apply x_retN | with_reducible apply x_un | with_reducible apply x_U)))
section
variable {K : PySem.W.Frag} {mg : Str → Option Value} {vs : List V} {H : Hp} {Q : VK} {E : XK}
theorem leg_tNw {σ : L2.St} {k : Kd} {z : Str} (hz : nameB z = true) (hl : z.length ≤ 1000) (q : ∀ a H2, H a = none → Same H H2 → LegAt K H2 a k z → Q (.ref a) H2) : tNw (k.cls K) (sp_Leg_init K) [] W0 (tCons (tC (.str z)) tNil) σ H Q := by
  refine x_nw ?_
  walk_at "gp"
  exact leg_new (val_str hl) (fun z2 e _ a H2 ha s hl => by cases e; exact q a H2 ha s hl) fun e => by rw [show nameV (.str z) = nameB z from rfl, hz] at e; cases e
theorem leg_tNwK {σ : L2.St} {k : Kd} {z : Str} (hz : nameB z = true) (hl : z.length ≤ 1000) (q : ∀ a H2, H a = none → Same H H2 → LegAt K H2 a k z → Q (.ref a) H2) : tNwK (k.cls K) 0 1 (sp_Leg_init K) gkb_Leg_init_1_name W0 tNil (tCons (tC (.str z)) tNil) σ H Q := by
  refine x_nwK ?_
  walk_at "gp"
  exact ⟨rfl, rfl, leg_new (val_str hl) (fun z2 e _ a H2 ha s hl => by cases e; exact q a H2 ha s hl) fun e => by rw [show nameV (.str z) = nameB z from rfl, hz] at e; cases e⟩
theorem last_ok (T : Tx K mg) {D : Ends} {σ : L2.St} (q : ∀ H2, D.rt (.bl true) H2) : tLast K D σ H := by
  unfold tLast
  walk_at "gp"
  refine leg_tNw (k := .drv) (z := "a") rfl (Nat.le_of_ble_eq_true rfl) fun a1 H1 n1 s1 l1 => ?_
  refine leg_tNwK (k := .drv) (z := "a") rfl (Nat.le_of_ble_eq_true rfl) fun a2 H2 n2 s2 l2 => ?_
  refine own_ne T (l1.same s2) l2 ?_
  walk_at "gp"
  refine ite_e (c := true) (by rfl) (ite_t ?_)
  walk_at "gp"
  refine leg_tNw (k := .lis) (z := "b") rfl (Nat.le_of_ble_eq_true rfl) fun a3 H3 n3 s3 l3 => ?_
  refine leg_tNwK (k := .lis) (z := "b") rfl (Nat.le_of_ble_eq_true rfl) fun a4 H4 n4 s4 l4 => ?_
  refine own_ne T (l3.same s4) l4 ?_
  walk_at "gp"
  refine ite_e (c := true) (by rfl) (ite_t ?_)
  walk_at "gp"
  obtain ⟨m1, u1, c1, d1⟩ := T.cv_Leg
  obtain ⟨m2, u2, c2, d2⟩ := T.cv_Driver
  obtain ⟨m3, u3, c3, d3⟩ := T.cv_Listener
  refine ⟨_, _, _, _, rfl, c1, d1, ?_⟩
  walk_at "gp"
  refine ⟨_, _, _, _, rfl, c2, d2, ?_⟩
  walk_at "gp"
  refine ⟨_, _, _, _, rfl, c3, d3, ?_⟩
  walk_at "gp"
  refine x_newL (Nat.le_of_ble_eq_true rfl) fun p1 F1 e1 w1 f1 => ?_
  walk_at "gp"
  refine x_newL (Nat.le_of_ble_eq_true rfl) fun p2 F2 e2 w2 f2 => ?_
  have sh : SeqAt.shaped (.list [.str "leg", .str "driver", .str "listener"]) = true := (Lay.lst (n := 0) (lays_cons (.str (ok_str rfl)) (lays_cons (.str (ok_str rfl)) (lays_cons (.str (ok_str rfl)) lays_nil)))).sh (by omega)
  refine x_eqDD (.lst (SqL.of (w2 _ _ f1)) (.cons (.str _) (.cons (.str _) (.cons (.str _) .nil)))) (.lst (SqL.of f2) (.cons (.str _) (.cons (.str _) (.cons (.str _) .nil)))) sh sh ?_
  have e : PyData.eqv (.list [.str "leg", .str "driver", .str "listener"]) (.list [.str "leg", .str "driver", .str "listener"]) = true := by rfl
  rw [e]
  exact q F2
theorem len_law (h : sp_law K vs H Q E) : vs.length = 1 := by obtain ⟨a, ns, rfl, _⟩ := h; rfl
theorem pure_law (T : Tx K mg) (h : sp_law K vs H Q E) : t_law K { nx := fun _ H2 => Q .non H2, rt := Q } (start ["_law_script", "_law_pen_here", "_law_kinds_so", "_law_rows", "_law_turn", "_law_kind", "_law_tag", "_law_leg", "_law_some", "_law_odd", "_law_one", "_law_sort", "_law_label", "_law_other", "_law_is_alike"] vs) H := by
  obtain ⟨a, ns, rfl, ha, hns, q⟩ := h
  show (tSeq (tAsg (tFn (sp_Lpen K) [] W0 (tCons (tVar 0) tNil)) (gName 1)) (tSeq (tPar 2 3 (tCons (tLst (tCons (tC (.str "driver")) (tCons (tC (.str "listener")) (tCons (tC (.str "leg")) tNil)))) (tCons (tLst tNil) tNil))) (tSeq (tFor (iRng1 (tCons (tC (.int 6)) tNil)) (gName 4) (tTurn K)) (tSeq (tFor (iList K (tVar 3)) (gTup K 3 (gCons (gName 5) (gCons (gName 6) (gCons (gName 7) gNil)))) (tOneB K)) (tLast K))))) _ _ _
  walk_at "gp"
  refine ⟨a, ns, rfl, ha, hns, fun P H1 hp s1 pen => ?_⟩
  walk_at "gp"
  refine x_newL (Nat.le_of_ble_eq_true rfl) fun kl H2 nk s2 hk => ?_
  walk_at "gp"
  refine x_newL (Nat.le_of_ble_eq_true rfl) fun rl H3 nr s3 hr => ?_
  walk_at "gp"
  refine ⟨_, _, rfl, ?_⟩
  walk_at "gp"
  have L : LI K P kl rl H3 0 [] := by
    have pk := pen.ne nk
    have pr := (pen.mono s2 (Nat.le_refl _)).ne nr
    exact ⟨by rw [del_ne pk.1]; exact s3 _ _ hk, by rw [del_ne pr.1]; exact hr, (fun r m => nomatch m), pen.mono (Same.trans s2 s3) (Nat.le_refl _), pr.2, ne_some hk nr⟩
  refine x_forR (by omega) (fun i s2 H2 => ∃ rows v4 v5 v6 v7 v8 v9 v10, s2 = [some (.ref a), some (.ref P.p), some (.ref kl), some (.ref rl), v4, v5, v6, v7, v8, v9, v10, none, none, none, none] ∧ rows.length = i ∧ LI K P kl rl H2 (3 * i) rows) ⟨[], _, _, _, _, _, _, _, rfl, rfl, L⟩ (fun i s4 H4 hi hv => ?_) (fun s4 H4 hv => ?_)
  · obtain ⟨rows, v4, v5, v6, v7, v8, v9, v10, rfl, hlen, L4⟩ := hv
    refine turn_ok T L4 (by omega) (by omega) fun H5 r w5 w6 w7 w8 w9 L5 => ?_
    exact ⟨rows ++ [r], _, _, _, _, _, _, _, rfl, by rw [List.length_append, hlen]; rfl, L5⟩
  · obtain ⟨rows, v4, v5, v6, v7, v8, v9, v10, rfl, hlen, L4⟩ := hv
    have hr4 := del_sub L4.hr
    have rs4 : ∀ r ∈ rows, RowOk K H4 r := fun r m => (L4.rs r m).same del_le
    walk_at "gp"
    refine x_forL (xs := rows.map fun r => .ref r.p) (fun _ q => ⟨_, rfl, q⟩) (SqL.of hr4) (fun i s2 H2 => ∃ v5 v6 v7 v11 v12 v13 v14, s2 = [some (.ref a), some (.ref P.p), some (.ref kl), some (.ref rl), v4, v5, v6, v7, v8, v9, v10, v11, v12, v13, v14] ∧ Same H4 H2)
      ⟨_, _, _, _, _, _, _, rfl, Same.refl _⟩ (fun i s2 H2 _ hv => by obtain ⟨_, _, _, _, _, _, _, _, s⟩ := hv; exact SqL.of (s _ _ hr4)) (fun i x s2 H2 hx hv => ?_) (fun s2 H2 hv => ?_)
    · obtain ⟨w5, w6, w7, w11, w12, w13, w14, rfl, s⟩ := hv
      rw [List.getElem?_map] at hx
      obtain ⟨r2, hr2, rfl⟩ := Option.map_eq_some_iff.mp hx
      have h2 := (rs4 r2 (List.mem_of_getElem? hr2)).same s
      refine ⟨r2.p, _, rfl, SqT.of h2.1, rfl, _, _, rfl, _, _, rfl, _, _, rfl, rfl, ?_⟩
      exact one_ok T h2 (s _ _ hr4) (fun r m => (rs4 r m).same s) fun _ _ _ _ H5 s5 => ⟨_, _, _, _, _, _, _, rfl, Same.trans s s5⟩
    · exact last_ok T fun H5 => q H5
end

end K02

namespace K02
open PySem PySem.Spec PyProof.Rows L2 He SJ
section
variable {P : Program} {w : World} {K : PySem.W.Frag} {mg : Str → Option Value} {base : Heap}
theorem sf_InvalidFrame_init (T : Tx K mg) (hP : P = PySem.Challenge.pw_strayjoins_k02_legs) : SupFn K P ["self", "reason"] ["self", "reason"] "InvalidFrame.__init__" (defArgs s_InvalidFrame_init) (defBody s_InvalidFrame_init) (defScope s_InvalidFrame_init) (a_InvalidFrame_init K) (ccA K (a_InvalidFrame_init K)) (cdaA K (a_InvalidFrame_init K)) (ga K "InvalidFrame") := by
  subst hP
  obtain ⟨e1, e2, e3, e4⟩ := XD.facts T.e_InvalidFrame_init.1 T.e_InvalidFrame_init.2
  exact ⟨e1, e2, e3, e4, by decide +kernel, rfl, rfl, rfl, by decide +kernel, rfl, by decide +kernel, by decide +kernel, fun x h => nofree_of (by decide +kernel) h, by decide +kernel, by decide +kernel, ⟨_, rfl, rfl⟩⟩
theorem ok_InvalidFrame_init (T : Tx K mg) (hP : P = PySem.Challenge.pw_strayjoins_k02_legs) : ∃ fd, Fk P w K mg base 1 (a_InvalidFrame_init K) fd ["self", "reason"] (spX (ga K "InvalidFrame") ["reason"]) ∧ Binds K fd ["self", "reason"] [] := by
  obtain ⟨fd, ⟨kV, doc, pm, an, ct, rfl⟩, F⟩ := fk_sup (k := 0) (sp := spX (ga K "InvalidFrame") ["reason"]) (ta := (tCons (tVar 1) tNil)) (tr := (tSt K "ValueError.__new__" [.type "ValueError", .type "Exception", .type "BaseException", .type "object"] "reason" (tVar 0) (tVar 1))) (sf_InvalidFrame_init T hP) exb_value T.x_InvalidFrame.g rfl T.x_InvalidFrame.sup T.x_InvalidFrame.sB T.x_InvalidFrame.stat T.x_InvalidFrame.mro T.f_super
    (fun vs H Q E h => spX_len h) (fun A outer s H => (pa_cons (pv 1) pa_nil)) (fun A outer s H => (pss_one (ps_xst exb_value.sf (pv 0) (pv 1)))) (fun vs H Q E h => spX_1 T.x_InvalidFrame.g (T.x_InvalidFrame.nof _ (by decide)) h)
  exact ⟨_, F, .all fun us hl => match us, hl with | [_, _], _ => rfl⟩
theorem ok_is_name {fd : FuncData} (T : Tx K mg) (F : Fn_is_name K fd) : Fk P w K mg base 1 (a_is_name K) fd ["value"] (sp_is_name K) := by
  refine fk_of F sc_is_name (fun vs H Q E h => len_is_name h) (fun cdv A outer s H vs Q E hr h => ⟨t_is_name K, ?_, pure_is_name T h⟩)
  exact (pss_cons (ps_if (PW.pt (pw_or (pt_not (pt_val (pe_callB c_isi rfl T.f_isinstance (by decide +kernel) (pa_cons (pv 0) (pa_cons (pe_bltn (v := .ty "str") rfl T.f_str (by decide +kernel) rfl) pa_nil))))) (pw_or1 (pt_not (pt_chain o_le o_le pe_int (pe_callB c_len rfl T.f_len (by decide +kernel) (pa_cons (pv 0) pa_nil)) (pe_glob rfl T.g_MOST_LETTERS.choose_spec ⟨_, rfl⟩)))))) (pss_one (ps_ret pe_bl)) pss_nil) (pss_one (ps_ret (pe_and (pe_callB (c_all rfl) rfl T.f_all (by decide +kernel) (pa_cons (pe_lc (own := [("letter", 1)]) rfl sc_is_name.nd (pi_str (pv 0)) (blkOk_by (own := [("letter", 1)]) (N := ["value", "letter"]) (sc := defScope s_is_name) (by decide +kernel)) (fun _ _ _ _ _ => (pg_name (i := 1) sc_is_name.nd rfl (by first | exact Or.inl rfl | exact Or.inr rfl))) (fun _ _ _ _ _ => pts_nil) (fun _ _ _ _ _ => (pe_cmpR op_inS (pv 1) (pe_glob rfl T.g_LETTERS.choose_spec ⟨_, rfl⟩) rfl))) pa_nil)) (pe_one (pe_cmpR o_nin (pv 0) (pe_tup (pa_cons (pe_glob rfl T.g_GROUND.choose_spec ⟨_, rfl⟩) (pa_cons (pe_glob rfl T.g_POWER.choose_spec ⟨_, rfl⟩) (pa_cons (pe_glob rfl T.g_NOTHING.choose_spec ⟨_, rfl⟩) pa_nil)))) rfl))))))
theorem ok_Leg_init {fd : FuncData} (T : Tx K mg) (F : Fn_Leg_init K fd) (hP : P = PySem.Challenge.pw_strayjoins_k02_legs) : Fk P w K mg base 3 (a_Leg_init K) fd ["self", "name"] (sp_Leg_init K) := by
  obtain ⟨fd_is_name, F_is_name⟩ := T.d_is_name
  have G_is_name := ok_is_name (P := P) (w := w) (base := base) T F_is_name
  have b_is_name := F_is_name.bindsN (ps := ["value"]) fun _ _ _ _ _ _ us hl => match us, hl with | [_], _ => rfl
  obtain ⟨fd_InvalidFrame_init, G_InvalidFrame_init, b_InvalidFrame_init⟩ := ok_InvalidFrame_init (P := P) (w := w) (base := base) T hP
  refine fk_of F sc_Leg_init (fun vs H Q E h => len_Leg_init h) (fun cdv A outer s H vs Q E hr h => ⟨t_Leg_init K E, ?_, pure_Leg_init T h⟩)
  exact (pss_cons (ps_if (pt_not (pt_val (pe_fn G_is_name (hr.mono (by decide)) rfl T.g_is_name F_is_name.kp b_is_name .nil (takes_of rfl rfl rfl rfl) (pa_cons (pv 1) pa_nil)))) (pss_one (ps_raise rfl (takes_of rfl rfl rfl rfl) (pmk_x exb_value T.x_InvalidFrame.g T.x_InvalidFrame.iC T.x_InvalidFrame.tI G_InvalidFrame_init (hr.mono (by decide)) b_InvalidFrame_init (by decide) rfl T.g_InvalidFrame (pa_cons pe_str pa_nil)))) pss_nil) (pss_one (ps_fld (pv 0) (pv 1) rfl)))
theorem ok_Leg_drives {fd : FuncData} (T : Tx K mg) (F : Fn_Leg_drives K fd) : Fk P w K mg base 1 (a_Leg_drives K) fd ["self"] (sp_Leg_drives K) := by
  refine fk_of F sc_Leg_drives (fun vs H Q E h => len_Leg_drives h) (fun cdv A outer s H vs Q E hr h => ⟨t_Leg_drives K, ?_, pure_Leg_drives T h⟩)
  exact (pss_one (ps_ret (pe_cmpR (o_eq hr.units) (pe_con (pv 0) rfl) pe_str (nomark _))))
theorem ok_Leg_eq {fd : FuncData} (T : Tx K mg) (F : Fn_Leg_eq K fd) : Fk P w K mg base 1 (a_Leg_eq K) fd ["self", "other"] (sp_Leg_eq K) := by
  refine fk_of F sc_Leg_eq (fun vs H Q E h => len_Leg_eq h) (fun cdv A outer s H vs Q E hr h => ⟨t_Leg_eq K, ?_, pure_Leg_eq T h⟩)
  exact (pss_one (ps_ret (pe_and (pe_callB c_isi rfl T.f_isinstance (by decide +kernel) (pa_cons (pv 1) (pa_cons (pe_glob rfl T.g_Leg rfl) pa_nil))) (pe_and (pe_cmpR (o_eq hr.units) (pe_con (pv 0) rfl) (pe_con (pv 1) rfl) (nomark _)) (pe_one (pe_cmpR (o_eq hr.units) (pe_fld (pv 0) rfl) (pe_fld (pv 1) rfl) (nomark _)))))))
theorem ok_Leg_str {fd : FuncData} (T : Tx K mg) (F : Fn_Leg_str K fd) : Fk P w K mg base 1 (a_Leg_str K) fd ["self"] (sp_Leg_str K) := by
  refine fk_of F sc_Leg_str (fun vs H Q E h => len_Leg_str h) (fun cdv A outer s H vs Q E hr h => ⟨t_Leg_str K, ?_, pure_Leg_str T h⟩)
  exact (pss_one (ps_ret (pe_joined (.cons (pe_fmt (pe_con (pv 0) rfl)) (.cons pe_str (.cons (pe_fmt (pe_fld (pv 0) rfl)) .nil))))))
theorem ok_Leg_repr {fd : FuncData} (T : Tx K mg) (F : Fn_Leg_repr K fd) : Fk P w K mg base 1 (a_Leg_repr K) fd ["self"] (sp_Leg_repr K) := by
  refine fk_of F sc_Leg_repr (fun vs H Q E h => len_Leg_repr h) (fun cdv A outer s H vs Q E hr h => ⟨t_Leg_repr K, ?_, pure_Leg_repr T h⟩)
  exact (pss_one (ps_ret (pe_joined (.cons (pe_fmt (pe_m0 PySem.F.slot_str_capitalize PySem.F.type_str_capitalize mt_cap (pe_con (pv 0) rfl))) (.cons pe_str (.cons (pe_fmt (pe_fld (pv 0) rfl)) (.cons pe_str .nil)))))))
theorem ok_Lpen {fd : FuncData} (T : Tx K mg) (F : Fn_Lpen K fd) : Fk P w K mg base 1 (a_Lpen K) fd ["_law_script"] (sp_Lpen K) := by
  refine fk_of F sc_Lpen (fun vs H Q E h => len_Lpen h) (fun cdv A outer s H vs Q E hr h => ⟨t_Lpen K, ?_, pure_Lpen T h⟩)
  exact (pss_one (ps_ret (pe_lst (pa_cons (pe_callTy c_list rfl T.f_list (by decide +kernel) (pa_cons (pe_slice sl_u (pv 0) po_none (po_some pe_int)) pa_nil)) (pa_cons pe_int (pa_cons pe_int pa_nil))))))
theorem ok_Ldraw {fd : FuncData} (T : Tx K mg) (F : Fn_Ldraw K fd) : Fk P w K mg base 1 (a_Ldraw K) fd ["_law_pen_here", "_law_many"] (sp_Ldraw K) := by
  refine fk_of F sc_Ldraw (fun vs H Q E h => len_Ldraw h) (fun cdv A outer s H vs Q E hr h => ⟨t_Ldraw K, ?_, pure_Ldraw T h⟩)
  exact (pss_cons (ps_if (pt_cmpR o_gt (pe_ix ix_seq (pv 0) pe_int (fun _ _ => rfl)) pe_int (nomark _)) (pss_cons (ps_set (i := 2) sc_Ldraw.nd rfl (by first | exact Or.inl rfl | exact Or.inr rfl) (pe_op o_mod (pe_callTy c_int rfl T.f_int (by decide +kernel) (pa_cons (pe_ix ix_seq (pv 0) pe_int (fun _ _ => rfl)) pa_nil)) (pv 1))) (pss_cons (ps_asg (pe_op o_fdv (pe_callTy c_int rfl T.f_int (by decide +kernel) (pa_cons (pe_ix ix_seq (pv 0) pe_int (fun _ _ => rfl)) pa_nil)) (pv 1)) (pg_sub (pv 0) pe_int set_list)) (pss_one (ps_ret (pv 2))))) pss_nil) (pss_cons (ps_set (i := 3) sc_Ldraw.nd rfl (by first | exact Or.inl rfl | exact Or.inr rfl) (pe_ix ix_seq (pv 0) pe_int (fun _ _ => rfl))) (pss_cons (ps_asg (pe_op o_add (pv 3) pe_int) (pg_sub (pv 0) pe_int set_list)) (pss_cons (ps_set (i := 4) sc_Ldraw.nd rfl (by first | exact Or.inl rfl | exact Or.inr rfl) (pe_op o_add (pe_op o_mul pe_int (pv 3)) pe_int)) (pss_cons (ps_if (pt_cmpR (o_ne hr.units) (pe_ix ix_seq (pv 0) pe_int (fun _ _ => rfl)) (pe_lst pa_nil) (nomark _)) (pss_one (ps_set (i := 4) sc_Ldraw.nd rfl (by first | exact Or.inl rfl | exact Or.inr rfl) (pe_ix ix_seq (pe_ix ix_seq (pv 0) pe_int (fun _ _ => rfl)) (pe_op o_mod (pe_callTy c_int rfl T.f_int (by decide +kernel) (pa_cons (pv 3) pa_nil)) (pe_callB c_len rfl T.f_len (by decide +kernel) (pa_cons (pe_ix ix_seq (pv 0) pe_int (fun _ _ => rfl)) pa_nil))) (fun _ _ => rfl)))) pss_nil) (pss_cons (ps_if (PW.pt (pw_and (pt_cmpR o_lt (pv 3) (pe_callB c_len rfl T.f_len (by decide +kernel) (pa_cons (pe_ix ix_seq (pv 0) pe_int (fun _ _ => rfl)) pa_nil)) (nomark _)) (pw_and1 (pt_cmpR o_ge (pe_callB c_abs rfl T.f_abs (by decide +kernel) (pa_cons (pv 4) pa_nil)) (pe_op o_pow pe_int pe_int) (nomark _))))) (pss_cons (ps_set (i := 5) sc_Ldraw.nd rfl (by first | exact Or.inl rfl | exact Or.inr rfl) (pe_op o_add (pe_op o_mul pe_int (pe_callB c_abs rfl T.f_abs (by decide +kernel) (pa_cons (pv 4) pa_nil))) (pe_callTy c_int rfl T.f_int (by decide +kernel) (pa_cons (pe_cmpR o_lt (pv 4) pe_int (nomark _)) pa_nil)))) (pss_cons (ps_asg (pe_op o_fdv (pe_callTy c_int rfl T.f_int (by decide +kernel) (pa_cons (pv 5) pa_nil)) (pv 1)) (pg_sub (pv 0) pe_int set_list)) (pss_one (ps_ret (pe_op o_mod (pe_callTy c_int rfl T.f_int (by decide +kernel) (pa_cons (pv 5) pa_nil)) (pv 1)))))) pss_nil) (pss_cons (ps_set (i := 6) sc_Ldraw.nd rfl (by first | exact Or.inl rfl | exact Or.inr rfl) (pe_op o_mod (pe_op o_pow (pe_callTy c_int rfl T.f_int (by decide +kernel) (pa_cons (pe_op o_add (pe_op o_add (pe_op o_mod (pe_callTy c_int rfl T.f_int (by decide +kernel) (pa_cons (pv 4) pa_nil)) pe_int) (pe_op o_mul pe_int (pv 3))) pe_int) pa_nil)) pe_int) pe_int)) (pss_cons (ps_set (i := 6) sc_Ldraw.nd rfl (by first | exact Or.inl rfl | exact Or.inr rfl) (pe_op o_mod (pe_op o_pow (pe_callTy c_int rfl T.f_int (by decide +kernel) (pa_cons (pe_op o_add (pe_op o_add (pe_op o_mul (pv 6) (pe_op o_add (pe_op o_mul pe_int (pv 3)) pe_int)) (pe_op o_mul (pe_op o_mul pe_int (pv 3)) (pv 3))) pe_int) pa_nil)) pe_int) pe_int)) (pss_one (ps_ret (pe_op o_mod (pe_callTy c_int rfl T.f_int (by decide +kernel) (pa_cons (pe_op o_fdv (pv 6) pe_int) pa_nil)) (pv 1))))))))))))
theorem ok_Lpick {fd : FuncData} (T : Tx K mg) (F : Fn_Lpick K fd) : Fk P w K mg base 2 (a_Lpick K) fd ["_law_pen_here", "_law_some"] (sp_Lpick K) := by
  obtain ⟨fd_Ldraw, F_Ldraw⟩ := T.d_Ldraw
  have G_Ldraw := ok_Ldraw (P := P) (w := w) (base := base) T F_Ldraw
  have b_Ldraw := F_Ldraw.bindsN (ps := ["_law_pen_here", "_law_many"]) fun _ _ _ _ _ _ us hl => match us, hl with | [_, _], _ => rfl
  refine fk_of F sc_Lpick (fun vs H Q E h => len_Lpick h) (fun cdv A outer s H vs Q E hr h => ⟨t_Lpick K, ?_, pure_Lpick T h⟩)
  exact (pss_one (ps_ret (pe_ix ix_seq (pv 1) (pe_fn G_Ldraw (hr.mono (by decide)) rfl T.g_Ldraw F_Ldraw.kp b_Ldraw .nil takes0 (pa_cons (pv 0) (pa_cons (pe_callB c_len rfl T.f_len (by decide +kernel) (pa_cons (pv 1) pa_nil)) pa_nil))) (fun _ _ => rfl))))
theorem ok_Ltags {fd : FuncData} (T : Tx K mg) (F : Fn_Ltags K fd) : Fk P w K mg base 2 (a_Ltags K) fd ["_law_pen_here", "_law_many"] (sp_Ltags K) := by
  obtain ⟨fd_Ldraw, F_Ldraw⟩ := T.d_Ldraw
  have G_Ldraw := ok_Ldraw (P := P) (w := w) (base := base) T F_Ldraw
  have b_Ldraw := F_Ldraw.bindsN (ps := ["_law_pen_here", "_law_many"]) fun _ _ _ _ _ _ us hl => match us, hl with | [_, _], _ => rfl
  refine fk_of F sc_Ltags (fun vs H Q E h => len_Ltags h) (fun cdv A outer s H vs Q E hr h => ⟨t_Ltags K, ?_, pure_Ltags T h⟩)
  exact (pss_cons (ps_set (i := 2) sc_Ltags.nd rfl (by first | exact Or.inl rfl | exact Or.inr rfl) (pe_lst (pa_cons pe_str (pa_cons pe_str (pa_cons pe_str (pa_cons pe_str (pa_cons pe_str (pa_cons pe_str (pa_cons pe_str (pa_cons pe_str (pa_cons pe_str pa_nil))))))))))) (pss_cons (ps_set (i := 2) sc_Ltags.nd rfl (by first | exact Or.inl rfl | exact Or.inr rfl) (pe_op o_add (pv 2) (pe_lst (pa_cons pe_str (pa_cons pe_str (pa_cons pe_str (pa_cons pe_str (pa_cons pe_str (pa_cons pe_str (pa_cons pe_str pa_nil)))))))))) (pss_one (ps_ret (pe_lc (own := [("_law_turn", 3)]) rfl sc_Ltags.nd (pi_range1 rfl T.f_range (pa_cons (pv 1) pa_nil)) (blkOk_by (own := [("_law_turn", 3)]) (N := ["_law_pen_here", "_law_many", "_law_pool", "_law_turn"]) (sc := defScope s_Ltags) (by decide +kernel)) (fun _ _ _ _ _ => (pg_name (i := 3) sc_Ltags.nd rfl (by first | exact Or.inl rfl | exact Or.inr rfl))) (fun _ _ _ _ _ => pts_nil) (fun _ _ _ _ _ => (pe_bm PySem.F.plainAttrs_list PySem.F.slot_list_pop PySem.F.type_list_pop mt_popAt (pv 2) (pa_cons (pe_fn G_Ldraw (hr.mono (by decide)) rfl T.g_Ldraw F_Ldraw.kp b_Ldraw .nil takes0 (pa_cons (pv 0) (pa_cons (pe_callB c_len rfl T.f_len (by decide +kernel) (pa_cons (pv 2) pa_nil)) pa_nil))) pa_nil))))))))
theorem ok_Lmade {fd : FuncData} (T : Tx K mg) (F : Fn_Lmade K fd) (hP : P = PySem.Challenge.pw_strayjoins_k02_legs) : Fk P w K mg base 5 (a_Lmade K) fd ["_law_kind", "_law_tag"] (sp_Lmade K) := by
  obtain ⟨fd_Leg_init, F_Leg_init⟩ := T.d_Leg_init
  have G_Leg_init := ok_Leg_init (P := P) (w := w) (base := base) T F_Leg_init hP
  have b_Leg_init := F_Leg_init.bindsN (ps := ["self", "name"]) fun _ _ _ _ _ _ us hl => match us, hl with | [_, _], _ => rfl
  refine fk_of F sc_Lmade (fun vs H Q E h => len_Lmade h) (fun cdv A outer s H vs Q E hr h => ⟨t_Lmade K, ?_, pure_Lmade T h⟩)
  exact (pss_one (ps_tryAs (i := 2) rfl rfl sc_Lmade.nd rfl rfl rfl T.g_InvalidFrame takes0 (fun W pn xe tk pso => (pss_cons (ps_if (pt_cmpR (o_eq hr.units) (pv 0) pe_str (nomark _)) (pss_one (ps_ret (pe_nwK0 T.mk_Driver G_Leg_init (hr.mono (by decide)) rfl T.g_Driver (kb_Leg_init_1_name F_Leg_init) tk (pk_cons (pv 1) pk_nil)))) pss_nil) (pss_one (ps_ret (pe_ifExp (pt_cmpR (o_eq hr.units) (pv 0) pe_str (nomark _)) (pe_nwK0 T.mk_Listener G_Leg_init (hr.mono (by decide)) rfl T.g_Listener (kb_Leg_init_1_name F_Leg_init) tk (pk_cons (pv 1) pk_nil)) (pe_nwK0 T.mk_Leg G_Leg_init (hr.mono (by decide)) rfl T.g_Leg (kb_Leg_init_1_name F_Leg_init) tk (pk_cons (pv 1) pk_nil))))))) (fun a oe cls d pn hz hf => (pss_one (ps_ret (pe_tup (pa_cons (pe_xf T.x_InvalidFrame.xf (T.x_InvalidFrame.nof _ (by decide)) hz hf (pv 2)) pa_nil)))))))
theorem ok_Ltold_right {fd : FuncData} (T : Tx K mg) (F : Fn_Ltold_right K fd) : Fk P w K mg base 4 (a_Ltold_right K) fd ["_law_kind", "_law_tag", "_law_leg"] (sp_Ltold_right K) := by
  obtain ⟨fd_Leg_repr, F_Leg_repr⟩ := T.d_Leg_repr
  have G_Leg_repr := ok_Leg_repr (P := P) (w := w) (base := base) T F_Leg_repr
  have b_Leg_repr := F_Leg_repr.bindsN (ps := ["self"]) fun _ _ _ _ _ _ us hl => match us, hl with | [_], _ => rfl
  obtain ⟨fd_Leg_str, F_Leg_str⟩ := T.d_Leg_str
  have G_Leg_str := ok_Leg_str (P := P) (w := w) (base := base) T F_Leg_str
  have b_Leg_str := F_Leg_str.bindsN (ps := ["self"]) fun _ _ _ _ _ _ us hl => match us, hl with | [_], _ => rfl
  obtain ⟨fd_Leg_drives, F_Leg_drives⟩ := T.d_Leg_drives
  have G_Leg_drives := ok_Leg_drives (P := P) (w := w) (base := base) T F_Leg_drives
  have b_Leg_drives := F_Leg_drives.bindsN (ps := ["self"]) fun _ _ _ _ _ _ us hl => match us, hl with | [_], _ => rfl
  refine fk_of F sc_Ltold_right (fun vs H Q E h => len_Ltold_right h) (fun cdv A outer s H vs Q E hr h => ⟨t_Ltold_right K, ?_, pure_Ltold_right T h⟩)
  exact (pss_cons (ps_if (PW.pt (pw_or (pt_cmpR (o_ne hr.units) (pe_fld (pv 2) rfl) (pv 1) (nomark _)) (pw_or (pt_cmpR (o_ne hr.units) (pe_con (pv 2) rfl) (pv 0) (nomark _)) (pw_or1 (pt_cmpR (o_ne hr.units) (pe_callB (c_repr hr) rfl T.f_repr (by decide +kernel) (pa_cons (pe_pr (pv 2) G_Leg_drives (hr.mono (by decide)) b_Leg_drives rfl) pa_nil)) (pe_callB (c_repr hr) rfl T.f_repr (by decide +kernel) (pa_cons (pe_cmpR (o_eq hr.units) (pv 0) pe_str (nomark _)) pa_nil)) (nomark _)))))) (pss_one (ps_ret pe_bl)) pss_nil) (pss_cons (ps_set (i := 3) sc_Ltold_right.nd rfl (by first | exact Or.inl rfl | exact Or.inr rfl) (pe_dget hr.hu (pe_disp (pps_cons pe_str pe_str (pps_cons pe_str pe_str (pps_cons pe_str pe_str pps_nil))) (by rfl) (by rfl) (fun z => by cases z) (by decide)) (pv 0) (fun _ _ => rfl))) (pss_cons (ps_if (PW.pt (pw_or (pt_cmpR (o_ne hr.units) (pe_callTy (c_strOwn G_Leg_str (hr.mono (by decide)) T.fn_Leg_str b_Leg_str) rfl T.f_str (by decide +kernel) (pa_cons (pv 2) pa_nil)) (pe_op o_add (pe_op o_add (pv 0) pe_str) (pv 1)) (nomark _)) (pw_or1 (pt_cmpR (o_ne hr.units) (pe_callB (c_reprOwn G_Leg_repr (hr.mono (by decide)) T.fn_Leg_repr b_Leg_repr) rfl T.f_repr (by decide +kernel) (pa_cons (pv 2) pa_nil)) (pe_op o_add (pe_op o_add (pe_op o_add (pv 3) pe_str) (pv 1)) pe_str) (nomark _))))) (pss_one (ps_ret pe_bl)) pss_nil) (pss_cons (ps_set (i := 4) sc_Ltold_right.nd rfl (by first | exact Or.inl rfl | exact Or.inr rfl) (pe_lst (pa_cons (pe_callB c_isi rfl T.f_isinstance (by decide +kernel) (pa_cons (pv 2) (pa_cons (pe_glob rfl T.g_Leg rfl) pa_nil))) (pa_cons (pe_callB c_isi rfl T.f_isinstance (by decide +kernel) (pa_cons (pv 2) (pa_cons (pe_glob rfl T.g_Driver rfl) pa_nil))) (pa_cons (pe_callB c_isi rfl T.f_isinstance (by decide +kernel) (pa_cons (pv 2) (pa_cons (pe_glob rfl T.g_Listener rfl) pa_nil))) pa_nil))))) (pss_one (ps_ret (pe_cmpR (o_eq hr.units) (pv 4) (pe_lst (pa_cons pe_bl (pa_cons (pe_cmpR (o_eq hr.units) (pv 0) pe_str (nomark _)) (pa_cons (pe_cmpR (o_eq hr.units) (pv 0) pe_str (nomark _)) pa_nil)))) (nomark _))))))))
theorem ok_law {fd : FuncData} (T : Tx K mg) (F : Fn_law K fd) (hP : P = PySem.Challenge.pw_strayjoins_k02_legs) : Fk P w K mg base 6 (a_law K) fd ["_law_script"] (sp_law K) := by
  obtain ⟨fd_Leg_init, F_Leg_init⟩ := T.d_Leg_init
  have G_Leg_init := ok_Leg_init (P := P) (w := w) (base := base) T F_Leg_init hP
  have b_Leg_init := F_Leg_init.bindsN (ps := ["self", "name"]) fun _ _ _ _ _ _ us hl => match us, hl with | [_, _], _ => rfl
  obtain ⟨fd_Leg_eq, F_Leg_eq⟩ := T.d_Leg_eq
  have G_Leg_eq := ok_Leg_eq (P := P) (w := w) (base := base) T F_Leg_eq
  have b_Leg_eq := F_Leg_eq.bindsN (ps := ["self", "other"]) fun _ _ _ _ _ _ us hl => match us, hl with | [_, _], _ => rfl
  obtain ⟨fd_Leg_str, F_Leg_str⟩ := T.d_Leg_str
  have G_Leg_str := ok_Leg_str (P := P) (w := w) (base := base) T F_Leg_str
  have b_Leg_str := F_Leg_str.bindsN (ps := ["self"]) fun _ _ _ _ _ _ us hl => match us, hl with | [_], _ => rfl
  obtain ⟨fd_Lmade, F_Lmade⟩ := T.d_Lmade
  have G_Lmade := ok_Lmade (P := P) (w := w) (base := base) T F_Lmade hP
  have b_Lmade := F_Lmade.bindsN (ps := ["_law_kind", "_law_tag"]) fun _ _ _ _ _ _ us hl => match us, hl with | [_, _], _ => rfl
  obtain ⟨fd_Lpick, F_Lpick⟩ := T.d_Lpick
  have G_Lpick := ok_Lpick (P := P) (w := w) (base := base) T F_Lpick
  have b_Lpick := F_Lpick.bindsN (ps := ["_law_pen_here", "_law_some"]) fun _ _ _ _ _ _ us hl => match us, hl with | [_, _], _ => rfl
  obtain ⟨fd_Ltold_right, F_Ltold_right⟩ := T.d_Ltold_right
  have G_Ltold_right := ok_Ltold_right (P := P) (w := w) (base := base) T F_Ltold_right
  have b_Ltold_right := F_Ltold_right.bindsN (ps := ["_law_kind", "_law_tag", "_law_leg"]) fun _ _ _ _ _ _ us hl => match us, hl with | [_, _, _], _ => rfl
  obtain ⟨fd_Ltags, F_Ltags⟩ := T.d_Ltags
  have G_Ltags := ok_Ltags (P := P) (w := w) (base := base) T F_Ltags
  have b_Ltags := F_Ltags.bindsN (ps := ["_law_pen_here", "_law_many"]) fun _ _ _ _ _ _ us hl => match us, hl with | [_, _], _ => rfl
  obtain ⟨fd_Lpen, F_Lpen⟩ := T.d_Lpen
  have G_Lpen := ok_Lpen (P := P) (w := w) (base := base) T F_Lpen
  have b_Lpen := F_Lpen.bindsN (ps := ["_law_script"]) fun _ _ _ _ _ _ us hl => match us, hl with | [_], _ => rfl
  refine fk_of F sc_law (fun vs H Q E h => len_law h) (fun cdv A outer s H vs Q E hr h => ⟨t_law K, ?_, pure_law T h⟩)
  exact (pss_cons (ps_set (i := 1) sc_law.nd rfl (by first | exact Or.inl rfl | exact Or.inr rfl) (pe_fn G_Lpen (hr.mono (by decide)) rfl T.g_Lpen F_Lpen.kp b_Lpen .nil takes0 (pa_cons (pv 0) pa_nil))) (pss_cons (ps_par (i := 2) (j := 3) rfl sc_law.nd rfl rfl (by decide) rfl rfl (pa_cons (pe_lst (pa_cons pe_str (pa_cons pe_str (pa_cons pe_str pa_nil)))) (pa_cons (pe_lst pa_nil) pa_nil)) (by rfl)) (pss_cons (ps_for (passes_of rfl) rfl (pi_range1 rfl T.f_range (pa_cons pe_int pa_nil)) (pg_name (i := 4) sc_law.nd rfl (by first | exact Or.inl rfl | exact Or.inr rfl)) (pss_cons (ps_par (i := 5) (j := 6) rfl sc_law.nd rfl rfl (by decide) rfl rfl (pa_cons (pe_fn G_Lpick (hr.mono (by decide)) rfl T.g_Lpick F_Lpick.kp b_Lpick .nil takes0 (pa_cons (pv 1) (pa_cons (pv 2) pa_nil))) (pa_cons (pe_ix ix_seq (pe_fn G_Ltags (hr.mono (by decide)) rfl T.g_Ltags F_Ltags.kp b_Ltags .nil takes0 (pa_cons (pv 1) (pa_cons pe_int pa_nil))) pe_int (fun _ _ => rfl)) pa_nil)) (by rfl)) (pss_cons (ps_set (i := 7) sc_law.nd rfl (by first | exact Or.inl rfl | exact Or.inr rfl) (pe_fn G_Lmade (hr.mono (by decide)) rfl T.g_Lmade F_Lmade.kp b_Lmade .nil takes0 (pa_cons (pv 5) (pa_cons (pv 6) pa_nil)))) (pss_cons (ps_if (PW.pt (pw_or (pt_not (pt_val (pe_callB c_isi rfl T.f_isinstance (by decide +kernel) (pa_cons (pv 7) (pa_cons (pe_glob rfl T.g_Leg rfl) pa_nil))))) (pw_or1 (pt_not (pt_val (pe_fn G_Ltold_right (hr.mono (by decide)) rfl T.g_Ltold_right F_Ltold_right.kp b_Ltold_right .nil takes0 (pa_cons (pv 5) (pa_cons (pv 6) (pa_cons (pv 7) pa_nil))))))))) (pss_one (ps_ret pe_bl)) pss_nil) (pss_cons (ps_expr (pe_bm PySem.F.plainAttrs_list PySem.F.slot_list_append PySem.F.type_list_append mt_append (pv 3) (pa_cons (pe_tup (pa_cons (pv 5) (pa_cons (pv 6) (pa_cons (pv 7) pa_nil)))) pa_nil))) (pss_cons (ps_set (i := 8) sc_law.nd rfl (by first | exact Or.inl rfl | exact Or.inr rfl) (pe_lst (pa_cons pe_str (pa_cons pe_str (pa_cons pe_str (pa_cons pe_str (pa_cons pe_str (pa_cons pe_str (pa_cons pe_str (pa_cons pe_non (pa_cons pe_int (pa_cons pe_bl pa_nil)))))))))))) (pss_cons (ps_set (i := 9) sc_law.nd rfl (by first | exact Or.inl rfl | exact Or.inr rfl) (pe_fn G_Lpick (hr.mono (by decide)) rfl T.g_Lpick F_Lpick.kp b_Lpick .nil takes0 (pa_cons (pv 1) (pa_cons (pe_op o_add (pv 8) (pe_lst (pa_cons (pe_tup (pa_cons pe_str pa_nil)) (pa_cons (pe_lst pa_nil) (pa_cons pe_dnewK pa_nil))))) pa_nil)))) (pss_one (ps_if (pt_cmpR (o_ne hr.units) (pe_lc (own := [("_law_one", 10)]) rfl sc_law.nd (pi_list (pv 2)) (blkOk_by (own := [("_law_one", 10)]) (N := ["_law_script", "_law_pen_here", "_law_kinds_so", "_law_rows", "_law_turn", "_law_kind", "_law_tag", "_law_leg", "_law_some", "_law_odd", "_law_one", "_law_sort", "_law_label", "_law_other", "_law_is_alike"]) (sc := defScope s_law) (by decide +kernel)) (fun _ _ _ _ _ => (pg_name (i := 10) sc_law.nd rfl (by first | exact Or.inl rfl | exact Or.inr rfl))) (fun _ _ _ _ _ => pts_nil) (fun _ _ _ _ _ => (pe_fn G_Lmade (hr.mono (by decide)) rfl T.g_Lmade F_Lmade.kp b_Lmade .nil takes0 (pa_cons (pv 10) (pa_cons (pv 9) pa_nil))))) (pe_op o_mul (pe_lst (pa_cons (pe_tup (pa_cons pe_str pa_nil)) pa_nil)) pe_int) (nomark _)) (pss_one (ps_ret pe_bl)) pss_nil))))))))) (pss_cons (ps_for (passes_of rfl) rfl (pi_list (pv 3)) (pg_tup rfl (pgs_cons (pg_name (i := 5) sc_law.nd rfl (by first | exact Or.inl rfl | exact Or.inr rfl)) (pgs_cons (pg_name (i := 6) sc_law.nd rfl (by first | exact Or.inl rfl | exact Or.inr rfl)) (pgs_cons (pg_name (i := 7) sc_law.nd rfl (by first | exact Or.inl rfl | exact Or.inr rfl)) pgs_nil)))) (pss_cons (ps_for (passes_of rfl) rfl (pi_list (pv 3)) (pg_tup rfl (pgs_cons (pg_name (i := 11) sc_law.nd rfl (by first | exact Or.inl rfl | exact Or.inr rfl)) (pgs_cons (pg_name (i := 12) sc_law.nd rfl (by first | exact Or.inl rfl | exact Or.inr rfl)) (pgs_cons (pg_name (i := 13) sc_law.nd rfl (by first | exact Or.inl rfl | exact Or.inr rfl)) pgs_nil)))) (pss_cons (ps_set (i := 14) sc_law.nd rfl (by first | exact Or.inl rfl | exact Or.inr rfl) (pe_and (pe_cmpR (o_eq hr.units) (pv 5) (pv 11) (nomark _)) (pe_one (pe_cmpR (o_eq hr.units) (pv 6) (pv 12) (nomark _))))) (pss_one (ps_if (pt_cmpR (o_ne hr.units) (pe_callB (c_repr hr) rfl T.f_repr (by decide +kernel) (pa_cons (pe_lst (pa_cons (pe_cmpR (o_ownEq G_Leg_eq (hr.mono (by decide)) T.fn_Leg_eq b_Leg_eq) (pv 7) (pv 13) (nomark _)) (pa_cons (pe_cmpR (o_ownNe G_Leg_eq (hr.mono (by decide)) T.fn_Leg_eq b_Leg_eq) (pv 7) (pv 13) (nomark _)) pa_nil))) pa_nil)) (pe_callB (c_repr hr) rfl T.f_repr (by decide +kernel) (pa_cons (pe_lst (pa_cons (pv 14) (pa_cons (pe_not (pv 14)) pa_nil))) pa_nil)) (nomark _)) (pss_one (ps_ret pe_bl)) pss_nil)))) (pss_one (ps_if (pt_cmpR (o_ne hr.units) (pe_lc (own := [("_law_one", 10)]) rfl sc_law.nd (pi_tup (pe_tup (pa_cons (pv 6) (pa_cons (pv 5) (pa_cons pe_non (pa_cons (pe_callTy (c_strOwn G_Leg_str (hr.mono (by decide)) T.fn_Leg_str b_Leg_str) rfl T.f_str (by decide +kernel) (pa_cons (pv 7) pa_nil)) (pa_cons (pe_tup (pa_cons (pv 7) pa_nil)) pa_nil))))))) (blkOk_by (own := [("_law_one", 10)]) (N := ["_law_script", "_law_pen_here", "_law_kinds_so", "_law_rows", "_law_turn", "_law_kind", "_law_tag", "_law_leg", "_law_some", "_law_odd", "_law_one", "_law_sort", "_law_label", "_law_other", "_law_is_alike"]) (sc := defScope s_law) (by decide +kernel)) (fun _ _ _ _ _ => (pg_name (i := 10) sc_law.nd rfl (by first | exact Or.inl rfl | exact Or.inr rfl))) (fun _ _ _ _ _ => (pts_one (pt_cmpR (o_ownEq G_Leg_eq (hr.mono (by decide)) T.fn_Leg_eq b_Leg_eq) (pv 7) (pv 10) (nomark _)))) (fun _ _ _ _ _ => (pv 10))) (pe_lst pa_nil) (nomark _)) (pss_one (ps_ret pe_bl)) pss_nil)))) (pss_cons (ps_if (PW.pt (pw_or (pt_cmpR (o_ownNe G_Leg_eq (hr.mono (by decide)) T.fn_Leg_eq b_Leg_eq) (pe_nw T.mk_Driver G_Leg_init (hr.mono (by decide)) rfl T.g_Driver b_Leg_init .nil takes0 (pa_cons pe_str pa_nil)) (pe_nwK0 T.mk_Driver G_Leg_init (hr.mono (by decide)) rfl T.g_Driver (kb_Leg_init_1_name F_Leg_init) takes0 (pk_cons pe_str pk_nil)) (nomark _)) (pw_or1 (pt_cmpR (o_ownNe G_Leg_eq (hr.mono (by decide)) T.fn_Leg_eq b_Leg_eq) (pe_nw T.mk_Listener G_Leg_init (hr.mono (by decide)) rfl T.g_Listener b_Leg_init .nil takes0 (pa_cons pe_str pa_nil)) (pe_nwK0 T.mk_Listener G_Leg_init (hr.mono (by decide)) rfl T.g_Listener (kb_Leg_init_1_name F_Leg_init) takes0 (pk_cons pe_str pk_nil)) (nomark _))))) (pss_one (ps_ret pe_bl)) pss_nil) (pss_one (ps_ret (pe_cmpR (o_eq hr.units) (pe_lst (pa_cons (ClX.pe_cval (pe_glob rfl T.g_Leg rfl) rfl) (pa_cons (ClX.pe_cval (pe_glob rfl T.g_Driver rfl) rfl) (pa_cons (ClX.pe_cval (pe_glob rfl T.g_Listener rfl) rfl) pa_nil)))) (pe_lst (pa_cons pe_str (pa_cons pe_str (pa_cons pe_str pa_nil)))) (nomark _)))))))))
end
end K02

namespace K02
open PySem PySem.Spec PyProof.Rows L2 He SJ
def loose0 : List PySem.Str := ["__name__", "JoinError", "InvalidFrame", "LETTERS", "MOST_LETTERS", "GROUND", "POWER", "NOTHING", "is_name", "Leg", "Driver", "Listener", "_law_pen", "_law_draw", "_law_pick", "_law_tags", "_law_made", "_law_told_right"]
def loose : List PySem.Str := loose0
abbrev R : PySem.W.OpenRow := PySem.W.OpenLaw.row PySem.Challenge.rw_strayjoins_k02_legs
abbrev file : Str := PySem.Challenge.pw_strayjoins_k02_legs.main.file
abbrev hk : PySem.W.Hook := hookZ 7 file fa fn fx
def ob (s : PySem.W.SharedT) : AlZ := obsZG 7 file fa fn fx (HandSHeadRun.getT s)
theorem ob_eq (s : PySem.W.SharedT) : ob s = hk.obs s.abs := obsZG_eq (HandSHeadRun.getT_eq s)
theorem run (w : World) : HandSHeadRun.RunEq R (PySem.W.view R.prog [21]) hk ob 6000 loose w := by
  intro os
  kernel_rfl
end K02

open PySem PySem.W PySem.Calls PyProof.Rows in
theorem PySem.Challenge.cw_strayjoins_k02_legs_holds : PySem.Challenge.rw_strayjoins_k02_legs.Holds := by
  w_on; o_law
  refine HandSHeadRun.head_any (r := OpenLaw.row PySem.Challenge.rw_strayjoins_k02_legs) (q := view (OpenLaw.row PySem.Challenge.rw_strayjoins_k02_legs).prog [21]) (H := K02.hk) (ob := K02.ob) (M := 6000) (loose := K02.loose) (d := HandSHeadRun.topDef (OpenLaw.row PySem.Challenge.rw_strayjoins_k02_legs).prog 21) (kwd := []) K02.ob_eq
    (by kernel_rfl) (fun s => by kernel_rfl) K02.run (by kernel_rfl) (by kernel_rfl) (by kernel_rfl) (by rfl) (by first | assumption | decide +kernel) (by decide +kernel) ⟨rfl, rfl, rfl, rfl, rfl, by decide +kernel⟩ ?hw ?hc
  case hw => w_witness2
  case hc =>
    refine SJ.walk_law (l := PySem.Challenge.rw_strayjoins_k02_legs) (n := 63) (k := 6) (x := "_law_script") rfl (by decide) (by kernel_rfl) ⟨⟨rfl, by decide, by decide⟩, rfl⟩ ?F
    intro w mg fa h Y G hmg0
    obtain ⟨K, KX, c⟩ := Y
    have T := K02.tx_of KX G c
    have hmg : mg ("law" : PySem.Str) = some (.ref fa) := by
      have e : (HandSHeadRun.topDef (OpenLaw.row PySem.Challenge.rw_strayjoins_k02_legs).prog 21).name = ("law" : PySem.Str) := by kernel_rfl
      rw [← e]
      exact hmg0
    obtain ⟨fd, F⟩ := T.d_law
    obtain rfl : fa = K02.a_law K := by
      have e := hmg.symm.trans T.g_law
      cases e; rfl
    have b := L2.FunD.bindsA (ps := ["_law_script"]) F fun _ _ _ _ _ _ us hl => match us, hl with | [_], _ => rfl
    exact ⟨K, fd, K02.sp_law K, KX, fun s v => b s [v] rfl, fun H a ns hl hS => ⟨a, ns, rfl, hS, hl, fun _ => rfl⟩, fun base _ _ => K02.ok_law T F rfl⟩
